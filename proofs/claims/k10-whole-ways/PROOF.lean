import PyProof.Rows.All
import Wide.All
import OpenK.AllK
import Wide.FinOn
import HandS.ForMost
import HandS.ForExc
import HandS.Walk
import HandS.IsInst
import HandS.Flow
import HandS.TryMany
import HandS.ExcIs
import HandS.TupAny
import HandS.Zip
import HandS.SortInts
import KE.KTupSum
import KE.KRevSl
import HandS.Conv
import HandS.Style
import KE.GoesEnum
import HandS.NamedTupSort
import HandS.Deep
import HandS.SetFor
import HandS.Strs
import HandS.TupMul
import HandS.Text
import PyProof.FactsAll.tuple_2
import HandS.DictTup
import PySem.Challenge.RW_ranksums_k10_whole_ways
set_option Elab.async false
set_option linter.all false
set_option maxRecDepth 100000
set_option maxHeartbeats 4000000

namespace Rk
open PySem PySem.Spec PyProof.Rows L2
abbrev Dt := PyData
/-! ### the weakest readings -/
def wE (X : Cx) (e : Expr) : TE := fun σ H Q => ∃ t, PE X e t ∧ t σ H Q
def wT (X : Cx) (e : Expr) : TT := fun σ H Q => ∃ t, PT X e t ∧ t σ H Q
def wA (X : Cx) (es : List Expr) : TA := fun σ H Q => ∃ t, PA X es t ∧ t σ H Q
def wS (X : Cx) (st : Stmt) : TS := fun D σ H => ∃ t, PS X st t ∧ t D σ H
def wB (X : Cx) (ss : List Stmt) : TS := fun D σ H => ∃ t, PSs X ss t ∧ t D σ H
def wI (X : Cx) (tg it : Expr) : TI := fun σ H R => ∃ t, PI X tg it t ∧ t σ H R
def wG (X : Cx) (tg : Expr) : TG := fun v σ H Q => ∃ t, PG X tg t ∧ t v σ H Q
theorem uE {X : Cx} {e : Expr} : PE X e (wE X e) := ⟨fun pins s σ H Q I ⟨_, p, h⟩ => p.run pins s σ H Q I h⟩
theorem uT {X : Cx} {e : Expr} : PT X e (wT X e) := ⟨fun pins s σ H Q I ⟨_, p, h⟩ => p.run pins s σ H Q I h⟩
theorem uA {X : Cx} {es : List Expr} : PA X es (wA X es) := ⟨fun pos pins s σ H Q I ⟨_, p, h⟩ => p.run pos pins s σ H Q I h⟩
theorem uS {X : Cx} {st : Stmt} : PS X st (wS X st) := ⟨fun pins s σ H Q I ⟨_, p, h⟩ => p.run pins s σ H Q I h⟩
theorem uB {X : Cx} {ss : List Stmt} : PSs X ss (wB X ss) := ⟨fun pins s σ H Q I ⟨_, p, h⟩ => p.run pins s σ H Q I h⟩
theorem uI {X : Cx} {tg it : Expr} : PI X tg it (wI X tg it) := ⟨fun pins s σ H Q I ⟨_, p, h⟩ => p.run pins s σ H Q I h⟩
theorem uG {X : Cx} {tg : Expr} : PG X tg (wG X tg) := ⟨fun pins s σ H v u Q I r ⟨_, p, h⟩ => p.run pins s σ H v u Q I r h⟩
/-! ### data in the heap -/
def scrD (ns : List Int) : PyData := .dict (ns.map fun n => (.int n, .none))
theorem scrD_inj {a b : List Int} (h : scrD a = scrD b) : a = b := by
  have h1 := PyData.dict.inj h
  have h2 : (a.map fun n => ((PyData.int n, PyData.none) : PyData × PyData)).map (fun p => match p.1 with | .int n => n | _ => 0) = (b.map fun n => ((PyData.int n, PyData.none) : PyData × PyData)).map (fun p => match p.1 with | .int n => n | _ => 0) := by rw [h1]
  simpa [List.map_map, Function.comp_def] using h2
mutual
inductive Dq (K : PySem.W.Frag) (H : Hp) : V → PyData → Prop
  | non : Dq K H .non .none
  | bl (b : Bool) : Dq K H (.bl b) (.bool b)
  | int (i : Int) : Dq K H (.int i) (.int i)
  | str (x : Str) : Dq K H (.str x) (.str x)
  | lst {a : Addr} {xs : List V} {ds : List PyData} : H a = some (.lst xs) → DqAll K H xs ds → Dq K H (.ref a) (.list ds)
  | tup {a : Addr} {xs : List V} {ds : List PyData} : H a = some (.tup xs) → DqAll K H xs ds → Dq K H (.ref a) (.tuple ds)
  | scr {a : Addr} {ns : List Int} {ps : List (PyData × PyData)} : SqL K H a (ns.map V.int) → PyData.dict ps = scrD ns → Dq K H (.ref a) (.dict ps)
inductive DqAll (K : PySem.W.Frag) (H : Hp) : List V → List PyData → Prop
  | nil : DqAll K H [] []
  | cons {v : V} {vs : List V} {d : PyData} {ds : List PyData} : Dq K H v d → DqAll K H vs ds → DqAll K H (v :: vs) (d :: ds)
end
section
variable {K : PySem.W.Frag} {H H' H0 H0' Hf Hb : Hp}
theorem Same.refl' (H : Hp) : Same H H := fun _ _ h => h
theorem same_new {p : Addr} {o : HO} (h : H p = none) : Same H (upd H p o) := fun b x e => by
  rw [upd_ne (ne_of_none e h)]; exact e
mutual
theorem Dq.mono (e : Same H H') : ∀ {v : V} {d : PyData}, Dq K H v d → Dq K H' v d
  | _, _, .non => .non
  | _, _, .bl b => .bl b
  | _, _, .int i => .int i
  | _, _, .str x => .str x
  | _, _, .lst h a => .lst (e _ _ h) (DqAll.mono e a)
  | _, _, .tup h a => .tup (e _ _ h) (DqAll.mono e a)
  | _, _, .scr h q => .scr (e.seq h) q
theorem DqAll.mono (e : Same H H') : ∀ {vs : List V} {ds : List PyData}, DqAll K H vs ds → DqAll K H' vs ds
  | _, _, .nil => .nil
  | _, _, .cons h a => .cons (Dq.mono e h) (DqAll.mono e a)
end
theorem DqAll.length : ∀ {vs : List V} {ds : List PyData}, DqAll K H vs ds → vs.length = ds.length
  | _, _, .nil => rfl
  | _, _, .cons _ a => by simp [DqAll.length a]
theorem DqAll.get : ∀ {vs : List V} {ds : List PyData} {i : Nat} {d : PyData}, DqAll K H vs ds → ds[i]? = some d → ∃ v, vs[i]? = some v ∧ Dq K H v d
  | _, _, i, d, .nil, h => by simp at h
  | _, _, 0, d, .cons h _, e => by simp at e; subst e; exact ⟨_, rfl, h⟩
  | _, _, i + 1, d, .cons _ a, e => by
    obtain ⟨v, h1, h2⟩ := DqAll.get (i := i) (d := d) a (by simpa using e)
    exact ⟨v, by simpa using h1, h2⟩
theorem DqAll.append : ∀ {vs ws : List V} {ds es : List PyData}, DqAll K H vs ds → DqAll K H ws es → DqAll K H (vs ++ ws) (ds ++ es)
  | _, _, _, _, .nil, b => b
  | _, _, _, _, .cons h a, b => .cons h (DqAll.append a b)
theorem DqAll.drop : ∀ {vs : List V} {ds : List PyData} (n : Nat), DqAll K H vs ds → DqAll K H (vs.drop n) (ds.drop n)
  | _, _, 0, h => h
  | _, _, _ + 1, .nil => .nil
  | _, _, n + 1, .cons _ a => DqAll.drop n a
theorem DqAll.take : ∀ {vs : List V} {ds : List PyData} (n : Nat), DqAll K H vs ds → DqAll K H (vs.take n) (ds.take n)
  | _, _, 0, _ => .nil
  | _, _, _ + 1, .nil => .nil
  | _, _, n + 1, .cons h a => .cons h (DqAll.take n a)
theorem DqAll.set {v : V} {d : PyData} (r : Dq K H v d) : ∀ {vs : List V} {ds : List PyData} (n : Nat), DqAll K H vs ds → DqAll K H (vs.set n v) (ds.set n d)
  | _, _, _, .nil => .nil
  | _, _, 0, .cons _ a => .cons r a
  | _, _, n + 1, .cons h a => .cons h (DqAll.set r n a)
theorem DqAll.eraseIdx : ∀ {vs : List V} {ds : List PyData} (n : Nat), DqAll K H vs ds → DqAll K H (vs.eraseIdx n) (ds.eraseIdx n)
  | _, _, _, .nil => .nil
  | _, _, 0, .cons _ a => a
  | _, _, n + 1, .cons h a => .cons h (DqAll.eraseIdx n a)
theorem DqAll.revAux : ∀ {vs ws : List V} {ds es : List PyData}, DqAll K H vs ds → DqAll K H ws es → DqAll K H (vs.reverseAux ws) (ds.reverseAux es)
  | _, _, _, _, .nil, b => b
  | _, _, _, _, .cons h a, b => by
    have q := DqAll.revAux a (.cons h b)
    exact q
theorem DqAll.reverse {vs : List V} {ds : List PyData} (h : DqAll K H vs ds) : DqAll K H vs.reverse ds.reverse := DqAll.revAux h .nil
theorem DqAll.flat : ∀ {vs : List V} {ds : List PyData} (k : Nat), DqAll K H vs ds → DqAll K H (List.replicate k vs).flatten (List.replicate k ds).flatten
  | _, _, 0, _ => .nil
  | _, _, k + 1, h => by
    rw [List.replicate_succ, List.replicate_succ, List.flatten_cons, List.flatten_cons]
    exact h.append (DqAll.flat k h)
theorem dq_int {v : V} {i : Int} (h : Dq K H v (.int i)) : v = .int i := by cases h; rfl
theorem dq_bl {v : V} {b : Bool} (h : Dq K H v (.bool b)) : v = .bl b := by cases h; rfl
theorem dq_str {v : V} {x : Str} (h : Dq K H v (.str x)) : v = .str x := by cases h; rfl
theorem dq_non {v : V} (h : Dq K H v .none) : v = .non := by cases h; rfl
theorem dq_lst {v : V} {ds : List PyData} (h : Dq K H v (.list ds)) : ∃ a vs, v = .ref a ∧ H a = some (.lst vs) ∧ DqAll K H vs ds := by
  cases h with
  | lst h a => exact ⟨_, _, rfl, h, a⟩
theorem dq_tup {v : V} {ds : List PyData} (h : Dq K H v (.tuple ds)) : ∃ a vs, v = .ref a ∧ H a = some (.tup vs) ∧ DqAll K H vs ds := by
  cases h with
  | tup h a => exact ⟨_, _, rfl, h, a⟩
theorem dq_scr {v : V} {ns : List Int} (h : Dq K H v (scrD ns)) : ∃ a, v = .ref a ∧ SqL K H a (ns.map V.int) := by
  unfold scrD at h
  cases h with
  | scr h q =>
    have e := scrD_inj (show scrD _ = scrD _ from q)
    subst e
    exact ⟨_, rfl, h⟩
theorem dqa_ints : ∀ {vs : List V} {ns : List Int}, DqAll K H vs (ns.map PyData.int) → vs = ns.map V.int
  | [], [], _ => rfl
  | _, n :: ns, h => by
    cases h with
    | cons h a => rw [dq_int h, dqa_ints a]; rfl
  | _ :: _, [], h => by cases h
theorem ints_dqa : ∀ (ns : List Int), DqAll K H (ns.map V.int) (ns.map PyData.int)
  | [] => .nil
  | n :: ns => .cons (.int n) (ints_dqa ns)
mutual
theorem Dq.dp : ∀ {v : V} {d : PyData}, Dq K H v d → d.canLay0 = true → Dp K H v d
  | _, _, .non, _ => .non
  | _, _, .bl b, _ => .bl b
  | _, _, .int i, _ => .int i
  | _, _, .str x, _ => .str x
  | _, _, .lst h a, c => .lst (SqL.of h) (DqAll.dp a (by simpa [PyData.canLay0] using c))
  | _, _, .tup h a, c => .tup (SqT.of h) (DqAll.dp a (by simpa [PyData.canLay0] using c))
  | _, _, .scr _ _, c => by simp [PyData.canLay0] at c
theorem DqAll.dp : ∀ {vs : List V} {ds : List PyData}, DqAll K H vs ds → PyData.canLayAll0 ds = true → DpAll K H vs ds
  | _, _, .nil, _ => .nil
  | _, _, .cons h a, c => by
    rw [PyData.canLayAll0, Bool.and_eq_true] at c
    exact .cons (Dq.dp h c.1) (DqAll.dp a c.2)
end
/-! ### growth: Hf, Hb the frozen part and the heap ahead; H0, H behind -/
structure Gr (Hf Hb H0 H : Hp) : Prop where
  f : Same Hf H0
  b : Same Hb H
  i : Same H0 H
  n : ∀ a o u, Hb a = some o → H0 a = some u → (∃ vs, u = .tup vs) ∨ Hf a = some u
theorem Gr.refl (h : Same H0 H) : Gr H0 H H0 H := ⟨Same.refl' _, Same.refl' _, h, fun _ _ _ _ h => .inr h⟩
theorem Gr.trans (x : Gr Hf Hb H0 H) (y : Gr H0 H H0' H') : Gr Hf Hb H0' H' :=
  ⟨x.f.trans y.f, x.b.trans y.b, y.i, fun a o u h1 h2 => (y.n a o u (x.b _ _ h1) h2).elim .inl fun h => x.n a o u h1 h⟩
theorem Gr.new {p : Addr} {o : HO} (h : Same H0 H) (hp : H p = none) : Gr H0 H (upd H0 p o) (upd H p o) where
  f := same_new (h.free hp)
  b := same_new hp
  i := fun a u e => by
    by_cases q : a = p
    · subst q; rw [upd_same] at e ⊢; exact e
    · rw [upd_ne q] at e ⊢; exact h _ _ e
  n := fun a u w h1 h2 => by
    rw [upd_ne (ne_of_none h1 hp)] at h2; exact .inr h2
theorem Gr.own {p : Addr} {o : HO} (h : Same H0 H) (hp : H p = none) : Gr H0 H H0 (upd H p o) :=
  ⟨Same.refl' _, same_new hp, h.trans (same_new hp), fun _ _ _ _ h => .inr h⟩
theorem Gr.lst {p : Addr} {vs : List V} (g : Gr Hf Hb H0 H) (hp : Hb p = some (.lst vs)) (h0 : Hf p = none) : H0 p = none := by
  cases q : H0 p with
  | none => rfl
  | some u =>
    rcases g.n p _ u hp q with ⟨ws, e⟩ | e
    · have z1 := g.i _ _ q
      rw [g.b _ _ hp] at z1
      cases z1
      cases e
    · rw [e] at h0; cases h0
/-- a tuple frozen -/
theorem Gr.tup {p : Addr} {vs : List V} (h : Same H0 H) (hp : H p = some (.tup vs)) : Gr H0 H (upd H0 p (.tup vs)) H where
  f := fun a u e => by
    by_cases q : a = p
    · subst q; have := h _ _ e; rw [hp] at this; cases this; exact upd_same
    · rw [upd_ne q]; exact e
  b := Same.refl' _
  i := fun a u e => by
    by_cases q : a = p
    · subst q; rw [upd_same] at e; cases e; exact hp
    · rw [upd_ne q] at e; exact h _ _ e
  n := fun a o u h1 h2 => by
    by_cases q : a = p
    · subst q; rw [upd_same] at h2; cases h2; exact .inl ⟨_, rfl⟩
    · rw [upd_ne q] at h2; exact .inr h2
end
/-! ### slots -/
/-- what is known of an object in a slot: by the frozen heap and its own addresses -/
structure Gs where
  φ : PySem.W.Frag → Hp → Hp → Hp → V → Prop
  fp : List Addr
  gro : ∀ {K : PySem.W.Frag} {Hb H0 H H0' H' : Hp} {v : V}, Gr H0 H H0' H' → φ K Hb H0 H v → φ K Hb H0' H' v
  oth : ∀ {K : PySem.W.Frag} {Hb H0 H : Hp} {v : V} {a : Addr} {o : HO}, a ∉ fp → φ K Hb H0 H v → φ K Hb H0 (upd H a o) v
  frz : ∀ {K : PySem.W.Frag} {Hb H0 H : Hp} {v : V} {r : Addr} {o : HO}, r ∉ fp → H0 r = none → φ K Hb H0 H v → φ K Hb (upd H0 r o) H v
  nl : ∀ {K : PySem.W.Frag} {Hb H0 H : Hp} {v : V}, φ K Hb H0 H v → ∀ a ∈ fp, ∃ o, H a = some o ∧ ∀ vs, o ≠ .lst vs
inductive Sl where
  | no | v (d : PyData) | o (xs : List PyData) | r (x : V) | g (G : Gs)
def SlR (K : PySem.W.Frag) (Hb H0 H : Hp) : Sl → Option V → Prop
  | .no, _ => True
  | .v d, x => ∃ v, x = some v ∧ Dq K H0 v d
  | .o xs, x => ∃ p vs, x = some (.ref p) ∧ Hb p = none ∧ H0 p = none ∧ H p = some (.lst vs) ∧ DqAll K H0 vs xs
  | .r v, x => x = some v
  | .g G, x => ∃ v, x = some v ∧ G.φ K Hb H0 H v
theorem Gs.out {G : Gs} {K : PySem.W.Frag} {Hb H0 H : Hp} {v : V} {p : Addr} {vs : List V} (h : G.φ K Hb H0 H v) (hp : H p = some (.lst vs)) : p ∉ G.fp := fun m => by
  obtain ⟨o, e, n⟩ := G.nl h p m
  rw [hp] at e; cases e
  exact n vs rfl
structure Ok (K : PySem.W.Frag) (Hf Hb : Hp) (env : List Sl) (σ : L2.St) (H0 H : Hp) : Prop where
  gr : Gr Hf Hb H0 H
  len : env.length = σ.length
  sl : ∀ (i : Nat) (s : Sl), env[i]? = some s → ∃ x, σ[i]? = some x ∧ SlR K Hb H0 H s x
  ne : ∀ (i j : Nat) (xs ys : List PyData) (p : Addr), i ≠ j → env[i]? = some (.o xs) → env[j]? = some (.o ys) → σ[i]? = some (some (.ref p)) → σ[j]? = some (some (.ref p)) → False
section
variable {K : PySem.W.Frag} {H H' H0 H0' Hf Hb : Hp} {env env' : List Sl} {σ : L2.St}
theorem Ok.gro (k : Ok K Hf Hb env σ H0 H) (g : Gr H0 H H0' H') : Ok K Hf Hb env σ H0' H' := by
  refine ⟨k.gr.trans g, k.len, fun i s e => ?_, k.ne⟩
  obtain ⟨x, h1, h2⟩ := k.sl i s e
  refine ⟨x, h1, ?_⟩
  cases s with
  | no => trivial
  | v d => obtain ⟨v, e, h⟩ := h2; exact ⟨v, e, h.mono g.f⟩
  | r v => exact h2
  | g G => obtain ⟨v, e, h⟩ := h2; exact ⟨v, e, G.gro g h⟩
  | o xs =>
    obtain ⟨p, vs, e, hb, h0, hp, ha⟩ := h2
    exact ⟨p, vs, e, hb, g.lst hp h0, g.b _ _ hp, ha.mono g.f⟩
theorem Ok.setv (k : Ok K Hf Hb env σ H0 H) {i : Nat} {v : V} {d : PyData} (h : Dq K H0 v d) : Ok K Hf Hb (env.set i (.v d)) (σ.set i (some v)) H0 H := by
  refine ⟨k.gr, by simp [k.len], fun j s e => ?_, fun j l xs ys p ne e1 e2 e3 e4 => ?_⟩
  · by_cases q : i = j
    · subst q
      by_cases l : i < env.length
      · rw [List.getElem?_set_self l] at e
        cases e
        exact ⟨some v, by rw [List.getElem?_set_self (by rw [← k.len]; exact l)], v, rfl, h⟩
      · rw [List.getElem?_eq_none (by simpa using l)] at e; cases e
    · rw [List.getElem?_set_ne q] at e ⊢
      exact k.sl j s e
  · have nj : i ≠ j := fun q => by
      subst q
      by_cases l : i < env.length
      · rw [List.getElem?_set_self l] at e1; cases e1
      · rw [List.getElem?_eq_none (by simpa using l)] at e1; cases e1
    have nl : i ≠ l := fun q => by
      subst q
      by_cases l : i < env.length
      · rw [List.getElem?_set_self l] at e2; cases e2
      · rw [List.getElem?_eq_none (by simpa using l)] at e2; cases e2
    rw [List.getElem?_set_ne nj] at e1 e3
    rw [List.getElem?_set_ne nl] at e2 e4
    exact k.ne j l xs ys p ne e1 e2 e3 e4
theorem Ok.seto (k : Ok K Hf Hb env σ H0 H) {i : Nat} {p : Addr} {vs : List V} {xs : List PyData} (hb : Hb p = none) (h0 : H0 p = none) (hp : H p = some (.lst vs)) (ha : DqAll K H0 vs xs)
    (nw : ∀ (j : Nat) (ys : List PyData), j ≠ i → env[j]? = some (.o ys) → σ[j]? ≠ some (some (.ref p))) : Ok K Hf Hb (env.set i (.o xs)) (σ.set i (some (.ref p))) H0 H := by
  refine ⟨k.gr, by simp [k.len], fun j s e => ?_, fun j l xs ys q ne e1 e2 e3 e4 => ?_⟩
  · by_cases q : i = j
    · subst q
      by_cases l : i < env.length
      · rw [List.getElem?_set_self l] at e
        cases e
        exact ⟨some (.ref p), by rw [List.getElem?_set_self (by rw [← k.len]; exact l)], p, vs, rfl, hb, h0, hp, ha⟩
      · rw [List.getElem?_eq_none (by simpa using l)] at e; cases e
    · rw [List.getElem?_set_ne q] at e ⊢
      exact k.sl j s e
  · by_cases nj : i = j
    · subst nj
      have li : i < σ.length := by
        rw [← k.len]
        by_cases l : i < env.length
        · exact l
        · rw [List.getElem?_eq_none (by simpa using l)] at e1; cases e1
      rw [List.getElem?_set_self li] at e3
      cases e3
      rw [List.getElem?_set_ne ne] at e2 e4
      exact nw l ys (Ne.symm ne) e2 e4
    · rw [List.getElem?_set_ne nj] at e1 e3
      by_cases nl : i = l
      · subst nl
        have li : i < σ.length := by
          rw [← k.len]
          by_cases l : i < env.length
          · exact l
          · rw [List.getElem?_eq_none (by simpa using l)] at e2; cases e2
        rw [List.getElem?_set_self li] at e4
        cases e4
        exact nw j _ (Ne.symm nj) e1 e3
      · rw [List.getElem?_set_ne nl] at e2 e4
        exact k.ne j l _ ys q ne e1 e2 e3 e4
/-- an owned list is written -/
theorem Ok.mut (k : Ok K Hf Hb env σ H0 H) {i : Nat} {xs ys : List PyData} {p : Addr} {ws : List V} (e : env[i]? = some (.o xs)) (hs : σ[i]? = some (some (.ref p))) (ha : DqAll K H0 ws ys) :
    Ok K Hf Hb (env.set i (.o ys)) σ H0 (upd H p (.lst ws)) := by
  obtain ⟨x, h1, p', vs, h2, hb, h0, hp, _⟩ := k.sl i _ e
  rw [hs] at h1; cases h1; cases h2
  have li : i < env.length := by
    by_cases l : i < env.length
    · exact l
    · rw [List.getElem?_eq_none (by simpa using l)] at e; cases e
  have sm : ∀ {G : Hp}, G p = none → Same G H → Same G (upd H p (.lst ws)) := fun {G} g s a u q => by
    rw [upd_ne (ne_of_none q g)]; exact s _ _ q
  refine ⟨⟨k.gr.f, sm hb k.gr.b, sm h0 k.gr.i, k.gr.n⟩, by simp [k.len], fun j s ej => ?_, fun j l zs ys q ne e1 e2 e3 e4 => ?_⟩
  · by_cases q : i = j
    · subst q
      rw [List.getElem?_set_self li] at ej
      cases ej
      exact ⟨_, hs, p, ws, rfl, hb, h0, upd_same, ha⟩
    · rw [List.getElem?_set_ne q] at ej
      obtain ⟨x, h1, h2⟩ := k.sl j s ej
      refine ⟨x, h1, ?_⟩
      cases s with
      | no => trivial
      | v d => exact h2
      | r v => exact h2
      | g G => obtain ⟨v, e', h⟩ := h2; exact ⟨v, e', G.oth (Gs.out h hp) h⟩
      | o zs =>
        obtain ⟨p', vs', e', hb', h0', hp', ha'⟩ := h2
        subst e'
        have npp : p' ≠ p := fun z => by
          subst z
          exact k.ne i j _ _ _ q e ej hs h1
        exact ⟨p', vs', rfl, hb', h0', by rw [upd_ne npp]; exact hp', ha'⟩
  · skip
    by_cases qj : i = j
    · subst qj
      by_cases ql : i = l
      · exact ne ql
      · rw [List.getElem?_set_ne ql] at e2
        exact k.ne i l _ _ q ne e e2 e3 e4
    · rw [List.getElem?_set_ne qj] at e1
      by_cases ql : i = l
      · subst ql; exact k.ne j i _ _ q ne e1 e e3 e4
      · rw [List.getElem?_set_ne ql] at e2
        exact k.ne j l _ _ q ne e1 e2 e3 e4
inductive Wk : List Sl → List Sl → Prop
  | nil : Wk [] []
  | no {s : Sl} {a b : List Sl} : Wk a b → Wk (s :: a) (.no :: b)
  | eq {s : Sl} {a b : List Sl} : Wk a b → Wk (s :: a) (s :: b)
theorem Wk.refl : ∀ (a : List Sl), Wk a a
  | [] => .nil
  | _ :: a => .eq (Wk.refl a)
theorem Wk.len : ∀ {a b : List Sl}, Wk a b → a.length = b.length
  | _, _, .nil => rfl
  | _, _, .no h => by simp [h.len]
  | _, _, .eq h => by simp [h.len]
theorem Wk.get : ∀ {a b : List Sl} {i : Nat} {s : Sl}, Wk a b → b[i]? = some s → s = .no ∧ i < a.length ∨ a[i]? = some s
  | _, _, i, s, .nil, h => by simp at h
  | _, _, 0, s, .no _, h => by simp at h; exact .inl ⟨h.symm, by simp⟩
  | _, _, 0, s, .eq _, h => by simp at h; exact .inr (by simp [h])
  | _, _, i + 1, s, .no w, h => by
    rcases Wk.get (i := i) (s := s) w (by simpa using h) with ⟨q, l⟩ | q
    · exact .inl ⟨q, by simp; omega⟩
    · exact .inr (by simpa using q)
  | _, _, i + 1, s, .eq w, h => by
    rcases Wk.get (i := i) (s := s) w (by simpa using h) with ⟨q, l⟩ | q
    · exact .inl ⟨q, by simp; omega⟩
    · exact .inr (by simpa using q)
theorem Ok.weak (k : Ok K Hf Hb env σ H0 H) (w : Wk env env') : Ok K Hf Hb env' σ H0 H := by
  refine ⟨k.gr, by rw [← w.len]; exact k.len, fun i s e => ?_, fun i j xs ys p ne e1 e2 e3 e4 => ?_⟩
  · rcases w.get e with ⟨q, l⟩ | q
    · subst q
      have l' : i < σ.length := by rw [← k.len]; exact l
      exact ⟨σ[i], List.getElem?_eq_getElem l', trivial⟩
    · exact k.sl i s q
  · rcases w.get e1 with ⟨q, _⟩ | q1
    · cases q
    · rcases w.get e2 with ⟨q, _⟩ | q2
      · cases q
      · exact k.ne i j xs ys p ne q1 q2 e3 e4
/-- the slots cut off by a block -/
theorem Ok.wipe (k : Ok K Hf Hb env σ H0 H) : ∀ (vs : List Nat), Ok K Hf Hb (vs.foldr (fun i e => e.set i .no) env) (L2.wipe σ vs) H0 H
  | [] => k
  | i :: vs => by
    have k1 := Ok.wipe k vs
    show Ok K Hf Hb ((vs.foldr (fun i e => e.set i .no) env).set i .no) ((L2.wipe σ vs).set i none) H0 H
    refine ⟨k1.gr, by simp [k1.len], fun j s e => ?_, fun j l xs ys p ne e1 e2 e3 e4 => ?_⟩
    · by_cases q : i = j
      · subst q
        by_cases l : i < (vs.foldr (fun i e => e.set i .no) env).length
        · rw [List.getElem?_set_self l] at e
          cases e
          exact ⟨none, by rw [List.getElem?_set_self (by rw [← k1.len]; exact l)], trivial⟩
        · rw [List.getElem?_eq_none (by simpa using l)] at e; cases e
      · rw [List.getElem?_set_ne q] at e ⊢
        exact k1.sl j s e
    · have nn : ∀ m us, ((vs.foldr (fun i e => e.set i .no) env).set i .no)[m]? = some (.o us) → i ≠ m := fun m us em q => by
        subst q
        by_cases l : i < (vs.foldr (fun i e => e.set i .no) env).length
        · rw [List.getElem?_set_self l] at em; cases em
        · rw [List.getElem?_eq_none (by simpa using l)] at em; cases em
      have n1 := nn _ _ e1
      have n2 := nn _ _ e2
      rw [List.getElem?_set_ne n1] at e1 e3
      rw [List.getElem?_set_ne n2] at e2 e4
      exact k1.ne j l xs ys p ne e1 e2 e3 e4
end
end Rk

namespace Rk
open PySem PySem.Spec PyProof.Rows L2
/-! ### judgements -/
structure EvV (X : Cx) (env : List Sl) (e : Expr) (d : PyData) : Prop where
  run : ∀ (Hf Hb : Hp) (σ : L2.St) (H0 H : Hp), Ok X.K Hf Hb env σ H0 H → ∀ Q : VK, (∀ v H0' H', Gr H0 H H0' H' → Dq X.K H0' v d → Q v H') → wE X e σ H Q
structure EvB (X : Cx) (env : List Sl) (e : Expr) (xs : List PyData) : Prop where
  run : ∀ (Hf Hb : Hp) (σ : L2.St) (H0 H : Hp), Ok X.K Hf Hb env σ H0 H → ∀ Q : VK, (∀ p vs H0' H', Gr H0 H H0' H' → H' p = some (.lst vs) → DqAll X.K H0' vs xs → Q (.ref p) H') → wE X e σ H Q
structure EvF (X : Cx) (env : List Sl) (e : Expr) (xs : List PyData) : Prop where
  run : ∀ (Hf Hb : Hp) (σ : L2.St) (H0 H : Hp), Ok X.K Hf Hb env σ H0 H → ∀ Q : VK, (∀ p vs H0' H', Gr H0 H H0' H' → H p = none → H0' p = none → H' p = some (.lst vs) → DqAll X.K H0' vs xs → Q (.ref p) H') → wE X e σ H Q
structure EvT (X : Cx) (env : List Sl) (e : Expr) (b : Bool) : Prop where
  run : ∀ (Hf Hb : Hp) (σ : L2.St) (H0 H : Hp), Ok X.K Hf Hb env σ H0 H → ∀ Q : Bool → Hp → Prop, (∀ H0' H', Gr H0 H H0' H' → Q b H') → wT X e σ H Q
structure EvA (X : Cx) (env : List Sl) (es : List Expr) (ds : List PyData) : Prop where
  run : ∀ (Hf Hb : Hp) (σ : L2.St) (H0 H : Hp), Ok X.K Hf Hb env σ H0 H → ∀ Q : List V → Hp → Prop, (∀ vs H0' H', Gr H0 H H0' H' → DqAll X.K H0' vs ds → Q vs H') → wA X es σ H Q
section
variable {X : Cx} {env : List Sl} {e a b : Expr} {es : List Expr} {d da db : PyData} {ds xs ys : List PyData} {pos p : Pos}
theorem EvF.v (h : EvF X env e xs) : EvV X env e (.list xs) := ⟨fun Hf Hb σ H0 H k Q q => h.run Hf Hb σ H0 H k Q fun p vs H0' H' g hn h0 hp ha => by
  refine q _ (upd H0' p (.lst vs)) H' ⟨g.f.trans (same_new h0), g.b, fun a u e => ?_, fun a o u h1 h2 => ?_⟩ (.lst upd_same (ha.mono (same_new h0)))
  · by_cases z : a = p
    · subst z; rw [upd_same] at e; cases e; exact hp
    · rw [upd_ne z] at e; exact g.i _ _ e
  · rw [upd_ne (ne_of_none h1 hn)] at h2; exact g.n _ _ _ h1 h2⟩
theorem EvF.bor (h : EvF X env e xs) : EvB X env e xs := ⟨fun Hf Hb σ H0 H k Q q => h.run Hf Hb σ H0 H k Q fun p vs H0' H' g hn h0 hp ha => q p vs H0' H' g hp ha⟩
theorem EvV.bor (h : EvV X env e (.list xs)) : EvB X env e xs := ⟨fun Hf Hb σ H0 H k Q q => h.run Hf Hb σ H0 H k Q fun v H0' H' g hd => by
  obtain ⟨a, vs, rfl, h1, h2⟩ := dq_lst hd
  exact q a vs H0' H' g (g.i _ _ h1) h2⟩
theorem EvV.is (h : EvV X env e d) (q : d = da) : EvV X env e da := q ▸ h
theorem EvF.is (h : EvF X env e xs) (q : xs = ys) : EvF X env e ys := q ▸ h
theorem EvB.is (h : EvB X env e xs) (q : xs = ys) : EvB X env e ys := q ▸ h
theorem EvT.is {b c : Bool} (h : EvT X env e b) (q : b = c) : EvT X env e c := q ▸ h
/-! ### names and constants -/
theorem nV (i : Nat) {x : Str} (hs : env[i]? = some (.v d) := by rfl) (hN : X.N[i]? = some x := by rfl) (hv : Vis X.env.scope x := by first | exact Or.inl rfl | exact Or.inr (Or.inl rfl) | exact Or.inr (Or.inr rfl)) (hd : (x == ("__debug__" : Str)) = false := by decide)
    (hcd : (x == ("__classdict__" : Str)) = false := by decide) : EvV X env (.Name x pos) d := ⟨fun Hf Hb σ H0 H k Q q => by
  obtain ⟨y, h1, v, h2, h3⟩ := k.sl i _ hs
  subst h2
  exact ⟨_, pe_var hN hv hd hcd, v, h1, q v H0 H (Gr.refl k.gr.i) h3⟩⟩
theorem nB (i : Nat) {x : Str} (hs : env[i]? = some (.o xs) := by rfl) (hN : X.N[i]? = some x := by rfl) (hv : Vis X.env.scope x := by first | exact Or.inl rfl | exact Or.inr (Or.inl rfl) | exact Or.inr (Or.inr rfl)) (hd : (x == ("__debug__" : Str)) = false := by decide)
    (hcd : (x == ("__classdict__" : Str)) = false := by decide) : EvB X env (.Name x pos) xs := ⟨fun Hf Hb σ H0 H k Q q => by
  obtain ⟨y, h1, p, vs, h2, h3, h4, h5, h6⟩ := k.sl i _ hs
  subst h2
  exact ⟨_, pe_var hN hv hd hcd, _, h1, q p vs H0 H (Gr.refl k.gr.i) h5 h6⟩⟩
theorem evv_int {i : Int} {j : Nat} : EvV X env (.Constant (.int i) j pos) (.int i) := ⟨fun _ _ σ H0 H k Q q => ⟨_, pe_int, q _ H0 H (Gr.refl k.gr.i) (.int i)⟩⟩
theorem evv_bl {i : Bool} {j : Nat} : EvV X env (.Constant (.bool i) j pos) (.bool i) := ⟨fun _ _ σ H0 H k Q q => ⟨_, pe_bl, q _ H0 H (Gr.refl k.gr.i) (.bl i)⟩⟩
theorem evv_non {j : Nat} : EvV X env (.Constant .none j pos) .none := ⟨fun _ _ σ H0 H k Q q => ⟨_, pe_non, q _ H0 H (Gr.refl k.gr.i) .non⟩⟩
theorem evv_str {x : Str} {j : Nat} : EvV X env (.Constant (.str x) j pos) (.str x) := ⟨fun _ _ σ H0 H k Q q => ⟨_, pe_str, q _ H0 H (Gr.refl k.gr.i) (.str x)⟩⟩
/-- a module's constant that is an int | a text -/
theorem evv_gI {x : Str} {i : Int} {t : Tok} (hm : X.mg x = some (.int i t)) (hg : Gl X x := by rfl) (hd : (x == ("__debug__" : Str)) = false := by decide) : EvV X env (.Name x pos) (.int i) :=
  ⟨fun _ _ σ H0 H k Q q => ⟨_, pe_glob (v := .int i) hg hm ⟨t, rfl⟩ hd, q _ H0 H (Gr.refl k.gr.i) (.int i)⟩⟩
theorem evv_gS {x z : Str} {t : Tok} (hm : X.mg x = some (.str z t)) (hg : Gl X x := by rfl) (hd : (x == ("__debug__" : Str)) = false := by decide) : EvV X env (.Name x pos) (.str z) :=
  ⟨fun _ _ σ H0 H k Q q => ⟨_, pe_glob (v := .str z) hg hm ⟨t, rfl⟩ hd, q _ H0 H (Gr.refl k.gr.i) (.str z)⟩⟩
/-! ### two in a row -/
theorem two (ha : EvV X env a da) (hb : EvV X env b db) {Hf Hb : Hp} {σ : L2.St} {H0 H : Hp} (k : Ok X.K Hf Hb env σ H0 H) {R : V → V → Hp → Prop}
    (q : ∀ x y H0' H', Gr H0 H H0' H' → Dq X.K H0' x da → Dq X.K H0' y db → R x y H') : wE X a σ H fun x H1 => wE X b σ H1 fun y H2 => R x y H2 :=
  ha.run Hf Hb σ H0 H k _ fun x H1 H1' g1 d1 => hb.run Hf Hb σ H1 H1' (k.gro g1) _ fun y H2 H2' g2 d2 => q x y H2 H2' (g1.trans g2) (d1.mono g2.f) d2
def OpV (X : Cx) (f : Value → Value → Sem Value) (da db d : PyData) : Prop := ∃ r, OpR X f r ∧ ∀ x y H0 H, Same H0 H → Dq X.K H0 x da → Dq X.K H0 y db → ∀ Q : VK, (∀ v H0' H', Gr H0 H H0' H' → Dq X.K H0' v d → Q v H') → r x y H Q
def OpF (X : Cx) (f : Value → Value → Sem Value) (da db : PyData) (xs : List PyData) : Prop := ∃ r, OpR X f r ∧ ∀ x y H0 H, Same H0 H → Dq X.K H0 x da → Dq X.K H0 y db → ∀ Q : VK, (∀ p vs H0' H', Gr H0 H H0' H' → H p = none → H0' p = none → H' p = some (.lst vs) → DqAll X.K H0' vs xs → Q (.ref p) H') → r x y H Q
theorem evv_bin {op : Operator} (ha : EvV X env a da) (hb : EvV X env b db) (ho : OpV X (binaryOp op) da db d) : EvV X env (.BinOp a op b pos) d := ⟨fun Hf Hb σ H0 H k Q q => by
  obtain ⟨r, hr, h⟩ := ho
  exact ⟨_, pe_op hr uE uE, two ha hb k fun x y H1 H1' g d1 d2 => h x y H1 H1' g.i d1 d2 Q fun v H2 H2' g2 => q v H2 H2' (g.trans g2)⟩⟩
theorem evf_bin {op : Operator} (ha : EvV X env a da) (hb : EvV X env b db) (ho : OpF X (binaryOp op) da db xs) : EvF X env (.BinOp a op b pos) xs := ⟨fun Hf Hb σ H0 H k Q q => by
  obtain ⟨r, hr, h⟩ := ho
  refine ⟨_, pe_op hr uE uE, two ha hb k fun x y H1 H1' g d1 d2 => h x y H1 H1' g.i d1 d2 Q fun p vs H2 H2' g2 n1 n2 => q p vs H2 H2' (g.trans g2) ?_ n2⟩
  exact g.b.free n1⟩
theorem evv_cmp {op : CmpOp} (ha : EvV X env a da) (hb : EvV X env b db) (ho : OpV X (compareOp op) da db d) (hm : behindInMarks op b = false := by first | exact nomark _ | rfl) : EvV X env (.Compare a [op] [b] pos) d := ⟨fun Hf Hb σ H0 H k Q q => by
  obtain ⟨r, hr, h⟩ := ho
  exact ⟨_, pe_cmpR hr uE uE hm, two ha hb k fun x y H1 H1' g d1 d2 => h x y H1 H1' g.i d1 d2 Q fun v H2 H2' g2 => q v H2 H2' (g.trans g2)⟩⟩
theorem evt_cmp {op : CmpOp} {c : Bool} (ha : EvV X env a da) (hb : EvV X env b db) (ho : OpV X (compareOp op) da db (.bool c)) (hm : behindInMarks op b = false := by first | exact nomark _ | rfl) : EvT X env (.Compare a [op] [b] pos) c := ⟨fun Hf Hb σ H0 H k Q q => by
  obtain ⟨r, hr, h⟩ := ho
  refine ⟨_, pt_cmpR hr uE uE hm, two ha hb k fun x y H1 H1' g d1 d2 => h x y H1 H1' g.i d1 d2 _ fun v H2 H2' g2 hv => ?_⟩
  rw [dq_bl hv]
  exact ⟨c, rfl, q H2 H2' (g.trans g2)⟩⟩
/-! ### operators on ints -/
theorem ov_I0 {f : Value → Value → Sem Value} {g : Int → Int → Int} (h : OpR X f (rI0 fun i j => .int (g i j))) {i j : Int} : OpV X f (.int i) (.int j) (.int (g i j)) :=
  ⟨_, h, fun x y H0 H hs hx hy Q q => ⟨i, j, dq_int hx, dq_int hy, q _ H0 H (Gr.refl hs) (.int _)⟩⟩
theorem ov_I {f : Value → Value → Sem Value} {C : Int → Int → Prop} {g : Int → Int → Int} (h : OpR X f (rI C fun i j => .int (g i j))) {i j : Int} (hc : C i j) : OpV X f (.int i) (.int j) (.int (g i j)) :=
  ⟨_, h, fun x y H0 H hs hx hy Q q => ⟨i, j, dq_int hx, dq_int hy, hc, q _ H0 H (Gr.refl hs) (.int _)⟩⟩
theorem ov_B0 {f : Value → Value → Sem Value} {g : Int → Int → Bool} (h : OpR X f (rI0 fun i j => .bl (g i j))) {i j : Int} : OpV X f (.int i) (.int j) (.bool (g i j)) :=
  ⟨_, h, fun x y H0 H hs hx hy Q q => ⟨i, j, dq_int hx, dq_int hy, q _ H0 H (Gr.refl hs) (.bl _)⟩⟩
theorem ov_add {i j : Int} : OpV X (binaryOp .Add) (.int i) (.int j) (.int (i + j)) := ov_I0 (g := fun i j => i + j) op_add
theorem ov_sub {i j : Int} : OpV X (binaryOp .Sub) (.int i) (.int j) (.int (i - j)) := ov_I0 (g := fun i j => i - j) op_sub
theorem ov_mul {i j : Int} (h : CMul i j) : OpV X (binaryOp .Mult) (.int i) (.int j) (.int (i * j)) := ov_I (g := fun i j => i * j) op_mul h
theorem ov_fdiv {i j : Int} (h : CDiv i j) : OpV X (binaryOp .FloorDiv) (.int i) (.int j) (.int (i / j)) := ov_I (g := fun i j => i / j) op_fdiv h
theorem ov_mod {i j : Int} (h : 0 < j) : OpV X (binaryOp .Mod) (.int i) (.int j) (.int (i % j)) := ov_I (C := fun _ j => 0 < j) (g := fun i j => i % j) op_mod h
theorem ov_pow {i j : Int} (h : CPow i j) : OpV X (binaryOp .Pow) (.int i) (.int j) (.int (i ^ j.toNat)) := ov_I (g := fun i j => i ^ j.toNat) op_pow h
theorem ov_lt {i j : Int} : OpV X (compareOp .Lt) (.int i) (.int j) (.bool (decide (i < j))) := ov_B0 (g := fun i j => decide (i < j)) op_lt
theorem ov_le {i j : Int} : OpV X (compareOp .LtE) (.int i) (.int j) (.bool (decide (i ≤ j))) := ov_B0 (g := fun i j => decide (i ≤ j)) op_le
theorem ov_gt {i j : Int} : OpV X (compareOp .Gt) (.int i) (.int j) (.bool (decide (j < i))) := ov_B0 (g := fun i j => decide (j < i)) op_gt
theorem ov_ge {i j : Int} : OpV X (compareOp .GtE) (.int i) (.int j) (.bool (decide (j ≤ i))) := ov_B0 (g := fun i j => decide (j ≤ i)) op_ge
theorem decV {i j : Int} : decide (V.int i = V.int j) = decide (i = j) := by
  by_cases h : i = j
  · rw [h]; simp
  · rw [decide_eq_false h, decide_eq_false fun q => h (V.int.inj q)]
theorem ov_eq {i j : Int} : OpV X (compareOp .Eq) (.int i) (.int j) (.bool (decide (i = j))) :=
  ⟨_, op_eq, fun x y H0 H hs hx hy Q q => by
    rw [dq_int hx, dq_int hy]
    exact ⟨rfl, by rw [decV]; exact q _ H0 H (Gr.refl hs) (.bl _)⟩⟩
theorem ov_ne {i j : Int} : OpV X (compareOp .NotEq) (.int i) (.int j) (.bool (!decide (i = j))) :=
  ⟨_, op_ne, fun x y H0 H hs hx hy Q q => by
    rw [dq_int hx, dq_int hy]
    exact ⟨rfl, by rw [decV]; exact q _ H0 H (Gr.refl hs) (.bl _)⟩⟩
/-- data at any depth -/
theorem ov_eqD (hu : X.A.units + 64 < cLine) (h1 : SeqAt.shaped da = true) (h2 : SeqAt.shaped db = true) : OpV X (compareOp .Eq) da db (.bool (PyData.eqv da db)) :=
  ⟨_, op_eqD hu, fun x y H0 H hs hx hy Q q => ⟨da, db, (hx.mono hs).dp (SeqAt.canLay_of_shaped h1), (hy.mono hs).dp (SeqAt.canLay_of_shaped h2), h1, h2, q _ H0 H (Gr.refl hs) (.bl _)⟩⟩
theorem ov_neD (hu : X.A.units + 64 < cLine) (h1 : SeqAt.shaped da = true) (h2 : SeqAt.shaped db = true) : OpV X (compareOp .NotEq) da db (.bool (!PyData.eqv da db)) :=
  ⟨_, op_neD hu, fun x y H0 H hs hx hy Q q => ⟨da, db, (hx.mono hs).dp (SeqAt.canLay_of_shaped h1), (hy.mono hs).dp (SeqAt.canLay_of_shaped h2), h1, h2, q _ H0 H (Gr.refl hs) (.bl _)⟩⟩
def isNone : PyData → Bool
  | .none => true
  | _ => false
theorem dq_isN {K : PySem.W.Frag} {H : Hp} {v : V} {d : PyData} (h : Dq K H v d) : decide (v = .non) = isNone d := by cases h <;> rfl
theorem ov_isN : OpV X (compareOp .Is) da .none (.bool (isNone da)) :=
  ⟨_, op_isN, fun x y H0 H hs hx hy Q q => ⟨dq_non hy, by rw [dq_isN hx]; exact q _ H0 H (Gr.refl hs) (.bl _)⟩⟩
theorem ov_notN : OpV X (compareOp .IsNot) da .none (.bool (!isNone da)) :=
  ⟨_, op_notN, fun x y H0 H hs hx hy Q q => ⟨dq_non hy, by rw [dq_isN hx]; exact q _ H0 H (Gr.refl hs) (.bl _)⟩⟩
/-- an int in a list, a tuple of ints -/
theorem flatI (ns : List Int) : (ns.map V.int).all flatV = true := by
  induction ns with
  | nil => rfl
  | cons n ns ih => simp only [List.map_cons, List.all_cons, ih, Bool.and_true]; rfl
theorem inVI (i : Int) (ns : List Int) : inV (.int i) (ns.map V.int) = decide (i ∈ ns) := by
  unfold inV
  induction ns with
  | nil => simp
  | cons n ns ih =>
    rw [List.map_cons, List.any_cons, ih]
    have e : eqV (V.int n) (V.int i) = decide (n = i) := by
      show (n == i) = decide (n = i)
      exact Bool.eq_iff_iff.mpr (by simp)
    rw [e]
    by_cases q : n = i
    · simp [q]
    · simp [q, Ne.symm q]
theorem ov_inT {i : Int} {ns : List Int} : OpV X (compareOp .In) (.int i) (.tuple (ns.map .int)) (.bool (decide (i ∈ ns))) :=
  ⟨_, op_in_seq, fun x y H0 H hs hx hy Q q => by
    obtain ⟨a, vs, rfl, h1, h2⟩ := dq_tup hy
    rw [dqa_ints h2] at h1
    rw [dq_int hx]
    exact ⟨a, _, rfl, .inr (SqT.of (hs _ _ h1)), rfl, flatI ns, by rw [inVI]; exact q _ H0 H (Gr.refl hs) (.bl _)⟩⟩
theorem ov_notInT {i : Int} {ns : List Int} : OpV X (compareOp .NotIn) (.int i) (.tuple (ns.map .int)) (.bool (!decide (i ∈ ns))) :=
  ⟨_, op_notIn_seq, fun x y H0 H hs hx hy Q q => by
    obtain ⟨a, vs, rfl, h1, h2⟩ := dq_tup hy
    rw [dqa_ints h2] at h1
    rw [dq_int hx]
    exact ⟨a, _, rfl, .inr (SqT.of (hs _ _ h1)), rfl, flatI ns, by rw [inVI]; exact q _ H0 H (Gr.refl hs) (.bl _)⟩⟩
theorem ov_inL {i : Int} {ns : List Int} : OpV X (compareOp .In) (.int i) (.list (ns.map .int)) (.bool (decide (i ∈ ns))) :=
  ⟨_, op_in_seq, fun x y H0 H hs hx hy Q q => by
    obtain ⟨a, vs, rfl, h1, h2⟩ := dq_lst hy
    rw [dqa_ints h2] at h1
    rw [dq_int hx]
    exact ⟨a, _, rfl, .inl (SqL.of (hs _ _ h1)), rfl, flatI ns, by rw [inVI]; exact q _ H0 H (Gr.refl hs) (.bl _)⟩⟩
theorem ov_notInL {i : Int} {ns : List Int} : OpV X (compareOp .NotIn) (.int i) (.list (ns.map .int)) (.bool (!decide (i ∈ ns))) :=
  ⟨_, op_notIn_seq, fun x y H0 H hs hx hy Q q => by
    obtain ⟨a, vs, rfl, h1, h2⟩ := dq_lst hy
    rw [dqa_ints h2] at h1
    rw [dq_int hx]
    exact ⟨a, _, rfl, .inl (SqL.of (hs _ _ h1)), rfl, flatI ns, by rw [inVI]; exact q _ H0 H (Gr.refl hs) (.bl _)⟩⟩
/-! ### chains, and, or, not, if -/
theorem evv_chain {c : Expr} {op op' : CmpOp} {dc : PyData} {k1 : Bool} {d2 : PyData} (ha : EvV X env a da) (hb : EvV X env b db) (hc : EvV X env c dc) (ho : OpV X (compareOp op) da db (.bool k1)) (ho' : OpV X (compareOp op') db dc d2)
    (hm : lastMarks [op, op'] [b, c] = false := by with_unfolding_all rfl) : EvV X env (.Compare a [op, op'] [b, c] pos) (if k1 then d2 else .bool false) := ⟨fun Hf Hb σ H0 H k Q q => by
  obtain ⟨r, hr, h⟩ := ho
  obtain ⟨r', hr', h'⟩ := ho'
  refine ⟨_, pe_chain hr hr' uE uE uE hm, two ha hb k fun x y H1 H1' g d1 d2 => h x y H1 H1' g.i d1 d2 _ fun v H2 H2' g2 hv => ?_⟩
  refine ⟨k1, dq_bl hv, ?_⟩
  cases k1 with
  | true =>
    simp only [if_true] at q ⊢
    exact hc.run Hf Hb σ H2 H2' (k.gro (g.trans g2)) _ fun z H3 H3' g3 hz => h' y z H3 H3' g3.i (d2.mono (g2.f.trans g3.f)) hz Q fun v H4 H4' g4 => q v H4 H4' (((g.trans g2).trans g3).trans g4)
  | false =>
    simp only [Bool.false_eq_true, if_false] at q ⊢
    exact q _ H2 H2' (g.trans g2) (.bl false)⟩
theorem evt_chain {c : Expr} {op op' : CmpOp} {dc : PyData} {k1 k2 : Bool} (ha : EvV X env a da) (hb : EvV X env b db) (hc : EvV X env c dc) (ho : OpV X (compareOp op) da db (.bool k1)) (ho' : OpV X (compareOp op') db dc (.bool k2))
    (hm : lastMarks [op, op'] [b, c] = false := by with_unfolding_all rfl) : EvT X env (.Compare a [op, op'] [b, c] pos) (k1 && k2) := ⟨fun Hf Hb σ H0 H k Q q => by
  obtain ⟨r, hr, h⟩ := ho
  obtain ⟨r', hr', h'⟩ := ho'
  refine ⟨_, pt_chain hr hr' uE uE uE hm, two ha hb k fun x y H1 H1' g d1 d2 => h x y H1 H1' g.i d1 d2 _ fun v H2 H2' g2 hv => ?_⟩
  refine ⟨k1, dq_bl hv, ?_⟩
  cases k1 with
  | true =>
    simp only [if_true] at q ⊢
    refine hc.run Hf Hb σ H2 H2' (k.gro (g.trans g2)) _ fun z H3 H3' g3 hz => h' y z H3 H3' g3.i (d2.mono (g2.f.trans g3.f)) hz _ fun v H4 H4' g4 hv' => ?_
    exact ⟨k2, dq_bl hv', q H4 H4' (((g.trans g2).trans g3).trans g4)⟩
  | false =>
    simp only [Bool.false_eq_true, if_false] at q ⊢
    exact ⟨false, rfl, q H2 H2' (g.trans g2)⟩⟩
/-- a test that is a value's truth -/
theorem evt_val {c : Bool} (h : EvV X env e (.bool c)) (he : ∀ whole, isTrue e X.env whole = (do let v ← whole; standAt e.pos; holding [v] (truthy v)) := by intro _; rfl) : EvT X env e c := ⟨fun Hf Hb σ H0 H k Q q =>
  ⟨_, pt_val uE he, h.run Hf Hb σ H0 H k _ fun v H1 H1' g hv => ⟨c, dq_bl hv, q H1 H1' g⟩⟩⟩
def truthD : PyData → Bool
  | .none => false
  | .bool b => b
  | .int i => i != 0
  | .str x => (x.length : Int) != 0
  | .list xs => !xs.isEmpty
  | .tuple xs => !xs.isEmpty
  | .dict _ => false
def truOk : PyData → Prop
  | .str x => x.length ≤ sizeLine
  | .dict _ => False
  | _ => True
theorem isEmpty_dqa {K : PySem.W.Frag} {H : Hp} {vs : List V} {ds : List PyData} (h : DqAll K H vs ds) : vs.isEmpty = ds.isEmpty := by cases h <;> rfl
theorem dq_tru {K : PySem.W.Frag} {H : Hp} {v : V} {d : PyData} (h : Dq K H v d) (ok : truOk d) : TruV K v H (truthD d) := by
  cases h with
  | non => exact rfl
  | bl b => exact rfl
  | int i => exact rfl
  | str x => exact ⟨ok, rfl⟩
  | lst h a => exact .inl ⟨_, SqL.of h, by rw [isEmpty_dqa a]; rfl⟩
  | tup h a => exact .inr (.inl ⟨_, SqT.of h, by rw [isEmpty_dqa a]; rfl⟩)
  | scr _ _ => exact ok.elim
theorem evt_truth (h : EvV X env e d) (ok : truOk d) (he : ∀ whole, isTrue e X.env whole = (do let v ← whole; standAt e.pos; holding [v] (truthy v)) := by intro _; rfl) : EvT X env e (truthD d) := ⟨fun Hf Hb σ H0 H k Q q =>
  ⟨_, pt_truth uE he, h.run Hf Hb σ H0 H k _ fun v H1 H1' g hv => ⟨_, dq_tru (hv.mono g.i) ok, q H1 H1' g⟩⟩⟩
theorem evv_notT (h : EvV X env e d) (ok : truOk d) : EvV X env (.UnaryOp .Not e pos) (.bool (!truthD d)) := ⟨fun Hf Hb σ H0 H k Q q =>
  ⟨_, pe_notT uE, h.run Hf Hb σ H0 H k _ fun v H1 H1' g hv => ⟨_, dq_tru (hv.mono g.i) ok, q _ H1 H1' g (.bl _)⟩⟩⟩
theorem evt_not {c : Bool} (h : EvT X env e c) : EvT X env (.UnaryOp .Not e pos) (!c) := ⟨fun Hf Hb σ H0 H k Q q =>
  ⟨_, pt_not uT, h.run Hf Hb σ H0 H k _ fun H1 H1' g => q H1 H1' g⟩⟩
theorem evt_and1 {c : Bool} (h : EvT X env e c) : EvT X env (.BoolOp .And [e] pos) c := ⟨fun Hf Hb σ H0 H k Q q => ⟨_, (pw_and1 uT).pt, h.run Hf Hb σ H0 H k _ q⟩⟩
theorem evt_or1 {c : Bool} (h : EvT X env e c) : EvT X env (.BoolOp .Or [e] pos) c := ⟨fun Hf Hb σ H0 H k Q q => ⟨_, (pw_or1 uT).pt, h.run Hf Hb σ H0 H k _ q⟩⟩
/-- the rest of an and | or as a test -/
structure EvW (X : Cx) (env : List Sl) (e : Expr) (b : Bool) : Prop where
  run : ∀ (Hf Hb : Hp) (σ : L2.St) (H0 H : Hp), Ok X.K Hf Hb env σ H0 H → ∀ Q : Bool → Hp → Prop, (∀ H0' H', Gr H0 H H0' H' → Q b H') → ∃ t, PW X e t ∧ t σ H Q
def wW (X : Cx) (e : Expr) : TT := fun σ H Q => ∃ t, PW X e t ∧ t σ H Q
theorem uW {X : Cx} {e : Expr} : PW X e (wW X e) := ⟨fun whole pins s σ H Q I ⟨_, p, h⟩ => p.run whole pins s σ H Q I h⟩
theorem EvW.t {c : Bool} (h : EvW X env e c) : EvT X env e c := ⟨fun Hf Hb σ H0 H k Q q => by
  obtain ⟨t, p, r⟩ := h.run Hf Hb σ H0 H k Q q
  exact ⟨t, p.pt, r⟩⟩
theorem EvW.is {b c : Bool} (h : EvW X env e b) (q : b = c) : EvW X env e c := q ▸ h
theorem ew_and1 {c : Bool} (h : EvT X env e c) : EvW X env (.BoolOp .And [e] pos) c := ⟨fun Hf Hb σ H0 H k Q q => ⟨_, pw_and1 uT, h.run Hf Hb σ H0 H k _ q⟩⟩
theorem ew_or1 {c : Bool} (h : EvT X env e c) : EvW X env (.BoolOp .Or [e] pos) c := ⟨fun Hf Hb σ H0 H k Q q => ⟨_, pw_or1 uT, h.run Hf Hb σ H0 H k _ q⟩⟩
theorem ew_and {c c' : Bool} {rest : List Expr} (h : EvT X env a c) (h' : c = true → EvW X env (.BoolOp .And (b :: rest) pos) c') : EvW X env (.BoolOp .And (a :: b :: rest) pos) (c && c') := ⟨fun Hf Hb σ H0 H k Q q => by
  refine ⟨_, pw_and uT uW, h.run Hf Hb σ H0 H k _ fun H1 H1' g => ?_⟩
  cases c with
  | true => exact (h' rfl).run Hf Hb σ H1 H1' (k.gro g) _ fun H2 H2' g2 => q H2 H2' (g.trans g2)
  | false => exact q H1 H1' g⟩
theorem ew_or {c c' : Bool} {rest : List Expr} (h : EvT X env a c) (h' : c = false → EvW X env (.BoolOp .Or (b :: rest) pos) c') : EvW X env (.BoolOp .Or (a :: b :: rest) pos) (c || c') := ⟨fun Hf Hb σ H0 H k Q q => by
  refine ⟨_, pw_or uT uW, h.run Hf Hb σ H0 H k _ fun H1 H1' g => ?_⟩
  cases c with
  | true => exact q H1 H1' g
  | false => exact (h' rfl).run Hf Hb σ H1 H1' (k.gro g) _ fun H2 H2' g2 => q H2 H2' (g.trans g2)⟩
/-- as values, of bools -/
theorem evv_one {op : BoolOp} (h : EvV X env e d) : EvV X env (.BoolOp op [e] pos) d := ⟨fun Hf Hb σ H0 H k Q q => ⟨_, pe_one uE, h.run Hf Hb σ H0 H k _ q⟩⟩
theorem evv_and {c : Bool} {rest : List Expr} (h : EvV X env a (.bool c)) (h' : c = true → EvV X env (.BoolOp .And (b :: rest) pos) d) : EvV X env (.BoolOp .And (a :: b :: rest) pos) (if c then d else .bool false) := ⟨fun Hf Hb σ H0 H k Q q => by
  refine ⟨_, pe_and uE uE, h.run Hf Hb σ H0 H k _ fun v H1 H1' g hv => ⟨c, dq_bl hv, ?_⟩⟩
  cases c with
  | true => exact (h' rfl).run Hf Hb σ H1 H1' (k.gro g) _ fun v H2 H2' g2 => q v H2 H2' (g.trans g2)
  | false => exact q _ H1 H1' g (.bl false)⟩
theorem evv_or {c : Bool} {rest : List Expr} (h : EvV X env a (.bool c)) (h' : c = false → EvV X env (.BoolOp .Or (b :: rest) pos) d) : EvV X env (.BoolOp .Or (a :: b :: rest) pos) (if c then .bool true else d) := ⟨fun Hf Hb σ H0 H k Q q => by
  refine ⟨_, pe_or uE uE, h.run Hf Hb σ H0 H k _ fun v H1 H1' g hv => ⟨c, dq_bl hv, ?_⟩⟩
  cases c with
  | true => exact q _ H1 H1' g (.bl true)
  | false => exact (h' rfl).run Hf Hb σ H1 H1' (k.gro g) _ fun v H2 H2' g2 => q v H2 H2' (g.trans g2)⟩
theorem evv_if {c : Expr} {k1 : Bool} (hc : EvT X env c k1) (h1 : k1 = true → EvV X env a d) (h2 : k1 = false → EvV X env b d) : EvV X env (.IfExp c a b pos) d := ⟨fun Hf Hb σ H0 H k Q q => by
  refine ⟨_, pe_ifExp uT uE uE, hc.run Hf Hb σ H0 H k _ fun H1 H1' g => ?_⟩
  cases k1 with
  | true => exact (h1 rfl).run Hf Hb σ H1 H1' (k.gro g) _ fun v H2 H2' g2 => q v H2 H2' (g.trans g2)
  | false => exact (h2 rfl).run Hf Hb σ H1 H1' (k.gro g) _ fun v H2 H2' g2 => q v H2 H2' (g.trans g2)⟩
theorem evv_neg {i : Int} (h : EvV X env e (.int i)) : EvV X env (.UnaryOp .USub e pos) (.int (-i)) := ⟨fun Hf Hb σ H0 H k Q q =>
  ⟨_, pe_un un_neg uE, h.run Hf Hb σ H0 H k _ fun v H1 H1' g hv => ⟨i, dq_int hv, q _ H1 H1' g (.int _)⟩⟩⟩
/-! ### displays, arguments -/
theorem eva_nil : EvA X env [] [] := ⟨fun Hf Hb σ H0 H k Q q => ⟨_, pa_nil, q [] H0 H (Gr.refl k.gr.i) .nil⟩⟩
theorem eva_cons (h : EvV X env e d) (h' : EvA X env es ds) (hs : starEach (e :: es) X.env = (false, eval e X.env) :: starEach es X.env := by rfl) : EvA X env (e :: es) (d :: ds) := ⟨fun Hf Hb σ H0 H k Q q =>
  ⟨_, pa_cons uE uA hs, h.run Hf Hb σ H0 H k _ fun v H1 H1' g hv => h'.run Hf Hb σ H1 H1' (k.gro g) _ fun vs H2 H2' g2 hvs => q (v :: vs) H2 H2' (g.trans g2) (.cons (hv.mono g2.f) hvs)⟩⟩
theorem evv_tup {x1 : Nat} (h : EvA X env es ds) (hl : ds.length ≤ sizeLine := by with_unfolding_all exact of_decide_eq_true rfl) : EvV X env (.Tuple es x1 pos) (.tuple ds) := ⟨fun Hf Hb σ H0 H k Q q =>
  ⟨_, pe_tup uA, h.run Hf Hb σ H0 H k _ fun vs H1 H1' g hv => ⟨by rw [hv.length]; exact hl, fun p hp =>
    q _ (upd H1 p (.tup vs)) _ (g.trans (Gr.new g.i hp)) (.tup upd_same (hv.mono (same_new (g.i.free hp))))⟩⟩⟩
theorem evf_lst (h : EvA X env es ds) (hl : ds.length ≤ sizeLine := by with_unfolding_all exact of_decide_eq_true rfl) : EvF X env (.List es pos) ds := ⟨fun Hf Hb σ H0 H k Q q =>
  ⟨_, pe_lst uA, h.run Hf Hb σ H0 H k _ fun vs H1 H1' g hv => ⟨by rw [hv.length]; exact hl, fun p hp =>
    q p vs H1 _ (g.trans (Gr.own g.i hp)) (g.b.free hp) (g.i.free hp) upd_same hv⟩⟩⟩
/-! ### calls of built-ins -/
def CaV (X : Cx) (f : Value) (ds : List PyData) (d : PyData) : Prop := ∃ r, CallR X f r ∧ ∀ vs H0 H, Same H0 H → DqAll X.K H0 vs ds → ∀ Q : VK, (∀ v H0' H', Gr H0 H H0' H' → Dq X.K H0' v d → Q v H') → r vs H Q
def CaF (X : Cx) (f : Value) (ds : List PyData) (xs : List PyData) : Prop := ∃ r, CallR X f r ∧ ∀ vs H0 H, Same H0 H → DqAll X.K H0 vs ds → ∀ Q : VK, (∀ p vs H0' H', Gr H0 H H0' H' → H p = none → H0' p = none → H' p = some (.lst vs) → DqAll X.K H0' vs xs → Q (.ref p) H') → r vs H Q
/-- one argument, a list that is borrowed -/
def CbV (X : Cx) (f : Value) (xs : List PyData) (d : PyData) : Prop := ∃ r, CallR X f r ∧ ∀ a vs H0 H, Same H0 H → H a = some (.lst vs) → DqAll X.K H0 vs xs → ∀ Q : VK, (∀ v H0' H', Gr H0 H H0' H' → Dq X.K H0' v d → Q v H') → r [.ref a] H Q
def CbF (X : Cx) (f : Value) (xs : List PyData) (ys : List PyData) : Prop := ∃ r, CallR X f r ∧ ∀ a vs H0 H, Same H0 H → H a = some (.lst vs) → DqAll X.K H0 vs xs → ∀ Q : VK, (∀ p vs H0' H', Gr H0 H H0' H' → H p = none → H0' p = none → H' p = some (.lst vs) → DqAll X.K H0' vs ys → Q (.ref p) H') → r [.ref a] H Q
section
variable {x : Str} {id T : String}
theorem evv_cB (hm : X.mg x = none) (ha : EvA X env (e :: es) ds) (hc : CaV X (.builtin id) ds d) (hv : bootBuiltins x = some (.builtin id) := by decide +kernel) (hg : Gl X x := by rfl) (hn : x ≠ "__name__" := by decide) (hdb : (x == ("__debug__" : Str)) = false := by decide)
    (hs : starEach (e :: es) X.env = (false, eval e X.env) :: starEach es X.env := by rfl) (hpl : (backTo pos (starEach es X.env)).any (·.1) = false := by rfl) : EvV X env (.Call (.Name x p) (e :: es) [] pos) d := ⟨fun Hf Hb σ H0 H k Q q => by
  obtain ⟨r, hr, h⟩ := hc
  exact ⟨_, pe_callB hr hg hm hv uA hn hdb hs hpl, ha.run Hf Hb σ H0 H k _ fun vs H1 H1' g hv => h vs H1 H1' g.i hv Q fun v H2 H2' g2 => q v H2 H2' (g.trans g2)⟩⟩
end
end
end Rk

namespace Rk
open PySem PySem.Spec PyProof.Rows L2
section
variable {X : Cx} {env : List Sl} {e a b : Expr} {es : List Expr} {d da db : PyData} {ds xs ys : List PyData} {pos p : Pos} {x : Str} {id T : String}
theorem evf_cB (hm : X.mg x = none) (ha : EvA X env (e :: es) ds) (hc : CaF X (.builtin id) ds xs) (hv : bootBuiltins x = some (.builtin id) := by decide +kernel) (hg : Gl X x := by rfl) (hn : x ≠ "__name__" := by decide) (hdb : (x == ("__debug__" : Str)) = false := by decide)
    (hs : starEach (e :: es) X.env = (false, eval e X.env) :: starEach es X.env := by rfl) (hpl : (backTo pos (starEach es X.env)).any (·.1) = false := by rfl) : EvF X env (.Call (.Name x p) (e :: es) [] pos) xs := ⟨fun Hf Hb σ H0 H k Q q => by
  obtain ⟨r, hr, h⟩ := hc
  exact ⟨_, pe_callB hr hg hm hv uA hn hdb hs hpl, ha.run Hf Hb σ H0 H k _ fun vs H1 H1' g hv => h vs H1 H1' g.i hv Q fun p vs H2 H2' g2 n1 n2 => q p vs H2 H2' (g.trans g2) (g.b.free n1) n2⟩⟩
theorem evv_cT (hm : X.mg x = none) (ha : EvA X env (e :: es) ds) (hc : CaV X (.type T) ds d) (hv : bootBuiltins x = some (.type T) := by decide +kernel) (hg : Gl X x := by rfl) (hn : x ≠ "__name__" := by decide) (hdb : (x == ("__debug__" : Str)) = false := by decide)
    (hs : starEach (e :: es) X.env = (false, eval e X.env) :: starEach es X.env := by rfl) (hpl : (backTo pos (starEach es X.env)).any (·.1) = false := by rfl) : EvV X env (.Call (.Name x p) (e :: es) [] pos) d := ⟨fun Hf Hb σ H0 H k Q q => by
  obtain ⟨r, hr, h⟩ := hc
  exact ⟨_, pe_callTy hr hg hm hv uA hn hdb hs hpl, ha.run Hf Hb σ H0 H k _ fun vs H1 H1' g hv => h vs H1 H1' g.i hv Q fun v H2 H2' g2 => q v H2 H2' (g.trans g2)⟩⟩
theorem evf_cT (hm : X.mg x = none) (ha : EvA X env (e :: es) ds) (hc : CaF X (.type T) ds xs) (hv : bootBuiltins x = some (.type T) := by decide +kernel) (hg : Gl X x := by rfl) (hn : x ≠ "__name__" := by decide) (hdb : (x == ("__debug__" : Str)) = false := by decide)
    (hs : starEach (e :: es) X.env = (false, eval e X.env) :: starEach es X.env := by rfl) (hpl : (backTo pos (starEach es X.env)).any (·.1) = false := by rfl) : EvF X env (.Call (.Name x p) (e :: es) [] pos) xs := ⟨fun Hf Hb σ H0 H k Q q => by
  obtain ⟨r, hr, h⟩ := hc
  exact ⟨_, pe_callTy hr hg hm hv uA hn hdb hs hpl, ha.run Hf Hb σ H0 H k _ fun vs H1 H1' g hv => h vs H1 H1' g.i hv Q fun p vs H2 H2' g2 n1 n2 => q p vs H2 H2' (g.trans g2) (g.b.free n1) n2⟩⟩
/-- one argument, a borrowed list -/
theorem ewA1 (h : EvB X env e xs) (hs : starEach [e] X.env = (false, eval e X.env) :: starEach [] X.env := by rfl) {Hf Hb : Hp} {σ : L2.St} {H0 H : Hp} (k : Ok X.K Hf Hb env σ H0 H) {R : List V → Hp → Prop}
    (q : ∀ p vs H0' H', Gr H0 H H0' H' → H' p = some (.lst vs) → DqAll X.K H0' vs xs → R [.ref p] H') : wA X [e] σ H R :=
  ⟨_, pa_cons uE pa_nil hs, h.run Hf Hb σ H0 H k _ fun p vs H1 H1' g hp ha => q p vs H1 H1' g hp ha⟩
theorem evv_bB (hm : X.mg x = none) (ha : EvB X env e xs) (hc : CbV X (.builtin id) xs d) (hv : bootBuiltins x = some (.builtin id) := by decide +kernel) (hg : Gl X x := by rfl) (hn : x ≠ "__name__" := by decide) (hdb : (x == ("__debug__" : Str)) = false := by decide)
    (hs : starEach [e] X.env = (false, eval e X.env) :: starEach [] X.env := by rfl) (hpl : (backTo pos (starEach [] X.env)).any (·.1) = false := by rfl) : EvV X env (.Call (.Name x p) [e] [] pos) d := ⟨fun Hf Hb σ H0 H k Q q => by
  obtain ⟨r, hr, h⟩ := hc
  exact ⟨_, pe_callB hr hg hm hv uA hn hdb hs hpl, ewA1 ha hs k fun p vs H1 H1' g hp hv => h p vs H1 H1' g.i hp hv Q fun v H2 H2' g2 => q v H2 H2' (g.trans g2)⟩⟩
theorem evf_bB (hm : X.mg x = none) (ha : EvB X env e xs) (hc : CbF X (.builtin id) xs ys) (hv : bootBuiltins x = some (.builtin id) := by decide +kernel) (hg : Gl X x := by rfl) (hn : x ≠ "__name__" := by decide) (hdb : (x == ("__debug__" : Str)) = false := by decide)
    (hs : starEach [e] X.env = (false, eval e X.env) :: starEach [] X.env := by rfl) (hpl : (backTo pos (starEach [] X.env)).any (·.1) = false := by rfl) : EvF X env (.Call (.Name x p) [e] [] pos) ys := ⟨fun Hf Hb σ H0 H k Q q => by
  obtain ⟨r, hr, h⟩ := hc
  exact ⟨_, pe_callB hr hg hm hv uA hn hdb hs hpl, ewA1 ha hs k fun p vs H1 H1' g hp hv => h p vs H1 H1' g.i hp hv Q fun p vs H2 H2' g2 n1 n2 => q p vs H2 H2' (g.trans g2) (g.b.free n1) n2⟩⟩
theorem evv_bT (hm : X.mg x = none) (ha : EvB X env e xs) (hc : CbV X (.type T) xs d) (hv : bootBuiltins x = some (.type T) := by decide +kernel) (hg : Gl X x := by rfl) (hn : x ≠ "__name__" := by decide) (hdb : (x == ("__debug__" : Str)) = false := by decide)
    (hs : starEach [e] X.env = (false, eval e X.env) :: starEach [] X.env := by rfl) (hpl : (backTo pos (starEach [] X.env)).any (·.1) = false := by rfl) : EvV X env (.Call (.Name x p) [e] [] pos) d := ⟨fun Hf Hb σ H0 H k Q q => by
  obtain ⟨r, hr, h⟩ := hc
  exact ⟨_, pe_callTy hr hg hm hv uA hn hdb hs hpl, ewA1 ha hs k fun p vs H1 H1' g hp hv => h p vs H1 H1' g.i hp hv Q fun v H2 H2' g2 => q v H2 H2' (g.trans g2)⟩⟩
/-! the built-ins -/
theorem cb_len : CbV X (.builtin "len") xs (.int xs.length) := ⟨_, call_len_seq, fun a vs H0 H hs hp ha Q q => ⟨a, vs, rfl, .inl (SqL.of hp), by rw [ha.length]; exact q _ H0 H (Gr.refl hs) (.int _)⟩⟩
theorem ca_lenT : CaV X (.builtin "len") [.tuple xs] (.int xs.length) := ⟨_, call_len_seq, fun vs H0 H hs ha Q q => by
  cases ha with
  | cons h t =>
    cases t
    obtain ⟨a, vs, rfl, h1, h2⟩ := dq_tup h
    exact ⟨a, vs, rfl, .inr (SqT.of (hs _ _ h1)), by rw [h2.length]; exact q _ H0 H (Gr.refl hs) (.int _)⟩⟩
theorem ca_lenL : CaV X (.builtin "len") [.list xs] (.int xs.length) := ⟨_, call_len_seq, fun vs H0 H hs ha Q q => by
  cases ha with
  | cons h t =>
    cases t
    obtain ⟨a, vs, rfl, h1, h2⟩ := dq_lst h
    exact ⟨a, vs, rfl, .inl (SqL.of (hs _ _ h1)), by rw [h2.length]; exact q _ H0 H (Gr.refl hs) (.int _)⟩⟩
theorem ca_lenS {ns : List Int} : CaV X (.builtin "len") [scrD ns] (.int ns.length) := ⟨_, call_len_seq, fun vs H0 H hs ha Q q => by
  cases ha with
  | cons h t =>
    cases t
    obtain ⟨a, rfl, h1⟩ := dq_scr h
    exact ⟨a, _, rfl, .inl (hs.seq h1), by rw [List.length_map]; exact q _ H0 H (Gr.refl hs) (.int _)⟩⟩
theorem cb_sum (hc : X.calm = true) {ns : List Int} : CbV X (.builtin "sum") (ns.map .int) (.int ns.sum) := ⟨_, cr_sum hc, fun a vs H0 H hs hp ha Q q => by
  rw [dqa_ints ha] at hp
  exact ⟨a, ns, rfl, SqL.of hp, q _ H0 H (Gr.refl hs) (.int _)⟩⟩
theorem cb_list : CbF X (.type "list") xs xs := ⟨_, call_list_of, fun a vs H0 H hs hp ha Q q => ⟨a, vs, rfl, .inl (SqL.of hp), fun l hl => q l vs H0 _ (Gr.own hs hl) hl (hs.free hl) upd_same ha⟩⟩
theorem ca_listT : CaF X (.type "list") [.tuple xs] xs := ⟨_, call_list_of, fun vs H0 H hs ha Q q => by
  cases ha with
  | cons h t =>
    cases t
    obtain ⟨a, vs, rfl, h1, h2⟩ := dq_tup h
    exact ⟨a, vs, rfl, .inr (SqT.of (hs _ _ h1)), fun l hl => q l vs H0 _ (Gr.own hs hl) hl (hs.free hl) upd_same h2⟩⟩
theorem cb_tuple : CbV X (.type "tuple") xs (.tuple xs) := ⟨_, call_tuple_of, fun a vs H0 H hs hp ha Q q => ⟨a, vs, rfl, .inl ⟨SqL.of hp, fun l hl => q _ _ _ (Gr.new hs hl) (.tup upd_same (ha.mono (same_new (hs.free hl))))⟩⟩⟩
theorem ca_max {i j : Int} (hc : X.calm = true) : CaV X (.builtin "max") [.int i, .int j] (.int (if j > i then j else i)) := ⟨_, call_max2 hc, fun vs H0 H hs ha Q q => by
  cases ha with
  | cons h t =>
    cases t with
    | cons h' t =>
      cases t
      rw [dq_int h, dq_int h']
      exact ⟨i, j, rfl, q _ H0 H (Gr.refl hs) (.int _)⟩⟩
theorem ca_min {i j : Int} (hc : X.calm = true) : CaV X (.builtin "min") [.int i, .int j] (.int (if j < i then j else i)) := ⟨_, call_min2 hc, fun vs H0 H hs ha Q q => by
  cases ha with
  | cons h t =>
    cases t with
    | cons h' t =>
      cases t
      rw [dq_int h, dq_int h']
      exact ⟨i, j, rfl, q _ H0 H (Gr.refl hs) (.int _)⟩⟩
theorem ca_intB {k : Bool} : CaV X (.type "int") [.bool k] (.int (if k then 1 else 0)) := ⟨_, call_int1, fun vs H0 H hs ha Q q => by
  cases ha with
  | cons h t =>
    cases t
    rw [dq_bl h]
    exact .inr ⟨k, rfl, q _ H0 H (Gr.refl hs) (.int _)⟩⟩
/-- sorted(ints): the rising one of the same -/
def sortI (ns : List Int) : List Int := ns.mergeSort (fun a b => decide (a ≤ b))
theorem sortI_perm (ns : List Int) : (sortI ns).Perm ns := List.mergeSort_perm ns _
theorem sortI_rises (ns : List Int) : (sortI ns).Pairwise (· ≤ ·) := by
  have h := List.pairwise_mergeSort (le := fun a b : Int => decide (a ≤ b)) (fun a b c h1 h2 => by simp at *; omega) (fun a b => by simp; omega) ns
  exact h.imp fun h => by simpa using h
theorem rising_unique : ∀ {a b : List Int}, a.Pairwise (· ≤ ·) → b.Pairwise (· ≤ ·) → a.Perm b → a = b
  | [], b, _, _, p => (List.nil_perm.mp p).symm ▸ rfl
  | x :: a, [], _, _, p => by have := p.length_eq; simp at this
  | x :: a, y :: b, h1, h2, p => by
    rw [List.pairwise_cons] at h1 h2
    have e : x = y := by
      have m1 : x ∈ y :: b := p.mem_iff.mp List.mem_cons_self
      have m2 : y ∈ x :: a := p.mem_iff.mpr List.mem_cons_self
      rcases List.mem_cons.mp m1 with q | q
      · exact q
      · rcases List.mem_cons.mp m2 with r | r
        · exact r.symm
        · have := h1.1 y r; have := h2.1 x q; omega
    subst e
    rw [rising_unique h1.2 h2.2 ((List.perm_cons x).mp p)]
theorem sortI_of {a b : List Int} (h : a.Pairwise (· ≤ ·)) (p : a.Perm b) : a = sortI b := rising_unique h (sortI_rises b) (p.trans (sortI_perm b).symm)
theorem cb_sorted {ns : List Int} : CbF X (.builtin "sorted") (ns.map .int) ((sortI ns).map .int) := ⟨_, cr_sortedI, fun a vs H0 H hs hp ha Q q => by
  rw [dqa_ints ha] at hp
  refine ⟨a, ns, rfl, SqL.of hp, fun ns' p perm rises hn => ?_⟩
  rw [sortI_of rises perm]
  exact q p _ H0 _ (Gr.own hs hn) hn (hs.free hn) upd_same (ints_dqa _)⟩
/-! isinstance -/
def tyD : PyData → String
  | .none => "NoneType" | .bool _ => "bool" | .int _ => "int" | .str _ => "str" | .list _ => "list" | .tuple _ => "tuple" | .dict _ => "list"
theorem sqL_ty {K : PySem.W.Frag} {H : Hp} {a : Addr} {vs : List V} (h : SqL K H a vs) : TyX K H (.ref a) (.type "list") := by
  rcases h with (h | ⟨o, h⟩) | ⟨o, its, n, h1, h2, _⟩
  · exact .base (.lst h)
  · exact .base (.frz h)
  · exact .kList h1 h2
theorem dq_ty {K : PySem.W.Frag} {H : Hp} {v : V} {d : PyData} (h : Dq K H v d) : TyX K H v (.type (tyD d)) := by
  cases h with
  | non => exact .base .non
  | bl b => exact .base (.bl b)
  | int i => exact .base (.int i)
  | str x => exact .base (.str x)
  | lst h a => exact .base (.lst h)
  | tup h a => exact .base (.tup h)
  | scr h _ => exact sqL_ty h
def isD (d : PyData) (t : String) : Bool := match t with
  | "int" => (match d with | .int _ => true | .bool _ => true | _ => false)
  | "bool" => (match d with | .bool _ => true | _ => false)
  | "tuple" => (match d with | .tuple _ => true | _ => false)
  | "str" => (match d with | .str _ => true | _ => false)
  | _ => false
theorem kit_isD {K : PySem.W.Frag} (d : PyData) (t : String) (ht : t = "int" ∨ t = "bool" ∨ t = "tuple" ∨ t = "str") : PySem.W.kitOne K (.type (tyD d)) (.type t) = some (isD d t) := by
  refine kit_ty ?_
  rcases ht with rfl | rfl | rfl | rfl <;> cases d <;> (simp only [tyD, isD]; decide +kernel)
theorem evv_isi {c : Expr} {t : String} (hm : X.mg "isinstance" = none) (he : EvV X env e d) (hc : PE X c (tC (.ty t))) (ht : t = "int" ∨ t = "bool" ∨ t = "tuple" ∨ t = "str") (hg : Gl X "isinstance" := by rfl)
    (hs : starEach [e, c] X.env = (false, eval e X.env) :: starEach [c] X.env := by rfl) (hs2 : starEach [c] X.env = (false, eval c X.env) :: starEach [] X.env := by rfl) (hpl : (backTo pos (starEach [c] X.env)).any (·.1) = false := by rfl) :
    EvV X env (.Call (.Name "isinstance" p) [e, c] [] pos) (.bool (isD d t)) := ⟨fun Hf Hb σ H0 H k Q q =>
  ⟨_, pe_callB call_isi hg hm (by decide +kernel) (pa_cons uE (pa_cons hc pa_nil hs2) hs) (by decide) (by decide) hs hpl, he.run Hf Hb σ H0 H k _ fun v H1 H1' g hv =>
    ⟨v, .ty t, _, _, _, rfl, .ty t, dq_ty (hv.mono g.i), kit_isD d t ht, q _ H1 H1' g (.bl _)⟩⟩⟩
theorem pe_tyName {x : Str} {t : String} (hm : X.mg x = none) (hv : bootBuiltins x = some (.type t) := by decide +kernel) (hg : Gl X x := by rfl) (hn : x ≠ "__name__" := by decide) (hd : (x == ("__debug__" : Str)) = false := by decide) : PE X (.Name x pos) (tC (.ty t)) :=
  pe_bltn hg hm hv rfl hn hd
/-! ### subscripts -/
theorem atI_all {K : PySem.W.Frag} {H : Hp} {vs : List V} {ds : List PyData} {i : Int} {d : PyData} (ha : DqAll K H vs ds) (h : atI ds i = some d) : ∃ v, atI vs i = some v ∧ Dq K H v d := by
  unfold atI at h ⊢
  rw [ha.length]
  cases q : ixN ds.length i with
  | none => rw [q] at h; cases h
  | some j =>
    rw [q] at h
    exact ha.get h
theorem evv_ixT {i : Int} (ha : EvV X env a (.tuple xs)) (hb : EvV X env b (.int i)) (h : atI xs i = some d) (hs : PlainIx b := by exact fun _ _ => rfl) : EvV X env (.Subscript a b pos) d := ⟨fun Hf Hb σ H0 H k Q q =>
  ⟨_, pe_ix ix_tup uE uE hs, two ha hb k fun x y H1 H1' g d1 d2 => by
    obtain ⟨p, vs, rfl, h1, h2⟩ := dq_tup d1
    obtain ⟨v, h3, h4⟩ := atI_all h2 h
    rw [dq_int d2]
    exact ⟨p, vs, i, v, rfl, rfl, SqT.of (g.i _ _ h1), h3, q v H1 H1' g h4⟩⟩⟩
theorem evv_ixL {i : Int} (ha : EvV X env a (.list xs)) (hb : EvV X env b (.int i)) (h : atI xs i = some d) (hs : PlainIx b := by exact fun _ _ => rfl) : EvV X env (.Subscript a b pos) d := ⟨fun Hf Hb σ H0 H k Q q =>
  ⟨_, pe_ix ix_list uE uE hs, two ha hb k fun x y H1 H1' g d1 d2 => by
    obtain ⟨p, vs, rfl, h1, h2⟩ := dq_lst d1
    obtain ⟨v, h3, h4⟩ := atI_all h2 h
    rw [dq_int d2]
    exact ⟨p, vs, i, v, rfl, rfl, SqL.of (g.i _ _ h1), h3, q v H1 H1' g h4⟩⟩⟩
theorem evv_ixB {i : Int} (ha : EvB X env a xs) (hb : EvV X env b (.int i)) (h : atI xs i = some d) (hs : PlainIx b := by exact fun _ _ => rfl) : EvV X env (.Subscript a b pos) d := ⟨fun Hf Hb σ H0 H k Q q =>
  ⟨_, pe_ix ix_list uE uE hs, ha.run Hf Hb σ H0 H k _ fun p vs H1 H1' g hp hv => hb.run Hf Hb σ H1 H1' (k.gro g) _ fun y H2 H2' g2 d2 => by
    obtain ⟨v, h3, h4⟩ := atI_all hv h
    rw [dq_int d2]
    exact ⟨p, vs, i, v, rfl, rfl, SqL.of (g2.b _ _ hp), h3, q v H2 H2' (g.trans g2) (h4.mono g2.f)⟩⟩⟩
theorem evv_ixS {i : Int} {ns : List Int} {n : Int} (ha : EvV X env a (scrD ns)) (hb : EvV X env b (.int i)) (h : atI ns i = some n) (hs : PlainIx b := by exact fun _ _ => rfl) : EvV X env (.Subscript a b pos) (.int n) := ⟨fun Hf Hb σ H0 H k Q q =>
  ⟨_, pe_ix ix_list uE uE hs, two ha hb k fun x y H1 H1' g d1 d2 => by
    obtain ⟨p, rfl, h1⟩ := dq_scr d1
    rw [dq_int d2]
    refine ⟨p, _, i, .int n, rfl, rfl, g.i.seq h1, ?_, q _ H1 H1' g (.int n)⟩
    unfold atI at h ⊢
    rw [List.length_map]
    cases z : ixN ns.length i with
    | none => rw [z] at h; cases h
    | some j =>
      rw [z] at h
      show (ns.map V.int)[j]? = _
      rw [List.getElem?_map, show ns[j]? = some n from h]
      rfl⟩⟩
/-! ### slices -/
def wO (X : Cx) (e : Option Expr) : TO := fun σ H Q => ∃ t, PO X e t ∧ t σ H Q
theorem uO {X : Cx} {e : Option Expr} : PO X e (wO X e) := ⟨fun pins s σ H Q I ⟨_, p, h⟩ => p.run pins s σ H Q I h⟩
structure EvO (X : Cx) (env : List Sl) (e : Option Expr) (o : Option Int) : Prop where
  run : ∀ (Hf Hb : Hp) (σ : L2.St) (H0 H : Hp), Ok X.K Hf Hb env σ H0 H → ∀ Q : Option Int → Hp → Prop, (∀ H0' H', Gr H0 H H0' H' → Q o H') → wO X e σ H Q
theorem evo_none : EvO X env none none := ⟨fun Hf Hb σ H0 H k Q q => ⟨_, po_none, q H0 H (Gr.refl k.gr.i)⟩⟩
theorem evo_some {i : Int} (h : EvV X env e (.int i)) : EvO X env (some e) (some i) := ⟨fun Hf Hb σ H0 H k Q q => ⟨_, po_some uE, h.run Hf Hb σ H0 H k _ fun v H1 H1' g hv => ⟨i, dq_int hv, q H1 H1' g⟩⟩⟩
def cutD {α : Type} (xs : List α) (lo hi : Option Int) : List α := (xs.drop (HT.sIx xs.length 0 lo)).take (HT.sIx xs.length xs.length hi - HT.sIx xs.length 0 lo)
theorem cut_all {K : PySem.W.Frag} {H : Hp} {vs : List V} {ds : List PyData} (ha : DqAll K H vs ds) (lo hi : Option Int) : DqAll K H (cutV vs lo hi) (cutD ds lo hi) := by
  unfold cutV cutD
  rw [ha.length]
  exact (ha.drop _).take _
theorem cutV_whole {α : Type} {vs : List α} {lo hi : Option Int} (h : HT.sIx vs.length 0 lo = 0 ∧ HT.sIx vs.length vs.length hi = vs.length) : cutD vs lo hi = vs := by
  unfold cutD
  rw [h.1, h.2]; simp
section
variable {lo hi : Option Expr} {l u : Option Int} {p2 : Pos}
theorem evv_slT (ha : EvV X env a (.tuple xs)) (hl : EvO X env lo l) (hu : EvO X env hi u) : EvV X env (.Subscript a (.Slice lo hi none p2) pos) (.tuple (cutD xs l u)) := ⟨fun Hf Hb σ H0 H k Q q =>
  ⟨_, pe_slice sl_tupA uE uO uO, ha.run Hf Hb σ H0 H k _ fun x H1 H1' g1 d1 => hl.run Hf Hb σ H1 H1' (k.gro g1) _ fun H2 H2' g2 => hu.run Hf Hb σ H2 H2' (k.gro (g1.trans g2)) _ fun H3 H3' g3 => by
    obtain ⟨p, vs, rfl, h1, h2⟩ := dq_tup (d1.mono (g2.f.trans g3.f))
    have G := (g1.trans g2).trans g3
    refine ⟨p, vs, rfl, SqT.of (G.i _ _ h1), fun hw => ?_, fun hw r hr => ?_⟩
    · rw [h2.length] at hw
      rw [cutV_whole hw] at q
      exact q _ H3 H3' G (.tup h1 h2)
    · exact q _ _ _ (G.trans (Gr.new G.i hr)) (.tup upd_same ((cut_all h2 l u).mono (same_new (G.i.free hr))))⟩⟩
theorem evf_slL (ha : EvB X env a xs) (hl : EvO X env lo l) (hu : EvO X env hi u) : EvF X env (.Subscript a (.Slice lo hi none p2) pos) (cutD xs l u) := ⟨fun Hf Hb σ H0 H k Q q =>
  ⟨_, pe_slice sl_list uE uO uO, ha.run Hf Hb σ H0 H k _ fun p vs H1 H1' g1 hp ha => hl.run Hf Hb σ H1 H1' (k.gro g1) _ fun H2 H2' g2 => hu.run Hf Hb σ H2 H2' (k.gro (g1.trans g2)) _ fun H3 H3' g3 => by
    have G := (g1.trans g2).trans g3
    exact ⟨p, vs, rfl, SqL.of (g3.b _ _ (g2.b _ _ hp)), fun r hr => q r _ H3 _ (G.trans (Gr.own G.i hr)) (G.b.free hr) (G.i.free hr) upd_same (cut_all (ha.mono (g2.f.trans g3.f)) l u)⟩⟩⟩
end
/-! ### sums of sequences -/
theorem ov_catT (hz : xs.length + ys.length ≤ sizeLine) : OpV X (binaryOp .Add) (.tuple xs) (.tuple ys) (.tuple (xs ++ ys)) := ⟨_, op_catA, fun x y H0 H hs hx hy Q q => by
  obtain ⟨p, vs, rfl, h1, h2⟩ := dq_tup hx
  obtain ⟨r, ws, rfl, h3, h4⟩ := dq_tup hy
  refine ⟨p, r, vs, ws, rfl, rfl, SqT.of (hs _ _ h1), SqT.of (hs _ _ h3), by rw [h2.length, h4.length]; exact hz, fun e => ?_, fun _ e => ?_, fun _ _ t ht => ?_⟩
  · subst e; cases h2; exact q _ H0 H (Gr.refl hs) (.tup h3 h4)
  · subst e; cases h4; rw [List.append_nil] at q; exact q _ H0 H (Gr.refl hs) (.tup h1 h2)
  · exact q _ _ _ (Gr.new hs ht) (.tup upd_same ((h2.append h4).mono (same_new (hs.free ht))))⟩
theorem of_cat (hz : xs.length + ys.length ≤ sizeLine) : OpF X (binaryOp .Add) (.list xs) (.list ys) (xs ++ ys) := ⟨_, op_cat, fun x y H0 H hs hx hy Q q => by
  obtain ⟨p, vs, rfl, h1, h2⟩ := dq_lst hx
  obtain ⟨r, ws, rfl, h3, h4⟩ := dq_lst hy
  exact ⟨p, r, vs, ws, rfl, rfl, hs _ _ h1, hs _ _ h3, by rw [h2.length, h4.length]; exact hz, fun t ht => q t _ H0 _ (Gr.own hs ht) ht (hs.free ht) upd_same (h2.append h4)⟩⟩
theorem of_rep {n : Int} (h1 : -(2 ^ 63) ≤ n) (h2 : n < 2 ^ 63) (hz : xs.length * n.toNat ≤ sizeLine) : OpF X (binaryOp .Mult) (.list xs) (.int n) (List.replicate n.toNat xs).flatten := ⟨_, op_rep, fun x y H0 H hs hx hy Q q => by
  obtain ⟨p, vs, rfl, h3, h4⟩ := dq_lst hx
  rw [dq_int hy]
  exact ⟨p, n, vs, rfl, rfl, hs _ _ h3, h1, h2, by rw [h4.length]; exact hz, fun t ht => q t _ H0 _ (Gr.own hs ht) ht (hs.free ht) upd_same (h4.flat n.toNat)⟩⟩
end
end Rk

namespace Rk
open PySem PySem.Spec PyProof.Rows L2
/-! ### what is walked -/
def WkD {α : Type} (K : PySem.W.Frag) (J : It) (ι : α → PyData) (ys : List α) (H0 : Hp) : Prop := ∀ H0' H', Same H0 H0' → Same H0' H' →
  (∀ i, i < ys.length → J.go i H') ∧ J.stop ys.length H' ∧ ∀ i x H3 y, ys[i]? = some y → J.yld i H' x H3 → ∃ H0'', Gr H0' H' H0'' H3 ∧ Dq K H0'' x (ι y)
structure EvI {α : Type} (X : Cx) (env : List Sl) (tg it : Expr) (ι : α → PyData) (ys : List α) : Prop where
  run : ∀ (Hf Hb : Hp) (σ : L2.St) (H0 H : Hp), Ok X.K Hf Hb env σ H0 H → ∀ R : It → Hp → Prop, (∀ J H0' H', Gr H0 H H0' H' → WkD X.K J ι ys H0' → R J H') → wI X tg it σ H R
theorem wkd_at {α : Type} {K : PySem.W.Frag} {J : It} {ι : α → PyData} {ys : List α} {H0 : Hp} {vs : List V} {G : Hp → Prop} (w : Walk J vs.length G (YAt vs)) (hG : ∀ H, Same H0 H → G H) (ha : DqAll K H0 vs (ys.map ι)) : WkD K J ι ys H0 := fun H0' H' s0 s1 => by
  have hl : vs.length = ys.length := by rw [ha.length, List.length_map]
  rw [← hl]
  refine ⟨fun i hi => w.goes i H' hi (hG _ (s0.trans s1)), w.stops H' (hG _ (s0.trans s1)), fun i x H3 y hy yl => ?_⟩
  have hi : i < vs.length := by
    rw [hl]
    exact (List.getElem?_eq_some_iff.mp hy).1
  obtain ⟨rfl, hx⟩ := w.yields i H' x H3 hi (hG _ (s0.trans s1)) yl
  obtain ⟨v, h1, h2⟩ := ha.get (i := i) (d := ι y) (by rw [List.getElem?_map, hy]; rfl)
  rw [hx] at h1; cases h1
  exact ⟨H0', Gr.refl s1, h2.mono s0⟩
def rgI (lo hi : Int) : List Int := (List.range (hi - lo).toNat).map fun i => lo + (i : Nat)
theorem rgI_len (lo hi : Int) : (rgI lo hi).length = (hi - lo).toNat := by unfold rgI; simp
theorem rgI_get {lo hi : Int} {i : Nat} {y : Int} (h : (rgI lo hi)[i]? = some y) : y = lo + i ∧ i < (hi - lo).toNat := by
  unfold rgI at h
  rw [List.getElem?_map] at h
  by_cases q : i < (hi - lo).toNat
  · rw [List.getElem?_range q] at h
    simp at h
    exact ⟨h.symm, q⟩
  · rw [List.getElem?_eq_none (by simpa using q)] at h
    cases h
theorem mem_rgI {lo hi y : Int} : y ∈ rgI lo hi ↔ lo ≤ y ∧ y < hi := by
  unfold rgI
  simp only [List.mem_map, List.mem_range]
  constructor
  · rintro ⟨i, h1, h2⟩; omega
  · rintro ⟨h1, h2⟩; exact ⟨(y - lo).toNat, by omega, by omega⟩
section
variable {X : Cx} {env : List Sl} {e a b tg : Expr} {es : List Expr} {d da db : PyData} {ds xs ys : List PyData} {pos p : Pos} {x : Str} {id T : String}
theorem evi_list {α : Type} {ι : α → PyData} {ys : List α} (h : EvV X env e (.list (ys.map ι))) : EvI X env tg e ι ys := ⟨fun Hf Hb σ H0 H k R q =>
  ⟨_, pi_list uE, h.run Hf Hb σ H0 H k _ fun v H1 H1' g hv => by
    obtain ⟨a, vs, rfl, h1, h2⟩ := dq_lst hv
    exact ⟨a, rfl, ⟨vs, SqL.of (g.i _ _ h1)⟩, q _ H1 H1' g (wkd_at walk_list (fun H s => SqL.of (s _ _ h1)) h2)⟩⟩⟩
theorem evi_tup {α : Type} {ι : α → PyData} {ys : List α} (h : EvV X env e (.tuple (ys.map ι))) : EvI X env tg e ι ys := ⟨fun Hf Hb σ H0 H k R q =>
  ⟨_, pi_tup uE, h.run Hf Hb σ H0 H k _ fun v H1 H1' g hv => by
    obtain ⟨a, vs, rfl, h1, h2⟩ := dq_tup hv
    exact ⟨a, rfl, ⟨vs, SqT.of (g.i _ _ h1)⟩, q _ H1 H1' g (wkd_at walk_tup (fun H s => SqT.of (s _ _ h1)) h2)⟩⟩⟩
theorem wkd_rg {K : PySem.W.Frag} {lo hi : Int} {H0 : Hp} : WkD K (Itr lo (hi - lo).toNat) PyData.int (rgI lo hi) H0 := fun H0' H' s0 s1 => by
  rw [rgI_len]
  refine ⟨fun i hi => hi, Nat.le_refl _, fun i x H3 y hy yl => ?_⟩
  obtain ⟨h1, h2⟩ := rgI_get hy
  obtain ⟨rfl, rfl⟩ := yl
  subst h1
  exact ⟨H0', Gr.refl s1, .int _⟩
theorem evi_rg1 {n : Int} (hm : X.mg "range" = none) (h : EvV X env e (.int n)) (h1 : -(2 ^ 62) ≤ n) (h2 : n < 2 ^ 62) (hg : Gl X "range" := by rfl) (hs : starEach [e] X.env = [(false, eval e X.env)] := by rfl) : EvI X env tg (.Call (.Name "range" p) [e] [] pos) PyData.int (rgI 0 n) := ⟨fun Hf Hb σ H0 H k R q =>
  ⟨_, pi_range1 hg hm (pa_cons uE pa_nil hs) hs, h.run Hf Hb σ H0 H k _ fun v H1 H1' g hv => by
    rw [dq_int hv]
    refine ⟨n, rfl, h1, h2, q _ H1 H1' g ?_⟩
    have := wkd_rg (K := X.K) (lo := 0) (hi := n) (H0 := H1)
    rwa [Int.sub_zero] at this⟩⟩
theorem evi_rg2 {lo hi : Int} (hm : X.mg "range" = none) (ha : EvV X env a (.int lo)) (hb : EvV X env b (.int hi)) (h : -(2 ^ 62) ≤ lo ∧ lo < 2 ^ 62 ∧ -(2 ^ 62) ≤ hi ∧ hi < 2 ^ 62) (hg : Gl X "range" := by rfl)
    (hs : starEach [a, b] X.env = [(false, eval a X.env), (false, eval b X.env)] := by rfl) (hs2 : starEach [b] X.env = [(false, eval b X.env)] := by rfl) : EvI X env tg (.Call (.Name "range" p) [a, b] [] pos) PyData.int (rgI lo hi) := ⟨fun Hf Hb σ H0 H k R q =>
  ⟨_, pi_range2 hg hm (pa_cons uE (pa_cons uE pa_nil hs2) (by rw [hs, hs2])) hs hs2, two ha hb k fun x y H1 H1' g d1 d2 => by
    rw [dq_int d1, dq_int d2]
    exact ⟨lo, hi, rfl, h, q _ H1 H1' g wkd_rg⟩⟩⟩
theorem wkd_pair {α β : Type} {K : PySem.W.Frag} {J : It} {ι : α → PyData} {κ : β → PyData} {ys : List α} {zs : List β} {H0 : Hp} {f1 f2 : Nat → Option V} {n : Nat} {G : Hp → Prop} (w : Walk J n G (YPair f1 f2)) (hG : ∀ H, Same H0 H → G H) (hn : n = (ys.zip zs).length)
    (h1 : ∀ i y v, ys[i]? = some y → f1 i = some v → Dq K H0 v (ι y)) (h2 : ∀ i y v, zs[i]? = some y → f2 i = some v → Dq K H0 v (κ y)) : WkD K J (fun p : α × β => .tuple [ι p.1, κ p.2]) (ys.zip zs) H0 := fun H0' H' s0 s1 => by
  rw [← hn]
  refine ⟨fun i hi => w.goes i H' hi (hG _ (s0.trans s1)), w.stops H' (hG _ (s0.trans s1)), fun i x H3 y hy yl => ?_⟩
  have hi : i < n := by rw [hn]; exact (List.getElem?_eq_some_iff.mp hy).1
  obtain ⟨T, u, v, rfl, hT, rfl, e1, e2⟩ := w.yields i H' x H3 hi (hG _ (s0.trans s1)) yl
  obtain ⟨y1, y2⟩ := y
  obtain ⟨z1, z2⟩ := List.getElem?_zip_eq_some.mp hy
  refine ⟨upd H0' T (.tup [u, v]), Gr.new s1 hT, .tup upd_same (.cons ?_ (.cons ?_ .nil))⟩
  · exact ((h1 i y1 u z1 e1).mono s0).mono (same_new (s1.free hT))
  · exact ((h2 i y2 v z2 e2).mono s0).mono (same_new (s1.free hT))
theorem dqa_of_get {α : Type} {K : PySem.W.Frag} {H : Hp} {ι : α → PyData} {vs : List V} {ys : List α} (ha : DqAll K H vs (ys.map ι)) {i : Nat} {y : α} {v : V} (h1 : ys[i]? = some y) (h2 : vs[i]? = some v) : Dq K H v (ι y) := by
  obtain ⟨v', e1, e2⟩ := ha.get (i := i) (d := ι y) (by rw [List.getElem?_map, h1]; rfl)
  rw [h2] at e1; cases e1; exact e2
theorem walk_zipT {K : PySem.W.Frag} {a b : Addr} {xs ys : List V} {n : Nat} (hn : n = min xs.length ys.length) : Walk (RZ.ItzT K a b) n (fun H => SqT K H a xs ∧ SqT K H b ys) (YPair (fun i => xs[i]?) (fun i => ys[i]?)) := by
  subst hn
  refine ⟨fun i _ hi q => ?_, fun _ q => ⟨xs, ys, q.1, q.2, by omega⟩, fun i H v H' _ q y => ?_⟩
  · have h1 : i < xs.length := by omega
    have h2 : i < ys.length := by omega
    exact ⟨xs, ys, xs[i], ys[i], q.1, q.2, by simp [h1], by simp [h2]⟩
  · obtain ⟨T, x, z, h1, h2, h3, h4, h5⟩ := y
    exact ⟨T, x, z, h1, h2, h3, h4 xs q.1, h5 ys q.2⟩
/-- zip of two tuples -/
theorem evi_zipT {α β : Type} {ι : α → PyData} {κ : β → PyData} {ys : List α} {zs : List β} {elts : List Expr} {kk : Nat} {tpos : Pos} (hm : X.mg "zip" = none) (ha : EvV X env a (.tuple (ys.map ι))) (hb : EvV X env b (.tuple (zs.map κ))) (hg : Gl X "zip" := by rfl)
    (hs : starEach [a, b] X.env = (false, eval a X.env) :: starEach [b] X.env := by rfl) (hs2 : starEach [b] X.env = (false, eval b X.env) :: starEach [] X.env := by rfl) (hpl : (backTo pos (starEach [b] X.env)).any (·.1) = false := by rfl) :
    EvI X env (.Tuple elts kk tpos) (.Call (.Name "zip" p) [a, b] [] pos) (fun p : α × β => .tuple [ι p.1, κ p.2]) (ys.zip zs) := ⟨fun Hf Hb σ H0 H k R q =>
  ⟨_, RZ.pi_zipA hg hm (pa_cons uE (pa_cons uE pa_nil hs2) hs) hs hpl, two ha hb k fun x y H1 H1' g d1 d2 => by
    obtain ⟨p1, vs, rfl, h1, h2⟩ := dq_tup d1
    obtain ⟨p2, ws, rfl, h3, h4⟩ := dq_tup d2
    refine ⟨p1, p2, vs, ws, rfl, .inr ⟨SqT.of (g.i _ _ h1), SqT.of (g.i _ _ h3), q _ H1 H1' g ?_⟩⟩
    refine wkd_pair (walk_zipT rfl) (fun H s => ⟨SqT.of (s _ _ h1), SqT.of (s _ _ h3)⟩) ?_ (fun i y v e1 e2 => dqa_of_get h2 e1 e2) (fun i y v e1 e2 => dqa_of_get h4 e1 e2)
    rw [h2.length, h4.length, List.length_zip]; simp⟩⟩
theorem evi_zipL {α β : Type} {ι : α → PyData} {κ : β → PyData} {ys : List α} {zs : List β} {elts : List Expr} {kk : Nat} {tpos : Pos} (hm : X.mg "zip" = none) (ha : EvV X env a (.list (ys.map ι))) (hb : EvV X env b (.list (zs.map κ))) (hg : Gl X "zip" := by rfl)
    (hs : starEach [a, b] X.env = (false, eval a X.env) :: starEach [b] X.env := by rfl) (hs2 : starEach [b] X.env = (false, eval b X.env) :: starEach [] X.env := by rfl) (hpl : (backTo pos (starEach [b] X.env)).any (·.1) = false := by rfl) :
    EvI X env (.Tuple elts kk tpos) (.Call (.Name "zip" p) [a, b] [] pos) (fun p : α × β => .tuple [ι p.1, κ p.2]) (ys.zip zs) := ⟨fun Hf Hb σ H0 H k R q =>
  ⟨_, RZ.pi_zipA hg hm (pa_cons uE (pa_cons uE pa_nil hs2) hs) hs hpl, two ha hb k fun x y H1 H1' g d1 d2 => by
    obtain ⟨p1, vs, rfl, h1, h2⟩ := dq_lst d1
    obtain ⟨p2, ws, rfl, h3, h4⟩ := dq_lst d2
    refine ⟨p1, p2, vs, ws, rfl, .inl ⟨SqL.of (g.i _ _ h1), SqL.of (g.i _ _ h3), q _ H1 H1' g ?_⟩⟩
    refine wkd_pair (walk_zip rfl) (fun H s => ⟨SqL.of (s _ _ h1), SqL.of (s _ _ h3)⟩) ?_ (fun i y v e1 e2 => dqa_of_get h2 e1 e2) (fun i y v e1 e2 => dqa_of_get h4 e1 e2)
    rw [h2.length, h4.length, List.length_zip]; simp⟩⟩
/-- enumerate of a list -/
theorem evi_enumL {α : Type} {ι : α → PyData} {ys : List α} {elts : List Expr} {kk : Nat} {tpos : Pos} (hm : X.mg "enumerate" = none) (ha : EvV X env a (.list (ys.map ι))) (hg : Gl X "enumerate" := by rfl) (hs : starEach [a] X.env = [(false, eval a X.env)] := by rfl) :
    EvI X env (.Tuple elts kk tpos) (.Call (.Name "enumerate" p) [a] [] pos) (fun p : Int × α => .tuple [.int p.1, ι p.2]) ((rgI 0 ys.length).zip ys) := ⟨fun Hf Hb σ H0 H k R q =>
  ⟨_, pi_enum hg hm (pa_cons uE pa_nil hs) hs, ha.run Hf Hb σ H0 H k _ fun v H1 H1' g hv => by
    obtain ⟨p1, vs, rfl, h1, h2⟩ := dq_lst hv
    refine ⟨p1, vs, rfl, SqL.of (g.i _ _ h1), q _ H1 H1' g ?_⟩
    refine wkd_pair walk_enum (fun H s => SqL.of (s _ _ h1)) ?_ (fun i y v e1 e2 => ?_) (fun i y v e1 e2 => dqa_of_get h2 e1 e2)
    · rw [h2.length, List.length_zip, rgI_len]; simp
    · obtain ⟨e3, _⟩ := rgI_get e1
      cases e2
      rw [e3]
      simp only [Int.zero_add]
      exact .int _⟩⟩
/-! ### targets -/
structure TgD (X : Cx) (env : List Sl) (tg : Expr) (d : PyData) (env' : List Sl) (is : List Nat) : Prop where
  run : ∀ (Hf Hb : Hp) (σ : L2.St) (H0 H : Hp) (v : V), Ok X.K Hf Hb env σ H0 H → Dq X.K H0 v d → ∀ Q : L2.St → Hp → Prop,
    (∀ σ', Ok X.K Hf Hb env' σ' H0 H → (∀ vs, (∀ i ∈ is, i ∈ vs) → wipe σ' vs = wipe σ vs) → Q σ' H) → wG X tg v σ H Q
theorem wipe_set {σ : L2.St} {i : Nat} {v : Option V} : ∀ {vs : List Nat}, i ∈ vs → wipe (σ.set i v) vs = wipe σ vs
  | j :: vs, h => by
    show (wipe (σ.set i v) vs).set j none = (wipe σ vs).set j none
    by_cases hv : i ∈ vs
    · rw [wipe_set hv]
    · have e : i = j := by
        rcases List.mem_cons.mp h with q | q
        · exact q
        · exact absurd q hv
      subst e
      have aux : ∀ (us : List Nat), i ∉ us → wipe (σ.set i v) us = (wipe σ us).set i v := by
        intro us
        induction us with
        | nil => intro _; rfl
        | cons u us ih =>
          intro hn
          show (wipe (σ.set i v) us).set u none = ((wipe σ us).set u none).set i v
          rw [ih (fun q => hn (List.mem_cons_of_mem _ q)), List.set_comm _ _ (fun q => hn (by rw [q]; exact List.mem_cons_self))]
      rw [aux vs hv, List.set_set]
theorem tg_name (i : Nat) (hN : X.N.Nodup) (hi : X.N[i]? = some x := by rfl) (hx : Loc X.env.scope x := by first | exact Or.inl rfl | exact Or.inr rfl) (hf : X.fn x = true ∨ X.env.scope.names.lookup x = some .local := by first | exact .inl rfl | exact .inr rfl) : TgD X env (.Name x pos) d (env.set i (.v d)) [i] :=
  ⟨fun Hf Hb σ H0 H v k hv Q q => ⟨_, pg_name hN hi hx hf, q _ (k.setv hv) fun vs h => wipe_set (h i (by simp))⟩⟩
theorem tg_tup2 (i j : Nat) {y : Str} {d1 d2 : PyData} {p1 p2 : Pos} {kk : Nat} (hN : X.N.Nodup) (hc : X.calm = true := by rfl) (hi : X.N[i]? = some x := by rfl) (hx : Loc X.env.scope x := by first | exact Or.inl rfl | exact Or.inr rfl) (hf : X.fn x = true ∨ X.env.scope.names.lookup x = some .local := by first | exact .inl rfl | exact .inr rfl)
    (hj : X.N[j]? = some y := by rfl) (hy : Loc X.env.scope y := by first | exact Or.inl rfl | exact Or.inr rfl) (hf2 : X.fn y = true ∨ X.env.scope.names.lookup y = some .local := by first | exact .inl rfl | exact .inr rfl) :
    TgD X env (.Tuple [.Name x p1, .Name y p2] kk pos) (.tuple [d1, d2]) ((env.set i (.v d1)).set j (.v d2)) [i, j] :=
  ⟨fun Hf Hb σ H0 H v k hv Q q => by
    obtain ⟨a, vs, rfl, h1, h2⟩ := dq_tup hv
    cases h2 with
    | cons h2 t =>
      cases t with
      | cons h3 t =>
        cases t
        refine ⟨_, pg_tup hc (pgs_cons (pg_name (i := i) hN hi hx hf) (pgs_cons (pg_name (i := j) hN hj hy hf2) pgs_nil)), ?_⟩
        refine ⟨a, _, rfl, SqT.of (k.gr.i _ _ h1), rfl, _, _, rfl, _, _, rfl, rfl, ?_⟩
        refine q _ ((k.setv h2).setv h3) fun vs h => ?_
        rw [wipe_set (h j (by simp)), wipe_set (h i (by simp))]⟩
/-! ### list comprehensions -/
theorem wipe_wipe (σ : L2.St) (vs : List Nat) : wipe (wipe σ vs) vs = wipe σ vs := by
  have aux : ∀ us, (∀ i ∈ us, i ∈ vs) → wipe (wipe σ us) vs = wipe σ vs := by
    intro us
    induction us with
    | nil => intro _; rfl
    | cons u us ih =>
      intro h
      show wipe ((wipe σ us).set u none) vs = wipe σ vs
      rw [wipe_set (h u List.mem_cons_self), ih fun i hi => h i (List.mem_cons_of_mem _ hi)]
  exact aux vs fun _ h => h
abbrev wiped (env : List Sl) (own : List (Str × Nat)) : List Sl := (own.map (·.2)).foldr (fun i e => e.set i .no) env
structure EvTs (X : Cx) (env : List Sl) (es : List Expr) (b : Bool) : Prop where
  run : ∀ (Hf Hb : Hp) (σ : L2.St) (H0 H : Hp), Ok X.K Hf Hb env σ H0 H → ∀ Q : Bool → Hp → Prop, (∀ H0' H', Gr H0 H H0' H' → Q b H') → ∃ t, PTs X es t ∧ t σ H Q
def wTs (X : Cx) (es : List Expr) : TT := fun σ H Q => ∃ t, PTs X es t ∧ t σ H Q
theorem uTs {X : Cx} {es : List Expr} : PTs X es (wTs X es) := ⟨fun pins s σ H Q I ⟨_, p, h⟩ => p.run pins s σ H Q I h⟩
theorem ts_nil : EvTs X env [] true := ⟨fun Hf Hb σ H0 H k Q q => ⟨_, pts_nil, q H0 H (Gr.refl k.gr.i)⟩⟩
theorem ts_one {c : Bool} (h : EvT X env e c) : EvTs X env [e] c := ⟨fun Hf Hb σ H0 H k Q q => ⟨_, pts_one uT, h.run Hf Hb σ H0 H k Q q⟩⟩
section
variable {α : Type} {ι : α → PyData} {zs : List α} {elt iter : Expr} {ifs : List Expr} {scope : Scope} {own : List (Str × Nat)} {envb : α → List Sl} {is : List Nat} {t : α → Bool} {g : α → PyData}
abbrev famG (X : Cx) (scope : Scope) (tg : Expr) : TG := fun v σ H Q => ∀ (s : Shared) (Hx : Hp) (C : Addr) (cl : List (Str × Addr)) (fp : List Addr), wG (X.blk s Hx scope (compEnvC scope cl C X.env) fp) tg v σ H Q
abbrev famT (X : Cx) (scope : Scope) (ifs : List Expr) : TT := fun σ H Q => ∀ (s : Shared) (Hx : Hp) (C : Addr) (cl : List (Str × Addr)) (fp : List Addr), wTs (X.blk s Hx scope (compEnvC scope cl C X.env) fp) ifs σ H Q
abbrev famE (X : Cx) (scope : Scope) (e : Expr) : TE := fun σ H Q => ∀ (s : Shared) (Hx : Hp) (C : Addr) (cl : List (Str × Addr)) (fp : List Addr), wE (X.blk s Hx scope (compEnvC scope cl C X.env) fp) e σ H Q
theorem comp_run (hi : EvI X env tg iter ι zs)
    (hg : ∀ s Hx C cl fp, ∀ y ∈ zs, TgD (X.blk s Hx scope (compEnvC scope cl C X.env) fp) (wiped env own) tg (ι y) (envb y) is) (his : ∀ i ∈ is, i ∈ own.map (·.2))
    (ht : ∀ s Hx C cl fp, ∀ y ∈ zs, EvTs (X.blk s Hx scope (compEnvC scope cl C X.env) fp) (envb y) ifs (t y))
    (he : ∀ s Hx C cl fp, ∀ y ∈ zs, t y = true → EvV (X.blk s Hx scope (compEnvC scope cl C X.env) fp) (envb y) elt (g y)) (hz : zs.length < sizeLine)
    {Hf Hb : Hp} {σ : L2.St} {H0 H : Hp} (k : Ok X.K Hf Hb env σ H0 H) {Q : VK} (q : ∀ p vs H0' H', Gr H0 H H0' H' → H p = none → H0' p = none → H' p = some (.lst vs) → DqAll X.K H0' vs ((zs.filter t).map g) → Q (.ref p) H') :
    tLc (wI X tg iter) (famG X scope tg) (famT X scope ifs) (famE X scope elt) (own.map (·.2)) σ H Q := by
  refine hi.run Hf Hb σ H0 H k _ fun J H1 H1' g1 wk D hD => ?_
  have n0 : H1 D = none := g1.i.free hD
  have nH : H D = none := g1.b.free hD
  have nHb : Hb D = none := k.gr.b.free nH
  -- the invariant
  refine ⟨fun i m Hc => m = zs.length - i ∧ i ≤ zs.length ∧ ∃ H0c acc, Gr H1 H1' H0c Hc ∧ H0c D = none ∧ Hc D = some (.lst acc) ∧ DqAll X.K H0c acc (((zs.take i).filter t).map g), ⟨zs.length, by simp, Nat.zero_le _, H1, [], Gr.own g1.i hD, n0, upd_same, .nil⟩, ?_⟩
  rintro i m Hc ⟨rfl, hi, H0c, acc, gc, nc, hc, hacc⟩
  obtain ⟨w1, w2, w3⟩ := wk H0c Hc gc.f gc.i
  by_cases hlt : i < zs.length
  · refine .inr ⟨w1 i hlt, fun H' => i + 1 ≤ zs.length ∧ ∃ H0c acc, Gr H1 H1' H0c H' ∧ H0c D = none ∧ H' D = some (.lst acc) ∧ DqAll X.K H0c acc (((zs.take (i + 1)).filter t).map g), fun H' ⟨h1, h2⟩ => ⟨zs.length - (i + 1), by omega, rfl, h1, h2⟩, fun x H3 yl => ?_⟩
    obtain ⟨y, hy⟩ : ∃ y, zs[i]? = some y := ⟨zs[i], List.getElem?_eq_getElem hlt⟩
    have my : y ∈ zs := List.mem_of_getElem? hy
    have et : zs.take (i + 1) = zs.take i ++ [y] := by rw [List.take_add_one, hy]; rfl
    obtain ⟨H03, g3, hx⟩ := w3 i x H3 y hy yl
    have k3 : Ok X.K Hf Hb (wiped env own) (wipe σ (own.map (·.2))) H03 H3 := (k.gro (g1.trans (gc.trans g3))).wipe _
    have keepD : ∀ {G0 G : Hp}, Gr H0c Hc G0 G → G D = some (.lst acc) ∧ G0 D = none := fun {G0 G} gg => ⟨gg.b _ _ hc, gg.lst hc nc⟩
    intro s Hx C cl fp
    refine (hg s Hx C cl fp y my).run Hf Hb _ H03 H3 x k3 hx _ fun σ2 k4 hw => ⟨?_, fun s Hx C cl fp => ?_⟩
    · rw [hw _ his, wipe_wipe]
    · refine (ht s Hx C cl fp y my).run Hf Hb σ2 H03 H3 k4 _ fun H04 H4 g4 => ?_
      have g34 := g3.trans g4
      cases hb : t y with
      | true =>
        rw [if_pos rfl]
        intro s Hx C cl fp
        refine (he s Hx C cl fp y my hb).run Hf Hb σ2 H04 H4 (k4.gro g4) _ fun v H05 H5 g5 hv => ?_
        have g35 := g34.trans g5
        obtain ⟨d1, d2⟩ := keepD g35
        refine ⟨acc, d1, ?_, hlt, H05, acc ++ [v], ?_, d2, upd_same, ?_⟩
        · rw [hacc.length, List.length_map]
          exact Nat.lt_of_le_of_lt (Nat.le_trans (List.length_filter_le _ _) (by rw [List.length_take]; omega)) hz
        · have G := gc.trans g35
          exact ⟨G.f, fun a o h => by rw [upd_ne (ne_of_none h hD)]; exact G.b _ _ h, fun a o h => by rw [upd_ne (ne_of_none h d2)]; exact G.i _ _ h, G.n⟩
        · rw [et, List.filter_append, List.map_append]
          refine (hacc.mono g35.f).append ?_
          simp only [List.filter_cons, hb, List.filter_nil, if_true, List.map_cons, List.map_nil]
          exact .cons hv .nil
      | false =>
        rw [if_neg (by decide)]
        obtain ⟨d1, d2⟩ := keepD g34
        refine ⟨hlt, H04, acc, gc.trans g34, d2, d1, ?_⟩
        rw [et, List.filter_append]
        simp only [List.filter_cons, hb, List.filter_nil, Bool.false_eq_true, if_false, List.append_nil]
        exact hacc.mono g34.f
  · have e : i = zs.length := by omega
    subst e
    rw [List.take_length] at hacc
    exact .inl ⟨w2, q D acc H0c Hc (g1.trans gc) nH nc hc hacc⟩
theorem evf_comp (hN : X.N.Nodup) (ok : BlkOk X.N X.env.scope scope own) (hi : EvI X env tg iter ι zs)
    (hg : ∀ s Hx C cl fp, ∀ y ∈ zs, TgD (X.blk s Hx scope (compEnvC scope cl C X.env) fp) (wiped env own) tg (ι y) (envb y) is)
    (ht : ∀ s Hx C cl fp, ∀ y ∈ zs, EvTs (X.blk s Hx scope (compEnvC scope cl C X.env) fp) (envb y) ifs (t y))
    (he : ∀ s Hx C cl fp, ∀ y ∈ zs, t y = true → EvV (X.blk s Hx scope (compEnvC scope cl C X.env) fp) (envb y) elt (g y)) (hz : zs.length < sizeLine)
    (his : ∀ i ∈ is, i ∈ own.map (·.2) := by decide) (hc : X.calm = true := by rfl) (hs : ∀ x, foldedSetIterable iter X.env x = pure x := by intro _; rfl) :
    EvF X env (.ListComp elt [⟨tg, iter, ifs, 0⟩] scope pos) ((zs.filter t).map g) := ⟨fun Hf Hb σ H0 H k Q q =>
  ⟨_, pe_lc (own := own) (wi := wI X tg iter) (g := famG X scope tg) (tt := famT X scope ifs) (te := famE X scope elt) hc hN uI ok
    (fun s H C cl fp => ⟨fun pins s' σ H' v u Q I r h => uG.run pins s' σ H' v u Q I r (h s H C cl fp)⟩)
    (fun s H C cl fp => ⟨fun pins s' σ H' Q I h => uTs.run pins s' σ H' Q I (h s H C cl fp)⟩)
    (fun s H C cl fp => ⟨fun pins s' σ H' Q I h => uE.run pins s' σ H' Q I (h s H C cl fp)⟩) hs, comp_run hi hg his ht he hz k q⟩⟩
end
end
end Rk

namespace Rk
open PySem PySem.Spec PyProof.Rows L2
/-! ### a def by its specification: arguments and result -/
inductive Rs where
  | v (d : PyData) | x (C : Addr) | y (C : Addr) (l : PyData)
def PostR (K : PySem.W.Frag) (Hf Hb : Hp) : Rs → VK → XK → Prop
  | .v d, Q, _ => ∀ v H0 H', Gr Hf Hb H0 H' → Dq K H0 v d → Q v H'
  | .x C, _, E => ∀ H0 H', Gr Hf Hb H0 H' → E (.ref C) none H'
  | .y C l, _, E => ∀ d v H0 H', Gr Hf Hb H0 H' → H' d = some (.xd [("line", v)]) → Dq K H0 v l → E (.ref C) (some d) H'
def spD (K : PySem.W.Frag) (S : List PyData → Rs → Prop) : Sp := fun vs H Q E => ∃ ds r Hf, S ds r ∧ Same Hf H ∧ DqAll K Hf vs ds ∧ PostR K Hf H r Q E
structure Fnk (P : Program) (w : World) (K : PySem.W.Frag) (mg : Str → Option Value) (base : Heap) (x : Str) (k : Nat) (S : List PyData → Rs → Prop) : Prop where
  ex : ∃ (f : Addr) (fd : FuncData) (ps : List Str), mg x = some (.ref f) ∧ PySem.W.keepIn K (.ref f) = true ∧ Binds K fd ps [] ∧ FnOk P w K mg base (L2.CX P w) k f fd ps (spD K S)
structure EvX (X : Cx) (W : WX) (env : List Sl) (e : Expr) (C : Addr) : Prop where
  run : ∀ (Hf Hb : Hp) (σ : L2.St) (H0 H : Hp), Ok X.K Hf Hb env σ H0 H → (∀ H0' H', Gr H0 H H0' H' → W (.ref C) none σ H') → ∀ Q : VK, wE X e σ H Q
structure EvTX (X : Cx) (W : WX) (env : List Sl) (e : Expr) (C : Addr) : Prop where
  run : ∀ (Hf Hb : Hp) (σ : L2.St) (H0 H : Hp), Ok X.K Hf Hb env σ H0 H → (∀ H0' H', Gr H0 H H0' H' → W (.ref C) none σ H') → ∀ Q : Bool → Hp → Prop, wT X e σ H Q
section
variable {X : Cx} {W : WX} {env env1 env2 : List Sl} {e a b tg : Expr} {es : List Expr} {d da db : PyData} {ds xs ys : List PyData} {pos p : Pos} {x : Str} {id T : String} {k n : Nat} {S : List PyData → Rs → Prop} {C : Addr}
theorem evv_call (F : Fnk X.prog X.w X.K X.mg X.base x k S) (hr : Room n X.A) (ha : EvA X env (e :: es) ds) (hs : S ds (.v d)) (hk : k ≤ n := by decide) (hg : Gl X x := by rfl) (hdb : (x == ("__debug__" : Str)) = false := by decide)
    (he : starEach (e :: es) X.env = (false, eval e X.env) :: starEach es X.env := by rfl) (hpl : (backTo pos (starEach es X.env)).any (·.1) = false := by rfl) : EvV X env (.Call (.Name x p) (e :: es) [] pos) d := ⟨fun Hf Hb σ H0 H kk Q q => by
  obtain ⟨f, fd, ps, mgf, kp, bd, F⟩ := F.ex
  refine ⟨_, pe_call F (hr.mono hk) hg mgf kp bd .nil passL uA hdb he hpl, ha.run Hf Hb σ H0 H kk _ fun vs H1 H1' g hv => ?_⟩
  show spD X.K S (vs ++ []) H1' Q E0
  rw [List.append_nil]
  exact ⟨ds, .v d, H1, hs, g.i, hv, fun v H2 H2' g2 hd => q v H2 H2' (g.trans g2) hd⟩⟩
theorem evx_call (F : Fnk X.prog X.w X.K X.mg X.base x k S) (hr : Room n X.A) (tk : Takes X W) (ha : EvA X env (e :: es) ds) (hs : S ds (.x C)) (hk : k ≤ n := by decide) (hg : Gl X x := by rfl) (hdb : (x == ("__debug__" : Str)) = false := by decide)
    (he : starEach (e :: es) X.env = (false, eval e X.env) :: starEach es X.env := by rfl) (hpl : (backTo pos (starEach es X.env)).any (·.1) = false := by rfl) : EvX X W env (.Call (.Name x p) (e :: es) [] pos) C := ⟨fun Hf Hb σ H0 H kk q Q => by
  obtain ⟨f, fd, ps, mgf, kp, bd, F⟩ := F.ex
  refine ⟨_, pe_callS F (hr.mono hk) hg mgf kp bd (fun σ => passAt tk σ) uA hdb he hpl, ha.run Hf Hb σ H0 H kk _ fun vs H1 H1' g hv => ?_⟩
  exact ⟨ds, .x C, H1, hs, g.i, hv, fun H2 H2' g2 => q H2 H2' (g.trans g2)⟩⟩
theorem evtx_val (h : EvX X W env e C) (he : ∀ whole, isTrue e X.env whole = (do let v ← whole; standAt e.pos; holding [v] (truthy v)) := by intro _; rfl) : EvTX X W env e C := ⟨fun Hf Hb σ H0 H k q Q => ⟨_, pt_val uE he, h.run Hf Hb σ H0 H k q _⟩⟩
theorem evtx_not (h : EvTX X W env e C) : EvTX X W env (.UnaryOp .Not e pos) C := ⟨fun Hf Hb σ H0 H k q Q => ⟨_, pt_not uT, h.run Hf Hb σ H0 H k q _⟩⟩
end
theorem sz_of {n : Nat} (h : n ≤ 100000) : n < sizeLine := Nat.lt_of_le_of_lt h (by decide)
theorem sz_le {n : Nat} (h : n ≤ 100000) : n ≤ sizeLine := Nat.le_of_lt (sz_of h)
/-! ### statements -/
inductive Out where
  | nx (env : List Sl) | rt (d : PyData) | ex (C : Addr) (env : List Sl) | re (d : PyData) (env : List Sl) | ey (C : Addr) (l : PyData) (env : List Sl) | rg (R : PySem.W.Frag → Hp → HO → Prop)
def Out.calm : Out → Bool
  | .ex _ _ => false
  | .ey _ _ _ => false
  | _ => true
/-- rg: a new object that nobody else holds -/
def PostO (K : PySem.W.Frag) (W : WX) (Hf Hb : Hp) : Out → Ends → Prop
  | .nx env, D => ∀ σ H0 H, Ok K Hf Hb env σ H0 H → D.nx σ H
  | .rt d, D => ∀ v H0 H, Gr Hf Hb H0 H → Dq K H0 v d → D.rt v H
  | .ex C env, _ => ∀ σ H0 H, Ok K Hf Hb env σ H0 H → W (.ref C) none σ H
  | .re d env, D => ∀ v σ H0 H, Ok K Hf Hb env σ H0 H → Dq K H0 v d → D.rt v H
  | .ey C l env, _ => ∀ d v σ H0 H, Ok K Hf Hb env σ H0 H → H d = some (.xd [("line", v)]) → Dq K H0 v l → W (.ref C) (some d) σ H
  | .rg R, D => ∀ b o H0 H, Hb b = none → H0 b = none → H b = some o → R K H0 o → Gr Hf Hb H0 H → D.rt (.ref b) H
structure GoS (X : Cx) (W : WX) (env : List Sl) (st : Stmt) (o : Out) : Prop where
  run : ∀ (Hf Hb : Hp) (σ : L2.St) (H0 H : Hp), Ok X.K Hf Hb env σ H0 H → ∀ D : Ends, PostO X.K W Hf Hb o D → wS X st D σ H
structure Go (X : Cx) (W : WX) (env : List Sl) (ss : List Stmt) (o : Out) : Prop where
  run : ∀ (Hf Hb : Hp) (σ : L2.St) (H0 H : Hp), Ok X.K Hf Hb env σ H0 H → ∀ D : Ends, PostO X.K W Hf Hb o D → wB X ss D σ H
section
variable {X : Cx} {W : WX} {env env1 env2 : List Sl} {st : Stmt} {ss : List Stmt} {o : Out} {e a b tg : Expr} {es : List Expr} {d da db : PyData} {ds xs ys : List PyData} {pos p : Pos} {x : Str} {id T : String} {k n : Nat} {S : List PyData → Rs → Prop} {C : Addr}
theorem go_nil : Go X W env [] (.nx env) := ⟨fun Hf Hb σ H0 H k D q => ⟨_, pss_nil, q σ H0 H k⟩⟩
theorem go_cons (h1 : GoS X W env st (.nx env1)) (h2 : Go X W env1 ss o) : Go X W env (st :: ss) o := ⟨fun Hf Hb σ H0 H k D q => ⟨_, pss_cons uS uB, h1.run Hf Hb σ H0 H k _ fun σ' H0' H' k' => h2.run Hf Hb σ' H0' H' k' D q⟩⟩
theorem go_ret (h : GoS X W env st (.rt d)) : Go X W env (st :: ss) (.rt d) := ⟨fun Hf Hb σ H0 H k D q => ⟨_, pss_cons uS uB, h.run Hf Hb σ H0 H k _ q⟩⟩
theorem go_ex (h : GoS X W env st (.ex C env1)) : Go X W env (st :: ss) (.ex C env1) := ⟨fun Hf Hb σ H0 H k D q => ⟨_, pss_cons uS uB, h.run Hf Hb σ H0 H k _ q⟩⟩
theorem go_re (h : GoS X W env st (.re d env1)) : Go X W env (st :: ss) (.re d env1) := ⟨fun Hf Hb σ H0 H k D q => ⟨_, pss_cons uS uB, h.run Hf Hb σ H0 H k _ q⟩⟩
theorem go_rg {R : PySem.W.Frag → Hp → HO → Prop} (h : GoS X W env st (.rg R)) : Go X W env (st :: ss) (.rg R) := ⟨fun Hf Hb σ H0 H k D q => ⟨_, pss_cons uS uB, h.run Hf Hb σ H0 H k _ q⟩⟩
theorem go_ey {l : PyData} (h : GoS X W env st (.ey C l env1)) : Go X W env (st :: ss) (.ey C l env1) := ⟨fun Hf Hb σ H0 H k D q => ⟨_, pss_cons uS uB, h.run Hf Hb σ H0 H k _ q⟩⟩
theorem Go.weak (h : Go X W env ss (.nx env1)) (w : Wk env1 env2) : Go X W env ss (.nx env2) := ⟨fun Hf Hb σ H0 H k D q => h.run Hf Hb σ H0 H k D fun σ' H0' H' k' => q σ' H0' H' (k'.weak w)⟩
theorem Go.pre (w : Wk env env1) (h : Go X W env1 ss o) : Go X W env ss o := ⟨fun Hf Hb σ H0 H k D q => h.run Hf Hb σ H0 H (k.weak w) D q⟩
theorem GoS.pre (w : Wk env env1) (h : GoS X W env1 st o) : GoS X W env st o := ⟨fun Hf Hb σ H0 H k D q => h.run Hf Hb σ H0 H (k.weak w) D q⟩
theorem Go.is {o' : Out} (h : Go X W env ss o) (q : o = o') : Go X W env ss o' := q ▸ h
theorem gos_expr (h : EvV X env e d) (hs : swapsWith e none pos.line X.env = pure false := by rfl) : GoS X W env (.Expr e pos) (.nx env) := ⟨fun Hf Hb σ H0 H k D q => ⟨_, ps_expr uE hs, h.run Hf Hb σ H0 H k _ fun v H1 H1' g _ => q σ H1 H1' (k.gro g)⟩⟩
theorem gos_exprX (h : EvX X W env e C) (hs : swapsWith e none pos.line X.env = pure false := by rfl) : GoS X W env (.Expr e pos) (.ex C env) := ⟨fun Hf Hb σ H0 H k D q => ⟨_, ps_expr uE hs, h.run Hf Hb σ H0 H k (fun H1 H1' g => q σ H1 H1' (k.gro g)) _⟩⟩
theorem gos_ret (h : EvV X env e d) : GoS X W env (.Return (some e) pos) (.rt d) := ⟨fun Hf Hb σ H0 H k D q => ⟨_, ps_ret uE, h.run Hf Hb σ H0 H k _ fun v H1 H1' g hv => q v H1 H1' (k.gr.trans g) hv⟩⟩
theorem gos_retX (h : EvX X W env e C) : GoS X W env (.Return (some e) pos) (.ex C env) := ⟨fun Hf Hb σ H0 H k D q => ⟨_, ps_ret uE, h.run Hf Hb σ H0 H k (fun H1 H1' g => q σ H1 H1' (k.gro g)) _⟩⟩
/-- return of an owned list -/
theorem gos_retO (i : Nat) (hs : env[i]? = some (.o xs) := by rfl) (hN : X.N[i]? = some x := by rfl) (hv : Vis X.env.scope x := by first | exact Or.inl rfl | exact Or.inr (Or.inl rfl) | exact Or.inr (Or.inr rfl)) (hd : (x == ("__debug__" : Str)) = false := by decide)
    (hcd : (x == ("__classdict__" : Str)) = false := by decide) : GoS X W env (.Return (some (.Name x p)) pos) (.rt (.list xs)) := ⟨fun Hf Hb σ H0 H k D q => by
  obtain ⟨y, h1, p, vs, h2, h3, h4, h5, h6⟩ := k.sl i _ hs
  subst h2
  refine ⟨_, ps_ret (pe_var hN hv hd hcd), _, h1, q _ (upd H0 p (.lst vs)) H ⟨k.gr.f.trans (same_new h4), k.gr.b, fun a u e => ?_, fun a o u g1 g2 => ?_⟩ (.lst upd_same (h6.mono (same_new h4)))⟩
  · by_cases z : a = p
    · subst z; rw [upd_same] at e; cases e; exact h5
    · rw [upd_ne z] at e; exact k.gr.i _ _ e
  · rw [upd_ne (ne_of_none g1 h3)] at g2; exact k.gr.n _ _ _ g1 g2⟩
section
variable {i : Nat}
theorem gos_set (i : Nat) (hN : X.N.Nodup) (h : EvV X env e d) (hi : X.N[i]? = some x := by rfl) (hx : Loc X.env.scope x := by first | exact Or.inl rfl | exact Or.inr rfl) (hs : swapsWith e (some (.Name x p)) pos.line X.env = pure false := by rfl) (hf : X.fn x = true ∨ X.env.scope.names.lookup x = some .local := by first | exact .inl rfl | exact .inr rfl) :
    GoS X W env (.Assign [.Name x p] e pos) (.nx (env.set i (.v d))) := ⟨fun Hf Hb σ H0 H k D q => ⟨_, ps_set hN hi hx uE hs hf, h.run Hf Hb σ H0 H k _ fun v H1 H1' g hv => q _ H1 H1' ((k.gro g).setv hv)⟩⟩
theorem gos_setX (i : Nat) (hN : X.N.Nodup) (h : EvX X W env e C) (hi : X.N[i]? = some x := by rfl) (hx : Loc X.env.scope x := by first | exact Or.inl rfl | exact Or.inr rfl) (hs : swapsWith e (some (.Name x p)) pos.line X.env = pure false := by rfl) (hf : X.fn x = true ∨ X.env.scope.names.lookup x = some .local := by first | exact .inl rfl | exact .inr rfl) :
    GoS X W env (.Assign [.Name x p] e pos) (.ex C env) := ⟨fun Hf Hb σ H0 H k D q => ⟨_, ps_set hN hi hx uE hs hf, h.run Hf Hb σ H0 H k (fun H1 H1' g => q σ H1 H1' (k.gro g)) _⟩⟩
theorem own_ne {Hf Hb : Hp} {σ : L2.St} {H0 H : Hp} (k : Ok X.K Hf Hb env σ H0 H) {p : Addr} (hp : H p = none) : ∀ (j : Nat) (ys : List PyData), j ≠ i → env[j]? = some (.o ys) → σ[j]? ≠ some (some (.ref p)) := fun j ys _ ej hj => by
  obtain ⟨z, z1, p', vs', z2, _, _, z5, _⟩ := k.sl j _ ej
  rw [hj] at z1; cases z1; cases z2
  rw [hp] at z5; cases z5
theorem gos_setO (i : Nat) (hN : X.N.Nodup) (h : EvF X env e xs) (hi : X.N[i]? = some x := by rfl) (hx : Loc X.env.scope x := by first | exact Or.inl rfl | exact Or.inr rfl) (hs : swapsWith e (some (.Name x p)) pos.line X.env = pure false := by rfl) (hf : X.fn x = true ∨ X.env.scope.names.lookup x = some .local := by first | exact .inl rfl | exact .inr rfl) :
    GoS X W env (.Assign [.Name x p] e pos) (.nx (env.set i (.o xs))) := ⟨fun Hf Hb σ H0 H k D q => ⟨_, ps_set hN hi hx uE hs hf, h.run Hf Hb σ H0 H k _ fun r vs H1 H1' g n1 n2 hp ha =>
      q _ H1 H1' ((k.gro g).seto (k.gr.b.free n1) n2 hp ha (own_ne k n1))⟩⟩
/-- x = y, y an owned list: it is handed over, and frozen -/
theorem gos_move (i j : Nat) {y : Str} {py : Pos} (hN : X.N.Nodup) (hj : env[j]? = some (.o xs) := by rfl) (hi : X.N[i]? = some x := by rfl) (hy : X.N[j]? = some y := by rfl) (hv : Vis X.env.scope y := by first | exact Or.inl rfl | exact Or.inr (Or.inl rfl)) (hx : Loc X.env.scope x := by first | exact Or.inl rfl | exact Or.inr rfl)
    (hd : (y == ("__debug__" : Str)) = false := by decide) (hcd : (y == ("__classdict__" : Str)) = false := by decide) (hs : swapsWith (.Name y py) (some (.Name x p)) pos.line X.env = pure false := by rfl) (hf : X.fn x = true ∨ X.env.scope.names.lookup x = some .local := by first | exact .inl rfl | exact .inr rfl) :
    GoS X W env (.Assign [.Name x p] (.Name y py) pos) (.nx ((env.set j .no).set i (.v (.list xs)))) := ⟨fun Hf Hb σ H0 H k D q => by
  obtain ⟨z, h1, r, vs, h2, h3, h4, h5, h6⟩ := k.sl j _ hj
  subst h2
  refine ⟨_, ps_set hN hi hx (pe_var hy hv hd hcd) hs hf, _, h1, q _ (upd H0 r (.lst vs)) H ?_⟩
  have lj : j < env.length := by
    by_cases l : j < env.length
    · exact l
    · rw [List.getElem?_eq_none (by simpa using l)] at hj; cases hj
  have wk : ∀ (l : List Sl) (j : Nat), Wk l (l.set j .no) := by
    intro l
    induction l with
    | nil => intro j; exact .nil
    | cons s l ih =>
      intro j
      cases j with
      | zero => exact .no (Wk.refl l)
      | succ j => exact .eq (ih j)
  have k1 : Ok X.K Hf Hb (env.set j .no) σ H0 H := k.weak (wk env j)
  have k2 : Ok X.K Hf Hb (env.set j .no) σ (upd H0 r (.lst vs)) H := by
    refine ⟨⟨k.gr.f.trans (same_new h4), k.gr.b, fun a u e => ?_, fun a o u g1 g2 => ?_⟩, k1.len, fun m s em => ?_, k1.ne⟩
    · by_cases z : a = r
      · subst z; rw [upd_same] at e; cases e; exact h5
      · rw [upd_ne z] at e; exact k.gr.i _ _ e
    · rw [upd_ne (ne_of_none g1 h3)] at g2; exact k.gr.n _ _ _ g1 g2
    · obtain ⟨y, y1, y2⟩ := k1.sl m s em
      refine ⟨y, y1, ?_⟩
      cases s with
      | no => trivial
      | v d => obtain ⟨v, e, h⟩ := y2; exact ⟨v, e, h.mono (same_new h4)⟩
      | r v => exact y2
      | g G => obtain ⟨v, e, h⟩ := y2; exact ⟨v, e, G.frz (Gs.out h h5) h4 h⟩
      | o zs =>
        obtain ⟨p', vs', e', hb', h0', hp', ha'⟩ := y2
        subst e'
        have nj : j ≠ m := fun z => by
          subst z
          rw [List.getElem?_set_self lj] at em; cases em
        have npp : p' ≠ r := fun z => by
          subst z
          rw [List.getElem?_set_ne nj] at em
          exact k.ne j m _ _ _ nj hj em h1 y1
        exact ⟨p', vs', rfl, hb', by rw [upd_ne npp]; exact h0', hp', ha'.mono (same_new h4)⟩
  exact k2.setv (.lst upd_same (h6.mono (same_new h4)))⟩
/-- a, b = e1, e2 -/
theorem gos_par (i j : Nat) {y : Str} {d1 d2 : PyData} {px py pt : Pos} {kt k2 pt2} (hN : X.N.Nodup) (h1 : EvV X env a d1) (h2 : EvV X env b d2) (hij : i ≠ j := by decide) (hi : X.N[i]? = some x := by rfl) (hj : X.N[j]? = some y := by rfl) (hc : X.calm = true := by rfl)
    (hx : X.env.scope.names.lookup x = some .local := by rfl) (hy : X.env.scope.names.lookup y = some .local := by rfl)
    (hw : swappedStores [.Tuple [.Name x px, .Name y py] kt pt] (.Tuple [a, b] k2 pt2) X.env = pure (some [x, y]) := by rfl)
    (hs : swapsWithSole [.Tuple [.Name x px, .Name y py] kt pt] (.Tuple [a, b] k2 pt2) pos.line X.env = pure false := by rfl)
    (e1 : starEach [a, b] X.env = (false, eval a X.env) :: starEach [b] X.env := by rfl) (e2 : starEach [b] X.env = (false, eval b X.env) :: starEach [] X.env := by rfl) :
    GoS X W env (.Assign [.Tuple [.Name x px, .Name y py] kt pt] (.Tuple [a, b] k2 pt2) pos) (.nx ((env.set i (.v d1)).set j (.v d2))) := ⟨fun Hf Hb σ H0 H k D q =>
  ⟨_, ps_par hc hN hi hj hij hx hy (pa_cons uE (pa_cons uE pa_nil e2) e1) hw hs, two h1 h2 k fun u v H1 H1' g z1 z2 => ⟨u, v, rfl, q _ H1 H1' (((k.gro g).setv z1).setv z2)⟩⟩⟩
theorem gos_parO (i j : Nat) {y : Str} {zs : List PyData} {px py pt : Pos} {kt k2 pt2} (hN : X.N.Nodup) (h1 : EvF X env a xs) (h2 : EvF X env b zs) (hij : i ≠ j := by decide) (hi : X.N[i]? = some x := by rfl) (hj : X.N[j]? = some y := by rfl) (hc : X.calm = true := by rfl)
    (hx : X.env.scope.names.lookup x = some .local := by rfl) (hy : X.env.scope.names.lookup y = some .local := by rfl)
    (hw : swappedStores [.Tuple [.Name x px, .Name y py] kt pt] (.Tuple [a, b] k2 pt2) X.env = pure (some [x, y]) := by rfl)
    (hs : swapsWithSole [.Tuple [.Name x px, .Name y py] kt pt] (.Tuple [a, b] k2 pt2) pos.line X.env = pure false := by rfl)
    (e1 : starEach [a, b] X.env = (false, eval a X.env) :: starEach [b] X.env := by rfl) (e2 : starEach [b] X.env = (false, eval b X.env) :: starEach [] X.env := by rfl) :
    GoS X W env (.Assign [.Tuple [.Name x px, .Name y py] kt pt] (.Tuple [a, b] k2 pt2) pos) (.nx ((env.set i (.o xs)).set j (.o zs))) := ⟨fun Hf Hb σ H0 H k D q => by
  refine ⟨_, ps_par hc hN hi hj hij hx hy (pa_cons uE (pa_cons uE pa_nil e2) e1) hw hs, ?_⟩
  refine h1.run Hf Hb σ H0 H k _ fun r1 vs1 H1 H1' g1 n1 n1' p1 a1 => h2.run Hf Hb σ H1 H1' (k.gro g1) _ fun r2 vs2 H2 H2' g2 n2 n2' p2 a2 => ⟨_, _, rfl, q _ H2 H2' ?_⟩
  have b1 := g2.b _ _ p1
  have c1 : H2 r1 = none := g2.lst p1 n1'
  have k1 := ((k.gro g1).gro g2).seto (i := i) (k.gr.b.free n1) c1 b1 (a1.mono g2.f) (own_ne k n1)
  refine k1.seto (i := j) (k.gr.b.free (g1.b.free n2)) n2' p2 a2 fun m ys nm em hm => ?_
  by_cases z : i = m
  · subst z
    by_cases l : i < σ.length
    · rw [List.getElem?_set_self l] at hm
      cases hm
      rw [n2] at p1; cases p1
    · rw [List.getElem?_eq_none (by simpa using l)] at hm; cases hm
  · rw [List.getElem?_set_ne z] at em hm
    exact own_ne (i := j) k (g1.b.free n2) m ys nm em hm⟩
/-- name += e, ints -/
theorem gos_aug (i : Nat) {u v : Int} (hN : X.N.Nodup) (h : EvV X env e (.int v)) (hs : env[i]? = some (.v (.int u)) := by rfl) (hi : X.N[i]? = some x := by rfl) (hx : Loc X.env.scope x := by first | exact Or.inl rfl | exact Or.inr rfl) (hf : X.fn x = true ∨ X.env.scope.names.lookup x = some .local := by first | exact .inl rfl | exact .inr rfl) :
    GoS X W env (.AugAssign (.Name x p) .Add e pos) (.nx (env.set i (.v (.int (u + v))))) := ⟨fun Hf Hb σ H0 H k D q => by
  obtain ⟨y, h1, w, h2, h3⟩ := k.sl i _ hs
  subst h2
  refine ⟨_, ps_aug hN hi hx uE ip_add hf, w, h1, h.run Hf Hb σ H0 H k _ fun z H1 H1' g hz => ?_⟩
  rw [dq_int h3, dq_int hz]
  exact ⟨u, v, rfl, rfl, q _ H1 H1' ((k.gro g).setv (.int _))⟩⟩
theorem gos_augS (i : Nat) {u v : Int} (hN : X.N.Nodup) (h : EvV X env e (.int v)) (hs : env[i]? = some (.v (.int u)) := by rfl) (hi : X.N[i]? = some x := by rfl) (hx : Loc X.env.scope x := by first | exact Or.inl rfl | exact Or.inr rfl) (hf : X.fn x = true ∨ X.env.scope.names.lookup x = some .local := by first | exact .inl rfl | exact .inr rfl) :
    GoS X W env (.AugAssign (.Name x p) .Sub e pos) (.nx (env.set i (.v (.int (u - v))))) := ⟨fun Hf Hb σ H0 H k D q => by
  obtain ⟨y, h1, w, h2, h3⟩ := k.sl i _ hs
  subst h2
  refine ⟨_, ps_aug hN hi hx uE ip_sub hf, w, h1, h.run Hf Hb σ H0 H k _ fun z H1 H1' g hz => ?_⟩
  rw [dq_int h3, dq_int hz]
  exact ⟨u, v, rfl, rfl, q _ H1 H1' ((k.gro g).setv (.int _))⟩⟩
/-- xs.append(e), xs an owned list -/
theorem gos_append (i : Nat) {ap : Pos} (h : EvV X env e d) (hs : env[i]? = some (.o xs) := by rfl) (hz : xs.length < sizeLine := by exact sz_of (by (try simp only [List.length_map, List.length_zip, List.length_drop, List.length_range, rgI_len, List.length_append, List.length_cons, List.length_nil, List.length_reverse]); omega)) (hN : X.N[i]? = some x := by rfl) (hv : Vis X.env.scope x := by first | exact Or.inl rfl | exact Or.inr (Or.inl rfl)) (hd : (x == ("__debug__" : Str)) = false := by decide) (hcd : (x == ("__classdict__" : Str)) = false := by decide)
    (hbase : attributeBase (.Name x p) "append" X.env (eval (.Name x p) X.env) = eval (.Name x p) X.env := by rfl)
    (hfew : ((backTo pos (starEach [e] X.env)).all (fun x => !x.1) && (backToKw pos (keywordEach [] X.env)).all (fun x => x.1.isSome) && decide ([e].length + ([] : List Keyword).length + (if ([] : List Keyword).isEmpty then 0 else 1) < 30)) = true := by rfl)
    (hline : (ap.endLine == pos.line) = true := by rfl) (hse : starEach [e] X.env = (false, eval e X.env) :: starEach [] X.env := by rfl) (hpl : (backTo pos (starEach [] X.env)).any (·.1) = false := by rfl) {pos2 : Pos}
    (hsw : swapsWith (.Call (.Attribute (.Name x p) "append" ap) [e] [] pos) none pos2.line X.env = pure false := by rfl) :
    GoS X W env (.Expr (.Call (.Attribute (.Name x p) "append" ap) [e] [] pos) pos2) (.nx (env.set i (.o (xs ++ [d])))) := ⟨fun Hf Hb σ H0 H k D q => by
  obtain ⟨y, h1, r, vs, h2, h3, h4, h5, h6⟩ := k.sl i _ hs
  subst h2
  refine ⟨_, ps_expr (pe_bm PySem.F.plainAttrs_list PySem.F.slot_list_append PySem.F.type_list_append mt_append (pe_var hN hv hd hcd) (pa_cons uE pa_nil hse) hbase hfew hline hse hpl) hsw, _, h1, .inl ⟨rfl, _, SqL.of h5⟩, h.run Hf Hb σ H0 H k _ fun v H1 H1' g hv => ?_⟩
  refine ⟨r, vs, v, rfl, rfl, g.b _ _ h5, by rw [h6.length]; exact hz, q _ H1 _ ?_⟩
  exact (k.gro g).mut hs h1 ((h6.mono g.f).append (.cons hv .nil))⟩
end
/-! ### if, raise -/
variable {c : Expr} {body orelse : List Stmt}
theorem gos_ifT (hc : EvT X env c true) (h : Go X W env body o) : GoS X W env (.If c body orelse pos) o := ⟨fun Hf Hb σ H0 H k D q => ⟨_, ps_if uT uB uB, hc.run Hf Hb σ H0 H k _ fun H1 H1' g => by
  rw [if_pos rfl]
  refine h.run Hf Hb σ H1 H1' (k.gro g) D q⟩⟩
theorem gos_ifF (hc : EvT X env c false) (h : Go X W env orelse o) : GoS X W env (.If c body orelse pos) o := ⟨fun Hf Hb σ H0 H k D q => ⟨_, ps_if uT uB uB, hc.run Hf Hb σ H0 H k _ fun H1 H1' g => by
  rw [if_neg (by decide)]
  refine h.run Hf Hb σ H1 H1' (k.gro g) D q⟩⟩
theorem gos_if {cb : Bool} (hc : EvT X env c cb) (h1 : cb = true → Go X W env body o) (h2 : cb = false → Go X W env orelse o) : GoS X W env (.If c body orelse pos) o := by
  cases cb with
  | true => exact gos_ifT hc (h1 rfl)
  | false => exact gos_ifF hc (h2 rfl)
theorem gos_ifX (hc : EvTX X W env c C) : GoS X W env (.If c body orelse pos) (.ex C env) := ⟨fun Hf Hb σ H0 H k D q => ⟨_, ps_if uT uB uB, hc.run Hf Hb σ H0 H k (fun H1 H1' g => q σ H1 H1' (k.gro g)) _⟩⟩
/-- what the written part says of an own exception class without __init__ -/
structure XcT (K : PySem.W.Frag) (mg : Str → Option Value) (x : Str) (C : Addr) : Prop where
  g : mg x = some (.ref C)
  q : PySem.W.excIn K C [.type "ValueError", .type "Exception", .type "BaseException", .type "object"] "ValueError.__new__" = true
  k : PySem.W.keepIn K (.ref C) = true
  b : PySem.W.subIn K (.ref C) (.type "BaseException") = some true
  t : PySem.W.typeIn K (.ref C) = some (.type "type")
theorem gos_raise {m : Str} {j : Nat} {p1 p2 p3 : Pos} (T : XcT X.K X.mg x C) (tk : Takes X W) (hc : X.calm = true := by rfl) (hg : Gl X x := by rfl) (hdb : (x == ("__debug__" : Str)) = false := by decide) :
    GoS X W env (.Raise (some (.Call (.Name x p1) [.Constant (.str m) j p2] [] p3)) none pos) (.ex C env) := ⟨fun Hf Hb σ H0 H k D q =>
  ⟨_, ps_raise hc tk (pmk_own PySem.F.excBase_ValueError T.q T.g T.k (raises_own T.b T.t) hg hdb), q σ H0 H k⟩⟩
/-! ### for, while -/
theorem Ok.reb {K : PySem.W.Frag} {Hf Hb : Hp} {σ : L2.St} {H0 H : Hp} (k : Ok K Hf Hb env σ H0 H) : Ok K H0 Hb env σ H0 H := ⟨⟨Same.refl' _, k.gr.b, k.gr.i, fun _ _ _ _ h => .inr h⟩, k.len, k.sl, k.ne⟩
theorem Gr.back {Hf Hb H0 H H0' H' : Hp} (g : Gr Hf Hb H0 H) (g' : Gr H0 Hb H0' H') : Gr Hf Hb H0' H' := ⟨g.f.trans g'.f, g'.b, g'.i, fun a o u h1 h2 => (g'.n a o u h1 h2).elim .inl fun h => g.n a o u h1 h⟩
theorem Ok.back {K : PySem.W.Frag} {Hf Hb H0 H H0' H' : Hp} {σ' : L2.St} (g : Gr Hf Hb H0 H) (k : Ok K H0 Hb env σ' H0' H') : Ok K Hf Hb env σ' H0' H' := ⟨g.back k.gr, k.len, k.sl, k.ne⟩
/-- a turn of a for: the target, then the body -/
structure GoT (X : Cx) (W : WX) (env : List Sl) (tg : Expr) (d : PyData) (body : List Stmt) (o : Out) : Prop where
  run : ∀ (Hf Hb : Hp) (σ : L2.St) (H0 H : Hp) (v : V), Ok X.K Hf Hb env σ H0 H → Dq X.K H0 v d → ∀ D : Ends, PostO X.K W Hf Hb o D → wG X tg v σ H fun σ2 H2 => wB X body D σ2 H2
theorem got_of {is : List Nat} (ht : TgD X env tg d env1 is) (h : Go X W env1 body o) : GoT X W env tg d body o := ⟨fun Hf Hb σ H0 H v k hv D q => ht.run Hf Hb σ H0 H v k hv _ fun σ' k' _ => h.run Hf Hb σ' H0 H k' D q⟩
theorem gos_for {α : Type} {ι : α → PyData} {zs : List α} {iter : Expr} (inv : Nat → List Sl) (n : Nat) (hi : EvI X env tg iter ι zs) (hn : zs.length = n) (h0 : Wk env (inv 0)) (hb : ∀ i y, zs[i]? = some y → GoT X W (inv i) tg (ι y) body (.nx (inv (i + 1))))
    (hp : PassesOwn (model X.prog X.w) X.A X.env X.xe) (hc : X.calm = true := by rfl) (hs : ∀ x, foldedSetIterable iter X.env x = pure x := by intro _; rfl) : GoS X W env (.For tg iter body [] pos) (.nx (inv n)) := ⟨fun Hf Hb σ H0 H k D q => by
  subst hn
  refine ⟨_, ps_for hp hc uI uG uB hs, hi.run Hf Hb σ H0 H k _ fun J H1 H1' g wk => ?_⟩
  have k1 := k.gro g
  refine ⟨fun i m σ' H' => m = zs.length - i ∧ i ≤ zs.length ∧ ∃ H0', Ok X.K H1 Hb (inv i) σ' H0' H', ⟨zs.length, by simp, Nat.zero_le _, H1, (k1.reb).weak h0⟩, ?_⟩
  rintro i m σ' H' ⟨rfl, hi, H0', k'⟩
  obtain ⟨w1, w2, w3⟩ := wk H0' H' k'.gr.f k'.gr.i
  by_cases hlt : i < zs.length
  · refine .inr ⟨w1 i hlt, fun σ'' H'' => i + 1 ≤ zs.length ∧ ∃ H0'', Ok X.K H1 Hb (inv (i + 1)) σ'' H0'' H'', fun σ'' H'' ⟨z1, z2⟩ => ⟨zs.length - (i + 1), by omega, rfl, z1, z2⟩, fun x H3 yl => ?_⟩
    obtain ⟨y, hy⟩ : ∃ y, zs[i]? = some y := ⟨zs[i], List.getElem?_eq_getElem hlt⟩
    obtain ⟨H03, g3, hx⟩ := w3 i x H3 y hy yl
    exact (hb i y hy).run H1 Hb σ' H03 H3 x (k'.gro g3) hx _ fun σ2 H02 H2 k2 => ⟨hlt, H02, k2⟩
  · have e : i = zs.length := by omega
    subst e
    exact .inl ⟨w2, q _ H0' _ (Ok.back k1.gr k')⟩⟩
/-- a for that is left by a return at the turn j -/
theorem gos_forR {α : Type} {ι : α → PyData} {zs : List α} {iter : Expr} (inv : Nat → List Sl) (j : Nat) (hi : EvI X env tg iter ι zs) (h0 : Wk env (inv 0)) (hb : ∀ i y, i < j → zs[i]? = some y → GoT X W (inv i) tg (ι y) body (.nx (inv (i + 1))))
    (hj : ∃ y, zs[j]? = some y ∧ GoT X W (inv j) tg (ι y) body (.rt d))
    (hp : PassesOwn (model X.prog X.w) X.A X.env X.xe) (hc : X.calm = true := by rfl) (hs : ∀ x, foldedSetIterable iter X.env x = pure x := by intro _; rfl) : GoS X W env (.For tg iter body [] pos) (.rt d) := ⟨fun Hf Hb σ H0 H k D q => by
  refine ⟨_, ps_for hp hc uI uG uB hs, hi.run Hf Hb σ H0 H k _ fun J H1 H1' g wk => ?_⟩
  have k1 := k.gro g
  obtain ⟨yj, hyj, hj⟩ := hj
  have lj : j < zs.length := (List.getElem?_eq_some_iff.mp hyj).1
  refine ⟨fun i m σ' H' => m = zs.length - i ∧ i ≤ j ∧ ∃ H0', Ok X.K H1 Hb (inv i) σ' H0' H', ⟨zs.length, by simp, Nat.zero_le _, H1, (k1.reb).weak h0⟩, ?_⟩
  rintro i m σ' H' ⟨rfl, hi, H0', k'⟩
  obtain ⟨w1, w2, w3⟩ := wk H0' H' k'.gr.f k'.gr.i
  by_cases hlt : i < j
  · refine .inr ⟨w1 i (by omega), fun σ'' H'' => i + 1 ≤ j ∧ ∃ H0'', Ok X.K H1 Hb (inv (i + 1)) σ'' H0'' H'', fun σ'' H'' ⟨z1, z2⟩ => ⟨zs.length - (i + 1), by omega, rfl, z1, z2⟩, fun x H3 yl => ?_⟩
    obtain ⟨y, hy⟩ : ∃ y, zs[i]? = some y := ⟨zs[i]'(by omega), List.getElem?_eq_getElem (by omega)⟩
    obtain ⟨H03, g3, hx⟩ := w3 i x H3 y hy yl
    exact (hb i y hlt hy).run H1 Hb σ' H03 H3 x (k'.gro g3) hx _ fun σ2 H02 H2 k2 => ⟨hlt, H02, k2⟩
  · have e : i = j := by omega
    subst e
    refine .inr ⟨w1 i lj, fun _ _ => False, fun _ _ h => h.elim, fun x H3 yl => ?_⟩
    obtain ⟨H03, g3, hx⟩ := w3 i x H3 yj hyj yl
    exact hj.run H1 Hb σ' H03 H3 x (k'.gro g3) hx _ fun v H02 H2 g2 hv => q v H02 H2 (Gr.back k1.gr g2) hv⟩
/-- a while of n turns -/
theorem gos_while (n : Nat) (inv : Nat → List Sl) (h0 : Wk env (inv 0)) (ht : ∀ i, i < n → EvT X (inv i) c true) (hf : EvT X (inv n) c false) (hb : ∀ i, i < n → Go X W (inv i) body (.nx (inv (i + 1))))
    (hp : PassesOwn (model X.prog X.w) X.A X.env X.xe) : GoS X W env (.While c body [] pos) (.nx (inv n)) := ⟨fun Hf Hb σ H0 H k D q => by
  refine ⟨_, ps_while hp uT uB, fun m σ' H' => ∃ i, m = n - i ∧ i ≤ n ∧ ∃ H0', Ok X.K Hf Hb (inv i) σ' H0' H', ⟨n, 0, by simp, Nat.zero_le _, H0, k.weak h0⟩, ?_⟩
  rintro m σ' H' ⟨i, rfl, hi, H0', k'⟩
  by_cases hlt : i < n
  · refine (ht i hlt).run Hf Hb σ' H0' H' k' _ fun H1 H1' g => ?_
    refine ⟨fun σ'' H'' => ∃ H0'', Ok X.K Hf Hb (inv (i + 1)) σ'' H0'' H'', fun σ'' H'' z => ⟨n - (i + 1), by omega, i + 1, rfl, hlt, z⟩, ?_⟩
    exact (hb i hlt).run Hf Hb σ' H1 H1' (k'.gro g) _ fun σ2 H02 H2 k2 => ⟨H02, k2⟩
  · have e : i = n := by omega
    subst e
    exact hf.run Hf Hb σ' H0' H' k' _ fun H1 H1' g => q σ' H1 H1' (k'.gro g)⟩
end
/-! ### a def keeps its specification -/
inductive OutR : Out → Rs → Prop
  | nx {env : List Sl} : OutR (.nx env) (.v .none)
  | rt {d : PyData} : OutR (.rt d) (.v d)
  | ex {C : Addr} {env : List Sl} : OutR (.ex C env) (.x C)
  | re {d : PyData} {env : List Sl} : OutR (.re d env) (.v d)
  | ey {C : Addr} {l : PyData} {env : List Sl} : OutR (.ey C l env) (.y C l)
abbrev startE (N : List Str) (ds : List PyData) : List Sl := ds.map Sl.v ++ List.replicate (N.length - ds.length) .no
theorem ok_start {K : PySem.W.Frag} {Hf H : Hp} {N : List Str} {vs : List V} {ds : List PyData} (hs : Same Hf H) (ha : DqAll K Hf vs ds) : Ok K Hf H (startE N ds) (L2.start N vs) Hf H := by
  have hl := ha.length
  have hm : ∀ (i : Nat) (s : Sl), (startE N ds)[i]? = some s → (∃ d, ds[i]? = some d ∧ s = .v d) ∨ (s = .no ∧ ds.length ≤ i ∧ i < ds.length + (N.length - ds.length)) := fun i s e => by
    by_cases h : i < ds.length
    · rw [List.getElem?_append_left (by simpa using h), List.getElem?_map] at e
      cases q : ds[i]? with
      | none => rw [q] at e; cases e
      | some d => rw [q] at e; cases e; exact .inl ⟨d, rfl, rfl⟩
    · rw [List.getElem?_append_right (by simpa using h), List.getElem?_replicate] at e
      split at e
      · rename_i h2; cases e; exact .inr ⟨rfl, by simpa using h, by simp at h2; omega⟩
      · cases e
  refine ⟨Gr.refl hs, by simp [startE, L2.start, hl], fun i s e => ?_, fun i j xs ys p _ e1 _ _ _ => ?_⟩
  · rcases hm i s e with ⟨d, h1, rfl⟩ | ⟨rfl, h1, h2⟩
    · obtain ⟨v, h3, h4⟩ := ha.get h1
      refine ⟨some v, ?_, v, rfl, h4⟩
      have : i < vs.length := (List.getElem?_eq_some_iff.mp h3).1
      unfold L2.start
      rw [List.getElem?_append_left (by simpa using this), List.getElem?_map, h3]
      rfl
    · refine ⟨none, ?_, trivial⟩
      unfold L2.start
      rw [List.getElem?_append_right (by simp; omega), List.getElem?_replicate, if_pos (by simp; omega)]
  · rcases hm i _ e1 with ⟨d, _, q⟩ | ⟨q, _⟩ <;> cases q
section
variable {P : Program} {w : World} {K : PySem.W.Frag} {mg : Str → Option Value} {base : Heap}
theorem fn_ok {x : Str} {st : Stmt} {f : Addr} {fd : FuncData} {N ps : List Str} {k : Nat} {S : List PyData → Rs → Prop} (F : Fun K x x st f fd) (Sc : FnScope N ps (defScope st)) (hl : ∀ ds r, S ds r → ds.length = ps.length)
    (hb : ∀ (cdv : Value) (A : Around) (outer : List Env) (s : Shared) (H : Hp) (E : XK), Room k (A.deeper (envOfC x (defScope st) s.heap.objs.size f cdv)) → ∀ ds r, S ds r →
      ∃ o, OutR o r ∧ Go (cxOf (L2.CX P w) P w K mg base N x (defScope st) f cdv A outer s H E) (fun cls d _ H => E cls d H) (startE N ds) (defBody st) o) : FnOk P w K mg base (L2.CX P w) (k + 1) f fd ps (spD K S) := by
  refine F.okX Sc (fun vs H Q E h => ?_) (fun cdv A outer s H vs Q E hr h => ?_)
  · obtain ⟨ds, r, Hf, h1, h2, h3, h4⟩ := h
    rw [h3.length]; exact hl ds r h1
  · obtain ⟨ds, r, Hf, h1, h2, h3, h4⟩ := h
    obtain ⟨o, ho, g⟩ := hb cdv A outer s H E hr ds r h1
    refine g.run Hf H _ Hf H (ok_start h2 h3) _ ?_
    cases ho with
    | nx => exact fun σ H0 H' k' => h4 _ H0 H' k'.gr .non
    | rt => exact fun v H0 H' g' hd => h4 v H0 H' g' hd
    | ex => exact fun σ H0 H' k' => h4 H0 H' k'.gr
    | re => exact fun v σ H0 H' k' hd => h4 v H0 H' k'.gr hd
    | ey => exact fun d v σ H0 H' k' h1 h2 => h4 d v H0 H' k'.gr h1 h2
theorem fn_mk {x : Str} {st : Stmt} {f : Addr} {fd : FuncData} {N ps : List Str} {k : Nat} {S : List PyData → Rs → Prop} (F : Fun K x x st f fd) (Sc : FnScope N ps (defScope st)) (hm : mg x = some (.ref f)) (hbd : Binds K fd ps []) (hl : ∀ ds r, S ds r → ds.length = ps.length)
    (hb : ∀ (cdv : Value) (A : Around) (outer : List Env) (s : Shared) (H : Hp) (E : XK), Room k (A.deeper (envOfC x (defScope st) s.heap.objs.size f cdv)) → ∀ ds r, S ds r →
      ∃ o, OutR o r ∧ Go (cxOf (L2.CX P w) P w K mg base N x (defScope st) f cdv A outer s H E) (fun cls d _ H => E cls d H) (startE N ds) (defBody st) o) : Fnk P w K mg base x (k + 1) S :=
  ⟨f, fd, ps, hm, F.kp, hbd, fn_ok F Sc hl hb⟩
end
theorem cx_no {P : Program} {w : World} {H : Hp} {s : Shared} {e : Value} {s' : Shared} (h : L2.CX P w [] H s (fun _ _ _ => False) e s') : False := by
  obtain ⟨_, _, _, _, _, _, _, _, _, _, _, _, z⟩ := h
  exact z
def S_law : List PyData → Rs → Prop := fun ds r => ∃ ns : List Int, ds = [scrD ns] ∧ r = .v (.bool true)
theorem law_sp {K : PySem.W.Frag} {H : Hp} {a : Addr} {ns : List Int} (h : SqL K H a (ns.map V.int)) : spD K S_law [.ref a] H (fun v _ => v = .bl true) fun _ _ _ => False :=
  ⟨[scrD ns], .v (.bool true), H, ⟨ns, rfl, rfl⟩, Same.refl' _, .cons (.scr h rfl) .nil, fun v H0 H' _ hd => dq_bl hd⟩
end Rk

namespace Rk
open PySem PySem.Spec PyProof.Rows L2
/-! ### sum, sorted of a tuple; a tuple from behind -/
section
variable {prog : Program} {w : World} {A : Around} {E : Value → Shared → Prop} {s : Shared}
theorem collectT {t : Addr} {vs : List Value} {Q : List Value → Shared → Prop} (ht : s.heap.IsTuple t vs.toArray) (hz : vs.length ≤ sizeLine)
    (h : Q vs { s with heap := (s.heap.push (seqObj "list" #[] 0)).update s.heap.objs.size (Obj.mapSeq (· ++ vs.toArray)) }) : wpAny (model prog w) A (collect (.ref t)) Q E s := by
  obtain ⟨o, ho, hc, n, hd⟩ := id ht
  unfold collect; refine wpAny_bind (wpAny_runValue (codeAny_builtin entry_proto_collect' ?_))
  show wpAny _ _ (do again (.builtin "list.__iadd__" ⟨[← newList [], .ref t], []⟩)) _ _ s
  refine wpAny_bind (wpAny_newList (wpAny_pure ⟨Code.quiet_builtin _ (by decide +kernel), codeAny_builtin entry_list_iadd' ?_⟩) (Nat.zero_le _))
  show wpAny _ _ (Builtin.List.listExtendWith (.ref s.heap.objs.size) (.ref t) (.ref s.heap.objs.size)) _ _ { s with heap := s.heap.push (seqObj "list" #[] 0) }
  have hq : (s.heap.push (seqObj "list" #[] 0)).get? t = some o := Heap.get?_push_of_some _ ho
  unfold Builtin.List.listExtendWith; refine wpAny_bind (wpAny_typeOf (T := "tuple") ⟨o, hq, hc⟩ ?_)
  have hy : (Value.type "tuple" == Value.type "tuple") = true := by rfl
  rw [if_pos (by rw [hy]; simp)]
  refine wpAny_bind (listItems_at hq hd (wpAny_bind (listItems_at (xs := #[]) (n := 0) (Heap.get?_push_size _ rfl) rfl ?_)))
  rw [if_neg (by simp)]
  refine wpAny_bind (listUpdate_at (xs := #[]) (n := 0) (Heap.get?_push_size _ rfl) rfl (wpAny_pure ?_) (Nat.zero_le _) (by show (#[] ++ vs.toArray).size ≤ sizeLine + 1; simp only [Array.size_append, List.size_toArray, List.length_nil]; omega))
  show wpAny (model prog w) A (load s.heap.objs.size >>= fun o => (match o.data with | .seq xs _ => pure xs.toList | _ => unsupported "internal:collect")) Q E { s with heap := (s.heap.push (seqObj "list" #[] 0)).update s.heap.objs.size (Obj.mapSeq (· ++ vs.toArray)) }
  refine wpAny_bind (wpAny_load (get?_update_seq (Heap.get?_push_size _ rfl) _) ?_)
  show wpAny _ _ (pure ((#[] : Array Value) ++ vs.toArray).toList) Q E _
  have hv : ((#[] : Array Value) ++ vs.toArray).toList = vs := by simp
  rw [hv]; exact wpAny_pure h
theorem sortedT {l : Addr} {vs : List Value} {ltv : Value → Value → Bool} {Q : Value → Shared → Prop} (O : SrtO.Swo ltv) (hl : s.heap.IsTuple l vs.toArray) (hz : vs.length ≤ sizeLine)
    (hS : 2 ≤ vs.length → ∀ (h₁ : Heap) (a : Addr), h₁.get? a = some (seqObj "list" vs.toArray 0) → (∀ b o, s.heap.get? b = some o → b ≠ a ∧ h₁.get? b = some o) → SrtO.SortableO prog w A.in1.in1 { s with heap := h₁ } a vs ltv)
    (h : ∀ out : List Value, SrtO.Srtd ltv out → SrtO.Stb ltv out vs → Q (.ref (s.heap.objs.size + 1)) { s with heap := sortedAll s.heap vs out.toArray }) : wpAny (model prog w) A (call (.builtin "sorted") [.ref l]) Q E s := by
  refine Calls.call_function_entry kind_sorted plain_sorted entry_sorted (args_sorted1 _) ?_; unfold Builtin.«sorted»
  refine wpAny_bind (m := checkCount "sorted" 1 1 _) (wpAny_pure (wpAny_bind (collectT hl hz (wpAny_bind (wpAny_newList ?_ hz)))))
  have hn : ((s.heap.push (seqObj "list" #[] 0)).update s.heap.objs.size (Obj.mapSeq (· ++ vs.toArray))).objs.size = s.heap.objs.size + 1 := by rw [Heap.size_update, size_push']
  have hp : (((s.heap.push (seqObj "list" #[] 0)).update s.heap.objs.size (Obj.mapSeq (· ++ vs.toArray))).push (seqObj "list" vs.toArray 0)).get? (s.heap.objs.size + 1) = some (seqObj "list" vs.toArray 0) := by rw [← hn]; exact Heap.get?_push_size _ rfl
  have kp : ∀ b o, s.heap.get? b = some o → b ≠ s.heap.objs.size + 1 ∧ (((s.heap.push (seqObj "list" #[] 0)).update s.heap.objs.size (Obj.mapSeq (· ++ vs.toArray))).push (seqObj "list" vs.toArray 0)).get? b = some o := fun b o q => by
    have hlt : b < s.heap.objs.size := Heap.lt_size q
    refine ⟨Nat.ne_of_lt (Nat.lt_succ_of_lt hlt), Heap.get?_push_of_some _ (Eq.trans (Heap.get?_update_ne _ _ _ _ (Nat.ne_of_lt hlt)) (Heap.get?_push_of_some _ q))⟩
  show wpAny _ _ _ _ _ { s with heap := ((s.heap.push (seqObj "list" #[] 0)).update s.heap.objs.size (Obj.mapSeq (· ++ vs.toArray))).push (seqObj "list" vs.toArray 0) }; rw [hn]
  exact wpAny_bind (wpAny_holding (wpAny_call_entry slot_list_sort ⟨_, hp, rfl⟩ entry_list_sort (SrtO.list_sort_ord O hp hz (fun h2 => hS h2 _ _ hp kp) fun out a b => ⟨_, rfl, wpAny_pure ⟨_, rfl, h out a b⟩⟩) (args_list_sort _)))
theorem slPlacesBack (n : Nat) : Builtin.Slice.sliceAdjust none none (-1) (n : Int) = ((n : Int) - 1, -1) ∧ Builtin.Slice.slicePlaces ((n : Int) - 1) (-1) (-1) = n := by
  refine ⟨?_, ?_⟩
  · simp [Builtin.Slice.sliceAdjust]
  · unfold Builtin.Slice.slicePlaces
    have h1 : ¬ ((-1 : Int) > 0) := by decide
    by_cases h : n = 0
    · subst h; simp
    · simp
      omega
theorem fm_congr {α β : Type} {f g : α → Option β} : ∀ {l : List α}, (∀ a ∈ l, f a = g a) → l.filterMap f = l.filterMap g
  | [], _ => rfl
  | a :: l, h => by
    rw [List.filterMap_cons, List.filterMap_cons, h a List.mem_cons_self, fm_congr fun b hb => h b (List.mem_cons_of_mem _ hb)]
theorem pickBack (xs : Array Value) : ((List.range xs.size).filterMap fun (m : Nat) => xs[((xs.size : Int) - 1 + (m : Int) * -1).toNat]?).toArray = xs.toList.reverse.toArray := by
  congr 1
  have e : (List.range xs.size).filterMap (fun (m : Nat) => xs[((xs.size : Int) - 1 + (m : Int) * -1).toNat]?) = ((List.range xs.size).map (fun k => xs.size - 1 - k)).filterMap (xs[·]?) := by
    rw [List.filterMap_map]
    refine fm_congr fun m hm => ?_
    have := List.mem_range.mp hm
    have e : ((xs.size : Int) - 1 + (m : Int) * -1).toNat = xs.size - 1 - m := by omega
    rw [e]; rfl
  rw [e, PySem.W.krv_range, List.filterMap_reverse, PySem.W.krv_all]
theorem sliceBack {sl : Addr} {vl vu vs : Value} {n : Nat} {R : Int × Int × Nat → Shared → Prop} (hs : s.heap.IsSliceOf sl vl vu vs) (pl : IsPart vl none) (pu : IsPart vu none) (ps : IsPart vs (some (-1))) (hR : R ((n : Int) - 1, -1, n) s) :
    wpAny (model prog w) A (Builtin.Slice.sliceApplied (.ref sl) (pure (n : Int))) R E s := by
  obtain ⟨os, hos, hcs, hds⟩ := id hs
  unfold Builtin.Slice.sliceApplied Builtin.Slice.sliceFields
  refine wpAny_bind (wpAny_bind (wpAny_field hos hds (x := vl) rfl (wpAny_bind (wpAny_field hos hds (x := vu) rfl (wpAny_bind (wpAny_field hos hds (x := vs) rfl (wpAny_pure ?_)))))))
  refine wpAny_bind (HT.slicePart_ ps ?_)
  show wpAny _ _ (if ((-1 : Int) == 0) = true then _ else _) _ _ s
  rw [if_neg (by decide)]
  refine wpAny_bind (HT.slicePart_ pl (wpAny_bind (HT.slicePart_ pu (wpAny_bind (wpAny_pure ?_)))))
  show wpAny _ _ (match Builtin.Slice.sliceAdjust none none (-1) (n : Int) with | (lo, hi) => pure (lo, (-1 : Int), Builtin.Slice.slicePlaces lo hi (-1))) _ _ s
  rw [(slPlacesBack n).1]
  show wpAny _ _ (pure ((n : Int) - 1, (-1 : Int), Builtin.Slice.slicePlaces ((n : Int) - 1) (-1) (-1))) _ _ s
  rw [(slPlacesBack n).2]
  exact wpAny_pure hR
theorem getItem_tuple_back {t sl : Addr} {items : Array Value} {vl vu vs : Value} {Q : Value → Shared → Prop} (ht : IsTup s.heap t items) (hs : s.heap.IsSliceOf sl vl vu vs) (pl : IsPart vl none) (pu : IsPart vu none) (ps : IsPart vs (some (-1)))
    (h : Q (.ref s.heap.objs.size) { s with heap := s.heap.push { cls := .type "tuple", data := .seq items.toList.reverse.toArray } }) (hsz : items.size ≤ sizeLine) : wpAny (model prog w) A (getItem (.ref t) (.ref sl)) Q E s := by
  have htake : sizeOk (.seq items.toList.reverse.toArray) := by
    show items.toList.reverse.toArray.size ≤ sizeLine
    simpa using hsz
  obtain ⟨os, hos, hcs, hds⟩ := id hs
  unfold getItem; try with_reducible refine wpAny_holding ?_
  first | refine wpAny_bind (wpAny_pure ?_) | skip
  refine wpAny_bind (wpAny_sequenceKey ht.typeIs (by decide) (wpAny_bind (wpAny_callSpecial?_slot (name := Str.ofString "__getitem__") ht.typeIs PyProof.Rows.slot_tuple_getitem
    (wpAny_call_entry PyProof.Rows.slot_tuple_getitem ht.typeIs entry_tuple_getitem ?_ (args_tuple_getitem _ _)))))
  show wpAny _ _ (Builtin.Tuple.tupleItemsOf (.ref t) >>= _) _ _ s
  refine wpAny_bind (tupleItemsOf_ ht (wpAny_bind (wpAny_typeOf (T := "slice") ⟨os, hos, hcs⟩ ?_)))
  rw [if_pos (by decide)]
  refine wpAny_bind (sliceBack hs pl pu ps ?_)
  show wpAny _ _ (if (((items.size : Int) - 1) == 0 && (-1 : Int) == 1 && items.size == items.size) = true then _ else _) _ _ s
  rw [if_neg (by simp), pickBack]
  first
    | exact wpAny_bind (wpAny_bind (m := Builtin.Tuple.tupleExact _) (wpAny_newObj_type (wpAny_pure ⟨_, rfl, wpAny_pure h⟩) htake))
    | exact wpAny_bind (m := Builtin.Tuple.tupleExact _) (wpAny_newObj_type (wpAny_pure ⟨_, rfl, wpAny_pure h⟩) htake)
    | exact wpAny_bind (m := Builtin.Tuple.tupleExact _) (wpAny_newObj_type (wpAny_bind (wpAny_pure (wpAny_pure ⟨_, rfl, wpAny_pure h⟩))) htake)
end
section
variable {X : Cx}
theorem cr_sumT (hc : X.calm = true) : CallR X (.builtin "sum") (fun vs H Q => ∃ (a : Addr) (ns : List Int), vs = [V.ref a] ∧ SqT X.K H a (ns.map V.int) ∧ Q (.int ns.sum) H) := by
  intro pins s σ H vs us Q I r h
  obtain ⟨a, ns, rfl, hs, q⟩ := h
  obtain ⟨its, rv, hl, hz⟩ := I.tuple hs
  rw [Vals.ref1 r]
  obtain ⟨xs, e⟩ := rv.ints.allInts.items
  have hn : numsOf (intItems xs).toList = ns := by rw [← e]; exact rv.ints.numsOf
  rw [nums_intItems] at hn
  rw [e] at hl
  refine PySem.W.ktm_sumG (I.ok.hd hc) hl fun h' tk t' hk => ?_
  rw [preSum_eq, List.take_of_length_le (by simp), hn]
  exact ⟨.int ns.sum, H, I.kept (t' := tk) hk, ⟨_, rfl⟩, q⟩
theorem cr_sortedTI : CallR X (.builtin "sorted") (fun vs H Q => ∃ (a : Addr) (ns : List Int), vs = [V.ref a] ∧ SqT X.K H a (ns.map V.int) ∧ ∀ (ns' : List Int) (p : Addr), ns'.Perm ns → ns'.Pairwise (· ≤ ·) → H p = none → Q (.ref p) (upd H p (.lst (ns'.map V.int)))) := by
  intro pins s σ H vs us Q I r h
  obtain ⟨a, ns, rfl, hs, q⟩ := h
  obtain ⟨its, rv, hl, hz⟩ := I.tuple hs
  rw [Vals.ref1 r]
  have hi := rv.ints
  refine sortedT SrtO.swo_int hl (by rw [← rv.length]; exact hz) (fun h2 h₁ a' _ _ => SrtO.ints_sortable hi h2) fun out h1 h2 => ?_
  obtain ⟨k1, k2, k3⟩ := SrtO.ints_out hi h1 h2
  obtain ⟨ep, he'⟩ := PyProof.Rows.sortedAll_at s.heap its out.toArray
  have hlen : ((out.map SrtO.iv).map V.int).length ≤ sizeLine := by rw [List.length_map, k2.length_eq]; rw [List.length_map] at hz; exact hz
  exact ⟨.ref _, _, I.laid (o := .lst ((out.map SrtO.iv).map V.int)) (t' := s.toks) (fun _ _ => PyProof.Rows.sortedAll_old) (Nat.le_succ _) ⟨hlen, out, ep, vals_of_ints k1, he'⟩, rfl, q _ _ k2 k3 (I.hok.fresh (Nat.le_succ _))⟩
theorem pe_revT {e : Expr} {te : TE} {k : Nat} {p1 p2 p3 pos : Pos} (he : PE X e te) : PE X (.Subscript e (.Slice none none (some (.UnaryOp .USub (.Constant (.int 1) k p1) p2)) p3) pos)
    (fun σ H Q => te σ H fun x H1 => ∃ a xs, x = .ref a ∧ SqT X.K H1 a xs ∧ ∀ p, H1 p = none → Q (.ref p) (upd H1 p (.tup xs.reverse))) := by
  refine ⟨fun pins s σ H Q I h => Subscript_ (thn (he.run pins s σ H _ I h) fun v s1 ⟨x, H1, I1, r1, q1⟩ => ?_)⟩
  obtain ⟨a, xs, ex, hx, q⟩ := q1
  subst ex; cases r1
  have hst : PO X (some (.UnaryOp .USub (.Constant (.int 1) k p1) p2)) (tPart (tUn (rU fun i => .int (-i)) (tC (.int 1)))) := po_some (pe_un un_neg pe_int)
  refine wpAny_Slice (thn (po_none.run pins s1 σ H1 (fun o H2 => o = none ∧ H2 = H1) I1 ⟨rfl, rfl⟩) fun vl s2 ⟨l, H2, I2, pl, el, e2⟩ => ?_)
  subst el e2
  refine thn (po_none.run pins s2 σ H2 (fun o H3 => o = none ∧ H3 = H2) I2 ⟨rfl, rfl⟩) fun vu s3 ⟨u, H3, I3, pu, eu, e3⟩ => ?_
  subst eu e3
  refine thn (hst.run pins s3 σ H3 (fun o H4 => o = some (-1) ∧ H4 = H3) I3 ⟨1, rfl, -1, rfl, rfl, rfl⟩) fun vs s4 ⟨o, H4, I4, ps, eo, e4⟩ => ?_
  subst eo e4
  have I5 : Inv X pins σ H4 { s4 with heap := s4.heap.push { cls := .type "slice", data := .fields #[vl, vu, vs] } } := I4.kept (t' := s4.toks) fun b ob q => Heap.get?_push_of_some _ q
  obtain ⟨its, r, ht, hz⟩ := I5.tuple hx
  have hlen := r.length
  show wpAny (model X.prog X.w) X.A (subscriptTail e (.Slice none none (some (.UnaryOp .USub (.Constant (.int 1) k p1) p2)) p3) (.ref a) (.ref s4.heap.objs.size)) (EP X pins σ Q) X.xe { s4 with heap := s4.heap.push { cls := .type "slice", data := .fields #[vl, vu, vs] } }
  refine tail_any (ops := [.ref a, .ref s4.heap.objs.size]) ht.typeIs (PyProof.Rows.slot_tuple_getitem.lookup) ?_ (by with_unfolding_all rfl)
  refine getItem_tuple_back ht (Heap.IsSliceOf.new _ vl vu vs) pl pu ps ?_ (by rw [List.size_toArray]; omega)
  exact ⟨.ref _, _, I5.laid (t' := s4.toks) (o := .tup xs.reverse) (fun b ob q => Heap.get?_push_of_some _ q) (Nat.le_refl _) ⟨by rw [List.length_reverse]; exact hz, _, r.reverse, IsTup.new _ _⟩, rfl, q _ (I5.hok.fresh (Nat.le_refl _))⟩
end
end Rk

namespace Rk
open PySem PySem.Spec PyProof.Rows L2
section
variable {X : Cx} {W : WX} {env : List Sl} {e a b tg : Expr} {es : List Expr} {d da db : PyData} {ds xs ys : List PyData} {pos p : Pos} {x : Str} {id T : String}
theorem OpF.v {f : Value → Value → Sem Value} (h : OpF X f da db xs) : OpV X f da db (.list xs) := by
  obtain ⟨r, hr, h⟩ := h
  refine ⟨r, hr, fun x y H0 H hs hx hy Q q => h x y H0 H hs hx hy Q fun p vs H0' H' g hn h0 hp ha => ?_⟩
  refine q _ (upd H0' p (.lst vs)) H' ⟨g.f.trans (same_new h0), g.b, fun a u e => ?_, fun a o u h1 h2 => ?_⟩ (.lst upd_same (ha.mono (same_new h0)))
  · by_cases z : a = p
    · subst z; rw [upd_same] at e; cases e; exact hp
    · rw [upd_ne z] at e; exact g.i _ _ e
  · rw [upd_ne (ne_of_none h1 hn)] at h2; exact g.n _ _ _ h1 h2
/-! ### an if whose branches part -/
theorem evv_ifB {c : Expr} {k1 : Bool} {d1 d2 : PyData} (hc : EvT X env c k1) (h1 : k1 = true → EvV X env a d1) (h2 : k1 = false → EvV X env b d2) : EvV X env (.IfExp c a b pos) (if k1 then d1 else d2) := by
  cases k1 with
  | true => exact evv_if hc (fun _ => h1 rfl) (fun z => by cases z)
  | false => exact evv_if hc (fun z => by cases z) (fun _ => h2 rfl)
/-! ### what is walked, by its data -/
inductive ItD {α : Type} : PyData → (α → PyData) → List α → Prop
  | tup {ι : α → PyData} {ys : List α} : ItD (.tuple (ys.map ι)) ι ys
  | lst {ι : α → PyData} {ys : List α} : ItD (.list (ys.map ι)) ι ys
theorem ItD.tupI {xs : List PyData} : ItD (.tuple xs) (fun d => d) xs := by
  have h := ItD.tup (ι := fun d : PyData => d) (ys := xs)
  rwa [List.map_id''] at h
  exact fun _ => rfl
theorem ItD.lstI {xs : List PyData} : ItD (.list xs) (fun d => d) xs := by
  have h := ItD.lst (ι := fun d : PyData => d) (ys := xs)
  rwa [List.map_id''] at h
  exact fun _ => rfl
theorem evi_of {α : Type} {ι : α → PyData} {ys : List α} (h : EvV X env e d) (hi : ItD d ι ys) : EvI X env tg e ι ys := by
  cases hi with
  | tup => exact evi_tup h
  | lst => exact evi_list h
/-! ### subscripts by data -/
def ixD : PyData → Int → Option PyData
  | .tuple xs, i => atI xs i
  | .list xs, i => atI xs i
  | .dict ps, i => (atI ps i).map (·.1)
  | _, _ => none
theorem atI_map {α β : Type} (f : α → β) (xs : List α) (i : Int) : atI (xs.map f) i = (atI xs i).map f := by
  unfold atI
  rw [List.length_map]
  cases ixN xs.length i with
  | none => rfl
  | some j => show (xs.map f)[j]? = (xs[j]?).map f; rw [List.getElem?_map]
theorem evv_ix {i : Int} (ha : EvV X env a da) (hb : EvV X env b (.int i)) (h : ixD da i = some d) (hs : PlainIx b := by exact fun _ _ => rfl) : EvV X env (.Subscript a b pos) d := by
  cases da with
  | tuple xs => exact evv_ixT ha hb h hs
  | list xs => exact evv_ixL ha hb h hs
  | dict ps =>
    refine ⟨fun Hf Hb σ H0 H k Q q => ⟨_, pe_ix ix_list uE uE hs, two ha hb k fun x y H1 H1' g d1 d2 => ?_⟩⟩
    cases d1 with
    | @scr r ns ps h1 e1 =>
      have e1 := PyData.dict.inj e1
      subst e1
      have h : (atI (ns.map fun n => ((PyData.int n, PyData.none) : PyData × PyData)) i).map (·.1) = some d := h
      rw [atI_map] at h
      cases z : atI ns i with
      | none => rw [z] at h; cases h
      | some n =>
        rw [z] at h; cases h
        rw [dq_int d2]
        exact ⟨r, _, i, .int n, rfl, rfl, g.i.seq h1, by rw [atI_map, z]; rfl, q _ H1 H1' g (.int n)⟩
  | none => cases h
  | bool b => cases h
  | int i => cases h
  | str x => cases h
def slD : PyData → Option Int → Option Int → Option PyData
  | .tuple xs, l, u => some (.tuple (cutD xs l u))
  | .list xs, l, u => some (.list (cutD xs l u))
  | _, _, _ => none
theorem evv_sl {lo hi : Option Expr} {l u : Option Int} {p2 : Pos} (ha : EvV X env a da) (hl : EvO X env lo l) (hu : EvO X env hi u) (h : slD da l u = some d := by rfl) : EvV X env (.Subscript a (.Slice lo hi none p2) pos) d := by
  cases da with
  | tuple xs => cases h; exact evv_slT ha hl hu
  | list xs => cases h; exact (evf_slL ha.bor hl hu).v
  | _ => cases h
def rvD : PyData → Option PyData
  | .tuple xs => some (.tuple xs.reverse)
  | .list xs => some (.list xs.reverse)
  | _ => none
theorem evv_rev {k : Nat} {p1 p2 p3 : Pos} (ha : EvV X env a da) (h : rvD da = some d := by rfl) : EvV X env (.Subscript a (.Slice none none (some (.UnaryOp .USub (.Constant (.int 1) k p1) p2)) p3) pos) d := by
  cases da with
  | tuple xs =>
    cases h
    refine ⟨fun Hf Hb σ H0 H kk Q q => ⟨_, pe_revT uE, ha.run Hf Hb σ H0 H kk _ fun v H1 H1' g hv => ?_⟩⟩
    obtain ⟨r, vs, rfl, h1, h2⟩ := dq_tup hv
    exact ⟨r, vs, rfl, SqT.of (g.i _ _ h1), fun t ht => q _ _ _ (g.trans (Gr.new g.i ht)) (.tup upd_same (h2.reverse.mono (same_new (g.i.free ht))))⟩
  | list xs =>
    cases h
    refine ⟨fun Hf Hb σ H0 H kk Q q => ⟨_, pe_revL uE, ha.run Hf Hb σ H0 H kk _ fun v H1 H1' g hv => ?_⟩⟩
    obtain ⟨r, vs, rfl, h1, h2⟩ := dq_lst hv
    exact ⟨r, vs, rfl, SqL.of (g.i _ _ h1), fun t ht => q _ _ _ (g.trans (Gr.new g.i ht)) (.lst upd_same (h2.reverse.mono (same_new (g.i.free ht))))⟩
  | _ => cases h
/-! ### sums, sorts of tuples and lists as data -/
theorem ca_sumT (hc : X.calm = true) {ns : List Int} : CaV X (.builtin "sum") [.tuple (ns.map .int)] (.int ns.sum) := ⟨_, cr_sumT hc, fun vs H0 H hs ha Q q => by
  cases ha with
  | cons h t =>
    cases t
    obtain ⟨a, vs, rfl, h1, h2⟩ := dq_tup h
    rw [dqa_ints h2] at h1
    exact ⟨a, ns, rfl, SqT.of (hs _ _ h1), q _ H0 H (Gr.refl hs) (.int _)⟩⟩
theorem ca_sumL (hc : X.calm = true) {ns : List Int} : CaV X (.builtin "sum") [.list (ns.map .int)] (.int ns.sum) := ⟨_, cr_sum hc, fun vs H0 H hs ha Q q => by
  cases ha with
  | cons h t =>
    cases t
    obtain ⟨a, vs, rfl, h1, h2⟩ := dq_lst h
    rw [dqa_ints h2] at h1
    exact ⟨a, ns, rfl, SqL.of (hs _ _ h1), q _ H0 H (Gr.refl hs) (.int _)⟩⟩
theorem ca_sortedT {ns : List Int} : CaF X (.builtin "sorted") [.tuple (ns.map .int)] ((sortI ns).map .int) := ⟨_, cr_sortedTI, fun vs H0 H hs ha Q q => by
  cases ha with
  | cons h t =>
    cases t
    obtain ⟨a, vs, rfl, h1, h2⟩ := dq_tup h
    rw [dqa_ints h2] at h1
    refine ⟨a, ns, rfl, SqT.of (hs _ _ h1), fun ns' p perm rises hn => ?_⟩
    rw [sortI_of rises perm]
    exact q p _ H0 _ (Gr.own hs hn) hn (hs.free hn) upd_same (ints_dqa _)⟩
theorem ca_sortedL {ns : List Int} : CaF X (.builtin "sorted") [.list (ns.map .int)] ((sortI ns).map .int) := ⟨_, cr_sortedI, fun vs H0 H hs ha Q q => by
  cases ha with
  | cons h t =>
    cases t
    obtain ⟨a, vs, rfl, h1, h2⟩ := dq_lst h
    rw [dqa_ints h2] at h1
    refine ⟨a, ns, rfl, SqL.of (hs _ _ h1), fun ns' p perm rises hn => ?_⟩
    rw [sortI_of rises perm]
    exact q p _ H0 _ (Gr.own hs hn) hn (hs.free hn) upd_same (ints_dqa _)⟩
/-! ### list(range(a, b)), tuple(range(..)) -/
theorem rgV_rgI (lo hi : Int) : rgV lo hi = (rgI lo hi).map V.int := by
  unfold rgV rgI
  rw [List.map_map]; rfl
theorem evf_lstRg2 {lo hi : Int} {p2 pos2 : Pos} (hm : X.mg "list" = none) (hm2 : X.mg "range" = none) (ha : EvV X env a (.int lo)) (hb : EvV X env b (.int hi)) (h : RgOk lo hi) (hg : Gl X "list" := by rfl) (hg2 : Gl X "range" := by rfl) (hc : X.calm = true := by rfl)
    (na : starEach [a, b] X.env = (false, eval a X.env) :: starEach [b] X.env := by rfl) (nb : starEach [b] X.env = (false, eval b X.env) :: starEach [] X.env := by rfl) (hp : (backTo pos2 (starEach [b] X.env)).any (·.1) = false := by rfl)
    (nc : starEach [.Call (.Name "range" p2) [a, b] [] pos2] X.env = (false, eval (.Call (.Name "range" p2) [a, b] [] pos2) X.env) :: starEach [] X.env := by rfl) :
    EvF X env (.Call (.Name "list" p) [.Call (.Name "range" p2) [a, b] [] pos2] [] pos) ((rgI lo hi).map .int) := ⟨fun Hf Hb σ H0 H k Q q =>
  ⟨_, pe_listRg hc hg hm (prg_2 hg2 hm2 uE uE na nb hp) nc, two ha hb k fun x y H1 H1' g d1 d2 => by
    rw [dq_int d1, dq_int d2]
    refine ⟨lo, hi, rfl, rfl, h, fun r hr => q r _ H1 _ (g.trans (Gr.own g.i hr)) (g.b.free hr) (g.i.free hr) upd_same ?_⟩
    rw [rgV_rgI]; exact ints_dqa _⟩⟩
theorem evv_tupRg2 {lo hi : Int} {p2 pos2 : Pos} (hm : X.mg "tuple" = none) (hm2 : X.mg "range" = none) (ha : EvV X env a (.int lo)) (hb : EvV X env b (.int hi)) (h : RgOk lo hi) (hg : Gl X "tuple" := by rfl) (hg2 : Gl X "range" := by rfl) (hc : X.calm = true := by rfl)
    (na : starEach [a, b] X.env = (false, eval a X.env) :: starEach [b] X.env := by rfl) (nb : starEach [b] X.env = (false, eval b X.env) :: starEach [] X.env := by rfl) (hp : (backTo pos2 (starEach [b] X.env)).any (·.1) = false := by rfl)
    (nc : starEach [.Call (.Name "range" p2) [a, b] [] pos2] X.env = (false, eval (.Call (.Name "range" p2) [a, b] [] pos2) X.env) :: starEach [] X.env := by rfl) :
    EvV X env (.Call (.Name "tuple" p) [.Call (.Name "range" p2) [a, b] [] pos2] [] pos) (.tuple ((rgI lo hi).map .int)) := ⟨fun Hf Hb σ H0 H k Q q =>
  ⟨_, pe_tupRg hc hg hm (prg_2 hg2 hm2 uE uE na nb hp) nc, two ha hb k fun x y H1 H1' g d1 d2 => by
    rw [dq_int d1, dq_int d2]
    refine ⟨lo, hi, rfl, rfl, h, fun r hr => q _ _ _ (g.trans (Gr.new g.i hr)) (.tup upd_same ?_)⟩
    rw [rgV_rgI]; exact ints_dqa _⟩⟩
/-! ### name = [comprehension] -/
section
variable {α : Type} {ι : α → PyData} {zs : List α} {elt iter : Expr} {ifs : List Expr} {scope : Scope} {own : List (Str × Nat)} {envb : α → List Sl} {is : List Nat} {t : α → Bool} {g : α → PyData} {py spos : Pos}
theorem gos_setLc (i : Nat) (hN : X.N.Nodup) (ok : BlkOk X.N X.env.scope scope own) (hi : EvI X env tg iter ι zs)
    (hg : ∀ s Hx C cl fp, ∀ y ∈ zs, TgD (X.blk s Hx scope (compEnvC scope cl C X.env) fp) (wiped env own) tg (ι y) (envb y) is)
    (ht : ∀ s Hx C cl fp, ∀ y ∈ zs, EvTs (X.blk s Hx scope (compEnvC scope cl C X.env) fp) (envb y) ifs (t y))
    (he : ∀ s Hx C cl fp, ∀ y ∈ zs, t y = true → EvV (X.blk s Hx scope (compEnvC scope cl C X.env) fp) (envb y) elt (g y)) (hz : zs.length < sizeLine)
    (hsw : swapsWith (.ListComp elt [⟨tg, iter, ifs, 0⟩] scope pos) (some (.Name x py)) spos.line X.env = pure true)
    (hy : X.N[i]? = some x := by rfl) (hyl : X.env.scope.names.lookup x = some .local := by rfl) (his : ∀ i ∈ is, i ∈ own.map (·.2) := by decide) (hc : X.calm = true := by rfl) (hs : ∀ x, foldedSetIterable iter X.env x = pure x := by intro _; rfl) :
    GoS X W env (.Assign [.Name x py] (.ListComp elt [⟨tg, iter, ifs, 0⟩] scope pos) spos) (.nx (env.set i (.v (.list ((zs.filter t).map g))))) := ⟨fun Hf Hb σ H0 H k D q => by
  refine ⟨_, ps_setLc (own := own) (wi := wI X tg iter) (g := famG X scope tg) (tt := famT X scope ifs) (te := famE X scope elt) hc hN hy hyl hsw uI ok
    (fun s H C cl fp => ⟨fun pins s' σ H' v u Q I r h => uG.run pins s' σ H' v u Q I r (h s H C cl fp)⟩)
    (fun s H C cl fp => ⟨fun pins s' σ H' Q I h => uTs.run pins s' σ H' Q I (h s H C cl fp)⟩)
    (fun s H C cl fp => ⟨fun pins s' σ H' Q I h => uE.run pins s' σ H' Q I (h s H C cl fp)⟩) hs, ?_⟩
  refine comp_run hi hg his ht he hz k fun p vs H1 H1' g1 hn h0 hp ha => ?_
  have gg : Gr H0 H (upd H1 p (.lst vs)) H1' := ⟨g1.f.trans (same_new h0), g1.b, fun a u e => by
    by_cases z : a = p
    · subst z; rw [upd_same] at e; cases e; exact hp
    · rw [upd_ne z] at e; exact g1.i _ _ e, fun a o u h1 h2 => by
    rw [upd_ne (ne_of_none h1 hn)] at h2; exact g1.n _ _ _ h1 h2⟩
  exact q _ _ _ ((k.gro gg).setv (.lst upd_same (ha.mono (same_new h0))))⟩
end
/-! ### small closers -/
end
end Rk
namespace Rk
open PySem PySem.Spec PyProof.Rows L2
section
variable {X : Cx} {W : WX} {env : List Sl} {e a b tg : Expr} {d da db : PyData} {pos p : Pos} {x : Str}
inductive ZpD {α β : Type} : PyData → PyData → (α → PyData) → (β → PyData) → List α → List β → Prop
  | tup {ι : α → PyData} {κ : β → PyData} {ys : List α} {zs : List β} : ZpD (.tuple (ys.map ι)) (.tuple (zs.map κ)) ι κ ys zs
  | lst {ι : α → PyData} {κ : β → PyData} {ys : List α} {zs : List β} : ZpD (.list (ys.map ι)) (.list (zs.map κ)) ι κ ys zs
theorem evi_zip {α β : Type} {ι : α → PyData} {κ : β → PyData} {ys : List α} {zs : List β} {elts : List Expr} {kk : Nat} {tpos : Pos} (hm : X.mg "zip" = none) (ha : EvV X env a da) (hb : EvV X env b db) (hz : ZpD da db ι κ ys zs) (hg : Gl X "zip" := by rfl)
    (hs : starEach [a, b] X.env = (false, eval a X.env) :: starEach [b] X.env := by rfl) (hs2 : starEach [b] X.env = (false, eval b X.env) :: starEach [] X.env := by rfl) (hpl : (backTo pos (starEach [b] X.env)).any (·.1) = false := by rfl) :
    EvI X env (.Tuple elts kk tpos) (.Call (.Name "zip" p) [a, b] [] pos) (fun p : α × β => .tuple [ι p.1, κ p.2]) (ys.zip zs) := by
  cases hz with
  | tup => exact evi_zipT hm ha hb hg hs hs2 hpl
  | lst => exact evi_zipL hm ha hb hg hs hs2 hpl
end
end Rk
namespace Rk
open PySem PySem.Spec PyProof.Rows L2
section
variable {X : Cx} {W : WX} {env : List Sl} {e : Expr} {d : PyData} {xs ys : List PyData} {pos p : Pos} {x y : Str}
/-- xs.append(ys.pop(e)), both owned -/
theorem gos_appendPop (i j : Nat) {k : Nat} {ap aq q1 q2 : Pos} (h : EvV X env e (.int (k : Nat))) (hij : i ≠ j := by decide) (hi : env[i]? = some (.o xs) := by rfl) (hj : env[j]? = some (.o ys) := by rfl) (hk : ys[k]? = some d) (hkb : k ≤ 100000) (hz : xs.length < sizeLine := by exact sz_of (by (try simp only [List.length_map, List.length_zip, List.length_drop, List.length_range, rgI_len, List.length_append, List.length_cons, List.length_nil, List.length_reverse]); omega))
    (hN : X.N[i]? = some x := by rfl) (hv : Vis X.env.scope x := by first | exact Or.inl rfl | exact Or.inr (Or.inl rfl)) (hd : (x == ("__debug__" : Str)) = false := by decide) (hcd : (x == ("__classdict__" : Str)) = false := by decide)
    (hNj : X.N[j]? = some y := by rfl) (hvj : Vis X.env.scope y := by first | exact Or.inl rfl | exact Or.inr (Or.inl rfl)) (hdj : (y == ("__debug__" : Str)) = false := by decide) (hcdj : (y == ("__classdict__" : Str)) = false := by decide)
    (hb1 : attributeBase (.Name x p) "append" X.env (eval (.Name x p) X.env) = eval (.Name x p) X.env := by rfl) (hb2 : attributeBase (.Name y q1) "pop" X.env (eval (.Name y q1) X.env) = eval (.Name y q1) X.env := by rfl)
    (hf1 : ((backTo pos (starEach [.Call (.Attribute (.Name y q1) "pop" aq) [e] [] q2] X.env)).all (fun x => !x.1) && (backToKw pos (keywordEach [] X.env)).all (fun x => x.1.isSome) && decide ([e].length + ([] : List Keyword).length + (if ([] : List Keyword).isEmpty then 0 else 1) < 30)) = true := by rfl)
    (hf2 : ((backTo q2 (starEach [e] X.env)).all (fun x => !x.1) && (backToKw q2 (keywordEach [] X.env)).all (fun x => x.1.isSome) && decide ([e].length + ([] : List Keyword).length + (if ([] : List Keyword).isEmpty then 0 else 1) < 30)) = true := by rfl)
    (hl1 : (ap.endLine == pos.line) = true := by rfl) (hl2 : (aq.endLine == q2.line) = true := by rfl)
    (hs1 : starEach [.Call (.Attribute (.Name y q1) "pop" aq) [e] [] q2] X.env = (false, eval (.Call (.Attribute (.Name y q1) "pop" aq) [e] [] q2) X.env) :: starEach [] X.env := by rfl) (hs2 : starEach [e] X.env = (false, eval e X.env) :: starEach [] X.env := by rfl)
    (hp1 : (backTo pos (starEach [] X.env)).any (·.1) = false := by rfl) (hp2 : (backTo q2 (starEach [] X.env)).any (·.1) = false := by rfl) {pos2 : Pos}
    (hsw : swapsWith (.Call (.Attribute (.Name x p) "append" ap) [.Call (.Attribute (.Name y q1) "pop" aq) [e] [] q2] [] pos) none pos2.line X.env = pure false := by rfl) :
    GoS X W env (.Expr (.Call (.Attribute (.Name x p) "append" ap) [.Call (.Attribute (.Name y q1) "pop" aq) [e] [] q2] [] pos) pos2) (.nx ((env.set j (.o (ys.eraseIdx k))).set i (.o (xs ++ [d])))) := ⟨fun Hf Hb σ H0 H kk D q => by
  obtain ⟨z1, h1, r, vs, h2, h3, h4, h5, h6⟩ := kk.sl i _ hi
  subst h2
  obtain ⟨z2, g1, r', ws, g2, g3, g4, g5, g6⟩ := kk.sl j _ hj
  subst g2
  refine ⟨_, ps_expr (pe_bm PySem.F.plainAttrs_list PySem.F.slot_list_append PySem.F.type_list_append mt_append (pe_var hN hv hd hcd)
    (pa_cons (pe_bm PySem.F.plainAttrs_list PySem.F.slot_list_pop PySem.F.type_list_pop mt_popAt (pe_var hNj hvj hdj hcdj) (pa_cons uE pa_nil hs2) hb2 hf2 hl2 hs2 hp2) pa_nil hs1) hb1 hf1 hl1 hs1 hp1) hsw, ?_⟩
  refine ⟨_, h1, .inl ⟨rfl, _, SqL.of h5⟩, _, g1, .inl ⟨rfl, _, SqL.of g5⟩, h.run Hf Hb σ H0 H kk _ fun v H1 H1' g hv => ?_⟩
  rw [dq_int hv]
  have hne : r ≠ r' := fun z => by
    subst z
    exact kk.ne i j _ _ _ hij hi hj h1 g1
  obtain ⟨u, hu, hdu⟩ := (g6.mono g.f).get hk
  have hkl : k < ws.length := (List.getElem?_eq_some_iff.mp hu).1
  have p1 := g.b _ _ h5
  have p2 := g.b _ _ g5
  refine ⟨r', ws, (k : Nat), k, u, rfl, rfl, p2, by omega, ?_, ?_, hu, ?_⟩
  · omega
  · have e0 : ¬ ((k : Int) < 0) := by omega
    unfold seqIndex?
    simp [e0, hkl]
  · refine ⟨r, vs, u, rfl, rfl, by rw [upd_ne hne]; exact p1, by rw [h6.length]; exact hz, q _ H1 _ ?_⟩
    have k1 := (kk.gro g).mut (ys := ys.eraseIdx k) hj g1 ((g6.mono g.f).eraseIdx k)
    exact k1.mut (ys := xs ++ [d]) (xs := xs) (by rw [List.getElem?_set_ne (Ne.symm hij)]; exact hi) h1 ((h6.mono g.f).append (.cons hdu .nil))⟩
end
end Rk
namespace Rk
open PySem PySem.Spec PyProof.Rows L2
section
variable {X : Cx} {W : WX} {env : List Sl} {e a b tg : Expr} {d da db : PyData} {pos p : Pos} {x : Str} {α : Type} {ι : α → PyData} {zs : List α}
theorem ca_lenTm : CaV X (.builtin "len") [.tuple (zs.map ι)] (.int zs.length) := by
  have h := ca_lenT (X := X) (xs := zs.map ι)
  rwa [List.length_map] at h
theorem ca_lenLm : CaV X (.builtin "len") [.list (zs.map ι)] (.int zs.length) := by
  have h := ca_lenL (X := X) (xs := zs.map ι)
  rwa [List.length_map] at h
theorem cb_lenM : CbV X (.builtin "len") (zs.map ι) (.int zs.length) := by
  have h := cb_len (X := X) (xs := zs.map ι)
  rwa [List.length_map] at h
section
variable {elt iter : Expr} {scope : Scope} {own : List (Str × Nat)} {envb : α → List Sl} {is : List Nat} {g : α → PyData} {py spos : Pos}
theorem evf_comp0 (hN : X.N.Nodup) (ok : BlkOk X.N X.env.scope scope own) (hi : EvI X env tg iter ι zs)
    (hg : ∀ s Hx C cl fp, ∀ y ∈ zs, TgD (X.blk s Hx scope (compEnvC scope cl C X.env) fp) (wiped env own) tg (ι y) (envb y) is)
    (he : ∀ s Hx C cl fp, ∀ y ∈ zs, EvV (X.blk s Hx scope (compEnvC scope cl C X.env) fp) (envb y) elt (g y)) (hz : zs.length < sizeLine)
    (his : ∀ i ∈ is, i ∈ own.map (·.2) := by decide) (hc : X.calm = true := by rfl) (hs : ∀ x, foldedSetIterable iter X.env x = pure x := by intro _; rfl) :
    EvF X env (.ListComp elt [⟨tg, iter, [], 0⟩] scope pos) (zs.map g) := by
  have h := evf_comp (t := fun _ => true) (pos := pos) hN ok hi hg (fun _ _ _ _ _ _ _ => ts_nil) (fun s Hx C cl fp y hy _ => he s Hx C cl fp y hy) hz his hc hs
  rwa [show (zs.filter fun _ => true) = zs from List.filter_eq_self.mpr fun _ _ => rfl] at h
theorem gos_setLc0 (i : Nat) (hN : X.N.Nodup) (ok : BlkOk X.N X.env.scope scope own) (hi : EvI X env tg iter ι zs)
    (hg : ∀ s Hx C cl fp, ∀ y ∈ zs, TgD (X.blk s Hx scope (compEnvC scope cl C X.env) fp) (wiped env own) tg (ι y) (envb y) is)
    (he : ∀ s Hx C cl fp, ∀ y ∈ zs, EvV (X.blk s Hx scope (compEnvC scope cl C X.env) fp) (envb y) elt (g y)) (hz : zs.length < sizeLine)
    (hsw : swapsWith (.ListComp elt [⟨tg, iter, [], 0⟩] scope pos) (some (.Name x py)) spos.line X.env = pure true)
    (hy : X.N[i]? = some x := by rfl) (hyl : X.env.scope.names.lookup x = some .local := by rfl) (his : ∀ i ∈ is, i ∈ own.map (·.2) := by decide) (hc : X.calm = true := by rfl) (hs : ∀ x, foldedSetIterable iter X.env x = pure x := by intro _; rfl) :
    GoS X W env (.Assign [.Name x py] (.ListComp elt [⟨tg, iter, [], 0⟩] scope pos) spos) (.nx (env.set i (.v (.list (zs.map g))))) := by
  have h := gos_setLc (W := W) (t := fun _ => true) (pos := pos) (py := py) (spos := spos) i hN ok hi hg (fun _ _ _ _ _ _ _ => ts_nil) (fun s Hx C cl fp y hy _ => he s Hx C cl fp y hy) hz hsw hy hyl his hc hs
  rwa [show (zs.filter fun _ => true) = zs from List.filter_eq_self.mpr fun _ _ => rfl] at h
end
end
end Rk
namespace Rk
open PySem PySem.Spec PyProof.Rows L2
/-! ### == of lists and tuples of ints -/
theorem eqvAll_ints : ∀ (a b : List Int), PyData.eqvAll (a.map .int) (b.map .int) = decide (a = b)
  | [], [] => by simp [PyData.eqvAll]
  | [], _ :: _ => by simp [PyData.eqvAll]
  | _ :: _, [] => by simp [PyData.eqvAll]
  | x :: a, y :: b => by
    show (PyData.eqv (.int x) (.int y) && PyData.eqvAll (a.map .int) (b.map .int)) = _
    rw [eqvAll_ints a b]
    have e : PyData.eqv (.int x) (.int y) = decide (x = y) := by
      show (x == y) = decide (x = y)
      exact Bool.eq_iff_iff.mpr (by simp)
    rw [e]
    by_cases h : x = y <;> simp [h]
theorem lay_ints : ∀ (a : List Int), PyData.canLayAll0 (a.map .int) = true
  | [] => rfl
  | x :: a => by show (true && PyData.canLayAll0 (a.map .int)) = true; rw [lay_ints a]; rfl
theorem dep_ints : ∀ (a : List Int), PyData.depthAll (a.map .int) = 0
  | [] => rfl
  | x :: a => by show max 0 (PyData.depthAll (a.map .int)) = 0; rw [dep_ints a]; rfl
theorem shT_ints {a : List Int} : SeqAt.shaped (.tuple (a.map .int)) = true := by
  unfold SeqAt.shaped
  rw [PyData.canLay0, lay_ints, PyData.depth, dep_ints]; decide
theorem shL_ints {a : List Int} : SeqAt.shaped (.list (a.map .int)) = true := by
  unfold SeqAt.shaped
  rw [PyData.canLay0, lay_ints, PyData.depth, dep_ints]; decide
section
variable {X : Cx} {a b : List Int}
theorem ov_eqTI (hu : X.A.units + 64 < cLine) : OpV X (compareOp .Eq) (.tuple (a.map .int)) (.tuple (b.map .int)) (.bool (decide (a = b))) := by
  have h := ov_eqD (X := X) hu (shT_ints (a := a)) (shT_ints (a := b))
  rwa [PyData.eqv, eqvAll_ints] at h
theorem ov_neTI (hu : X.A.units + 64 < cLine) : OpV X (compareOp .NotEq) (.tuple (a.map .int)) (.tuple (b.map .int)) (.bool (!decide (a = b))) := by
  have h := ov_neD (X := X) hu (shT_ints (a := a)) (shT_ints (a := b))
  rwa [PyData.eqv, eqvAll_ints] at h
theorem ov_eqLI (hu : X.A.units + 64 < cLine) : OpV X (compareOp .Eq) (.list (a.map .int)) (.list (b.map .int)) (.bool (decide (a = b))) := by
  have h := ov_eqD (X := X) hu (shL_ints (a := a)) (shL_ints (a := b))
  rwa [PyData.eqv, eqvAll_ints] at h
theorem ov_neLI (hu : X.A.units + 64 < cLine) : OpV X (compareOp .NotEq) (.list (a.map .int)) (.list (b.map .int)) (.bool (!decide (a = b))) := by
  have h := ov_neD (X := X) hu (shL_ints (a := a)) (shL_ints (a := b))
  rwa [PyData.eqv, eqvAll_ints] at h
theorem ov_catTm {α : Type} {ι : α → PyData} {xs ys : List α} (hz : xs.length + ys.length ≤ sizeLine) : OpV X (binaryOp .Add) (.tuple (xs.map ι)) (.tuple (ys.map ι)) (.tuple ((xs ++ ys).map ι)) := by
  have h := ov_catT (X := X) (xs := xs.map ι) (ys := ys.map ι) (by rw [List.length_map, List.length_map]; exact hz)
  rwa [← List.map_append] at h
end
end Rk
namespace Rk
open PySem PySem.Spec PyProof.Rows L2
section
variable {X : Cx} {W : WX} {env env1 env2 : List Sl} {e a b c ix : Expr} {body : List Stmt} {d da db : PyData} {xs ys : List PyData} {pos p : Pos} {x : Str}
/-! ### while by its run -/
inductive Whl (X : Cx) (W : WX) (c : Expr) (body : List Stmt) : List Sl → List Sl → Prop
  | stop {env : List Sl} : EvT X env c false → Whl X W c body env env
  | step {env env1 env2 : List Sl} : EvT X env c true → Go X W env body (.nx env1) → Whl X W c body env1 env2 → Whl X W c body env env2
theorem Whl.seq (h : Whl X W c body env env1) : ∃ (n : Nat) (inv : Nat → List Sl), inv 0 = env ∧ inv n = env1 ∧ (∀ i, i < n → EvT X (inv i) c true) ∧ EvT X (inv n) c false ∧ ∀ i, i < n → Go X W (inv i) body (.nx (inv (i + 1))) := by
  induction h with
  | @stop env h => exact ⟨0, fun _ => env, rfl, rfl, fun i hi => absurd hi (Nat.not_lt_zero _), h, fun i hi => absurd hi (Nat.not_lt_zero _)⟩
  | @step env env1 env2 h1 h2 _ ih =>
    obtain ⟨n, inv, i0, i1, i2, i3, i4⟩ := ih
    refine ⟨n + 1, fun i => match i with | 0 => env | i + 1 => inv i, rfl, i1, fun i hi => ?_, i3, fun i hi => ?_⟩
    · cases i with
      | zero => exact h1
      | succ i => exact i2 i (by omega)
    · cases i with
      | zero =>
        show Go X W env body (.nx (inv 0))
        rw [i0]; exact h2
      | succ i => exact i4 i (by omega)
theorem gos_whl (h : Whl X W c body env env1) (hp : PassesOwn (model X.prog X.w) X.A X.env X.xe) : GoS X W env (.While c body [] pos) (.nx env1) := by
  obtain ⟨n, inv, i0, i1, i2, i3, i4⟩ := h.seq
  subst i0; subst i1
  exact gos_while n inv (Wk.refl _) i2 i3 i4 hp
/-! ### stores into owned lists -/
theorem ix_get {X : Cx} : PGet X (fun x y H Q => ∃ p xs j v, x = .ref p ∧ y = .int (j : Nat) ∧ SqL X.K H p xs ∧ xs[j]? = some v ∧ Q v H) := fun pins s σ H o i ov iv Q I r1 r2 h => by
  obtain ⟨p, xs, j, v, rfl, rfl, hq, hx, q⟩ := h
  cases r1
  obtain ⟨t, rfl⟩ := r2
  obtain ⟨its, rv, pl, hz⟩ := I.list hq
  obtain ⟨u, hu, ru⟩ := rv.get hx
  have hj : j < xs.length := (List.getElem?_eq_some_iff.mp hx).1
  have hn := line63
  exact wpAny_getItem_list pl.isList (by omega) (by omega) (x := u) (by simpa using hu) ⟨v, H, I, ru, q⟩
/-- xs[ix] += e, ints, xs owned -/
theorem gos_augIx (i : Nat) {k : Nat} {u v : Int} {p1 : Pos} (hix : EvV X env ix (.int (k : Nat))) (h : EvV X env e (.int v)) (hs : env[i]? = some (.o xs) := by rfl) (hk : xs[k]? = some (.int u))
    (hN : X.N[i]? = some x := by rfl) (hv : Vis X.env.scope x := by first | exact Or.inl rfl | exact Or.inr (Or.inl rfl)) (hd : (x == ("__debug__" : Str)) = false := by decide) (hcd : (x == ("__classdict__" : Str)) = false := by decide)
    (ha : ∀ ov iv new, augStore ix ov iv new = (do holding [new, ov, iv] (setItem ov iv new); release [new, ov, iv] []; pure .next) := by intros; rfl) :
    GoS X W env (.AugAssign (.Subscript (.Name x p) ix p1) .Add e pos) (.nx (env.set i (.o (xs.set k (.int (u + v)))))) := ⟨fun Hf Hb σ H0 H kk D q => by
  obtain ⟨z1, h1, r, vs, h2, h3, h4, h5, h6⟩ := kk.sl i _ hs
  subst h2
  refine ⟨_, ps_augS (pe_var hN hv hd hcd) uE ix_get uE ip_add set_list ha, _, h1, ?_⟩
  refine hix.run Hf Hb σ H0 H kk _ fun y H1 H1' g1 hy => ?_
  rw [dq_int hy]
  obtain ⟨w, hw, hdw⟩ := (h6.mono g1.f).get hk
  have hkl : k < vs.length := (List.getElem?_eq_some_iff.mp hw).1
  refine ⟨r, vs, k, w, rfl, rfl, SqL.of (g1.b _ _ h5), hw, ?_⟩
  refine h.run Hf Hb σ H1 H1' (kk.gro g1) _ fun y2 H2 H2' g2 hy2 => ?_
  rw [dq_int hy2, dq_int hdw]
  refine ⟨u, v, rfl, rfl, r, vs, (k : Nat), k, rfl, rfl, g2.b _ _ (g1.b _ _ h5), ?_, q _ H2 _ ?_⟩
  · unfold ixN
    rw [if_pos (by omega), if_pos (by omega)]; simp
  · exact (kk.gro (g1.trans g2)).mut hs h1 (DqAll.set (.int _) k (h6.mono (g1.trans g2).f))⟩
/-- xs[ix] = e, xs owned -/
theorem gos_setIx (i : Nat) {k : Nat} {p1 : Pos} (hix : EvV X env ix (.int (k : Nat))) (h : EvV X env e d) (hs : env[i]? = some (.o xs) := by rfl) (hk : k < xs.length)
    (hN : X.N[i]? = some x := by rfl) (hv : Vis X.env.scope x := by first | exact Or.inl rfl | exact Or.inr (Or.inl rfl)) (hd : (x == ("__debug__" : Str)) = false := by decide) (hcd : (x == ("__classdict__" : Str)) = false := by decide)
    (ha : ∀ v, assign (.Subscript (.Name x p) ix p1) X.env v = (do
      let ov ← holding [v] (eval (.Name x p) X.env)
      let iv ← holding [v, ov] (eval ix X.env)
      standAt p1
      holding [v, ov, iv] (setItem ov iv v)
      release [v, ov, iv] []) := by intro _; rfl)
    (hsw : swapsWithSole [.Subscript (.Name x p) ix p1] e pos.line X.env = pure false := by rfl) (hw : swappedStores [.Subscript (.Name x p) ix p1] e X.env = pure none := by rfl) :
    GoS X W env (.Assign [.Subscript (.Name x p) ix p1] e pos) (.nx (env.set i (.o (xs.set k d)))) := ⟨fun Hf Hb σ H0 H kk D q => by
  obtain ⟨z1, h1, r, vs, h2, h3, h4, h5, h6⟩ := kk.sl i _ hs
  subst h2
  refine ⟨_, ps_asg uE (pg_sub (pe_var hN hv hd hcd) uE set_list ha) hsw hw, h.run Hf Hb σ H0 H kk _ fun y H1 H1' g1 hy => ?_⟩
  refine ⟨_, h1, hix.run Hf Hb σ H1 H1' (kk.gro g1) _ fun y2 H2 H2' g2 hy2 => ?_⟩
  rw [dq_int hy2]
  refine ⟨r, vs, (k : Nat), k, rfl, rfl, g2.b _ _ (g1.b _ _ h5), ?_, q _ H2 _ ?_⟩
  · have : k < vs.length := by rw [h6.length]; exact hk
    unfold ixN
    rw [if_pos (by omega), if_pos (by omega)]; simp
  · exact (kk.gro (g1.trans g2)).mut hs h1 (DqAll.set (hy.mono g2.f) k (h6.mono (g1.trans g2).f))⟩
/-! ### enumerate by data -/
inductive EnD {α : Type} : PyData → (α → PyData) → List α → Prop
  | lst {ι : α → PyData} {ys : List α} : EnD (.list (ys.map ι)) ι ys
theorem evi_enum {α : Type} {ι : α → PyData} {ys : List α} {elts : List Expr} {kk : Nat} {tpos : Pos} (hm : X.mg "enumerate" = none) (ha : EvV X env a da) (hd : EnD da ι ys) (hg : Gl X "enumerate" := by rfl) (hs : starEach [a] X.env = [(false, eval a X.env)] := by rfl) :
    EvI X env (.Tuple elts kk tpos) (.Call (.Name "enumerate" p) [a] [] pos) (fun p : Int × α => .tuple [.int p.1, ι p.2]) ((rgI 0 ys.length).zip ys) := by
  cases hd with
  | lst => exact evi_enumL hm ha hg hs
end
end Rk
namespace Rk
open PySem PySem.Spec PyProof.Rows L2
theorem rep_flat {α : Type} (x : α) : ∀ n : Nat, (List.replicate n [x]).flatten = List.replicate n x
  | 0 => rfl
  | n + 1 => by rw [List.replicate_succ, List.replicate_succ, List.flatten_cons, rep_flat x n]; rfl
theorem of_rep1 {X : Cx} {d : PyData} {n : Int} (h1 : -(2 ^ 63) ≤ n) (h2 : n < 2 ^ 63) (hz : n.toNat ≤ sizeLine) : OpF X (binaryOp .Mult) (.list [d]) (.int n) (List.replicate n.toNat d) := by
  have h := of_rep (X := X) (xs := [d]) h1 h2 (by rw [List.length_singleton, Nat.one_mul]; exact hz)
  rwa [rep_flat] at h
end Rk
namespace Rk
open PySem PySem.Spec PyProof.Rows L2
theorem eqv_pair (a b c d : Int) : PyData.eqv (.tuple [.int a, .int b]) (.tuple [.int c, .int d]) = decide ((a, b) = (c, d)) := by
  have h := eqvAll_ints [a, b] [c, d]
  show PyData.eqvAll ([a, b].map .int) ([c, d].map .int) = _
  rw [h]
  by_cases h1 : a = c <;> by_cases h2 : b = d <;> simp [h1, h2]
theorem ov_eqP {X : Cx} {a b c d : Int} (hu : X.A.units + 64 < cLine) : OpV X (compareOp .Eq) (.tuple [.int a, .int b]) (.tuple [.int c, .int d]) (.bool (decide ((a, b) = (c, d)))) := by
  have h := ov_eqD (X := X) hu (shT_ints (a := [a, b])) (shT_ints (a := [c, d]))
  rwa [show PyData.eqv (.tuple ([a, b].map .int)) (.tuple ([c, d].map .int)) = decide ((a, b) = (c, d)) from eqv_pair a b c d] at h
theorem ov_neP {X : Cx} {a b c d : Int} (hu : X.A.units + 64 < cLine) : OpV X (compareOp .NotEq) (.tuple [.int a, .int b]) (.tuple [.int c, .int d]) (.bool (!decide ((a, b) = (c, d)))) := by
  have h := ov_neD (X := X) hu (shT_ints (a := [a, b])) (shT_ints (a := [c, d]))
  rwa [show PyData.eqv (.tuple ([a, b].map .int)) (.tuple ([c, d].map .int)) = decide ((a, b) = (c, d)) from eqv_pair a b c d] at h
theorem ixP0 {a b : PyData} : ixD (.tuple [a, b]) 0 = some a := rfl
theorem ixP1 {a b : PyData} : ixD (.tuple [a, b]) 1 = some b := rfl
end Rk

namespace Rk
open PySem PySem.Spec PyProof.Rows L2
/-! ### try with several clauses 'except x as n' -/
abbrev Su := Addr → Value → Option Addr → TS
def dEnd (D : Ends) (i : Nat) : Ends := { nx := fun σ H => D.nx (σ.set i none) H, rt := D.rt, bk := fun σ H => D.bk (σ.set i none) H, ct := fun σ H => D.ct (σ.set i none) H }
def wMa (K : PySem.W.Frag) (i : Nat) (Wo : WX) (D : Ends) : List (Value × Su) → WX
  | [] => Wo
  | p :: r => fun cls d σ H => ∃ b, PySem.W.exmOne K cls p.1 = some b ∧ (b = true → ∀ a, H a = none → p.2 a cls d (dEnd D i) (σ.set i (some (.ref a))) H) ∧ (b = false → wMa K i Wo D r cls d σ H)
inductive HdA (X : Cx) (n : Str) : List ExceptHandler → List (Value × Su) → Prop
  | nil : HdA X n [] []
  | cons {x : Str} {c : Value} {su : Su} {st : Stmt} {ss : List Stmt} {p1 p2 : Pos} {hs : List ExceptHandler} {l : List (Value × Su)} (nm : Names X x c)
      (run : ∀ (a : Addr) (ob : Obj) (cls : Value) (d : Option Addr) (pn : List (Addr × Obj)), Zc cls d ob → (∃ vs, ob.data = .fields vs) → PSs (X.suite a ((a, ob) :: pn)) (st :: ss) (su a cls d)) (more : HdA X n hs l) :
      HdA X n (.ExceptHandler (some (.Name x p1)) (some n) (st :: ss) p2 :: hs) ((c, su) :: l)
section
variable {X : Cx} {body : List Stmt} {h0 : ExceptHandler} {hds : List ExceptHandler} {l : List (Value × Su)} {pos : Pos} {tb : WX → TS} {Wo : WX} {n : Str} {i : Nat}
theorem ps_tryAs (e1 : X.stack = X.env :: X.outer) (e2 : X.env.frame = some X.env.locals) (hN : X.N.Nodup) (hi : X.N[i]? = some n) (hn : X.env.kindOf n = some .local) (tk : Takes X Wo)
    (hb : ∀ (W : WX) (pn : List (Addr × Obj)) (xe : Value → Shared → Prop), Takes (X.tr pn xe) W → PassesOwn (model X.prog X.w) X.A X.env xe → PSs (X.tr pn xe) body (tb W)) (hh : HdA X n (h0 :: hds) l) :
    PS X (.Try body (h0 :: hds) [] [] pos) (fun D σ H => tb (wMa X.K i Wo D l) D σ H) := by
  refine ⟨fun pins s σ H D I h => wpAny_Try_except ?_⟩
  have hfr : X.A.frames = some (X.env :: X.outer) := by rw [I.ok.frames, e1]
  refine wpAny_mono ((hb (wMa X.K i Wo D l) (X.pn ++ pins) (fun e t1 => wpAny (model X.prog X.w) X.A (noteFrame e X.env) (fun _ t2 => wpAny (model X.prog X.w) X.A (setFlight e none) (fun _ t3 =>
    wpAny (model X.prog X.w) X.A (handleBy e X.env (h0 :: hds)) (SP X pins D) X.xe t3) X.xe t2) X.xe t1) (fun u t xx => ?_) PassesOwn.looking).run [] s σ H D (I.toTry _) h) (fun f t1 hsp => ?_) (fun _ _ z => z)
  · obtain ⟨a, B, sI, pins', τ, G, cls, d, rfl, J', nb, up, sky, na, os, ag, ww⟩ := xx
    have J : Inv X pins τ G sI := J'.ofTry I.ok
    have sk : Sky B (X.env :: X.outer) a (Zc cls d) X.env.locals t.heap := by rw [← e1]; exact sky
    show wpAny (model X.prog X.w) X.A (noteFrame (.ref a) X.env) _ _ _
    refine Sky.land Zc.steady hfr e2 sk fun g3 fl up3 => ?_
    have J3 : Inv X pins τ G { t with heap := g3 } := J.landed nb fl.1 (up.trans up3) os ag
    obtain ⟨o3, v3, q3, z3, d3⟩ := fl.there
    have out : a ∉ frs (X.env :: X.outer) := fun hm => by
      obtain ⟨_, o', e', hnf⟩ := fl.2.2.1.mem hm
      rw [q3] at e'; cases e'; exact hnf _ d3
    have nL : a ≠ X.env.locals := fun z => out (List.mem_filterMap.mpr ⟨X.env, List.mem_cons_self, by rw [e2, z]⟩)
    have nF : a ∉ X.fs := fun hm => by
      obtain ⟨e, he, q⟩ := List.mem_filterMap.mp hm; exact out (List.mem_filterMap.mpr ⟨e, List.mem_cons_of_mem _ he, q⟩)
    have S3 := J3.suite q3 d3 na nL nF
    suffices go : ∀ {hs' : List ExceptHandler} {l' : List (Value × Su)}, HdA X n hs' l' → wMa X.K i Wo D l' cls d τ G → wpAny (model X.prog X.w) X.A (handleBy (.ref a) X.env hs') (SP X pins D) X.xe { t with heap := g3 } from go hh ww
    intro hs' l' hk
    induction hk with
    | nil =>
      intro w; refine wpAny_handleBy_nil ?_
      obtain ⟨_, _, _, ob, vs, T0, oT, ts', he, hz, hd, h1, _⟩ := id fl
      unfold PySem.passOn; refine wpAny_bind (wpAny_field he hd h1 ?_)
      rw [if_neg (show ¬ ((Value.ref T0 == Value.none) = true) from by simp)]
      have fin : wpAny (model X.prog X.w) X.A (setFlight (.ref a) X.env.frame) (fun _ t4 => wpAny (model X.prog X.w) X.A (throw (.ref a) : Sem Flow) (SP X pins D) X.xe t4) X.xe { t with heap := g3 } := by
        rw [e2]; refine HandSPX.setFlight_upZ fl fun g4 hh4 up4 => wpAny_throw (tk _ _ ?_)
        exact ⟨a, B, sI, pins, τ, G, cls, d, rfl, J, nb, (up.trans up3).trans up4, .inr (.inr (by rw [e1]; exact hh4)), na, os, ag, w⟩
      first | exact wpAny_bind (wpAny_pure (wpAny_bind fin)) | exact wpAny_bind fin
    | @cons x c su st ss p1 p2 hs2 l2 nm run more ih =>
      rintro ⟨b, hb1, yes, no⟩; refine wpAny_handleBy_cons (codeAny_handlers_test ?_) (by intro q; cases q)
      have LM := PySem.W.exm_one (M := model X.prog X.w) (J3.kIn) (fun A Q E s k q => wpAny_typeOf_ref (k _ _ q3) (by rw [z3.1]; exact q)) hb1
      have test : ∀ {Q : Value → Shared → Prop} {E : Value → Shared → Prop}, Q c { t with heap := g3 } → wpAny (model X.prog X.w) (X.A.mark (some (.ref a))) (eval (.Name x p1) X.env) Q E { t with heap := g3 } := fun {Q E} q => by
        rcases nm with ⟨hg, hdbg, hm | ⟨hm, hv, hnn⟩⟩
        · exact ld_glob (X := X.suite a ((a, o3) :: (X.pn ++ pins))) S3 hg hm q hdbg
        · exact ld_blt (X := X.suite a ((a, o3) :: (X.pn ++ pins))) S3 hg hm hv q hnn hdbg
      refine test (LM.here ?_)
      cases b with
      | true =>
        refine codeAny_handlers_suite_as (HandSPX.lands_againZ fl fun g4 fl4 up4 => ?_)
        have J4 : Inv X pins τ G { t with heap := g4 } := J.landed nb fl4.1 ((up.trans up3).trans up4) os ag
        obtain ⟨o4, v4, q4, z4, d4⟩ := fl4.there
        refine store_ok (X := X.suite a ((a, o4) :: (X.pn ++ pins))) (v := .ref a) (J4.suite q4 d4 na nL nF) hN hi (.inl hn) rfl (fun t5 S5 => ?_) (.inr hn)
        refine wpAny_mono ((run a o4 cls d (X.pn ++ pins) z4 ⟨_, d4⟩).run [] t5 _ G _ S5 (yes rfl a na)) (fun f t6 hsp => ?_) (fun _ _ z => z.elim)
        have done : ∀ {τ6 : L2.St} {G6 : Hp} {Q : Shared → Prop}, Inv (X.suite a ((a, o4) :: (X.pn ++ pins))) [] τ6 G6 t6 → (∀ t7, Inv X pins (τ6.set i none) G6 t7 → Q t7) →
            wpAny (model X.prog X.w) X.A (do bindName X.env n .none; unbindBehindTheSuite X.env n p2) (fun _ t7 => Q t7) X.xe t6 := fun {τ6 G6 Q} S6 hq => gone_ok (S6.unsuite I.ok) hN hi hn hq
        cases f with
        | next => obtain ⟨τ6, G6, S6, q6⟩ := hsp; exact done S6 fun t7 J7 => ⟨_, _, J7, q6⟩
        | brk => obtain ⟨τ6, G6, S6, q6⟩ := hsp; exact done S6 fun t7 J7 => ⟨_, _, J7, q6⟩
        | cont => obtain ⟨τ6, G6, S6, q6⟩ := hsp; exact done S6 fun t7 J7 => ⟨_, _, J7, q6⟩
        | ret u => obtain ⟨v6, τ6, G6, S6, r6, q6⟩ := hsp; exact done S6 fun t7 J7 => ⟨_, _, _, J7, r6, q6⟩
      | false =>
        show wpAny _ X.A (handleBy (.ref a) X.env hs2) _ _ _; exact ih (no rfl)
  · cases f with
    | next => obtain ⟨τ, G, J', q⟩ := hsp; exact wpAny_execs_nil ⟨τ, G, J'.ofTry I.ok, q⟩
    | brk => obtain ⟨τ, G, J', q⟩ := hsp; exact ⟨τ, G, J'.ofTry I.ok, q⟩
    | cont => obtain ⟨τ, G, J', q⟩ := hsp; exact ⟨τ, G, J'.ofTry I.ok, q⟩
    | ret u => obtain ⟨v, τ, G, J', r, q⟩ := hsp; exact ⟨v, τ, G, J'.ofTry I.ok, r, q⟩
end
end Rk
namespace Rk
open PySem PySem.Spec PyProof.Rows L2
section
variable {K : PySem.W.Frag} {H H' H0 H0' Hf Hb : Hp} {env env' : List Sl} {σ : L2.St}
theorem Ok.setn (k : Ok K Hf Hb env σ H0 H) (i : Nat) (x : Option V) (s : Sl) (hs : s = .no ∨ ∃ v, s = .r v ∧ x = some v) : Ok K Hf Hb (env.set i s) (σ.set i x) H0 H := by
  have no : ∀ xs, s ≠ .o xs := fun xs e => by
    subst e; rcases hs with q | ⟨v, q, _⟩ <;> cases q
  refine ⟨k.gr, by simp [k.len], fun j t e => ?_, fun j l xs ys p ne e1 e2 e3 e4 => ?_⟩
  · by_cases q : i = j
    · subst q
      by_cases l : i < env.length
      · rw [List.getElem?_set_self l] at e; cases e
        refine ⟨x, by rw [List.getElem?_set_self (by rw [← k.len]; exact l)], ?_⟩
        rcases hs with rfl | ⟨v, rfl, rfl⟩
        · trivial
        · exact rfl
      · rw [List.getElem?_eq_none (by simpa using l)] at e; cases e
    · rw [List.getElem?_set_ne q] at e ⊢; exact k.sl j t e
  · have nn : ∀ m us, (env.set i s)[m]? = some (.o us) → i ≠ m := fun m us em q => by
      subst q
      by_cases l : i < env.length
      · rw [List.getElem?_set_self l] at em; exact no us (Option.some.inj em)
      · rw [List.getElem?_eq_none (by simpa using l)] at em; cases em
    have n1 := nn _ _ e1
    have n2 := nn _ _ e2
    rw [List.getElem?_set_ne n1] at e1 e3
    rw [List.getElem?_set_ne n2] at e2 e4
    exact k.ne j l xs ys p ne e1 e2 e3 e4
end
def aft (i : Nat) : Out → Out
  | .nx e => .nx (e.set i .no)
  | .rt d => .rt d
  | .ex C e => .ex C e
  | .re d e => .re d e
  | .ey C l e => .ey C l e
  | .rg R => .rg R
inductive AllN (X : Cx) (n : Str) : List ExceptHandler → Prop
  | nil : AllN X n []
  | cons {x : Str} {c : Value} {st : Stmt} {ss : List Stmt} {p1 p2 : Pos} {hs : List ExceptHandler} (nm : Names X x c) (r : AllN X n hs) : AllN X n (.ExceptHandler (some (.Name x p1)) (some n) (st :: ss) p2 :: hs)
inductive Cat (X : Cx) (n : Str) (i : Nat) (C : Addr) (env : List Sl) : List ExceptHandler → Out → Prop
  | hit {x : Str} {c : Value} {st : Stmt} {ss : List Stmt} {p1 p2 : Pos} {hs : List ExceptHandler} {o : Out} (nm : Names X x c) (yes : PySem.W.exmOne X.K (.ref C) c = some true)
      (run : ∀ (a : Addr) (ob : Obj) (pn : List (Addr × Obj)), Zc (.ref C) none ob → (∃ vs, ob.data = .fields vs) → Go (X.suite a ((a, ob) :: pn)) (fun _ _ _ _ => False) (env.set i (.r (.ref a))) (st :: ss) o) (r : AllN X n hs) :
      Cat X n i C env (.ExceptHandler (some (.Name x p1)) (some n) (st :: ss) p2 :: hs) o
  | miss {x : Str} {c : Value} {st : Stmt} {ss : List Stmt} {p1 p2 : Pos} {hs : List ExceptHandler} {o : Out} (nm : Names X x c) (no : PySem.W.exmOne X.K (.ref C) c = some false) (r : Cat X n i C env hs o) :
      Cat X n i C env (.ExceptHandler (some (.Name x p1)) (some n) (st :: ss) p2 :: hs) o
abbrev suU (X : Cx) (ss : List Stmt) : Su := fun a cls d D σ H => ∀ (ob : Obj) (pn : List (Addr × Obj)), Zc cls d ob → (∃ vs, ob.data = .fields vs) → wB (X.suite a ((a, ob) :: pn)) ss D σ H
section
variable {X : Cx} {W : WX} {env env1 : List Sl} {body : List Stmt} {h0 : ExceptHandler} {hds : List ExceptHandler} {pos : Pos} {n : Str} {i : Nat} {C : Addr} {o : Out}
theorem allN_l (h : AllN X n hds) : ∃ l, HdA X n hds l := by
  induction h with
  | nil => exact ⟨[], .nil⟩
  | @cons x c st ss p1 p2 hs nm r ih =>
    obtain ⟨l, hl⟩ := ih
    exact ⟨(c, suU X (st :: ss)) :: l, .cons nm (fun a ob cls d pn hz hf => ⟨fun pins s σ H D I h => uB.run pins s σ H D I (h ob pn hz hf)⟩) hl⟩
theorem cat_l (h : Cat X n i C env hds o) (ho : o.calm = true) : ∃ l, HdA X n hds l ∧ ∀ (Hf Hb : Hp) (σ : L2.St) (H0 H : Hp) (D : Ends) (Wo : WX), Ok X.K Hf Hb env σ H0 H → PostO X.K W Hf Hb (aft i o) D → wMa X.K i Wo D l (.ref C) none σ H := by
  induction h with
  | @hit x c st ss p1 p2 hs o nm yes run r =>
    obtain ⟨l, hl⟩ := allN_l r
    refine ⟨(c, suU X (st :: ss)) :: l, .cons nm (fun a ob cls d pn hz hf => ⟨fun pins s σ H D I h => uB.run pins s σ H D I (h ob pn hz hf)⟩) hl, fun Hf Hb σ H0 H D Wo k q => ⟨true, yes, fun _ a ha ob pn hz hf => ?_, fun z => by cases z⟩⟩
    refine (run a ob pn hz hf).run Hf Hb _ H0 H (k.setn i (some (.ref a)) (.r (.ref a)) (.inr ⟨_, rfl, rfl⟩)) (dEnd D i) ?_
    cases o with
    | nx e => exact fun σ' H0' H' k' => q _ H0' H' (k'.setn i none .no (.inl rfl))
    | rt d => exact q
    | re d e => exact q
    | rg R => exact q
    | ex C e => cases ho
    | ey C l e => cases ho
  | @miss x c st ss p1 p2 hs o nm no r ih =>
    obtain ⟨l, hl, hw⟩ := ih ho
    exact ⟨(c, suU X (st :: ss)) :: l, .cons nm (fun a ob cls d pn hz hf => ⟨fun pins s σ H D I h => uB.run pins s σ H D I (h ob pn hz hf)⟩) hl, fun Hf Hb σ H0 H D Wo k q => ⟨false, no, (fun z => by cases z), fun _ => hw Hf Hb σ H0 H D Wo k q⟩⟩
abbrev bdU (X : Cx) (body : List Stmt) : WX → TS := fun W D σ H => ∀ (pn : List (Addr × Obj)) (xe : Value → Shared → Prop), Takes (X.tr pn xe) W → wB (X.tr pn xe) body D σ H
/-- the body raises C, a clause catches it -/
theorem gos_tryX (i : Nat) (hN : X.N.Nodup) (tk : Takes X W) (hb : ∀ (W : WX) (pn : List (Addr × Obj)) (xe : Value → Shared → Prop), Takes (X.tr pn xe) W → Go (X.tr pn xe) W env body (.ex C env1)) (hc : Cat X n i C env1 (h0 :: hds) o) (ho : o.calm = true := by rfl)
    (hi : X.N[i]? = some n := by rfl) (hn : X.env.kindOf n = some .local := by rfl) (e1 : X.stack = X.env :: X.outer := by rfl) (e2 : X.env.frame = some X.env.locals := by rfl) : GoS X W env (.Try body (h0 :: hds) [] [] pos) (aft i o) := ⟨fun Hf Hb σ H0 H k D q => by
  obtain ⟨l, hl, hw⟩ := cat_l (W := W) hc ho
  exact ⟨_, ps_tryAs (tb := bdU X body) e1 e2 hN hi hn tk (fun W pn xe t _ => ⟨fun pins s σ H D I h => uB.run pins s σ H D I (h pn xe t)⟩) hl, fun pn xe t => (hb _ pn xe t).run Hf Hb σ H0 H k D fun σ' H0' H' k' => hw Hf Hb σ' H0' H' D W k' q⟩⟩
/-- the body raises nothing -/
theorem gos_tryN (i : Nat) (hN : X.N.Nodup) (tk : Takes X W) (hb : ∀ (W : WX) (pn : List (Addr × Obj)) (xe : Value → Shared → Prop), Takes (X.tr pn xe) W → Go (X.tr pn xe) W env body o) (hc : AllN X n (h0 :: hds)) (ho : o.calm = true := by rfl)
    (hi : X.N[i]? = some n := by rfl) (hn : X.env.kindOf n = some .local := by rfl) (e1 : X.stack = X.env :: X.outer := by rfl) (e2 : X.env.frame = some X.env.locals := by rfl) : GoS X W env (.Try body (h0 :: hds) [] [] pos) o := ⟨fun Hf Hb σ H0 H k D q => by
  obtain ⟨l, hl⟩ := allN_l hc
  refine ⟨_, ps_tryAs (tb := bdU X body) e1 e2 hN hi hn tk (fun W pn xe t _ => ⟨fun pins s σ H D I h => uB.run pins s σ H D I (h pn xe t)⟩) hl, fun pn xe t => (hb _ pn xe t).run Hf Hb σ H0 H k D ?_⟩
  cases o with
  | nx e => exact q
  | rt d => exact q
  | re d e => exact q
  | rg R => exact q
  | ex C e => cases ho
  | ey C l e => cases ho⟩
/-- isinstance(e, x), e the exception at hand, of the class at C, x an own class -/
theorem evv_isE (i : Nat) {a C' : Addr} {ob : Obj} {pn : List (Addr × Obj)} {x : Str} {b : Bool} {p p1 p2 : Pos} (hz : Zc (.ref C) none ob) (hf : ∃ vs, ob.data = .fields vs) (hm : X.mg "isinstance" = none) (hx : X.mg x = some (.ref C')) (E : ExcC X.K C) (kit : PySem.W.kitOne X.K (.ref C) (.ref C') = some b)
    (hs : env[i]? = some (.r (.ref a)) := by rfl) (hN : X.N[i]? = some n := by rfl) (hv : Vis X.env.scope n := by first | exact Or.inl rfl | exact Or.inr (Or.inl rfl)) (hg : Gl X "isinstance" := by rfl) (hgx : Gl X x := by rfl)
    (hd : (n == ("__debug__" : Str)) = false := by decide) (hcd : (n == ("__classdict__" : Str)) = false := by decide) (hdx : (x == ("__debug__" : Str)) = false := by decide)
    (s1 : starEach [.Name n p1, .Name x p2] X.env = (false, eval (.Name n p1) X.env) :: starEach [.Name x p2] X.env := by rfl) (s2 : starEach [.Name x p2] X.env = (false, eval (.Name x p2) X.env) :: starEach [] X.env := by rfl) (hpl : (backTo pos (starEach [.Name x p2] X.env)).any (·.1) = false := by rfl) :
    EvV (X.suite a ((a, ob) :: pn)) env (.Call (.Name "isinstance" p) [.Name n p1, .Name x p2] [] pos) (.bool b) := ⟨fun Hf Hb σ H0 H k Q q => by
  obtain ⟨y, h1, h2⟩ := k.sl i _ hs
  have h2 : y = some (.ref a) := h2
  subst h2
  refine ⟨_, pe_callB (call_isE E hz hf) hg hm (by decide +kernel) (pa_cons (pe_var hN hv hd hcd) (pa_cons (pe_glob (v := .ref C') hgx hx rfl hdx) pa_nil s2) s1) (by decide) (by decide) s1 hpl, ?_⟩
  exact ⟨_, h1, _, _, b, rfl, fun u r => r, kit, q _ H0 H (Gr.refl k.gr.i) (.bl b)⟩⟩
theorem evv_isEV (i : Nat) {a : Addr} {ob : Obj} {pn : List (Addr × Obj)} {b : Bool} {p p1 p2 : Pos} (hz : Zc (.ref C) none ob) (hf : ∃ vs, ob.data = .fields vs) (hm : X.mg "isinstance" = none) (hx : X.mg "ValueError" = none) (E : ExcC X.K C) (kit : PySem.W.kitOne X.K (.ref C) (.type "ValueError") = some b)
    (hs : env[i]? = some (.r (.ref a)) := by rfl) (hN : X.N[i]? = some n := by rfl) (hv : Vis X.env.scope n := by first | exact Or.inl rfl | exact Or.inr (Or.inl rfl)) (hg : Gl X "isinstance" := by rfl) (hgx : Gl X "ValueError" := by rfl)
    (hd : (n == ("__debug__" : Str)) = false := by decide) (hcd : (n == ("__classdict__" : Str)) = false := by decide)
    (s1 : starEach [.Name n p1, .Name "ValueError" p2] X.env = (false, eval (.Name n p1) X.env) :: starEach [.Name "ValueError" p2] X.env := by rfl) (s2 : starEach [.Name "ValueError" p2] X.env = (false, eval (.Name "ValueError" p2) X.env) :: starEach [] X.env := by rfl) (hpl : (backTo pos (starEach [.Name "ValueError" p2] X.env)).any (·.1) = false := by rfl) :
    EvV (X.suite a ((a, ob) :: pn)) env (.Call (.Name "isinstance" p) [.Name n p1, .Name "ValueError" p2] [] pos) (.bool b) := ⟨fun Hf Hb σ H0 H k Q q => by
  obtain ⟨y, h1, h2⟩ := k.sl i _ hs
  have h2 : y = some (.ref a) := h2
  subst h2
  refine ⟨_, pe_callB (call_isE E hz hf) hg hm (by decide +kernel) (pa_cons (pe_var hN hv hd hcd) (pa_cons (pe_bltn (v := .ty "ValueError") hgx hx (by decide +kernel) rfl) pa_nil s2) s1) (by decide) (by decide) s1 hpl, ?_⟩
  exact ⟨_, h1, _, _, b, rfl, fun u r => r, kit, q _ H0 H (Gr.refl k.gr.i) (.bl b)⟩⟩
end
/-! what the written part says of the own exceptions -/
theorem kitO {K : PySem.W.Frag} {A B : Addr} {b : Bool} (hc : PySem.W.isClsIn K B = true) (ht : PySem.W.typeIn K (.ref B) = some (.type "type")) (hs : PySem.W.subIn K (.ref A) (.ref B) = some b) (ha : PySem.W.subIn K (.ref A) (.ref A) = some true) : PySem.W.kitOne K (.ref A) (.ref B) = some b := by
  unfold PySem.W.kitOne
  by_cases e : A = B
  · subst e
    rw [hs] at ha; cases ha
    rw [if_pos (by simp)]
  · rw [if_neg (by simp [e])]
    unfold PySem.W.kitCls
    have h1 : (PySem.W.clsIn K B).isSome = true := hc
    simp only [h1, ht]
    simpa using hs
theorem kitV {K : PySem.W.Frag} {A : Addr} (hs : PySem.W.subIn K (.ref A) (.type "ValueError") = some true) : PySem.W.kitOne K (.ref A) (.type "ValueError") = some true := by
  unfold PySem.W.kitOne
  rw [if_neg (by simp)]
  unfold PySem.W.kitCls
  have h1 : PySem.W.kitMeta "ValueError" = true := by decide +kernel
  simp only [h1, if_true]
  exact hs
end Rk

namespace Rk
open PySem PySem.Spec PyProof.Rows L2
section
variable {X : Cx} {W : WX} {env : List Sl} {e a b c : Expr} {d da db : PyData} {xs ys : List PyData} {pos p : Pos} {x : Str} {C : Addr}
theorem evx_ifT (hc : EvT X env c true) (h : EvX X W env a C) : EvX X W env (.IfExp c a b pos) C := ⟨fun Hf Hb σ H0 H k q Q => ⟨_, pe_ifExp uT uE uE, hc.run Hf Hb σ H0 H k _ fun H1 H1' g => h.run Hf Hb σ H1 H1' (k.gro g) (fun H2 H2' g2 => q H2 H2' (g.trans g2)) _⟩⟩
theorem evx_ifF (hc : EvT X env c false) (h : EvX X W env b C) : EvX X W env (.IfExp c a b pos) C := ⟨fun Hf Hb σ H0 H k q Q => ⟨_, pe_ifExp uT uE uE, hc.run Hf Hb σ H0 H k _ fun H1 H1' g => h.run Hf Hb σ H1 H1' (k.gro g) (fun H2 H2' g2 => q H2 H2' (g.trans g2)) _⟩⟩
end
theorem pick4 {a b c e : PyData} {k : Int} (h : 0 ≤ k ∧ k < 4) : ∃ d, ixD (.list [a, b, c, e]) k = some d ∧ (d = a ∨ d = b ∨ d = c ∨ d = e) := by
  have : k = 0 ∨ k = 1 ∨ k = 2 ∨ k = 3 := by omega
  rcases this with rfl | rfl | rfl | rfl
  · exact ⟨_, rfl, .inl rfl⟩
  · exact ⟨_, rfl, .inr (.inl rfl)⟩
  · exact ⟨_, rfl, .inr (.inr (.inl rfl))⟩
  · exact ⟨_, rfl, .inr (.inr (.inr rfl))⟩
end Rk

namespace Rk
open PySem PySem.Spec PyProof.Rows L2
section
variable {X : Cx} {W : WX} {env : List Sl} {e a b c : Expr} {d da db : PyData} {xs ys : List PyData} {pos p : Pos} {x : Str} {C : Addr}
/-- xs.extend(e), xs owned, e a fresh list -/
theorem gos_extend (i : Nat) {ap : Pos} (h : EvF X env e ys) (hs : env[i]? = some (.o xs) := by rfl) (hz : xs.length + ys.length ≤ sizeLine) (hN : X.N[i]? = some x := by rfl) (hv : Vis X.env.scope x := by first | exact Or.inl rfl | exact Or.inr (Or.inl rfl)) (hd : (x == ("__debug__" : Str)) = false := by decide) (hcd : (x == ("__classdict__" : Str)) = false := by decide)
    (hbase : attributeBase (.Name x p) "extend" X.env (eval (.Name x p) X.env) = eval (.Name x p) X.env := by rfl)
    (hfew : ((backTo pos (starEach [e] X.env)).all (fun x => !x.1) && (backToKw pos (keywordEach [] X.env)).all (fun x => x.1.isSome) && decide ([e].length + ([] : List Keyword).length + (if ([] : List Keyword).isEmpty then 0 else 1) < 30)) = true := by rfl)
    (hline : (ap.endLine == pos.line) = true := by rfl) (hse : starEach [e] X.env = (false, eval e X.env) :: starEach [] X.env := by rfl) (hpl : (backTo pos (starEach [] X.env)).any (·.1) = false := by rfl) {pos2 : Pos}
    (hsw : swapsWith (.Call (.Attribute (.Name x p) "extend" ap) [e] [] pos) none pos2.line X.env = pure false := by rfl) :
    GoS X W env (.Expr (.Call (.Attribute (.Name x p) "extend" ap) [e] [] pos) pos2) (.nx (env.set i (.o (xs ++ ys)))) := ⟨fun Hf Hb σ H0 H k D q => by
  obtain ⟨y, h1, r, vs, h2, h3, h4, h5, h6⟩ := k.sl i _ hs
  subst h2
  refine ⟨_, ps_expr (pe_bm PySem.F.plainAttrs_list PySem.F.slot_list_extend PySem.F.type_list_extend mt_extend (pe_var hN hv hd hcd) (pa_cons uE pa_nil hse) hbase hfew hline hse hpl) hsw, _, h1, .inl ⟨rfl, _, SqL.of h5⟩, h.run Hf Hb σ H0 H k _ fun r1 vs1 H1 H1' g n1 n1' p1 a1 => ?_⟩
  refine ⟨r, r1, vs, vs1, rfl, rfl, g.b _ _ h5, p1, by rw [h6.length, a1.length]; exact hz, q _ H1 _ ?_⟩
  exact (k.gro g).mut hs h1 ((h6.mono g.f).append a1)⟩
end
/-! ### enumerate of a tuple -/
theorem new_enum {v : Value} {o : Obj} {G : Heap → Prop} (B : PySem.Begins v o G) :
    Meets (Builtin.«enumerate.__new__» ⟨[.type "enumerate", v], []⟩) (fun _ R s => G s.heap ∧
      R (.ok (.ret (.ref (s.heap.push o).objs.size))) { s with heap := (s.heap.push o).push { cls := .type "enumerate", data := .fields #[.none, .bool false, .ref s.heap.objs.size, rawInt 0, .none, .none] } }) :=
  .of_wp fun prog w A R s h => by
    obtain ⟨hp, g, d, tk, os⟩ := s
    obtain ⟨h1, h⟩ := h
    have hsub := sub_enumerate
    have it1 : ∀ {A1 : Around} {E : Value → Shared → Prop} {Q : Value → Shared → Prop}, Q (.ref hp.objs.size) ⟨hp.push o, g, d, tk, os⟩ → wpAny (model prog w) A1 (pyIter v) Q E ⟨hp, g, d, tk, os⟩ := fun q => B.iter prog w _ _ ⟨hp, g, d, tk, os⟩ _ h1 q
    wp_walk using it1
    refine wpAny_stack_any fun st => wpAny_pure ?_
    split
    · rename_i c _ _ _ _ _
      cases (c == Value.type "enumerate")
      · wp_walk using it1
        exact ⟨_, rfl, h⟩
      · wp_walk using it1
        exact ⟨_, rfl, h⟩
    · wp_walk using it1
      exact ⟨_, rfl, h⟩
section
variable {prog : Program} {w : World} {A : Around} {E : Value → Shared → Prop} {s : Shared}
theorem call_enum {v : Value} {o : Obj} {G : Heap → Prop} {Q : Value → Shared → Prop} (B : PySem.Begins v o G) (h1 : G s.heap)
    (h : ∀ h', IsEnum h' (s.heap.objs.size + 1) s.heap.objs.size 0 .none → h'.get? s.heap.objs.size = some o → h'.objs.size = s.heap.objs.size + 2 →
      (∀ b o, s.heap.get? b = some o → h'.get? b = some o) → Q (.ref (s.heap.objs.size + 1)) { s with heap := h' }) :
    wpAny (model prog w) A (call (.type "enumerate") [v]) Q E s := by
  refine callType_new F.called_enumerate (by decide) (F.typeCall_enumerate_1 _) (F.newCall_enumerate_1 _) (fun obj => F.args_object_init_2 obj _) F.entry_enumerate_new (new_enum B) ⟨h1, ?_⟩
  have hz : (s.heap.push o).objs.size = s.heap.objs.size + 1 := Heap.size_push ..
  show _ ∧ _
  rw [hz]
  have he : IsEnum ((s.heap.push o).push { cls := .type "enumerate", data := .fields #[.none, .bool false, .ref s.heap.objs.size, rawInt 0, .none, .none] }) (s.heap.objs.size + 1) s.heap.objs.size 0 .none := by
    have := Heap.get?_push_size (s.heap.push o) (o := { cls := .type "enumerate", data := .fields #[.none, .bool false, .ref s.heap.objs.size, rawInt 0, .none, .none] }) rfl
    rw [hz] at this; exact this
  exact ⟨⟨_, he, rfl⟩, h _ he (Heap.get?_push_of_some _ (Heap.get?_push_size _ B.free)) (by rw [Heap.size_push, hz]) fun b o x => Heap.get?_push_of_some _ (Heap.get?_push_of_some _ x)⟩
end
theorem enum_stopT {prog : Program} {w : World} {A : Around} {E : Value → Shared → Prop} {s : Shared} {e it a : Addr} {i : Nat} {c : Int} {old : Value} {items : Array Value} {Q : Option Value → Shared → Prop} (hh : A.handled = none) (he : IsEnum s.heap e it c old) (hit : s.heap.IsTupleIter it a i) (ht : s.heap.IsTuple a items) (hi : items[i]? = none)
    (hQ : ∀ h', Heap.ExtBut it s.heap h' → Q none { s with heap := h' }) : wpAny (model prog w) A (pyNext (.ref e)) Q E s := by
  have hT : s.TypeIs (.ref e) "enumerate" := ⟨_, he, rfl⟩
  unfold pyNext
  refine wpAny_bind (wpAny_attempt (wpAny_callSpecial?_slot (name := Str.ofString "__next__") hT F.slot_enumerate_next (wpAny_call_entry F.slot_enumerate_next hT F.entry_enumerate_next ?_ (F.args_enumerate_next_1 _))))
  show wpAny _ _ (field (.ref e) 2 >>= _) _ _ _
  refine wpAny_bind (wpAny_field he rfl (x := .ref it) rfl (wpAny_bind (wpAny_nextOf_tuple_end (A := A.in1) hh hit ht hi fun h' x he' hx' => ?_)))
  obtain ⟨o, ho, hc⟩ := hx'
  exact wpAny_bind (wpAny_isInstance (T := "StopIteration") (b := true) ⟨o, ho, hc⟩ isSubtype_stop (wpAny_pure (hQ _ he')))
/-- the tuple at a, each item in a new pair -/
def IteT (K : PySem.W.Frag) (a : Addr) : It :=
  ⟨fun i H => ∃ (xs : List V) (x : V), SqT K H a xs ∧ xs[i]? = some x, fun i H v H' => ∃ T x, v = .ref T ∧ H T = none ∧ H' = upd H T (.tup [.int (i : Nat), x]) ∧ ∀ xs, SqT K H a xs → xs[i]? = some x, fun i H => ∃ xs : List V, SqT K H a xs ∧ xs.length ≤ i⟩
theorem turn_enumT {P : Program} {w : World} {K : PySem.W.Frag} {elts : List Expr} {kk : Nat} {tpos : Pos} (a e it : Addr) :
    Turn P w K (.Tuple elts kk tpos) (IteT K a) [e, it] e (fun i h => (∃ old, IsEnum h e it ((i : Nat) : Int) old) ∧ h.IsTupleIter it a i ∧ e ≠ it) where
  mem := by simp
  obj := fun i h st b hb => by
    obtain ⟨⟨old, he⟩, ⟨o, ho, hc, hd⟩, _⟩ := st
    have e' : b = e ∨ b = it := by simpa using hb
    rcases e' with z | z
    · rw [z]; exact ⟨_, he, fun v q => nomatch q⟩
    · rw [z]; exact ⟨o, ho, fun v q => by rw [hd] at q; cases q⟩
  keep := fun i h h' st k => let ⟨⟨old, he⟩, hi, hne⟩ := st; ⟨⟨old, k e (by simp) _ he⟩, hi.at fun o q => k it (by simp) o q, hne⟩
  item := by
    intro X hP hw hK hc i pins s σ H E I hf st hg
    subst hP hw hK
    obtain ⟨⟨old, he⟩, hit, hne⟩ := st
    obtain ⟨xs, x, hq, hx⟩ := hg
    obtain ⟨its, rv, p, hz⟩ := I.tuple hq
    obtain ⟨u, hu, ru⟩ := rv.get hx
    have hel : e < s.heap.objs.size := Heap.lt_size he
    have hil : it < s.heap.objs.size := by obtain ⟨_, q, _⟩ := hit; exact Heap.lt_size q
    have ha1 : a ≠ it := fun z => by
      subst z
      obtain ⟨o1, q1, c1, _⟩ := hit
      obtain ⟨o2, q2, c2, _⟩ := p
      rw [q1] at q2; cases q2; rw [c1] at c2; exact absurd (Value.type.inj c2) (by decide)
    have ha2 : e ≠ a := fun z => by
      subst z
      obtain ⟨o2, q2, c2, _⟩ := p
      rw [he] at q2; cases q2; exact absurd (Value.type.inj c2) (by decide)
    have hi : i < its.toArray.size := by
      have := (List.getElem?_eq_some_iff.mp hu).1
      simpa using this
    refine wpAny_pyNext_enum_itemC (Draws.tuple (A := X.A.in1) (I.ok.hd hc) it a ha1 its.toArray) he ⟨hit, p⟩ hi hne (by simp [hne, ha2]) fun u' h' tk hPx ho hit' hT hsz hk => ?_
    have hu' : u' = u := by
      have : its.toArray[i]? = some u' := hPx
      have h2 : its.toArray[i]? = some u := by simpa using hu
      rw [this] at h2; cases h2; rfl
    subst hu'
    refine ⟨_, rfl, wpAny_letOwnedTupleGo_enum (s := { s with heap := h', toks := tk + 1 }) ho fun h'' he' sb => ?_⟩
    have hT2 : h''.get? s.heap.objs.size = some { cls := .type "tuple", data := .seq #[.int i tk, u'] } := (sb.2 _ (Nat.ne_of_gt hel)).trans hT
    have new : ObjOk X.prog X.w (upd H s.heap.objs.size (.tup [.int (i : Nat), x])) h'' s.heap.objs.size (.tup [.int (i : Nat), x]) :=
      ⟨by show 2 ≤ sizeLine; decide, [.int i tk, u'], .cons ⟨_, rfl⟩ (.cons ru .nil), ⟨_, hT2, rfl, _, rfl⟩⟩
    have I1 : Inv X pins σ (upd H s.heap.objs.size (.tup [.int (i : Nat), x])) { s with heap := h'', toks := tk + 1 } :=
      I.turnedNew (ch := [e, it]) (fun b ob hb q => (sb.2 b (fun z => hb (by simp [z]))).trans (hk b ob (fun z => hb (by simp [z])) (fun z => hb (by simp [z])) q)) hf (Nat.le_refl _) new
    refine ⟨.ref s.heap.objs.size, _, I1, rfl, ⟨_, x, rfl, I.hok.fresh (Nat.le_refl _), rfl, fun ys hy => by rw [I.tuple_inj hy hq]; exact hx⟩, ⟨⟨u', ?_⟩, hit'.1.at fun o q => (sb.2 it (Ne.symm hne)).trans q, hne⟩, fun b hb => ?_⟩
    · have e1 : ((i + 1 : Nat) : Int) = (i : Int) + 1 := by omega
      rw [e1]; exact he'
    · have hb' : b < s.heap.objs.size := by
        have e' : b = e ∨ b = it := by simpa using hb
        rcases e' with z | z
        · rw [z]; exact hel
        · rw [z]; exact hil
      rw [upd_ne (Nat.ne_of_lt hb')]
      exact (hf b hb).1
  done := by
    intro X hP hw hK hc i pins s σ H E I hf st hg
    subst hP hw hK
    obtain ⟨⟨old, he⟩, hit, hne⟩ := st
    obtain ⟨xs, hq, hx⟩ := hg
    obtain ⟨its, rv, p, hz⟩ := I.tuple hq
    obtain ⟨f0, f1, f2, f3, f4, f5⟩ := hf it (by simp)
    have ha1 : a ≠ it := fun z => by
      subst z
      obtain ⟨o1, q1, c1, _⟩ := hit
      obtain ⟨o2, q2, c2, _⟩ := p
      rw [q1] at q2; cases q2; rw [c1] at c2; exact absurd (Value.type.inj c2) (by decide)
    have hl := rv.length
    refine enum_stopT (I.ok.hd hc) he hit p (by simp; omega) fun h' eb => ⟨rfl, I.turned (t' := s.toks) (fun b o hb q => eb b o hb q) f0 f1 f3 f4 f5⟩
  self := fun A i s Q E st h => let ⟨⟨_, he⟩, _⟩ := st; wpAny_pyIter_enum he h
def iEnumT (K : PySem.W.Frag) (ta : TA) : TI := fun σ H R => ta σ H fun vs H1 => ∃ a xs, vs = [.ref a] ∧ SqT K H1 a xs ∧ R (IteT K a) H1
theorem pi_enumT {X : Cx} {e : Expr} {ta : TA} {p pos tpos : Pos} {elts : List Expr} {kk : Nat} (hg : Gl X "enumerate") (hm : X.mg "enumerate" = none) (ha : PA X [e] ta) (hs : starEach [e] X.env = [(false, eval e X.env)] := by rfl) :
    PI X (.Tuple elts kk tpos) (.Call (.Name "enumerate" p) [e] [] pos) (iEnumT X.K ta) := by
  refine ⟨fun pins s σ H R I h => ?_⟩
  refine Call_ (ld_blt I hg hm boot_enumerate (PyProof.Rows.callWith_type1 (thn (ha.run pos pins s σ H _ I h) fun us s1 ⟨vs, H1, I1, r1, q1⟩ => ?_) hs rfl))
  obtain ⟨a, xs, ex, hq, q⟩ := q1
  subst ex
  cases r1 with
  | cons r rr =>
    cases rr
    cases r
    obtain ⟨its, rv, p', hz⟩ := I1.tuple hq
    refine call_enum (begins_tuple a its.toArray) p' fun h' he hit hsz hk => wpAny_pyIter_enum he ?_
    have I2 : Inv X pins σ H1 { s1 with heap := h' } := I1.kept (t' := s1.toks) hk
    refine ⟨s1.heap.objs.size + 1, [s1.heap.objs.size + 1, s1.heap.objs.size], _, _, H1, rfl, I2, turn_enumT a (s1.heap.objs.size + 1) s1.heap.objs.size, ⟨⟨.none, he⟩, ⟨_, hit, rfl, rfl⟩, Nat.succ_ne_self _⟩, fun b hb => ?_, q⟩
    have e' : b = s1.heap.objs.size + 1 ∨ b = s1.heap.objs.size := by simpa using hb
    have hle : s1.heap.objs.size ≤ b := by
      rcases e' with z | z
      · rw [z]; exact Nat.le_add_right _ _
      · rw [z]; exact Nat.le_refl _
    exact I1.fpOk hle (I1.hok.fresh hle)
theorem walk_enumT {K : PySem.W.Frag} {a : Addr} {xs : List V} : Walk (IteT K a) xs.length (fun H => SqT K H a xs) (YPair (fun i => some (.int (i : Nat))) (fun i => xs[i]?)) := by
  refine ⟨fun i _ hi q => ⟨xs, xs[i], q, by simp [hi]⟩, fun _ q => ⟨xs, q, Nat.le_refl _⟩, fun i H v H' _ q y => ?_⟩
  obtain ⟨T, x, h1, h2, h3, h4⟩ := y
  exact ⟨T, .int (i : Nat), x, h1, h2, h3, rfl, h4 xs q⟩
theorem evi_enumT {X : Cx} {env : List Sl} {a : Expr} {p pos : Pos} {α : Type} {ι : α → PyData} {ys : List α} {elts : List Expr} {kk : Nat} {tpos : Pos} (hm : X.mg "enumerate" = none) (ha : EvV X env a (.tuple (ys.map ι))) (hg : Gl X "enumerate" := by rfl) (hs : starEach [a] X.env = [(false, eval a X.env)] := by rfl) :
    EvI X env (.Tuple elts kk tpos) (.Call (.Name "enumerate" p) [a] [] pos) (fun p : Int × α => .tuple [.int p.1, ι p.2]) ((rgI 0 ys.length).zip ys) := ⟨fun Hf Hb σ H0 H k R q =>
  ⟨_, pi_enumT hg hm (pa_cons uE pa_nil hs) hs, ha.run Hf Hb σ H0 H k _ fun v H1 H1' g hv => by
    obtain ⟨p1, vs, rfl, h1, h2⟩ := dq_tup hv
    refine ⟨p1, vs, rfl, SqT.of (g.i _ _ h1), q _ H1 H1' g ?_⟩
    refine wkd_pair walk_enumT (fun H s => SqT.of (s _ _ h1)) ?_ (fun i y v e1 e2 => ?_) (fun i y v e1 e2 => dqa_of_get h2 e1 e2)
    · rw [h2.length, List.length_zip, rgI_len]; simp
    · obtain ⟨e3, _⟩ := rgI_get e1
      cases e2
      rw [e3]
      simp only [Int.zero_add]
      exact .int _⟩⟩
inductive EnD2 {α : Type} : PyData → (α → PyData) → List α → Prop
  | lst {ι : α → PyData} {ys : List α} : EnD2 (.list (ys.map ι)) ι ys
  | tup {ι : α → PyData} {ys : List α} : EnD2 (.tuple (ys.map ι)) ι ys
theorem evi_enum2 {X : Cx} {env : List Sl} {a : Expr} {da : PyData} {p pos : Pos} {α : Type} {ι : α → PyData} {ys : List α} {elts : List Expr} {kk : Nat} {tpos : Pos} (hm : X.mg "enumerate" = none) (ha : EvV X env a da) (hd : EnD2 da ι ys) (hg : Gl X "enumerate" := by rfl) (hs : starEach [a] X.env = [(false, eval a X.env)] := by rfl) :
    EvI X env (.Tuple elts kk tpos) (.Call (.Name "enumerate" p) [a] [] pos) (fun p : Int × α => .tuple [.int p.1, ι p.2]) ((rgI 0 ys.length).zip ys) := by
  cases hd with
  | lst => exact evi_enumL hm ha hg hs
  | tup => exact evi_enumT hm ha hg hs
end Rk

namespace Rk
open PySem PySem.Spec PyProof.Rows L2
/-! ### sorted lists of tuples of ints -/
theorem lexK {prog : Program} {w : World} {A : Around} {s : Shared} {Q : Bool → Shared → Prop} {b : Bool} {xs ys : List Value} {ns ms : List Int} (i : Nat) (hx : IntsAre xs ns) (hy : IntsAre ys ms) (h : Q (HT.lexLt ns ms) s) :
    PySem.W.KatLex prog w A b (decide (ns.length < ms.length)) Q (xs.zip ys) i s := by
  induction hx generalizing ys ms i with
  | nil =>
    cases hy with
    | nil => exact PySem.W.kat_nil h
    | cons q u hy =>
      refine PySem.W.kat_nil ?_
      rw [decide_eq_true (by simp)]; exact h
  | @cons p t xs ns hx ih =>
    cases hy with
    | nil => exact PySem.W.kat_nil h
    | @cons q u ys ms hy =>
      have e0 : decide ((p :: ns).length < (q :: ms).length) = decide (ns.length < ms.length) := by simp
      rw [e0]
      refine PySem.W.kat_cons (wpAny_eqBool_int ?_)
      rw [HT.lexLt_cons] at h
      by_cases e : p = q
      · subst e
        rw [beq_self_eq_true]
        rw [if_pos rfl] at h
        exact PySem.W.kat_yes (ih (i + 1) hy h)
      · rw [show (p == q) = false from beq_eq_false_iff_ne.mpr e]
        rw [if_neg e] at h
        exact PySem.W.kat_no (TS.oneLt_ints _ h)
theorem cmpT {prog : Program} {w : World} {A : Around} {s : Shared} {vs : List Value} {k : Value → List Int} (hp : ∀ v ∈ vs, TS.TupInts s.heap v (k v)) : SrtO.Cmp prog w A s (tuples' true) (fun p => p.1 ∈ vs) (SrtO.lt2 fun v u => HT.lexLt (k v) (k u)) := by
  intro p q hm hm'
  obtain ⟨a, xs, e1, ⟨o, ho, hc, n, hd⟩, i⟩ := hp _ hm
  obtain ⟨a', ys, e2, ⟨o', ho', hc', n', hd'⟩, i'⟩ := hp _ hm'
  show wpAny (model prog w) A (keyLt' (tuples' true) p.1 q.1) (fun r s' => s' = s ∧ r = HT.lexLt (k p.1) (k q.1)) (fun _ _ => False) s
  generalize k p.1 = ns at *
  generalize k q.1 = ms at *
  rw [e1, e2]
  refine PySem.W.kat_lt ho hd ho' hd' ?_
  have sz : decide (xs.size < ys.size) = decide (ns.length < ms.length) := by
    have l1 := i.length
    have l2 := i'.length
    rw [Array.length_toList] at l1 l2
    rw [l1, l2]
  rw [sz]
  exact lexK 0 i i' ⟨rfl, rfl⟩
theorem firstsT {h : Heap} {k : Value → List Int} : ∀ vs : List Value, (∀ v ∈ vs, TS.TupInts h v (k v) ∧ k v ≠ []) → ∃ fs, PySem.W.KatTups h vs fs ∧ fs.length = vs.length ∧ ∀ f, f ∈ fs → ∃ n t, f = Value.int n t
  | [], _ => ⟨[], PySem.W.KatTups.nil, rfl, fun f hf => by simp at hf⟩
  | v :: vs, x => by
    obtain ⟨fs, kt, hl, hi⟩ := firstsT vs fun u hu => x u (List.mem_cons_of_mem _ hu)
    obtain ⟨⟨a, xs, e0, ⟨o, ho, hc, n, hdt⟩, i⟩, hn⟩ := x v (List.mem_cons_self ..)
    generalize k v = ns at i hn
    subst e0
    have e : ∃ m t ys, xs.toList = Value.int m t :: ys := by
      generalize xs.toList = l at i
      cases i with
      | nil => exact absurd rfl hn
      | cons m t _ => exact ⟨_, _, _, rfl⟩
    obtain ⟨m, t, ys, e⟩ := e
    refine ⟨.int m t :: fs, PySem.W.KatTups.cons ho hc hdt ?_ kt, by simp [hl], ?_⟩
    · have z := congrArg (fun l : List Value => l[0]?) e
      simpa using z
    · intro f hf
      rcases List.mem_cons.mp hf with rfl | hf
      · exact ⟨m, t, rfl⟩
      · exact hi f hf
theorem sortableT {prog : Program} {w : World} {A : Around} {s : Shared} {a : Addr} {vs : List Value} {k : Value → List Int} (h0 : 0 < vs.length) (hp : ∀ v ∈ vs, TS.TupInts s.heap v (k v) ∧ k v ≠ []) (ha : ∀ o, s.heap.get? a = some o → o.cls ≠ .type "tuple") : SrtO.SortableO prog w A s a vs fun v u => HT.lexLt (k v) (k u) := by
  intro h' keep
  have hp' : ∀ v ∈ vs, TS.TupInts h' v (k v) ∧ k v ≠ [] := fun v hm => ⟨(hp v hm).1.keeps fun b o e c => keep b o (fun z => by subst z; exact ha o e c) e, (hp v hm).2⟩
  obtain ⟨fs, h1, h2, h3⟩ := firstsT vs hp'
  refine ⟨tuples' true, fun Q E hq => ?_, cmpT fun v hm => (hp' v hm).1⟩
  refine PySem.W.kat_kind (T := .type "int") h1 (by omega) (fun f hm => ?_) (by rfl) ?_
  · obtain ⟨x, t, rfl⟩ := h3 f hm
    exact PySem.W.Looks.now
  · have e : (Value.type "int" != Value.type "tuple") = true := by first | decide +kernel | rfl | decide
    rw [e]
    exact hq
def rSortedT (K : PySem.W.Frag) : List V → Hp → VK → Prop := fun vs H Q => ∃ (a : Addr) (xs : List V) (k : V → List Int), vs = [V.ref a] ∧ SqL K H a xs ∧ (∀ x ∈ xs, k x ≠ [] ∧ ∃ t, x = V.ref t ∧ H t = some (.tup ((k x).map V.int))) ∧
  ∀ ys p, SrtO.Srtd (fun x y => HT.lexLt (k x) (k y)) ys → ys.Perm xs → H p = none → Q (.ref p) (upd H p (.lst ys))
theorem cr_sortedT {X : Cx} : CallR X (.builtin "sorted") (rSortedT X.K) := by
  intro pins s σ H vs us Q I r h
  obtain ⟨a, xs, k, rfl, hs, hx, q⟩ := h
  obtain ⟨its, rv, hl, hz⟩ := I.list hs
  obtain ⟨u, rfl, ru⟩ := vals1 r
  obtain rfl : u = Value.ref a := ru
  obtain ⟨e1, e2⟩ := refs_back rv fun x m => by
    obtain ⟨_, t, e, _⟩ := hx x m
    exact ⟨t, e⟩
  have hp : ∀ v ∈ its, TS.TupInts s.heap v (k (backV v)) ∧ k (backV v) ≠ [] := fun v hv => by
    obtain ⟨t, rfl⟩ := e2 v hv
    have hm : V.ref t ∈ xs := by rw [e1]; exact List.mem_map.mpr ⟨_, hv, rfl⟩
    obtain ⟨hn, t', e, ht⟩ := hx _ hm
    cases e
    obtain ⟨_, its2, r2, o, ho, hc, n, hd⟩ := I.hok _ _ ht
    exact ⟨⟨t, its2.toArray, rfl, ⟨o, ho, hc, n, hd⟩, r2.ints⟩, hn⟩
  refine SrtO.sorted_ord (NtL.swo_lexL fun v => k (backV v)) hl.isList (by rw [← rv.length]; exact hz) (fun h2 h₁ a' ha kk => ?_) fun out h1 h2 => ?_
  · refine sortableT (s := { s with heap := h₁ }) (by omega) (fun v hm => ⟨(hp v hm).1.keeps fun b o e _ => (kk b o e).2, (hp v hm).2⟩) fun o e => ?_
    have e' : some o = some (seqObj "list" its.toArray 0) := e.symm.trans ha
    cases e'
    intro c
    exact absurd (Value.type.inj c) (by decide)
  · have h3 : ∀ u ∈ out, ∃ a, u = Value.ref a := fun u hu => e2 u (h2.perm.mem_iff.mp hu)
    obtain ⟨n, hn⟩ := sortedAll_at s.heap its out.toArray
    have hb : (out.map backV).Perm xs := by rw [e1]; exact h2.perm.map _
    refine ⟨.ref _, upd H _ (.lst (out.map backV)), I.laid (t' := s.toks) (fun b o e => sortedAll_old e) (Nat.le_succ _) ⟨?_, out, n, vals_back h3, hn⟩, rfl, q _ _ (SrtO.srtd_map h1) hb (I.hok.fresh (Nat.le_succ _))⟩
    rw [hb.length_eq]
    exact hz

def lxLe (a b : List Int) : Bool := !HT.lexLt b a
def sortT (cs : List (List Int)) : List (List Int) := cs.mergeSort lxLe
theorem lex_total : ∀ a b : List Int, HT.lexLt a b = false → HT.lexLt b a = false → a = b
  | [], [], _, _ => rfl
  | [], _ :: _, h, _ => by cases h
  | _ :: _, [], _, h => by cases h
  | x :: a, y :: b, h1, h2 => by
    rw [HT.lexLt_cons] at h1 h2
    by_cases e : x = y
    · subst e
      rw [if_pos rfl] at h1 h2
      rw [lex_total a b h1 h2]
    · rw [if_neg e] at h1
      rw [if_neg (Ne.symm e)] at h2
      have := of_decide_eq_false h1
      have := of_decide_eq_false h2
      omega
theorem sortT_perm (cs : List (List Int)) : (sortT cs).Perm cs := List.mergeSort_perm cs _
theorem sortT_rises (cs : List (List Int)) : (sortT cs).Pairwise (fun a b => HT.lexLt b a = false) := by
  have O := NtL.swo_lexL (fun x : List Int => x)
  have h := List.pairwise_mergeSort (le := lxLe) (fun a b c h1 h2 => ?_) (fun a b => ?_) cs
  · exact h.imp fun h => by simpa [lxLe] using h
  · have h1 : HT.lexLt b a = false := by simpa [lxLe] using h1
    have h2 : HT.lexLt c b = false := by simpa [lxLe] using h2
    have := NtL.lex_tr a b c h1 h2
    simp [lxLe, this]
  · cases q : HT.lexLt b a with
    | false => simp [lxLe, q]
    | true =>
      have := NtL.lex_asym _ _ q
      simp [lxLe, this]
theorem lexs_unique : ∀ {a b : List (List Int)}, a.Pairwise (fun x y => HT.lexLt y x = false) → b.Pairwise (fun x y => HT.lexLt y x = false) → a.Perm b → a = b
  | [], b, _, _, p => (List.nil_perm.mp p).symm ▸ rfl
  | x :: a, [], _, _, p => by have := p.length_eq; simp at this
  | x :: a, y :: b, h1, h2, p => by
    rw [List.pairwise_cons] at h1 h2
    have e : x = y := by
      have m1 : x ∈ y :: b := p.mem_iff.mp List.mem_cons_self
      have m2 : y ∈ x :: a := p.mem_iff.mpr List.mem_cons_self
      rcases List.mem_cons.mp m1 with q | q
      · exact q
      · rcases List.mem_cons.mp m2 with r | r
        · exact r.symm
        · exact lex_total _ _ (h2.1 x q) (h1.1 y r)
    subst e
    rw [lexs_unique h1.2 h2.2 ((List.perm_cons x).mp p)]
theorem sortT_of {a b : List (List Int)} (h : a.Pairwise (fun x y => HT.lexLt y x = false)) (p : a.Perm b) : a = sortT b := lexs_unique h (sortT_rises b) (p.trans (sortT_perm b).symm)
abbrev tI (c : List Int) : PyData := .tuple (c.map .int)
/-- the ints of a tuple of the frozen part -/
def tupOf (H : Hp) : V → List Int
  | .ref a => match H a with
    | some (.tup vs) => vs.map fun v => match v with
      | .int i => i
      | _ => 0
    | _ => []
  | _ => []
theorem tupOf_dq {K : PySem.W.Frag} {H : Hp} {v : V} {c : List Int} (h : Dq K H v (tI c)) : ∃ a, v = .ref a ∧ H a = some (.tup (c.map V.int)) ∧ tupOf H v = c := by
  obtain ⟨a, vs, rfl, h1, h2⟩ := dq_tup h
  rw [dqa_ints h2] at h1
  refine ⟨a, rfl, h1, ?_⟩
  unfold tupOf
  simp only [h1, List.map_map]
  rw [show ((fun v : V => match v with | .int i => i | _ => 0) ∘ V.int) = id from rfl, List.map_id]
theorem tups_of : ∀ {K : PySem.W.Frag} {H : Hp} {vs : List V} {cs : List (List Int)}, DqAll K H vs (cs.map tI) → vs.map (tupOf H) = cs ∧ ∀ v ∈ vs, Dq K H v (tI (tupOf H v)) ∧ tupOf H v ∈ cs
  | _, _, [], [], _ => ⟨rfl, fun v hv => by cases hv⟩
  | _, _, _, c :: cs, h => by
    cases h with
    | cons h t =>
      obtain ⟨e1, e2⟩ := tups_of t
      obtain ⟨a, rfl, h1, h2⟩ := tupOf_dq h
      refine ⟨by rw [List.map_cons, e1, h2], fun v hv => ?_⟩
      rcases List.mem_cons.mp hv with rfl | hv
      · rw [h2]; exact ⟨h, List.mem_cons_self⟩
      · exact ⟨(e2 v hv).1, List.mem_cons_of_mem _ (e2 v hv).2⟩
theorem dqa_of : ∀ {K : PySem.W.Frag} {H : Hp} {vs : List V}, (∀ v ∈ vs, Dq K H v (tI (tupOf H v))) → DqAll K H vs ((vs.map (tupOf H)).map tI)
  | _, _, [], _ => .nil
  | _, _, v :: vs, h => .cons (h v List.mem_cons_self) (dqa_of fun u hu => h u (List.mem_cons_of_mem _ hu))
theorem ca_sortedTL {X : Cx} {cs : List (List Int)} (hn : ∀ c ∈ cs, c ≠ []) : CaF X (.builtin "sorted") [.list (cs.map tI)] ((sortT cs).map tI) := ⟨_, cr_sortedT, fun vs H0 H hs ha Q q => by
  cases ha with
  | cons h t =>
    cases t
    obtain ⟨a, vs, rfl, h1, h2⟩ := dq_lst h
    obtain ⟨e1, e2⟩ := tups_of h2
    refine ⟨a, vs, tupOf H0, rfl, SqL.of (hs _ _ h1), fun x hx => ⟨hn _ (e2 x hx).2, ?_⟩, fun ys p sr pm hnp => ?_⟩
    · obtain ⟨t, e3, h3, _⟩ := tupOf_dq (e2 x hx).1
      exact ⟨t, e3, hs _ _ h3⟩
    · have e3 : ys.map (tupOf H0) = sortT cs := sortT_of (List.pairwise_map.mpr sr) (by rw [← e1]; exact pm.map _)
      refine q p ys H0 _ (Gr.own hs hnp) hnp (hs.free hnp) upd_same ?_
      rw [← e3]
      exact dqa_of fun v hv => (e2 v (pm.mem_iff.mp hv)).1⟩
end Rk

namespace Rk
open PySem PySem.Spec PyProof.Rows L2
theorem wk_no : ∀ (l : List Sl) (j : Nat), Wk l (l.set j .no)
  | [], _ => .nil
  | s :: l, 0 => .no (Wk.refl l)
  | s :: l, j + 1 => .eq (wk_no l j)
/-- an owned list is frozen -/
theorem Ok.frz {K : PySem.W.Frag} {Hf Hb : Hp} {env : List Sl} {σ : L2.St} {H0 H : Hp} {j : Nat} {xs : List PyData} (k : Ok K Hf Hb env σ H0 H) (hj : env[j]? = some (.o xs)) : ∃ H1, Ok K Hf Hb (env.set j (.v (.list xs))) σ H1 H := by
  obtain ⟨z, h1, r, vs, h2, h3, h4, h5, h6⟩ := k.sl j _ hj
  subst h2
  have lj : j < env.length := by
    by_cases l : j < env.length
    · exact l
    · rw [List.getElem?_eq_none (by simpa using l)] at hj; cases hj
  have k1 : Ok K Hf Hb (env.set j .no) σ H0 H := k.weak (wk_no env j)
  have k2 : Ok K Hf Hb (env.set j .no) σ (upd H0 r (.lst vs)) H := by
    refine ⟨⟨k.gr.f.trans (same_new h4), k.gr.b, fun a u e => ?_, fun a o u g1 g2 => ?_⟩, k1.len, fun m s em => ?_, k1.ne⟩
    · by_cases z : a = r
      · subst z; rw [upd_same] at e; cases e; exact h5
      · rw [upd_ne z] at e; exact k.gr.i _ _ e
    · rw [upd_ne (ne_of_none g1 h3)] at g2; exact k.gr.n _ _ _ g1 g2
    · obtain ⟨y, y1, y2⟩ := k1.sl m s em
      refine ⟨y, y1, ?_⟩
      cases s with
      | no => trivial
      | v d => obtain ⟨v, e, h⟩ := y2; exact ⟨v, e, h.mono (same_new h4)⟩
      | r v => exact y2
      | g G => obtain ⟨v, e, h⟩ := y2; exact ⟨v, e, G.frz (Gs.out h h5) h4 h⟩
      | o zs =>
        obtain ⟨p', vs', e', hb', h0', hp', ha'⟩ := y2
        subst e'
        have nj : j ≠ m := fun z => by
          subst z
          rw [List.getElem?_set_self lj] at em; cases em
        have npp : p' ≠ r := fun z => by
          subst z
          rw [List.getElem?_set_ne nj] at em
          exact k.ne j m _ _ _ nj hj em h1 y1
        exact ⟨p', vs', rfl, hb', by rw [upd_ne npp]; exact h0', hp', ha'.mono (same_new h4)⟩
  have k3 := k2.setv (i := j) (v := .ref r) (d := .list xs) (.lst upd_same (h6.mono (same_new h4)))
  have e1 : (env.set j .no).set j (.v (.list xs)) = env.set j (.v (.list xs)) := by simp
  have e2 : σ.set j (some (.ref r)) = σ := by
    obtain ⟨a1, a2⟩ := List.getElem?_eq_some_iff.mp h1
    rw [← a2]; simp
  rw [e1, e2] at k3
  exact ⟨_, k3⟩
theorem go_frz {X : Cx} {W : WX} {env : List Sl} {ss : List Stmt} {o : Out} {xs : List PyData} (j : Nat) (h : Go X W (env.set j (.v (.list xs))) ss o) (hj : env[j]? = some (.o xs) := by rfl) : Go X W env ss o := ⟨fun Hf Hb σ H0 H k D q => by
  obtain ⟨H1, k1⟩ := k.frz hj
  exact h.run Hf Hb σ H1 H k1 D q⟩
theorem ixT_last {c : List Int} (h : c ≠ []) : ixD (.tuple (c.map .int)) (-1) = some (.int (c.getLastD 0)) := by
  show atI (c.map PyData.int) (-1) = _
  have hp : 0 < c.length := List.length_pos_iff.mpr h
  unfold atI ixN
  rw [if_neg (by decide), List.length_map]
  have e : ((c.length : Int) + -1).toNat = c.length - 1 := by omega
  have h2 : (c.map PyData.int)[c.length - 1]? = some (.int (c.getLastD 0)) := by
    rw [List.getElem?_map, ← List.getLast?_eq_getElem?, List.getLastD_eq_getLast?]
    cases q : c.getLast? with
    | none => rw [List.getLast?_eq_none_iff] at q; exact absurd q h
    | some x => rfl
  have e' : (-1 + (c.length : Int)).toNat = c.length - 1 := by omega
  rw [if_pos (by omega)]
  simp only [e, e', Option.bind_some]
  first | exact h2 | simpa [e, e'] using h2
end Rk
namespace Rk
open PySem PySem.Spec PyProof.Rows L2
theorem lay_tups : ∀ (cs : List (List Int)), PyData.canLayAll0 (cs.map tI) = true
  | [] => rfl
  | c :: cs => by
    show (PyData.canLay0 (tI c) && PyData.canLayAll0 (cs.map tI)) = true
    rw [lay_tups cs, PyData.canLay0, lay_ints]; rfl
theorem dep_tups : ∀ (cs : List (List Int)), PyData.depthAll (cs.map tI) ≤ 2
  | [] => by decide
  | c :: cs => by
    have := dep_tups cs
    show max (PyData.depth (tI c)) (PyData.depthAll (cs.map tI)) ≤ 2
    rw [PyData.depth, dep_ints]; omega
theorem shL_tups {cs : List (List Int)} : SeqAt.shaped (.list (cs.map tI)) = true := by
  unfold SeqAt.shaped
  have := dep_tups cs
  rw [PyData.canLay0, lay_tups, PyData.depth, decide_eq_true (by omega)]; rfl
theorem eqvAll_tups : ∀ (a b : List (List Int)), PyData.eqvAll (a.map tI) (b.map tI) = decide (a = b)
  | [], [] => by simp [PyData.eqvAll]
  | [], _ :: _ => by simp [PyData.eqvAll]
  | _ :: _, [] => by simp [PyData.eqvAll]
  | x :: a, y :: b => by
    show (PyData.eqv (tI x) (tI y) && PyData.eqvAll (a.map tI) (b.map tI)) = _
    rw [eqvAll_tups a b, PyData.eqv, eqvAll_ints]
    by_cases h : x = y <;> by_cases h2 : a = b <;> simp [h, h2]
theorem ov_eqLT {X : Cx} {a b : List (List Int)} (hu : X.A.units + 64 < cLine) : OpV X (compareOp .Eq) (.list (a.map tI)) (.list (b.map tI)) (.bool (decide (a = b))) := by
  have h := ov_eqD (X := X) hu (shL_tups (cs := a)) (shL_tups (cs := b))
  rwa [PyData.eqv, eqvAll_tups] at h
theorem ov_neLT {X : Cx} {a b : List (List Int)} (hu : X.A.units + 64 < cLine) : OpV X (compareOp .NotEq) (.list (a.map tI)) (.list (b.map tI)) (.bool (!decide (a = b))) := by
  have h := ov_neD (X := X) hu (shL_tups (cs := a)) (shL_tups (cs := b))
  rwa [PyData.eqv, eqvAll_tups] at h
end Rk
namespace Rk
open PySem PySem.Spec PyProof.Rows L2
/-- tg = e, by the target's own rule -/
theorem gos_asg {X : Cx} {W : WX} {env env1 : List Sl} {tg e : Expr} {d : PyData} {is : List Nat} {pos : Pos} (h : EvV X env e d) (ht : TgD X env tg d env1 is) (hs : swapsWithSole [tg] e pos.line X.env = pure false := by rfl) (hw : swappedStores [tg] e X.env = pure none := by rfl)
    (h1 : (assignEach [tg] X.env).map (·.2) = [assign tg X.env] := by rfl) : GoS X W env (.Assign [tg] e pos) (.nx env1) := ⟨fun Hf Hb σ H0 H k D q =>
  ⟨_, ps_asg uE uG hs hw h1, h.run Hf Hb σ H0 H k _ fun v H1 H1' g hv => ht.run Hf Hb σ H1 H1' v (k.gro g) hv _ fun σ' k' _ => q σ' H1 H1' k'⟩⟩
end Rk

namespace Rk
open PySem PySem.Spec PyProof.Rows L2
section
variable {X : Cx} {W : WX} {env : List Sl} {e a b : Expr} {pos p ap : Pos}
theorem ov_ltTI {ns ms : List Int} (hu : X.A.units + 64 < cLine) : OpV X (compareOp .Lt) (.tuple (ns.map .int)) (.tuple (ms.map .int)) (.bool (HT.lexLt ns ms)) := ⟨_, op_ltT (by omega), fun x y H0 H hs hx hy Q q => by
  obtain ⟨r1, vs, rfl, h1, h2⟩ := dq_tup hx
  obtain ⟨r2, ws, rfl, h3, h4⟩ := dq_tup hy
  rw [dqa_ints h2] at h1
  rw [dqa_ints h4] at h3
  exact ⟨r1, r2, ns, ms, rfl, rfl, SqT.of (hs _ _ h1), SqT.of (hs _ _ h3), q _ H0 H (Gr.refl hs) (.bl _)⟩⟩
/-- cs.index(c), tuples of ints -/
theorem evv_index {cs : List (List Int)} {c : List Int} {j : Nat} (hu : X.A.units + 65 < cLine) (ha : EvV X env a (.list (cs.map tI))) (he : EvV X env e (tI c)) (hj : cs[j]? = some c) (hno : ∀ m, m < j → cs[m]? ≠ some c)
    (hbase : attributeBase a "index" X.env (eval a X.env) = eval a X.env := by rfl)
    (hfew : ((backTo pos (starEach [e] X.env)).all (fun x => !x.1) && (backToKw pos (keywordEach [] X.env)).all (fun x => x.1.isSome) && decide ([e].length + ([] : List Keyword).length + (if ([] : List Keyword).isEmpty then 0 else 1) < 30)) = true := by rfl)
    (hline : (ap.endLine == pos.line) = true := by rfl) (hse : starEach [e] X.env = (false, eval e X.env) :: starEach [] X.env := by rfl) (hpl : (backTo pos (starEach [] X.env)).any (·.1) = false := by rfl) :
    EvV X env (.Call (.Attribute a "index" ap) [e] [] pos) (.int (j : Nat)) := ⟨fun Hf Hb σ H0 H k Q q => by
  refine ⟨_, pe_bm PySem.F.plainAttrs_list PySem.F.slot_list_index PySem.F.type_list_index (mt_indexD hu) uE (pa_cons uE pa_nil hse) hbase hfew hline hse hpl, ha.run Hf Hb σ H0 H k _ fun v H1 H1' g hv => ?_⟩
  obtain ⟨r, vs, rfl, h1, h2⟩ := dq_lst hv
  refine ⟨.inl ⟨rfl, _, SqL.of (g.i _ _ h1)⟩, he.run Hf Hb σ H1 H1' (k.gro g) _ fun y H2 H2' g2 hy => ?_⟩
  have d1 : Dq X.K H2 (.ref r) (.list (cs.map tI)) := hv.mono g2.f
  refine ⟨r, y, tI c, cs.map tI, j, tI c, rfl, rfl, (d1.mono g2.i).dp (SeqAt.canLay_of_shaped shL_tups), (hy.mono g2.i).dp (SeqAt.canLay_of_shaped shT_ints), shL_tups, shT_ints, by rw [List.getElem?_map, hj]; rfl, ?_, fun m z' hm hz => ?_, q _ H2 H2' (g.trans g2) (.int _)⟩
  · rw [PyData.eqv, eqvAll_ints, decide_eq_true rfl]
  · rw [List.getElem?_map] at hz
    cases q2 : cs[m]? with
    | none => rw [q2] at hz; cases hz
    | some c' =>
      rw [q2] at hz; cases hz
      rw [PyData.eqv, eqvAll_ints]
      exact decide_eq_false fun e => hno m hm (by rw [q2, e])⟩
theorem ixL_last {cs : List (List Int)} (h : cs ≠ []) : ixD (.list (cs.map tI)) (-1) = some (tI (cs.getLastD [])) := by
  show atI (cs.map tI) (-1) = _
  have hp : 0 < cs.length := List.length_pos_iff.mpr h
  unfold atI ixN
  rw [if_neg (by decide), List.length_map]
  have e : ((cs.length : Int) + -1).toNat = cs.length - 1 := by omega
  have h2 : (cs.map tI)[cs.length - 1]? = some (tI (cs.getLastD [])) := by
    rw [List.getElem?_map, ← List.getLast?_eq_getElem?, List.getLastD_eq_getLast?]
    cases q : cs.getLast? with
    | none => rw [List.getLast?_eq_none_iff] at q; exact absurd q h
    | some x => rfl
  have e' : (-1 + (cs.length : Int)).toNat = cs.length - 1 := by omega
  rw [if_pos (by omega)]
  simp only [e, e', Option.bind_some]
  first | exact h2 | simpa [e, e'] using h2
end
end Rk

namespace Rk
open PySem PySem.Spec PyProof.Rows L2
/-! ### len(set(t)), sorted(set(t)), t a tuple of ints -/
def tLenSetT (K : PySem.W.Frag) (ta : TE) : TE := fun σ H Q => ta σ H fun x H1 => ∃ (l : Addr) (ns : List Int), x = .ref l ∧ SqT K H1 l (ns.map V.int) ∧ ns.length ≤ 1000 ∧ ∀ ks : List Int, ks.Nodup → (∀ k, k ∈ ks ↔ k ∈ ns) → Q (.int (ks.length : Nat)) H1
theorem pe_lenSetT {X : Cx} {a : Expr} {ta : TE} {p p2 q pos : Pos} (hg : Gl X "len") (hm : X.mg "len" = none) (hg2 : Gl X "set") (hm2 : X.mg "set" = none) (ha : PE X a ta) (hc : X.calm = true := by rfl)
    (na : starEach [a] X.env = (false, eval a X.env) :: starEach [] X.env := by rfl) : PE X (.Call (.Name "len" p) [.Call (.Name "set" p2) [a] [] q] [] pos) (tLenSetT X.K ta) := by
  refine ⟨fun pins s σ H Q I h => ?_⟩
  refine Call_ (ld_blt I hg hm boot_len ?_)
  refine PyProof.Rows.callWith_builtin1 (PyProof.Rows.args_cons ?_ rfl) rfl rfl
  refine Call_ (ld_blt I hg2 hm2 boot_set ?_)
  refine PyProof.Rows.callWith_type1 (PyProof.Rows.args_cons (thn (ha.run pins s σ H _ I h) fun v s1 ⟨x, H1, I1, r1, q1⟩ => PyProof.Rows.args_nil ?_) na) na rfl
  obtain ⟨l, ns, rfl, hq, hl, q1⟩ := q1
  cases r1
  obtain ⟨its, r, pt, hz⟩ := I1.tuple hq
  have hi : IntsAre its.toArray.toList ns := by simpa using r.ints
  refine call_set_tupI ns (I1.ok.hd hc) (show s1.heap.IsTuple l its.toArray from pt) hi (by unfold scanBound; omega) fun h' tk c R hcn k => ?_
  refine PyProof.Rows.args_nil ?_
  obtain ⟨o, es, ep, t, ho, hex, hd, g, nd, hm3, hb, hf, hn, hr, hl2⟩ := R
  have I2 : Inv X pins σ H1 { s1 with heap := h', toks := tk } := I1.kept fun b o e => k b o e
  have hlen : ((es.toList.map keyOf).length : Int) = es.size := by simp
  refine call_len_set ho hex hd hf (by rw [hn]; omega) ⟨.int ((es.toList.map keyOf).length : Nat), H1, I2.tok _, ⟨_, by rw [hlen]⟩, q1 _ nd fun j => ?_⟩
  rw [← hm3 j]; exact decide_eq_true_iff
def tSortSetT (K : PySem.W.Frag) (ta : TE) : TE := fun σ H Q => ta σ H fun x H1 => ∃ (l : Addr) (ns : List Int), x = .ref l ∧ SqT K H1 l (ns.map V.int) ∧ ns.length < 64 ∧ ∀ (ks : List Int) (p : Addr), ks.Pairwise (· < ·) → (∀ k, k ∈ ks ↔ k ∈ ns) → H1 p = none → Q (.ref p) (upd H1 p (.lst (ks.map V.int)))
theorem pe_sortSetT {X : Cx} {a : Expr} {ta : TE} {p p2 q pos : Pos} (hg : Gl X "sorted") (hm : X.mg "sorted" = none) (hg2 : Gl X "set") (hm2 : X.mg "set" = none) (ha : PE X a ta) (hc : X.calm = true := by rfl)
    (na : starEach [a] X.env = (false, eval a X.env) :: starEach [] X.env := by rfl) : PE X (.Call (.Name "sorted" p) [.Call (.Name "set" p2) [a] [] q] [] pos) (tSortSetT X.K ta) := by
  refine ⟨fun pins s σ H Q I h => ?_⟩
  refine Call_ (ld_blt I hg hm boot_sorted ?_)
  refine PyProof.Rows.callWith_builtin1 (PyProof.Rows.args_cons ?_ rfl) rfl rfl
  refine Call_ (ld_blt I hg2 hm2 boot_set ?_)
  refine PyProof.Rows.callWith_type1 (PyProof.Rows.args_cons (thn (ha.run pins s σ H _ I h) fun v s1 ⟨x, H1, I1, r1, q1⟩ => PyProof.Rows.args_nil ?_) na) na rfl
  obtain ⟨l, ns, rfl, hq, hl, q1⟩ := q1
  cases r1
  obtain ⟨its, r, pt, hz⟩ := I1.tuple hq
  have hi : IntsAre its.toArray.toList ns := by simpa using r.ints
  refine call_set_tupI ns (I1.ok.hd hc) (show s1.heap.IsTuple l its.toArray from pt) hi (by unfold scanBound; omega) fun h' tk c R hcn k => ?_
  refine PyProof.Rows.args_nil ?_
  have I2 : Inv X pins σ H1 { s1 with heap := h', toks := tk } := I1.kept fun b o e => k b o e
  refine sorted_set (s := { s1 with heap := h', toks := tk }) R (I2.ok.hd hc) (by omega) fun s' p out c2 ks kk g o hp hgt hi2 hs hm3 hl3 => ?_
  have hlen : (ks.map V.int).length ≤ sizeLine := by rw [List.length_map, hl3, sizeLine_eq]; omega
  have hn : H1 p = none := I2.hok.fresh hp
  have J : Inv X pins σ (upd H1 p (.lst (ks.map V.int))) { ({ s1 with heap := h', toks := tk } : Shared) with heap := s'.heap, gens := s'.gens, drawn := s'.drawn, toks := s'.toks } :=
    I2.call (ch := []) (Un.laid kk hp hn) (I2.hok.laid kk hp ⟨hlen, out.toList, c2, vals_of_ints hi2, hgt⟩) (by rw [g]; exact I2.bare) (fun _ z => nomatch z)
  have e : s' = { ({ s1 with heap := h', toks := tk } : Shared) with heap := s'.heap, gens := s'.gens, drawn := s'.drawn, toks := s'.toks } := by
    cases s'
    cases s1
    cases o
    rfl
  rw [e]
  exact ⟨.ref p, _, J, rfl, q1 ks p hs (fun j => by rw [hm3 j]; exact decide_eq_true_iff) hn⟩
def ddI : List Int → List Int
  | [] => []
  | x :: l => if x ∈ l then ddI l else x :: ddI l
theorem ddI_mem : ∀ {l : List Int} {k : Int}, k ∈ ddI l ↔ k ∈ l
  | [], k => Iff.rfl
  | x :: l, k => by
    unfold ddI
    split
    · rename_i h
      rw [ddI_mem, List.mem_cons]
      constructor
      · exact .inr
      · rintro (rfl | q)
        · exact h
        · exact q
    · rw [List.mem_cons, List.mem_cons, ddI_mem]
theorem ddI_nodup : ∀ l : List Int, (ddI l).Nodup
  | [] => .nil
  | x :: l => by
    unfold ddI
    split
    · exact ddI_nodup l
    · rename_i h
      exact List.nodup_cons.mpr ⟨fun q => h (ddI_mem.mp q), ddI_nodup l⟩
theorem ddI_len : ∀ l : List Int, (ddI l).length ≤ l.length
  | [] => Nat.le_refl _
  | x :: l => by
    have := ddI_len l
    unfold ddI
    split
    · simp; omega
    · simp; omega
theorem ddI_full : ∀ {l : List Int}, (ddI l).length = l.length ↔ l.Nodup
  | [] => by simp [ddI]
  | x :: l => by
    have hl := ddI_len l
    unfold ddI
    rw [List.nodup_cons]
    split
    · rename_i h
      constructor
      · intro q; simp at q; omega
      · rintro ⟨q, _⟩; exact absurd h q
    · rename_i h
      rw [List.length_cons, List.length_cons, Nat.add_right_cancel_iff, ddI_full]
      exact ⟨fun q => ⟨h, q⟩, fun q => q.2⟩
section
variable {X : Cx} {env : List Sl} {a : Expr} {p p2 q pos : Pos} {ns : List Int}
theorem evv_lenSet (hm : X.mg "len" = none) (hm2 : X.mg "set" = none) (ha : EvV X env a (.tuple (ns.map .int))) (hl : ns.length ≤ 1000) (hg : Gl X "len" := by rfl) (hg2 : Gl X "set" := by rfl) (hc : X.calm = true := by rfl)
    (na : starEach [a] X.env = (false, eval a X.env) :: starEach [] X.env := by rfl) : EvV X env (.Call (.Name "len" p) [.Call (.Name "set" p2) [a] [] q] [] pos) (.int ((ddI ns).length : Nat)) := ⟨fun Hf Hb σ H0 H k Q qq =>
  ⟨_, pe_lenSetT hg hm hg2 hm2 uE hc na, ha.run Hf Hb σ H0 H k _ fun v H1 H1' g hv => by
    obtain ⟨r, vs, rfl, h1, h2⟩ := dq_tup hv
    rw [dqa_ints h2] at h1
    refine ⟨r, ns, rfl, SqT.of (g.i _ _ h1), hl, fun ks hn hk => ?_⟩
    have e : ks.length = (ddI ns).length := ((List.perm_ext_iff_of_nodup hn (ddI_nodup ns)).mpr fun x => by rw [hk x, ddI_mem]).length_eq
    rw [e]
    exact qq _ H1 H1' g (.int _)⟩⟩
theorem evf_sortSet (hm : X.mg "sorted" = none) (hm2 : X.mg "set" = none) (ha : EvV X env a (.tuple (ns.map .int))) (hl : ns.length < 64) (hg : Gl X "sorted" := by rfl) (hg2 : Gl X "set" := by rfl) (hc : X.calm = true := by rfl)
    (na : starEach [a] X.env = (false, eval a X.env) :: starEach [] X.env := by rfl) : EvF X env (.Call (.Name "sorted" p) [.Call (.Name "set" p2) [a] [] q] [] pos) ((sortI (ddI ns)).map .int) := ⟨fun Hf Hb σ H0 H k Q qq =>
  ⟨_, pe_sortSetT hg hm hg2 hm2 uE hc na, ha.run Hf Hb σ H0 H k _ fun v H1 H1' g hv => by
    obtain ⟨r, vs, rfl, h1, h2⟩ := dq_tup hv
    rw [dqa_ints h2] at h1
    refine ⟨r, ns, rfl, SqT.of (g.i _ _ h1), hl, fun ks t hs hk hn => ?_⟩
    have nd : ks.Nodup := hs.imp fun h => by omega
    have e : ks = sortI (ddI ns) := sortI_of (hs.imp fun h => by omega) ((List.perm_ext_iff_of_nodup nd (ddI_nodup ns)).mpr fun x => by rw [hk x, ddI_mem])
    rw [e]
    exact qq t _ H1 _ (g.trans (Gr.own g.i hn)) (g.b.free hn) (g.i.free hn) upd_same (ints_dqa _)⟩⟩
end
end Rk
namespace Rk
open PySem PySem.Spec PyProof.Rows L2
/-! ### a comprehension in a comprehension -/
def rlS (scope sc : Scope) : Scope := { scope with names := scope.names.map fun (n, k) => if (k == .free && sc.kind == .function && sc.names.lookup n == some .cell) then (n, .cell) else (n, k) }
theorem blkOk_in {X : Cx} {s Hx} {scope0 : Scope} {C cl fp} {N : List Str} {sc0 scope : Scope} {own : List (Str × Nat)} (eN : X.N = N) (eS : X.env.scope = sc0) (h : blkC N (rlS scope0 sc0) scope own = true) :
    BlkOk (X.blk s Hx scope0 (compEnvC scope0 cl C X.env) fp).N (X.blk s Hx scope0 (compEnvC scope0 cl C X.env) fp).env.scope scope own := by
  subst eN; subst eS
  exact blkOk_by h
end Rk

namespace Rk
open PySem PySem.Spec PyProof.Rows L2
theorem evv_tupRg1 {X : Cx} {env : List Sl} {a : Expr} {hi : Int} {p p2 pos pos2 : Pos} (hm : X.mg "tuple" = none) (hm2 : X.mg "range" = none) (ha : EvV X env a (.int hi)) (h : RgOk 0 hi) (hg : Gl X "tuple" := by rfl) (hg2 : Gl X "range" := by rfl) (hc : X.calm = true := by rfl)
    (na : starEach [a] X.env = (false, eval a X.env) :: starEach [] X.env := by rfl)
    (nc : starEach [.Call (.Name "range" p2) [a] [] pos2] X.env = (false, eval (.Call (.Name "range" p2) [a] [] pos2) X.env) :: starEach [] X.env := by rfl) :
    EvV X env (.Call (.Name "tuple" p) [.Call (.Name "range" p2) [a] [] pos2] [] pos) (.tuple ((rgI 0 hi).map .int)) := ⟨fun Hf Hb σ H0 H k Q q =>
  ⟨_, pe_tupRg hc hg hm (prg_1 hg2 hm2 uE na) nc, ha.run Hf Hb σ H0 H k _ fun x H1 H1' g d1 => by
    rw [dq_int d1]
    refine ⟨hi, rfl, h, fun r hr => q _ _ _ (g.trans (Gr.new g.i hr)) (.tup upd_same ?_)⟩
    rw [rgV_rgI]; exact ints_dqa _⟩⟩
theorem cutD_to1 {α : Type} (x : α) (xs : List α) : cutD (x :: xs) none (some 1) = [x] := by
  unfold cutD
  rw [HT.sIx_none, show HT.sIx (x :: xs).length (x :: xs).length (some 1) = min 1 (x :: xs).length from HT.sIx_nat (x :: xs).length (x :: xs).length 1]
  have : min 1 (x :: xs).length = 1 := by simp
  rw [this]; rfl
end Rk

namespace Rk
open PySem PySem.Spec PyProof.Rows L2
open AutoSeq1 (wpAny_loadPart')
/-! ### t * 1 is t -/
theorem tuple_mul1 (l : Addr) (items : Array Value) (n : Nat) (dd : Option Addr) (sl : Array (Option Value)) (x : Int) (u : Tok) (c0 : (decide (x < -(2 ^ 63)) || decide (x ≥ 2 ^ 63)) = false) (c1 : (items.isEmpty || x == 1) = true) :
    Meets (Builtin.«tuple.__mul__» ⟨[.ref l, .int x u], []⟩) (fun _ R s => s.heap.get? l = some { cls := .type "tuple", dict := dd, data := .seq items n, slots := sl } ∧ R (.ok (.ret (Value.ref l))) s) :=
  .of_wp fun prog w A R s h => by
    obtain ⟨hp, g, d, tk, os⟩ := s
    obtain ⟨hl, h⟩ := h
    have f1 := AutoSeq1.idx_int
    wp_walk using wpAny_loadPart' hl
    repeat (first
      | (refine wpAny_ite_false (decide_eq_false (by rw [c0]; exact Bool.false_ne_true)) ?_; wp_walk using wpAny_loadPart' hl)
      | (refine wpAny_ite_true (decide_eq_true c1) ?_; wp_walk using wpAny_loadPart' hl))
    first | exact ⟨_, rfl, h⟩ | exact h
theorem op_rep1 {X : Cx} : OpR X (binaryOp .Mult) (fun x y H Q => ∃ l xs, x = .ref l ∧ y = .int 1 ∧ SqT X.K H l xs ∧ Q (.ref l) H) := by
  intro pins s σ H x y v u Q I rx ry h
  obtain ⟨l, xs, rfl, rfl, hT, q⟩ := h
  cases rx
  obtain ⟨t, rfl⟩ := ry
  obtain ⟨its, r, ⟨⟨cls, dd, data, sl⟩, ho, hc, n, hd⟩, hs⟩ := I.tuple hT
  simp only at hc hd
  subst hc hd
  have c1 : (its.toArray.isEmpty || ((1 : Int) == 1)) = true := by rw [Bool.or_eq_true]; exact .inr rfl
  exact wpAny_binaryOp_repeat_ref (T := "tuple") (U := "int") (by decide) ⟨_, ho, rfl⟩ (fun s' => typeIs_int s' 1 t) noFill_tuple_mul F.fills_int_mul F.slot_int_rmul repeat_tuple F.slot_int_index.lookup
    (call_meets F.slot_int_rmul (typeIs_int s 1 t) F.entry_int_rmul (F.args_int_rmul_2 _ _) (int_rmul_tuple 1 t l its.toArray n dd sl)
      ⟨ho, rfl, ⟨_, ho, rfl⟩, call_meets F.slot_tuple_mul ⟨_, ho, rfl⟩ F.entry_tuple_mul (F.args_tuple_mul_2 _ _) (tuple_mul1 l its.toArray n dd sl 1 t (by decide) c1) ⟨ho, .ref l, H, I, rfl, q⟩⟩)
/-- t * k, t one item long -/
theorem ov_repT1 {X : Cx} {d : PyData} {k : Int} (h1 : 1 ≤ k) (h2 : k ≤ 1000) : OpV X (binaryOp .Mult) (.tuple [d]) (.int k) (.tuple (List.replicate k.toNat d)) := by
  by_cases e : k = 1
  · subst e
    refine ⟨_, op_rep1, fun x y H0 H hs hx hy Q q => ?_⟩
    obtain ⟨p, vs, rfl, g1, g2⟩ := dq_tup hx
    rw [dq_int hy]
    exact ⟨p, vs, rfl, rfl, SqT.of (hs _ _ g1), q _ H0 H (Gr.refl hs) hx⟩
  · refine ⟨_, op_repT, fun x y H0 H hs hx hy Q q => ?_⟩
    obtain ⟨p, vs, rfl, g1, g2⟩ := dq_tup hx
    rw [dq_int hy]
    have gl := g2.length
    have hne : vs ≠ [] := fun z => by rw [z] at gl; cases gl
    refine ⟨p, k, vs, rfl, rfl, SqT.of (hs _ _ g1), hne, by omega, h2, by rw [gl]; simp, fun r hr => q _ _ _ (Gr.new hs hr) (.tup upd_same ?_)⟩
    have := (g2.flat k.toNat).mono (same_new (o := HO.tup (List.replicate k.toNat vs).flatten) (hs.free hr))
    rwa [rep_flat] at this
/-! ### texts -/
section
variable {K : PySem.W.Frag} {H : Hp}
theorem dqa_strs : ∀ {vs : List V} {ys : List Str}, DqAll K H vs (ys.map PyData.str) → vs = ys.map V.str
  | [], [], _ => rfl
  | _, n :: ns, h => by
    cases h with
    | cons h a => rw [dq_str h, dqa_strs a]; rfl
  | _ :: _, [], h => by cases h
end
section
variable {X : Cx} {W : WX} {env : List Sl} {o e a b : Expr} {ap pos : Pos} {x y : Str} {ys : List Str}
/-- sep.join(xs) -/
theorem evv_join (ho : EvV X env o (.str x)) (he : EvB X env e (ys.map .str)) (hz : (ys.map (·.length)).sum + ys.length * x.length ≤ 16777216) (hs : starEach [e] X.env = [(false, eval e X.env)] := by rfl)
    (hbase : attributeBase o "join" X.env (eval o X.env) = eval o X.env := by rfl) (hline : (ap.endLine == pos.line) = true := by rfl) : EvV X env (.Call (.Attribute o "join" ap) [e] [] pos) (.str (Txt.join x ys)) := ⟨fun Hf Hb σ H0 H k Q q =>
  ⟨_, pe_join uE uE hs hbase hline, ho.run Hf Hb σ H0 H k _ fun v H1 H1' g hv => by
    rw [dq_str hv]
    refine ⟨⟨x, rfl⟩, he.run Hf Hb σ H1 H1' (k.gro g) _ fun p vs H2 H2' g2 hp ha => ?_⟩
    rw [dqa_strs ha] at hp
    exact ⟨x, p, ys, rfl, rfl, .inl (SqL.of hp), hz, q _ H2 H2' (g.trans g2) (.str _)⟩⟩⟩
theorem eqv_str (x y : Str) : PyData.eqv (.str x) (.str y) = decide (x = y) := by
  show (x == y) = decide (x = y)
  exact Bool.eq_iff_iff.mpr (by simp)
theorem sh_str {x : Str} (h : PyData.strOk x = true) : SeqAt.shaped (.str x) = true := by
  unfold SeqAt.shaped
  rw [PyData.canLay0, PyData.depth, h]; decide
theorem ov_eqS (hu : X.A.units + 64 < cLine) (hx : PyData.strOk x = true) (hy : PyData.strOk y = true) : OpV X (compareOp .Eq) (.str x) (.str y) (.bool (decide (x = y))) := by
  have h := ov_eqD (X := X) hu (sh_str hx) (sh_str hy)
  rwa [eqv_str] at h
theorem ov_neS (hu : X.A.units + 64 < cLine) (hx : PyData.strOk x = true) (hy : PyData.strOk y = true) : OpV X (compareOp .NotEq) (.str x) (.str y) (.bool (!decide (x = y))) := by
  have h := ov_neD (X := X) hu (sh_str hx) (sh_str hy)
  rwa [eqv_str] at h
end
/-! ### flat data -/
def flatE : PyData → Bool
  | .none => true
  | .bool _ => true
  | .int _ => true
  | .str x => PyData.strOk x
  | _ => false
theorem flat_lay : ∀ {xs : List PyData}, xs.all flatE = true → PyData.canLayAll0 xs = true ∧ PyData.depthAll xs = 0
  | [], _ => ⟨rfl, rfl⟩
  | d :: xs, h => by
    rw [List.all_cons, Bool.and_eq_true] at h
    obtain ⟨h1, h2⟩ := flat_lay h.2
    have hd : d.canLay0 = true ∧ d.depth = 0 := by
      cases d with
      | none => exact ⟨rfl, rfl⟩
      | bool b => exact ⟨rfl, rfl⟩
      | int i => exact ⟨rfl, rfl⟩
      | str x => exact ⟨by rw [PyData.canLay0]; exact h.1, by rw [PyData.depth]⟩
      | list x => cases h.1
      | tuple x => cases h.1
      | dict x => cases h.1
    exact ⟨by rw [PyData.canLayAll0, hd.1, h1]; rfl, by rw [PyData.depthAll, hd.2, h2]; rfl⟩
theorem flat_shL {xs : List PyData} (h : xs.all flatE = true) : SeqAt.shaped (.list xs) = true := by
  obtain ⟨h1, h2⟩ := flat_lay h
  unfold SeqAt.shaped
  rw [PyData.canLay0, h1, PyData.depth, h2]; decide
theorem ov_neFN {X : Cx} {xs : List PyData} (hu : X.A.units + 64 < cLine) (h : xs.all flatE = true) : OpV X (compareOp .NotEq) (.list xs) (.list []) (.bool (!xs.isEmpty)) := by
  have h := ov_neD (X := X) (da := .list xs) (db := .list []) hu (flat_shL h) (by decide)
  cases xs with
  | nil => exact h
  | cons x xs => exact h
end Rk

namespace Rk
open PySem PySem.Spec PyProof.Rows L2
/-! ### slots of a known object -/
theorem Ok.setg {K : PySem.W.Frag} {H H0 Hf Hb : Hp} {env : List Sl} {σ : L2.St} (k : Ok K Hf Hb env σ H0 H) (i : Nat) (v : V) (G : Gs) (hs : G.φ K Hb H0 H v) : Ok K Hf Hb (env.set i (.g G)) (σ.set i (some v)) H0 H := by
  refine ⟨k.gr, by simp [k.len], fun j t e => ?_, fun j l xs ys p ne e1 e2 e3 e4 => ?_⟩
  · by_cases q : i = j
    · subst q
      by_cases l : i < env.length
      · rw [List.getElem?_set_self l] at e; cases e
        exact ⟨some v, by rw [List.getElem?_set_self (by rw [← k.len]; exact l)], v, rfl, hs⟩
      · rw [List.getElem?_eq_none (by simpa using l)] at e; cases e
    · rw [List.getElem?_set_ne q] at e ⊢; exact k.sl j t e
  · have nn : ∀ m us, (env.set i (.g G))[m]? = some (.o us) → i ≠ m := fun m us em q => by
      subst q
      by_cases l : i < env.length
      · rw [List.getElem?_set_self l] at em; cases em
      · rw [List.getElem?_eq_none (by simpa using l)] at em; cases em
    have n1 := nn _ _ e1
    have n2 := nn _ _ e2
    rw [List.getElem?_set_ne n1] at e1 e3
    rw [List.getElem?_set_ne n2] at e2 e4
    exact k.ne j l xs ys p ne e1 e2 e3 e4
/-! ### a tuple whose object is known: no dict -/
def tqG (ns : List Int) : Gs where
  φ := fun _ _ H0 _ v => ∃ p ob, v = .ref p ∧ H0 p = some (.frz ob (.tup (ns.map V.int))) ∧ ob.cls = .type "tuple" ∧ ob.dict = none
  fp := []
  gro := fun g ⟨p, ob, e, h, c, d⟩ => ⟨p, ob, e, g.f _ _ h, c, d⟩
  oth := fun _ h => h
  frz := fun _ n ⟨p, ob, e, h, c, d⟩ => ⟨p, ob, e, same_new n _ _ h, c, d⟩
  nl := fun _ a m => by cases m
def rCatQ (K : PySem.W.Frag) : R2 := fun x y H Q => ∃ a b xs ys, x = .ref a ∧ y = .ref b ∧ SqT K H a xs ∧ SqT K H b ys ∧ xs.length + ys.length ≤ sizeLine ∧ xs ≠ [] ∧ ys ≠ [] ∧
  ∀ p ob, H p = none → ob.cls = .type "tuple" → ob.dict = none → Q (.ref p) (upd H p (.frz ob (.tup (xs ++ ys))))
theorem op_catQ {X : Cx} : OpR X (binaryOp .Add) (rCatQ X.K) := by
  intro pins s σ H x y v u Q I rx ry h
  obtain ⟨a, b, xs, ys, rfl, rfl, ha, hb, hz, hx, hy, q2⟩ := h
  cases rx
  cases ry
  obtain ⟨its, r1, p1, _⟩ := I.tuple ha
  obtain ⟨its2, r2, p2, _⟩ := I.tuple hb
  refine HT.cat_tup p1 p2 (fun z => hx (r1.nil_iff.mp z)) (fun z => absurd (r2.nil_iff.mp z) hy) (fun z => ?_) (by rw [← r1.length, ← r2.length]; exact hz)
  refine ⟨.ref s.heap.objs.size, _, I.laid (t' := s.toks) (o := .frz _ (.tup (xs ++ ys))) (fun b ob q => Heap.get?_push_of_some _ q) (Nat.le_refl _) ⟨Heap.get?_push_size _ rfl, ?_⟩, rfl, q2 _ _ (I.hok.fresh (Nat.le_refl _)) rfl rfl⟩
  exact ⟨by rw [List.length_append]; exact hz, _, r1.append r2, IsTup.new _ _⟩
section
variable {X : Cx} {W : WX} {env : List Sl} {e a b tg : Expr} {pos p ap spos : Pos} {x y : Str} {ns ms : List Int}
/-- x = a + b, tuples of ints -/
theorem gos_setQ (i : Nat) (hN : X.N.Nodup) (ha : EvV X env a (.tuple (ns.map .int))) (hb : EvV X env b (.tuple (ms.map .int))) (hn : ns ≠ []) (hm : ms ≠ []) (hz : ns.length + ms.length ≤ sizeLine)
    (hi : X.N[i]? = some x := by rfl) (hx : Loc X.env.scope x := by first | exact Or.inl rfl | exact Or.inr rfl) (hs : swapsWith (.BinOp a .Add b pos) (some (.Name x p)) spos.line X.env = pure false := by rfl) (hf : X.fn x = true ∨ X.env.scope.names.lookup x = some .local := by first | exact .inl rfl | exact .inr rfl) :
    GoS X W env (.Assign [.Name x p] (.BinOp a .Add b pos) spos) (.nx (env.set i (.g (tqG (ns ++ ms))))) := ⟨fun Hf Hb σ H0 H k D q => by
  refine ⟨_, ps_set hN hi hx (pe_op op_catQ uE uE) hs hf, two ha hb k fun u v H1 H1' g d1 d2 => ?_⟩
  obtain ⟨p1, vs, rfl, h1, h2⟩ := dq_tup d1
  obtain ⟨p2, ws, rfl, h3, h4⟩ := dq_tup d2
  rw [dqa_ints h2] at h1
  rw [dqa_ints h4] at h3
  refine ⟨p1, p2, _, _, rfl, rfl, SqT.of (g.i _ _ h1), SqT.of (g.i _ _ h3), by simpa using hz, by simpa using hn, by simpa using hm, fun t ob ht hc hd => q _ (upd H1 t (.frz ob (.tup (ns.map V.int ++ ms.map V.int)))) _ (((k.gro g).gro (Gr.new g.i ht)).setg i _ _ ⟨t, ob, rfl, ?_, hc, hd⟩)⟩
  rw [upd_same, List.map_append]⟩
/-- what a slot of a known tuple gives -/
theorem slot_q (i : Nat) {Hf Hb : Hp} {σ : L2.St} {H0 H : Hp} (k : Ok X.K Hf Hb env σ H0 H) (hs : env[i]? = some (.g (tqG ns))) : ∃ p ob, σ[i]? = some (some (.ref p)) ∧ H0 p = some (.frz ob (.tup (ns.map V.int))) ∧ ob.cls = .type "tuple" ∧ ob.dict = none := by
  obtain ⟨z, h1, v, rfl, p, ob, rfl, h2, h3, h4⟩ := k.sl i _ hs
  exact ⟨p, ob, h1, h2, h3, h4⟩
/-- walked -/
theorem evi_q (i : Nat) (hs : env[i]? = some (.g (tqG ns)) := by rfl) (hN : X.N[i]? = some x := by rfl) (hv : Vis X.env.scope x := by first | exact Or.inl rfl | exact Or.inr (Or.inl rfl) | exact Or.inr (Or.inr rfl)) (hd : (x == ("__debug__" : Str)) = false := by decide)
    (hcd : (x == ("__classdict__" : Str)) = false := by decide) : EvI X env tg (.Name x pos) PyData.int ns := ⟨fun Hf Hb σ H0 H k R q => by
  obtain ⟨p, ob, h1, h2, h3, h4⟩ := slot_q i k hs
  have sq : ∀ H', Same H0 H' → SqT X.K H' p (ns.map V.int) := fun H' s => .inl (.inr ⟨ob, s _ _ h2⟩)
  refine ⟨_, pi_tup (pe_var hN hv hd hcd), _, h1, p, rfl, ⟨_, sq _ k.gr.i⟩, q _ H0 H (Gr.refl k.gr.i) (wkd_at walk_tup (fun H s => sq H s) (ints_dqa ns))⟩⟩
/-- x.count(e) -/
theorem mt_tcount : MtR X "tuple.count" (fun x xs H Q => ∃ (p : Addr) (ns : List Int) (k : Int), x = .ref p ∧ xs = [.int k] ∧ SqT X.K H p (ns.map V.int) ∧ Q (.int (ns.count k : Nat)) H) := by
  intro pins s σ H x xs v us Q I rx rxs h
  obtain ⟨p, ns, k, rfl, rfl, hs, q⟩ := h
  cases rx
  obtain ⟨u, rfl, ru⟩ := rxs.one
  obtain ⟨t, rfl⟩ := ru
  obtain ⟨its, rv, ⟨⟨cls, dd, data, sl⟩, ho, hc, n, hd⟩, hlen⟩ := I.tuple hs
  simp only at hc hd
  subst hc hd
  have hi := ints_of_vals rv
  refine call_meets PySem.F.slot_tuple_count ⟨_, ho, rfl⟩ PySem.F.entry_tuple_count (PySem.F.args_tuple_count_2 _ _)
    (SeqAt.tuple_countAt p its.toArray n dd sl (.int k t) (eqk k)) ⟨ho, fun y hy => (eqk_gives hi y (by simpa using hy)).at _ _, ?_⟩
  have ec : its.toArray.toList.countP (eqk k) = ns.count k := eqk_count hi
  refine ⟨.int (ns.count k : Nat), H, I.tok _, ⟨s.toks, ?_⟩, q⟩
  show Value.int ((its.toArray.toList.countP (eqk k) : Nat) : Int) s.toks = Value.int ((ns.count k : Nat) : Int) s.toks
  rw [ec]
theorem pe_bmQ {o e : Expr} {es : List Expr} {to : TE} {t : TA} {name : Str} {apos cpos : Pos} {T id : String} {r : V → List V → Hp → VK → Prop} (pa : PlainAttrs T) (slot : Slot T name id) (hty : typeOf (.builtin id) = pure (.type "method_descriptor")) (hm : MtR X id r) (ho : PE X o to) (ha : PA X (e :: es) t)
    (hbase : attributeBase o name X.env (eval o X.env) = eval o X.env := by rfl)
    (hfew : ((backTo cpos (starEach (e :: es) X.env)).all (fun x => !x.1) && (backToKw cpos (keywordEach [] X.env)).all (fun x => x.1.isSome)
      && decide ((e :: es).length + ([] : List Keyword).length + (if ([] : List Keyword).isEmpty then 0 else 1) < 30)) = true := by rfl)
    (hline : (apos.endLine == cpos.line) = true := by rfl) (hs : starEach (e :: es) X.env = (false, eval e X.env) :: starEach es X.env := by rfl) (hplain : (backTo cpos (starEach es X.env)).any (·.1) = false := by rfl) :
    PE X (.Call (.Attribute o name apos) (e :: es) [] cpos) (fun σ H Q => to σ H fun x H1 => (∃ p ob u, x = .ref p ∧ H1 p = some (.frz ob u) ∧ ob.cls = .type T ∧ ob.dict = none) ∧ t σ H1 fun xs H2 => r x xs H2 Q) := by
  refine ⟨fun pins s σ H Q I h => ?_⟩
  refine wpAny_Call_method_late hbase hfew hline rfl (thn (ho.run pins s σ H _ I h) fun v s1 ⟨x, H1, I1, r1, ty, q1⟩ => ?_)
  obtain ⟨p, ob, u, rfl, hp, hc, hd⟩ := ty
  cases r1
  have e1 := (I1.hok _ _ hp).1
  refine ⟨T, id, pa, slot, hty, ⟨ob, e1, hc⟩, (fun a ea => by cases ea; exact ⟨ob, e1, hd⟩), ?_⟩
  have hA := ha.run cpos pins s1 σ H1 _ I1 q1
  rw [hs] at hA ⊢
  refine Calls.callWith_builtin (by show (false || (backTo cpos (starEach es X.env)).any (·.1)) = false; rw [hplain] <;> rfl) (Calls.evalArgs_plain ?_)
  exact thn hA fun us s2 ⟨vs, H2, I2, r2, q2⟩ => hm pins s2 σ H2 (.ref p) vs _ us Q I2 rfl r2 q2
theorem evv_countQ (i : Nat) {k : Int} (he : EvV X env e (.int k)) (hs : env[i]? = some (.g (tqG ns)) := by rfl) (hN : X.N[i]? = some x := by rfl) (hv : Vis X.env.scope x := by first | exact Or.inl rfl | exact Or.inr (Or.inl rfl) | exact Or.inr (Or.inr rfl)) (hd : (x == ("__debug__" : Str)) = false := by decide)
    (hcd : (x == ("__classdict__" : Str)) = false := by decide)
    (hbase : attributeBase (.Name x p) "count" X.env (eval (.Name x p) X.env) = eval (.Name x p) X.env := by rfl)
    (hfew : ((backTo pos (starEach [e] X.env)).all (fun x => !x.1) && (backToKw pos (keywordEach [] X.env)).all (fun x => x.1.isSome) && decide ([e].length + ([] : List Keyword).length + (if ([] : List Keyword).isEmpty then 0 else 1) < 30)) = true := by rfl)
    (hline : (ap.endLine == pos.line) = true := by rfl) (hse : starEach [e] X.env = (false, eval e X.env) :: starEach [] X.env := by rfl) (hpl : (backTo pos (starEach [] X.env)).any (·.1) = false := by rfl) :
    EvV X env (.Call (.Attribute (.Name x p) "count" ap) [e] [] pos) (.int (ns.count k : Nat)) := ⟨fun Hf Hb σ H0 H kk Q q => by
  obtain ⟨p1, ob, h1, h2, h3, h4⟩ := slot_q i kk hs
  refine ⟨_, pe_bmQ PySem.F.plainAttrs_tuple PySem.F.slot_tuple_count PySem.F.type_tuple_count mt_tcount (pe_var hN hv hd hcd) (pa_cons uE pa_nil hse) hbase hfew hline hse hpl, _, h1, ⟨p1, ob, _, rfl, kk.gr.i _ _ h2, h3, h4⟩, he.run Hf Hb σ H0 H kk _ fun v H1 H1' g hv => ?_⟩
  rw [dq_int hv]
  exact ⟨p1, ns, k, rfl, rfl, .inl (.inr ⟨ob, g.b _ _ (kk.gr.i _ _ h2)⟩), q _ H1 H1' g (.int _)⟩⟩
end
end Rk

namespace Rk
open PySem PySem.Spec PyProof.Rows L2
/-! ### set(xs), xs a list of ints: its table in full -/
abbrev nS (w : World) : Obj := { cls := .type "set", dict := none, data := .set #[] 0 (.fresh 0 0 (!w.params.followText "set-order")) }
abbrev lIt (l : Addr) : Obj := { cls := .type "list_iterator", data := .fields #[.ref l, .int 0 0] }
section
variable {P : Program} {w : World} {A : Around} {E : Value → Shared → Prop} {s : Shared}
theorem setOfList {l : Addr} {items : Array Value} (ns : List Int) {Q : Value → Shared → Prop} (hh : A.handled = none) (hl : s.heap.IsList l items) (hit : IntsAre items.toList ns) (hb : ns.length + 1 < scanBound)
    (fin : ∀ (h' : Heap) (tk c : Nat), SetR w h' s.heap.objs.size (fun j => decide (j ∈ ns)) c → c ≤ ns.length → (∀ b o, s.heap.get? b = some o → h'.get? b = some o) → Q (.ref s.heap.objs.size) { s with heap := h', toks := tk }) :
    wpAny (model P w) A (call (.type "set") [.ref l]) Q E s := by
  have hisz : items.size = ns.length := by
    have q := IntsAre.length hit
    rwa [Array.length_toList] at q
  obtain ⟨c0, tl0, hmro⟩ := F.called_set.mro
  have m1 := F.called_set.made
  have m2 := F.called_set.sub
  refine wpAny_call (codeAny_of_tree ?_)
  show wpAny _ _ (callAny (.type "set") _) _ _ _
  refine wpAny_pure ⟨Code.quiet_builtin _ (by decide +kernel), codeAny_builtin F.entry_type_call ?_⟩
  rw [Around.under_plain (weight_type_call_type "set" [.ref l] []) rfl]
  have m3 := F.called_set.notType
  have m4 := F.called_set.canCreate
  have m5 := F.typeCall_set_1 (.ref l)
  repeat (any_goals (first | assumption | wp_step))
  refine codeAny_mono (code_set_led1 (.ref l) (E := E) (Q₁ := fun obj s₁ => obj = .ref s.heap.objs.size ∧ s₁ = { s with heap := s.heap.push (nS w) }) ⟨rfl, rfl⟩) fun r s₁ hr => ?_
  cases r with
  | error e => exact hr
  | ok fl =>
    cases fl with
    | ret obj =>
      obtain ⟨rfl, rfl⟩ := hr
      have hS : (s.heap.push (nS w)).get? s.heap.objs.size = some (nS w) := Heap.get?_push_size _ rfl
      have hT : Shared.TypeIs { s with heap := s.heap.push (nS w) } (.ref s.heap.objs.size) "set" := ⟨_, hS, rfl⟩
      have k1 := F.called_set.init.lookup
      have k2 := F.called_set.init.bind (.ref s.heap.objs.size)
      repeat (any_goals (first | assumption | wp_step))
      refine codeAny_mono (codeAny_call_builtin (R := wants (fun r s₂ => r = .none ∧ ∃ h' tk c, s₂ = { s with heap := h', toks := tk } ∧ SetR w h' s.heap.objs.size (fun j => decide (j ∈ ns)) c ∧ c ≤ ns.length ∧
          (∀ b o, s.heap.get? b = some o → h'.get? b = some o)) E) F.called_set.init.plain F.entry_set_init (check_set_init_1 hT ?_)) fun r₂ s₂ hr₂ => ?_
      · obtain ⟨⟨ocls, odict, odata, oslots⟩, hol, hcl, nl, hdl⟩ := hl
        simp only at hcl hdl
        subst hcl; subst hdl
        have hol' : (s.heap.push (nS w)).get? l = some { cls := .type "list", dict := odict, data := .seq items nl, slots := oslots } := Heap.get?_push_of_some _ hol
        have f1 := F.sub_list_set
        have f2 := F.sub_list_frozenset
        have f3 : (Value.type "list" == Value.type "dict") = false := by decide
        have hl1 : (s.heap.push (nS w)).IsList l items := ⟨_, hol', rfl, nl, rfl⟩
        unfold Builtin.«set.__init__» noKeywords Builtin.Frozenset.updateFrom
        generalize hPI : pyIter = PI
        wp_walk
        subst hPI
        refine wpAny_pyIter_list hl1 (wpAny_bind (wpAny_runValue ?_))
        have hlS : l < s.heap.objs.size := Heap.lt_size hol
        have hh3 : A.in1.in1.in1.handled = none := by simp [hh]
        have hneI : l ≠ (s.heap.push (nS w)).objs.size := by
          rw [Heap.size_push]; exact Nat.ne_of_lt (Nat.lt_succ_of_lt hlS)
        have hSf : s.heap.objs.size ∉ [(s.heap.push (nS w)).objs.size, l] := by
          rw [Heap.size_push]; simp only [List.mem_cons, List.mem_singleton, List.not_mem_nil, or_false, not_or]
          exact ⟨Nat.ne_of_lt (Nat.lt_succ_self _), Nat.ne_of_gt hlS⟩
        have hval : ∀ (i : Nat) (v : Value), items[i]? = some v → ∃ k t, ns[i]? = some k ∧ v = .int k t := fun i v hv => by
          have hi : i < ns.length := by rw [← hisz]; exact (Array.getElem?_eq_some_iff.mp hv).1
          obtain ⟨t, e⟩ := PyProof.Rows.IntsAre.int_at hit i v (by rw [Array.getElem?_toList]; exact hv)
          refine ⟨ns[i], t, List.getElem?_eq_getElem hi, ?_⟩
          rw [e, List.getD_eq_getElem?_getD, List.getElem?_eq_getElem hi] <;> rfl
        refine set_update_ints ((Walks.list hh3 _ l hneI items).toS) s.heap.objs.size hSf ns hisz hb hval (items.size - 0) 0 _ (by omega) (Nat.zero_le _) ⟨⟨_, Heap.get?_push_size _ rfl, rfl, rfl⟩, (hl1.push _)⟩ ?hS0 ?hR
        case hS0 =>
          have hget : ((s.heap.push (nS w)).push (lIt l)).get? s.heap.objs.size = some (nS w) := Heap.get?_push_of_some _ hS
          exact ⟨0, Nat.le_refl 0, setR_new_at hget⟩
        case hR =>
          intro s' c' hm hc' hS'
          obtain ⟨h', g2, d', tk', os'⟩ := s'
          have eg : g2 = s.gens := hm.gens
          have ed : d' = s.drawn := hm.drawn
          have eo : os' = s.os := hm.os
          subst eg; subst ed; subst eo
          show wpAny _ _ _ _ _ _
          refine wpAny_pure ?_
          show wpAny _ _ (ret Value.none) _ _ _
          rw [hisz] at hc'
          refine wpAny_pure ⟨rfl, h', tk', c', rfl, hS', hc', fun b o e => ?_⟩
          have hb0 : b < s.heap.objs.size := Heap.lt_size e
          refine hm.heap b o ?_ (Heap.get?_push_of_some _ (Heap.get?_push_of_some _ e))
          simp only [List.mem_cons, List.mem_singleton, List.not_mem_nil, or_false, not_or]
          rw [Heap.size_push]; exact ⟨Nat.ne_of_lt hb0, Nat.ne_of_lt (Nat.lt_succ_of_lt hb0)⟩
      · cases r₂ with
        | error e => exact hr₂
        | ok fl₂ =>
          cases fl₂ with
          | ret r =>
            obtain ⟨rfl, h', tk, c', rfl, hS', hc', hk'⟩ := hr₂
            repeat (any_goals (first | assumption | wp_step))
            exact fin _ _ _ hS' hc' hk'
          | _ => exact hr₂.elim
    | _ => exact hr.elim
end
def tSortSetL (K : PySem.W.Frag) (ta : TE) : TE := fun σ H Q => ta σ H fun x H1 => ∃ (l : Addr) (ns : List Int), x = .ref l ∧ SqL K H1 l (ns.map V.int) ∧ ns.length < 64 ∧ ∀ (ks : List Int) (p : Addr), ks.Pairwise (· < ·) → (∀ k, k ∈ ks ↔ k ∈ ns) → H1 p = none → Q (.ref p) (upd H1 p (.lst (ks.map V.int)))
theorem pe_sortSetL {X : Cx} {a : Expr} {ta : TE} {p p2 q pos : Pos} (hg : Gl X "sorted") (hm : X.mg "sorted" = none) (hg2 : Gl X "set") (hm2 : X.mg "set" = none) (ha : PE X a ta) (hc : X.calm = true := by rfl)
    (na : starEach [a] X.env = (false, eval a X.env) :: starEach [] X.env := by rfl) : PE X (.Call (.Name "sorted" p) [.Call (.Name "set" p2) [a] [] q] [] pos) (tSortSetL X.K ta) := by
  refine ⟨fun pins s σ H Q I h => ?_⟩
  refine Call_ (ld_blt I hg hm boot_sorted ?_)
  refine PyProof.Rows.callWith_builtin1 (PyProof.Rows.args_cons ?_ rfl) rfl rfl
  refine Call_ (ld_blt I hg2 hm2 boot_set ?_)
  refine PyProof.Rows.callWith_type1 (PyProof.Rows.args_cons (thn (ha.run pins s σ H _ I h) fun v s1 ⟨x, H1, I1, r1, q1⟩ => PyProof.Rows.args_nil ?_) na) na rfl
  obtain ⟨l, ns, rfl, hq, hl, q1⟩ := q1
  cases r1
  obtain ⟨its, r, pl, hz⟩ := I1.list hq
  refine setOfList ns (I1.ok.hd hc) pl.isList (by simpa using r.ints) (by unfold scanBound; omega) fun h' tk c R hcn k => ?_
  refine PyProof.Rows.args_nil ?_
  have I2 : Inv X pins σ H1 { s1 with heap := h', toks := tk } := I1.kept fun b o e => k b o e
  refine sorted_set (s := { s1 with heap := h', toks := tk }) R (I2.ok.hd hc) (by omega) fun s' p out c2 ks kk g o hp hgt hi2 hs hm3 hl3 => ?_
  have hlen : (ks.map V.int).length ≤ sizeLine := by rw [List.length_map, hl3, sizeLine_eq]; omega
  have hn : H1 p = none := I2.hok.fresh hp
  have J : Inv X pins σ (upd H1 p (.lst (ks.map V.int))) { ({ s1 with heap := h', toks := tk } : Shared) with heap := s'.heap, gens := s'.gens, drawn := s'.drawn, toks := s'.toks } :=
    I2.call (ch := []) (Un.laid kk hp hn) (I2.hok.laid kk hp ⟨hlen, out.toList, c2, vals_of_ints hi2, hgt⟩) (by rw [g]; exact I2.bare) (fun _ z => nomatch z)
  have e : s' = { ({ s1 with heap := h', toks := tk } : Shared) with heap := s'.heap, gens := s'.gens, drawn := s'.drawn, toks := s'.toks } := by
    cases s'
    cases s1
    cases o
    rfl
  rw [e]
  exact ⟨.ref p, _, J, rfl, q1 ks p hs (fun j => by rw [hm3 j]; exact decide_eq_true_iff) hn⟩
theorem evf_sortSetL {X : Cx} {env : List Sl} {a : Expr} {p p2 q pos : Pos} {ns : List Int} (hm : X.mg "sorted" = none) (hm2 : X.mg "set" = none) (ha : EvV X env a (.list (ns.map .int))) (hl : ns.length < 64) (hg : Gl X "sorted" := by rfl) (hg2 : Gl X "set" := by rfl) (hc : X.calm = true := by rfl)
    (na : starEach [a] X.env = (false, eval a X.env) :: starEach [] X.env := by rfl) : EvF X env (.Call (.Name "sorted" p) [.Call (.Name "set" p2) [a] [] q] [] pos) ((sortI (ddI ns)).map .int) := ⟨fun Hf Hb σ H0 H k Q qq =>
  ⟨_, pe_sortSetL hg hm hg2 hm2 uE hc na, ha.run Hf Hb σ H0 H k _ fun v H1 H1' g hv => by
    obtain ⟨r, vs, rfl, h1, h2⟩ := dq_lst hv
    rw [dqa_ints h2] at h1
    refine ⟨r, ns, rfl, SqL.of (g.i _ _ h1), hl, fun ks t hs hk hn => ?_⟩
    have nd : ks.Nodup := hs.imp fun h => by omega
    have e : ks = sortI (ddI ns) := sortI_of (hs.imp fun h => by omega) ((List.perm_ext_iff_of_nodup nd (ddI_nodup ns)).mpr fun x => by rw [hk x, ddI_mem])
    rw [e]
    exact qq t _ H1 _ (g.trans (Gr.own g.i hn)) (g.b.free hn) (g.i.free hn) upd_same (ints_dqa _)⟩⟩
end Rk

namespace Rk
open PySem L2
/-! ### specifications and mirrors: sizes, choices -/
def inR (d : PyData) (lo hi : Int) : Bool := match d with
  | .int i => decide (lo ≤ i) && decide (i ≤ hi)
  | _ => false
def S_in_range : List PyData → Rs → Prop := fun ds r => ∃ d lo hi, ds = [d, .int lo, .int hi] ∧ r = .v (.bool (inR d lo hi))
def okSz (a b : PyData) : Bool := inR a 1 6 && inR b 1 6
def S_check_sizes (CS : Addr) : List PyData → Rs → Prop := fun ds r => ∃ a b, ds = [a, b] ∧ r = if okSz a b then .v .none else .x CS
def smallT : PyData → Prop
  | .tuple xs => xs.length ≤ 1000
  | _ => True
/-- rising: every one less than the next -/
def risesB : List Int → Bool
  | i :: j :: r => decide (i < j) && risesB (j :: r)
  | _ => true
def unI : PyData → Int
  | .int i => i
  | _ => 0
def isCh (f s : Int) : PyData → Bool
  | .tuple xs => decide ((xs.length : Int) = f) && xs.all (fun d => inR d 1 (f + s)) && risesB (xs.map unI)
  | _ => false
def S_is_choice_of : List PyData → Rs → Prop := fun ds r => ∃ f s d, ds = [.int f, .int s, d] ∧ smallT d ∧ r = .v (.bool (isCh f s d))
theorem inR_int {d : PyData} {lo hi : Int} (h : inR d lo hi = true) : ∃ i, d = .int i ∧ lo ≤ i ∧ i ≤ hi := by
  cases d with
  | int i =>
    refine ⟨i, rfl, ?_⟩
    simpa [inR] using h
  | _ => cases h
theorem inR_i {i lo hi : Int} : inR (.int i) lo hi = true ↔ lo ≤ i ∧ i ≤ hi := by simp [inR]
theorem allR_ints : ∀ {xs : List PyData} {lo hi : Int}, xs.all (fun d => inR d lo hi) = true → ∃ ns : List Int, xs = ns.map .int ∧ ∀ n ∈ ns, lo ≤ n ∧ n ≤ hi
  | [], _, _, _ => ⟨[], rfl, by simp⟩
  | x :: xs, lo, hi, h => by
    rw [List.all_cons, Bool.and_eq_true] at h
    obtain ⟨i, rfl, h1⟩ := inR_int h.1
    obtain ⟨ns, rfl, h2⟩ := allR_ints h.2
    exact ⟨i :: ns, rfl, by simpa using ⟨h1, h2⟩⟩
theorem map_unI (ns : List Int) : (ns.map PyData.int).map unI = ns := by
  rw [List.map_map]
  have : (unI ∘ PyData.int) = id := by funext i; rfl
  rw [this, List.map_id]
theorem allR_of {ns : List Int} {lo hi : Int} : (ns.map PyData.int).all (fun d => inR d lo hi) = true ↔ ∀ n ∈ ns, lo ≤ n ∧ n ≤ hi := by
  rw [List.all_map, List.all_eq_true]
  constructor
  · intro h n hn; exact inR_i.mp (h n hn)
  · intro h n hn; exact inR_i.mpr (h n hn)
theorem rises_zip : ∀ (ns : List Int), ((ns.zip (ns.drop 1)).filter fun p => decide (p.2 ≤ p.1)).isEmpty = risesB ns
  | [] => rfl
  | [_] => rfl
  | i :: j :: r => by
    have ih := rises_zip (j :: r)
    show (((i, j) :: ((j :: r).zip ((j :: r).drop 1))).filter fun p => decide (p.2 ≤ p.1)).isEmpty = (decide (i < j) && risesB (j :: r))
    rw [List.filter_cons]
    by_cases h : i < j
    · rw [if_neg (by simp; omega), ih, decide_eq_true h]; rfl
    · rw [if_pos (by simp; omega), decide_eq_false h]; rfl
theorem rises_pair : ∀ {ns : List Int}, risesB ns = true ↔ ns.Pairwise (· < ·)
  | [] => by simp [risesB]
  | [_] => by simp [risesB]
  | i :: j :: r => by
    have ih := rises_pair (ns := j :: r)
    show (decide (i < j) && risesB (j :: r)) = true ↔ _
    rw [Bool.and_eq_true, ih, decide_eq_true_eq]
    constructor
    · intro ⟨h1, h2⟩
      refine List.pairwise_cons.mpr ⟨fun a ha => ?_, h2⟩
      rcases List.mem_cons.mp ha with rfl | ha
      · exact h1
      · have := (List.pairwise_cons.mp h2).1 a ha; omega
    · intro h
      have ⟨h1, h2⟩ := List.pairwise_cons.mp h
      exact ⟨h1 j List.mem_cons_self, h2⟩
/-! ### slices -/
theorem cutD_from1 {α : Type} (xs : List α) : cutD xs (some 1) none = xs.drop 1 := by
  unfold cutD
  rw [show HT.sIx xs.length 0 (some 1) = min 1 xs.length from HT.sIx_nat xs.length 0 1, HT.sIx_none]
  cases xs with
  | nil => rfl
  | cons x r =>
    rw [show min 1 (x :: r).length = 1 by rw [List.length_cons]; omega]
    show (List.take ((x :: r).length - 1) r) = r
    rw [List.length_cons, Nat.add_sub_cancel]
    exact List.take_length
theorem slT_1 {ns : List Int} : slD (.tuple (ns.map .int)) (some 1) none = some (.tuple ((ns.drop 1).map .int)) := by
  show some (PyData.tuple (cutD (ns.map PyData.int) (some 1) none)) = _
  rw [cutD_from1, List.map_drop]
theorem slT_1d {xs : List PyData} : slD (.tuple xs) (some 1) none = some (.tuple (xs.drop 1)) := by
  show some (PyData.tuple (cutD xs (some 1) none)) = _
  rw [cutD_from1]
end Rk
namespace Rk
open PySem L2
/-! ### valid sizes, valid choices -/
def Sz (f s : Int) : Prop := (1 ≤ f ∧ f ≤ 6) ∧ (1 ≤ s ∧ s ≤ 6)
def Ch (f s : Int) (c : List Int) : Prop := (c.length : Int) = f ∧ (∀ n ∈ c, 1 ≤ n ∧ n ≤ f + s) ∧ c.Pairwise (· < ·)
theorem okSz_iff {a b : PyData} : okSz a b = true ↔ ∃ f s, a = .int f ∧ b = .int s ∧ Sz f s := by
  unfold okSz
  rw [Bool.and_eq_true]
  constructor
  · intro ⟨h1, h2⟩
    obtain ⟨f, rfl, g1⟩ := inR_int h1
    obtain ⟨s, rfl, g2⟩ := inR_int h2
    exact ⟨f, s, rfl, rfl, g1, g2⟩
  · rintro ⟨f, s, rfl, rfl, h1, h2⟩
    exact ⟨inR_i.mpr h1, inR_i.mpr h2⟩
theorem isCh_iff {f s : Int} {d : PyData} : isCh f s d = true ↔ ∃ c : List Int, d = .tuple (c.map .int) ∧ Ch f s c := by
  constructor
  · intro h
    cases d with
    | tuple xs =>
      have h : (decide ((xs.length : Int) = f) && xs.all (fun d => inR d 1 (f + s)) && risesB (xs.map unI)) = true := h
      rw [Bool.and_eq_true, Bool.and_eq_true, decide_eq_true_eq] at h
      obtain ⟨⟨h1, h2⟩, h3⟩ := h
      obtain ⟨ns, rfl, hb⟩ := allR_ints h2
      rw [map_unI, rises_pair] at h3
      rw [List.length_map] at h1
      exact ⟨ns, rfl, h1, hb, h3⟩
    | _ => cases h
  · rintro ⟨c, rfl, h1, h2, h3⟩
    show (decide (((c.map PyData.int).length : Int) = f) && (c.map PyData.int).all (fun d => inR d 1 (f + s)) && risesB ((c.map PyData.int).map unI)) = true
    rw [List.length_map, decide_eq_true h1, allR_of.mpr h2, map_unI, rises_pair.mpr h3]; rfl
def unTs : PyData → List Int
  | .tuple xs => xs.map unI
  | _ => []
theorem unTs_ints (c : List Int) : unTs (.tuple (c.map .int)) = c := map_unI c
/-- the checks of sizes and choice, then res -/
def grd (CS CC : Addr) (a b d : PyData) (res : PyData) : Rs := if okSz a b then (if isCh (unI a) (unI b) d then .v res else .x CC) else .x CS
def S_cc (CS CC : Addr) (g : Int → Int → List Int → PyData) : List PyData → Rs → Prop := fun ds r => ∃ a b d, ds = [a, b, d] ∧ smallT d ∧ r = grd CS CC a b d (g (unI a) (unI b) (unTs d))
theorem Ch.len6 {f s : Int} {c : List Int} (h : Ch f s c) (z : Sz f s) : c.length ≤ 6 := by have := h.1; have := z.1; omega
section
variable {CS CC : Addr} {g : Int → Int → List Int → PyData} {a b d : PyData} {f s : Int} {c : List Int}
theorem cc_ok (z : Sz f s) (h : Ch f s c) : S_cc CS CC g [.int f, .int s, .tuple (c.map .int)] (.v (g f s c)) := by
  refine ⟨_, _, _, rfl, ?_, ?_⟩
  · show (c.map PyData.int).length ≤ 1000
    rw [List.length_map]; have := h.len6 z; omega
  · unfold grd
    have h2 : isCh (unI (.int f)) (unI (.int s)) (.tuple (c.map .int)) = true := isCh_iff.mpr ⟨c, rfl, h⟩
    rw [if_pos (okSz_iff.mpr ⟨f, s, rfl, rfl, z⟩), if_pos h2, unTs_ints]; rfl
theorem cc_bad (hs : smallT d) (h1 : okSz a b = true) (h2 : ¬ isCh (unI a) (unI b) d = true) : S_cc CS CC g [a, b, d] (.x CC) := ⟨_, _, _, rfl, hs, by unfold grd; rw [if_pos h1, if_neg h2]⟩
theorem cc_siz (hs : smallT d) (h1 : ¬ okSz a b = true) : S_cc CS CC g [a, b, d] (.x CS) := ⟨_, _, _, rfl, hs, by unfold grd; rw [if_neg h1]⟩
end
abbrev S_check_choice (CS CC : Addr) := S_cc CS CC fun _ _ _ => .none
def S_is_choice (CS : Addr) : List PyData → Rs → Prop := fun ds r => ∃ a b d, ds = [a, b, d] ∧ smallT d ∧ r = if okSz a b then .v (.bool (isCh (unI a) (unI b) d)) else .x CS
def winsI (c : List Int) : Int := c.sum - (c.length : Int) * ((c.length : Int) + 1) / 2
def S_wins_of : List PyData → Rs → Prop := fun ds r => ∃ c : List Int, ds = [.tuple (c.map .int)] ∧ c.length ≤ 1000 ∧ r = .v (.int (winsI c))
abbrev S_wins (CS CC : Addr) := S_cc CS CC fun _ _ c => .int (winsI c)
def otherI (f s : Int) (c : List Int) : List Int := (rgI 1 (f + s + 1)).filter fun r => !decide (r ∈ c)
abbrev S_other_group (CS CC : Addr) := S_cc CS CC fun f s c => .tuple ((otherI f s c).map .int)
def turnI (f s : Int) (c : List Int) : List Int := c.reverse.map fun r => f + s + 1 - r
abbrev S_turned (CS CC : Addr) := S_cc CS CC fun f s c => .tuple ((turnI f s c).map .int)
theorem rvT_ints {c : List Int} : rvD (.tuple (c.map .int)) = some (.tuple (c.reverse.map .int)) := by
  show some (PyData.tuple (c.map PyData.int).reverse) = _
  rw [List.map_reverse]
theorem rvL_ints {c : List Int} : rvD (.list (c.map .int)) = some (.list (c.reverse.map .int)) := by
  show some (PyData.list (c.map PyData.int).reverse) = _
  rw [List.map_reverse]
/-! ### the law's helpers -/
def cellN (ns : List Int) (k : Int) : Int := if k < ns.length then ns.getD k.toNat 0 else 0
def S_cell : List PyData → Rs → Prop := fun ds r => ∃ ns k, ds = [scrD ns, .int k] ∧ 0 ≤ k ∧ r = .v (.int (cellN ns k))
def isWhole : PyData → Bool
  | .int _ => true
  | _ => false
def S_whole : List PyData → Rs → Prop := fun ds r => ∃ d, ds = [d] ∧ r = .v (.bool (isWhole d))
theorem getD_of {α : Type} {xs : List α} {j : Nat} {d : α} (h : j < xs.length) : xs[j]? = some (xs.getD j d) := by
  rw [List.getD_eq_getElem?_getD, List.getElem?_eq_getElem h]; rfl
theorem atI_of {α : Type} {xs : List α} {i : Int} {d : α} (h : 0 ≤ i ∧ i < xs.length) : atI xs i = some (xs.getD i.toNat d) := by
  unfold atI ixN
  rw [if_pos h.1, if_pos h.2]
  exact getD_of (by omega)
theorem ixL_ints {dr : List Int} {i : Int} (h : 0 ≤ i ∧ i < dr.length) : ixD (.list (dr.map .int)) i = some (.int (dr.getD i.toNat 0)) := by
  show atI (dr.map PyData.int) i = _
  rw [atI_map, atI_of (d := 0) h]; rfl
theorem ixT_ints {dr : List Int} {i : Int} (h : 0 ≤ i ∧ i < dr.length) : ixD (.tuple (dr.map .int)) i = some (.int (dr.getD i.toNat 0)) := by
  show atI (dr.map PyData.int) i = _
  rw [atI_map, atI_of (d := 0) h]; rfl
theorem ixS_ints {ns : List Int} {i : Int} (h : 0 ≤ i ∧ i < ns.length) : ixD (scrD ns) i = some (.int (ns.getD i.toNat 0)) := by
  show (atI (ns.map fun n => ((PyData.int n, PyData.none) : PyData × PyData)) i).map (·.1) = _
  rw [atI_map, atI_of (d := 0) h]; rfl
def rowStep (ns : List Int) (at_ : Int) (st : Int × List Int) (t : Nat) : Int × List Int :=
  if cellN ns at_ < 10 ^ 18 then
    ((st.1 * 48271 + 131 * (t : Int) + 7 + cellN ns ((at_ + 1 + (t : Int)) % 20)) % 2147483647, st.2 ++ [(st.1 * 48271 + 131 * (t : Int) + 7 + cellN ns ((at_ + 1 + (t : Int)) % 20)) % 2147483647 / 11 % 1000])
  else (st.1 / 1000, st.2 ++ [st.1 % 1000])
def rowSt (ns : List Int) (at_ : Int) : Nat → Int × List Int
  | 0 => (cellN ns at_, [])
  | t + 1 => rowStep ns at_ (rowSt ns at_ t) t
theorem rowSt_a {ns : List Int} {at_ : Int} {t : Nat} (h : cellN ns at_ < 10 ^ 18) : (rowSt ns at_ (t + 1)).1 = ((rowSt ns at_ t).1 * 48271 + 131 * (t : Int) + 7 + cellN ns ((at_ + 1 + (t : Int)) % 20)) % 2147483647 ∧
    (rowSt ns at_ (t + 1)).2 = (rowSt ns at_ t).2 ++ [((rowSt ns at_ t).1 * 48271 + 131 * (t : Int) + 7 + cellN ns ((at_ + 1 + (t : Int)) % 20)) % 2147483647 / 11 % 1000] := by
  have e : rowSt ns at_ (t + 1) = rowStep ns at_ (rowSt ns at_ t) t := rfl
  rw [e]; unfold rowStep; rw [if_pos h]; exact ⟨rfl, rfl⟩
theorem rowSt_b {ns : List Int} {at_ : Int} {t : Nat} (h : ¬ cellN ns at_ < 10 ^ 18) : (rowSt ns at_ (t + 1)).1 = (rowSt ns at_ t).1 / 1000 ∧ (rowSt ns at_ (t + 1)).2 = (rowSt ns at_ t).2 ++ [(rowSt ns at_ t).1 % 1000] := by
  have e : rowSt ns at_ (t + 1) = rowStep ns at_ (rowSt ns at_ t) t := rfl
  rw [e]; unfold rowStep; rw [if_neg h]; exact ⟨rfl, rfl⟩
def drw (ns : List Int) (at_ : Int) : List Int := (rowSt ns at_ 60).2
theorem rowSt_ok (ns : List Int) (at_ : Int) : ∀ t, (rowSt ns at_ t).2.length = t ∧ ∀ n ∈ (rowSt ns at_ t).2, 0 ≤ n ∧ n < 1000
  | 0 => ⟨rfl, by simp [rowSt]⟩
  | t + 1 => by
    obtain ⟨h1, h2⟩ := rowSt_ok ns at_ t
    unfold rowSt rowStep
    split
    · refine ⟨by simp [h1], fun n hn => ?_⟩
      rcases List.mem_append.mp hn with hn | hn
      · exact h2 n hn
      · rw [List.mem_singleton] at hn; omega
    · refine ⟨by simp [h1], fun n hn => ?_⟩
      rcases List.mem_append.mp hn with hn | hn
      · exact h2 n hn
      · rw [List.mem_singleton] at hn; omega
theorem drw_len (ns : List Int) (at_ : Int) : (drw ns at_).length = 60 := (rowSt_ok ns at_ 60).1
theorem drw_get (ns : List Int) (at_ : Int) (i : Nat) : 0 ≤ (drw ns at_).getD i 0 ∧ (drw ns at_).getD i 0 < 1000 := by
  by_cases h : i < (drw ns at_).length
  · rw [List.getD_eq_getElem?_getD, List.getElem?_eq_getElem h]
    exact (rowSt_ok ns at_ 60).2 _ (List.getElem_mem h)
  · rw [List.getD_eq_getElem?_getD, List.getElem?_eq_none (by omega)]
    decide
def S_row : List PyData → Rs → Prop := fun ds r => ∃ ns at_, ds = [scrD ns, .int at_] ∧ 0 ≤ at_ ∧ r = .v (.list ((drw ns at_).map .int))
/-! a drawn choice -/
def chSt (ns : List Int) (at_ f s : Int) : Nat → List Int × List Int
  | 0 => (rgI 1 (f + s + 1), [])
  | t + 1 => let p := chSt ns at_ f s t
             let k := ((drw ns at_).getD t 0 % (p.1.length : Int)).toNat
             (p.1.eraseIdx k, p.2 ++ [p.1.getD k 0])
def chs (ns : List Int) (at_ f s : Int) : List Int := sortI (chSt ns at_ f s f.toNat).2
theorem map_erase {α β : Type} (f : α → β) : ∀ (l : List α) (k : Nat), (l.eraseIdx k).map f = (l.map f).eraseIdx k
  | [], _ => rfl
  | _ :: _, 0 => rfl
  | x :: l, k + 1 => by show f x :: (l.eraseIdx k).map f = f x :: (l.map f).eraseIdx k; rw [map_erase f l k]
theorem get_erase {α : Type} : ∀ {l : List α} {k : Nat} (h : k < l.length), ([l[k]] ++ l.eraseIdx k).Perm l
  | x :: l, 0, _ => List.Perm.refl _
  | x :: l, k + 1, h => by
    have ih := get_erase (l := l) (k := k) (by simpa using h)
    show (l[k]'(by simpa using h) :: x :: l.eraseIdx k).Perm (x :: l)
    exact (List.Perm.swap _ _ _).trans (List.Perm.cons x ih)
theorem chSt_ok (ns : List Int) (at_ f s : Int) (hs : 1 ≤ s) : ∀ t : Nat, (t : Int) ≤ f → (chSt ns at_ f s t).2.length = t ∧ ((chSt ns at_ f s t).1.length : Int) = f + s - t ∧ ((chSt ns at_ f s t).2 ++ (chSt ns at_ f s t).1).Perm (rgI 1 (f + s + 1))
  | 0, h => ⟨rfl, by show ((rgI 1 (f + s + 1)).length : Int) = _; rw [rgI_len]; omega, by show ([] ++ rgI 1 (f + s + 1)).Perm _; simp⟩
  | t + 1, h => by
    obtain ⟨h1, h2, h3⟩ := chSt_ok ns at_ f s hs t (by omega)
    have hp : 0 < ((chSt ns at_ f s t).1.length : Int) := by rw [h2]; omega
    have hk : ((drw ns at_).getD t 0 % ((chSt ns at_ f s t).1.length : Int)).toNat < (chSt ns at_ f s t).1.length := by
      have a1 := Int.emod_nonneg ((drw ns at_).getD t 0) (Int.ne_of_gt hp)
      have a2 := Int.emod_lt_of_pos ((drw ns at_).getD t 0) hp
      omega
    unfold chSt
    refine ⟨by simp [h1], ?_, ?_⟩
    · show (((chSt ns at_ f s t).1.eraseIdx _).length : Int) = _
      rw [List.length_eraseIdx, if_pos hk]; omega
    · show (((chSt ns at_ f s t).2 ++ [(chSt ns at_ f s t).1.getD _ 0]) ++ (chSt ns at_ f s t).1.eraseIdx _).Perm _
      refine List.Perm.trans ?_ h3
      rw [List.append_assoc]
      refine List.Perm.append_left _ ?_
      have e := getD_of (d := (0 : Int)) hk
      generalize (chSt ns at_ f s t).1 = l at e hk ⊢
      generalize ((drw ns at_).getD t 0 % (l.length : Int)).toNat = k at e hk ⊢
      have e2 : l[k] = l.getD k 0 := by
        rw [List.getElem?_eq_getElem hk] at e; exact Option.some.inj e
      rw [← e2]
      exact get_erase hk
theorem chSt_step (ns : List Int) (at_ f s : Int) (t : Nat) (h : 0 < (chSt ns at_ f s t).1.length) :
    (chSt ns at_ f s (t + 1)).1 = (chSt ns at_ f s t).1.eraseIdx ((drw ns at_).getD t 0 % ((chSt ns at_ f s t).1.length : Int)).toNat ∧
    (chSt ns at_ f s (t + 1)).2 = (chSt ns at_ f s t).2 ++ [(chSt ns at_ f s t).1.getD ((drw ns at_).getD t 0 % ((chSt ns at_ f s t).1.length : Int)).toNat 0] ∧
    ((drw ns at_).getD t 0 % ((chSt ns at_ f s t).1.length : Int)).toNat < (chSt ns at_ f s t).1.length := by
  refine ⟨rfl, rfl, ?_⟩
  have hp : 0 < ((chSt ns at_ f s t).1.length : Int) := by omega
  have a1 := Int.emod_nonneg ((drw ns at_).getD t 0) (Int.ne_of_gt hp)
  have a2 := Int.emod_lt_of_pos ((drw ns at_).getD t 0) hp
  omega
theorem rgI_nodup (lo hi : Int) : (rgI lo hi).Pairwise (· < ·) := by
  unfold rgI
  rw [List.pairwise_map]
  exact List.pairwise_lt_range.imp fun h => by omega
theorem lt_of_le_nodup : ∀ {l : List Int}, l.Pairwise (· ≤ ·) → l.Nodup → l.Pairwise (· < ·)
  | [], _, _ => .nil
  | x :: l, h1, h2 => by
    rw [List.pairwise_cons] at h1
    rw [List.nodup_cons] at h2
    refine List.pairwise_cons.mpr ⟨fun a ha => ?_, lt_of_le_nodup h1.2 h2.2⟩
    have := h1.1 a ha
    have : x ≠ a := fun e => h2.1 (e ▸ ha)
    omega
theorem chs_ok (ns : List Int) (at_ : Int) {f s : Int} (z : Sz f s) : Ch f s (chs ns at_ f s) := by
  have hf : ((f.toNat : Nat) : Int) = f := by have := z.1; omega
  obtain ⟨h1, h2, h3⟩ := chSt_ok ns at_ f s z.2.1 f.toNat (by omega)
  have hp := sortI_perm (chSt ns at_ f s f.toNat).2
  refine ⟨?_, fun n hn => ?_, ?_⟩
  · unfold chs; rw [hp.length_eq, h1]; exact hf
  · have : n ∈ rgI 1 (f + s + 1) := h3.mem_iff.mp (List.mem_append_left _ (hp.mem_iff.mp hn))
    have := mem_rgI.mp this
    omega
  · refine lt_of_le_nodup (sortI_rises _) ?_
    have nd : (rgI 1 (f + s + 1)).Nodup := (rgI_nodup 1 (f + s + 1)).imp fun h => by omega
    have := (h3.nodup_iff.mpr nd)
    exact hp.nodup_iff.mpr (List.nodup_append.mp this).1
def S_choice : List PyData → Rs → Prop := fun ds r => ∃ ns at_ f s, ds = [scrD ns, .int at_, .int f, .int s] ∧ 0 ≤ at_ ∧ Sz f s ∧ r = .v (.tuple ((chs ns at_ f s).map .int))
def S_in : List PyData → Rs → Prop := S_in_range
def lawWins (c : List Int) : Int := (c.map fun r => (((rgI 1 r).filter fun l => !decide (l ∈ c)).length : Int)).sum
def S_lwins : List PyData → Rs → Prop := fun ds r => ∃ (x y : PyData) (c : List Int), ds = [x, y, .tuple (c.map .int)] ∧ c.length ≤ 1000 ∧ (∀ n ∈ c, 0 ≤ n ∧ n ≤ 1000) ∧ r = .v (.int (lawWins c))
end Rk
namespace Rk
open PySem L2
theorem Ch.bd {f s : Int} {c : List Int} (h : Ch f s c) (z : Sz f s) : ∀ n ∈ c, 0 ≤ n ∧ n ≤ 1000 := fun n hn => by
  have := h.2.1 n hn; have := z.1; have := z.2; omega
theorem isc_ok {CS : Addr} {f s : Int} {c : List Int} (z : Sz f s) (h : Ch f s c) : S_is_choice CS [.int f, .int s, .tuple (c.map .int)] (.v (.bool true)) := by
  refine ⟨_, _, _, rfl, ?_, ?_⟩
  · show (c.map PyData.int).length ≤ 1000
    rw [List.length_map]; have := h.len6 z; omega
  · rw [if_pos (okSz_iff.mpr ⟨f, s, rfl, rfl, z⟩), show isCh (unI (.int f)) (unI (.int s)) (.tuple (c.map .int)) = true from isCh_iff.mpr ⟨c, rfl, h⟩]
theorem Sz.of {a b : Int} (h1 : 0 ≤ a) (h2 : a < 6) (h3 : 0 ≤ b) (h4 : b < 6) : Sz (1 + a) (1 + b) := ⟨⟨by omega, by omega⟩, by omega, by omega⟩
theorem Sz.swap {f s : Int} (z : Sz f s) : Sz s f := ⟨z.2, z.1⟩
end Rk

namespace Rk
open PySem L2
/-! ### all choices, to be looked at one by one -/
def subs : List Int → Nat → List (List Int)
  | _, 0 => [[]]
  | [], _ + 1 => []
  | x :: xs, k + 1 => (subs xs k).map (x :: ·) ++ subs xs (k + 1)
theorem mem_subs : ∀ {l c : List Int}, c.Sublist l → c ∈ subs l c.length
  | l, [], _ => by cases l <;> simp [subs]
  | [], x :: c, h => by cases h
  | y :: l, x :: c, h => by
    show (x :: c) ∈ (subs l c.length).map (y :: ·) ++ subs l (c.length + 1)
    rw [List.mem_append]
    cases h with
    | cons _ h => exact .inr (mem_subs h)
    | cons_cons _ h => exact .inl (List.mem_map.mpr ⟨c, mem_subs h, rfl⟩)
theorem sub_of : ∀ {l c : List Int}, l.Pairwise (· < ·) → c.Pairwise (· < ·) → (∀ x ∈ c, x ∈ l) → c.Sublist l
  | [], [], _, _, _ => .slnil
  | [], x :: c, _, _, h => by cases h x List.mem_cons_self
  | y :: l, [], _, _, _ => List.nil_sublist _
  | y :: l, x :: c, h1, h2, h3 => by
    rw [List.pairwise_cons] at h1 h2
    by_cases e : x = y
    · subst e
      refine .cons_cons _ (sub_of h1.2 h2.2 fun z hz => ?_)
      rcases List.mem_cons.mp (h3 z (List.mem_cons_of_mem _ hz)) with q | q
      · have := h2.1 z hz; omega
      · exact q
    · refine .cons _ (sub_of h1.2 (List.pairwise_cons.mpr h2) fun z hz => ?_)
      rcases List.mem_cons.mp (h3 z hz) with q | q
      · exfalso
        rcases List.mem_cons.mp (h3 x List.mem_cons_self) with r | r
        · exact e r
        · have := h1.1 x r
          rcases List.mem_cons.mp hz with w | w
          · omega
          · have := h2.1 z w; omega
      · exact q
def chAll (f s : Int) : List (List Int) := subs (rgI 1 (f + s + 1)) f.toNat
theorem mem_chAll {f s : Int} {c : List Int} (h : Ch f s c) : c ∈ chAll f s := by
  have e : f.toNat = c.length := by have := h.1; omega
  unfold chAll
  rw [e]
  exact mem_subs (sub_of (rgI_nodup _ _) h.2.2 fun x hx => mem_rgI.mpr (by have := h.2.1 x hx; omega))
def oneTo6 : List Int := [1, 2, 3, 4, 5, 6]
def allSz (P : Int → Int → List Int → Bool) : Bool := oneTo6.all fun f => oneTo6.all fun s => (chAll f s).all (P f s)
theorem mem6 {f : Int} (h : 1 ≤ f ∧ f ≤ 6) : f ∈ oneTo6 := by
  have : f = 1 ∨ f = 2 ∨ f = 3 ∨ f = 4 ∨ f = 5 ∨ f = 6 := by omega
  rcases this with rfl | rfl | rfl | rfl | rfl | rfl <;> decide
theorem by_all {P : Int → Int → List Int → Bool} (h : allSz P = true) {f s : Int} {c : List Int} (z : Sz f s) (hc : Ch f s c) : P f s c = true :=
  List.all_eq_true.mp (List.all_eq_true.mp (List.all_eq_true.mp h f (mem6 z.1)) s (mem6 z.2)) c (mem_chAll hc)
def isChB (f s : Int) (c : List Int) : Bool := decide ((c.length : Int) = f) && c.all (fun n => decide (1 ≤ n) && decide (n ≤ f + s)) && risesB c
theorem isChB_iff {f s : Int} {c : List Int} : isChB f s c = true ↔ Ch f s c := by
  unfold isChB Ch
  rw [Bool.and_eq_true, Bool.and_eq_true, decide_eq_true_eq, rises_pair, List.all_eq_true]
  simp only [Bool.and_eq_true, decide_eq_true_eq, and_assoc]
end Rk

namespace Rk
open PySem L2
/-! ### counts -/
def addSt (r xs : List Int) (off : Nat) : Nat → List Int
  | 0 => r
  | t + 1 => (addSt r xs off t).set (t + off) ((addSt r xs off t).getD (t + off) 0 + xs.getD t 0)
theorem addSt_len (r xs : List Int) (off : Nat) : ∀ t, (addSt r xs off t).length = r.length
  | 0 => rfl
  | t + 1 => by unfold addSt; rw [List.length_set, addSt_len r xs off t]
def cntN : Nat → Nat → Nat → List Int
  | 0, _, _ => [1]
  | n + 1, f, s => if f = 0 ∨ s = 0 then [1] else addSt (cntN n f (s - 1) ++ List.replicate f 0) (cntN n (f - 1) s) s (cntN n (f - 1) s).length
theorem cntN_len : ∀ (n f s : Nat), f + s ≤ n → (cntN n f s).length = f * s + 1
  | 0, f, s, h => by
    have : f = 0 := by omega
    subst this; simp [cntN]
  | n + 1, f, s, h => by
    unfold cntN
    split
    · rename_i h0
      rcases h0 with rfl | rfl <;> simp
    · rename_i h0
      rw [addSt_len, List.length_append, cntN_len n f (s - 1) (by omega), List.length_replicate]
      obtain ⟨k, rfl⟩ : ∃ k, s = k + 1 := ⟨s - 1, by omega⟩
      rw [Nat.add_sub_cancel, Nat.mul_succ]; omega
def cnt (f s : Int) : List Int := cntN 12 f.toNat s.toNat
def S_cntN (n : Nat) : List PyData → Rs → Prop := fun ds r => ∃ f s : Nat, ds = [.int (f : Int), .int (s : Int)] ∧ f + s ≤ n ∧ f ≤ 6 ∧ s ≤ 6 ∧ r = .v (.list ((cntN n f s).map .int))
theorem cntS {f s : Int} (z : Sz f s) : S_cntN 12 [.int f, .int s] (.v (.list ((cnt f s).map .int))) := by
  obtain ⟨⟨z1, z2⟩, z3, z4⟩ := z
  exact ⟨f.toNat, s.toNat, by rw [Int.toNat_of_nonneg (by omega), Int.toNat_of_nonneg (by omega)], by omega, by omega, by omega, rfl⟩
theorem cnt_len {f s : Int} (z : Sz f s) : ((cnt f s).length : Int) = f * s + 1 := by
  obtain ⟨⟨z1, z2⟩, z3, z4⟩ := z
  unfold cnt
  rw [cntN_len 12 _ _ (by omega), Int.natCast_add, Int.natCast_mul, Int.toNat_of_nonneg (by omega), Int.toNat_of_nonneg (by omega)]; rfl
def S_counts (CS : Addr) : List PyData → Rs → Prop := fun ds r => ∃ a b, ds = [a, b] ∧ r = if okSz a b then .v (.list ((cnt (unI a) (unI b)).map .int)) else .x CS
/-- number of wins: sizes, then the number, then res -/
def grdN (CS CN : Addr) (a b d res : PyData) : Rs := if okSz a b then (if inR d 0 (unI a * unI b) then .v res else .x CN) else .x CS
def S_nn (CS CN : Addr) (g : Int → Int → Int → PyData) : List PyData → Rs → Prop := fun ds r => ∃ a b d, ds = [a, b, d] ∧ r = grdN CS CN a b d (g (unI a) (unI b) (unI d))
theorem nn_ok {CS CN : Addr} {g : Int → Int → Int → PyData} {f s n : Int} (z : Sz f s) (h : 0 ≤ n ∧ n ≤ f * s) : S_nn CS CN g [.int f, .int s, .int n] (.v (g f s n)) := by
  refine ⟨_, _, _, rfl, ?_⟩
  unfold grdN
  have h2 : inR (.int n) 0 (unI (.int f) * unI (.int s)) = true := inR_i.mpr h
  rw [if_pos (okSz_iff.mpr ⟨f, s, rfl, rfl, z⟩), if_pos h2]; rfl
theorem nn_bad {CS CN : Addr} {g : Int → Int → Int → PyData} {a b d : PyData} (h1 : okSz a b = true) (h2 : ¬ inR d 0 (unI a * unI b) = true) : S_nn CS CN g [a, b, d] (.x CN) := ⟨_, _, _, rfl, by unfold grdN; rw [if_pos h1, if_neg h2]⟩
theorem nn_siz {CS CN : Addr} {g : Int → Int → Int → PyData} {a b d : PyData} (h1 : ¬ okSz a b = true) : S_nn CS CN g [a, b, d] (.x CS) := ⟨_, _, _, rfl, by unfold grdN; rw [if_neg h1]⟩
abbrev S_count_wins (CS CN : Addr) := S_nn CS CN fun f s n => .int ((cnt f s).getD n.toNat 0)
/-! ### chances -/
def S_gcd : List PyData → Rs → Prop := fun ds r => ∃ a b : Nat, ds = [.int (a : Int), .int (b : Int)] ∧ r = .v (.int (Nat.gcd a b : Nat))
def redI (a b : Nat) : Int × Int := (((a / Nat.gcd a b : Nat) : Int), ((b / Nat.gcd a b : Nat) : Int))
def S_reduced : List PyData → Rs → Prop := fun ds r => ∃ a b : Nat, ds = [.int (a : Int), .int (b : Int)] ∧ 0 < b ∧ b < 1000000 ∧ r = .v (.tuple [.int (redI a b).1, .int (redI a b).2])
def S_at_least : List PyData → Rs → Prop := fun ds r => ∃ f s n : Int, ds = [.int f, .int s, .int n] ∧ Sz f s ∧ 0 ≤ n ∧ r = .v (.int ((cnt f s).drop n.toNat).sum)
def chf (f s n : Int) : Int × Int := redI ((cnt f s).drop n.toNat).sum.toNat (cnt f s).sum.toNat
abbrev S_chance (CS CN : Addr) := S_nn CS CN fun f s n => .tuple [.int (chf f s n).1, .int (chf f s n).2]
theorem cutD_from {α : Type} (xs : List α) (k : Nat) : cutD xs (some (k : Int)) none = xs.drop k := by
  unfold cutD
  rw [HT.sIx_nat, HT.sIx_none]
  by_cases h : k ≤ xs.length
  · rw [Nat.min_eq_left h, List.take_of_length_le (by rw [List.length_drop]; omega)]
  · rw [Nat.min_eq_right (by omega), List.drop_of_length_le (Nat.le_refl _), List.drop_of_length_le (by omega)]; simp
theorem slL_from {ns : List Int} {k : Int} (h : 0 ≤ k) : slD (.list (ns.map .int)) (some k) none = some (.list ((ns.drop k.toNat).map .int)) := by
  show some (PyData.list (cutD (ns.map PyData.int) (some k) none)) = _
  have e := cutD_from (ns.map PyData.int) k.toNat
  rw [Int.toNat_of_nonneg h] at e
  rw [e, List.map_drop]
def allSN (P : Int → Int → Int → Bool) : Bool := oneTo6.all fun f => oneTo6.all fun s => (rgI 0 (f * s + 1)).all (P f s)
theorem by_allN {P : Int → Int → Int → Bool} (h : allSN P = true) {f s n : Int} (z : Sz f s) (hn : 0 ≤ n ∧ n ≤ f * s) : P f s n = true :=
  List.all_eq_true.mp (List.all_eq_true.mp (List.all_eq_true.mp h f (mem6 z.1)) s (mem6 z.2)) n (mem_rgI.mpr (by omega))
def allSS (P : Int → Int → Bool) : Bool := oneTo6.all fun f => oneTo6.all fun s => P f s
theorem by_allS {P : Int → Int → Bool} (h : allSS P = true) {f s : Int} (z : Sz f s) : P f s = true :=
  List.all_eq_true.mp (List.all_eq_true.mp h f (mem6 z.1)) s (mem6 z.2)
def Pcn (f s : Int) : Bool := (cnt f s).all (fun n => decide (0 < n)) && decide ((cnt f s).sum < 1000) && decide (0 < (cnt f s).sum)
theorem all_cn : allSS Pcn = true := by decide +kernel
theorem cnt_ok {f s : Int} (z : Sz f s) : (∀ n ∈ cnt f s, 0 < n) ∧ (cnt f s).sum < 1000 ∧ 0 < (cnt f s).sum := by
  have q := by_allS all_cn z
  unfold Pcn at q
  simp only [Bool.and_eq_true, decide_eq_true_eq, List.all_eq_true] at q
  exact ⟨q.1.1, q.1.2, q.2⟩
theorem sum_nn : ∀ {l : List Int}, (∀ n ∈ l, 0 < n) → 0 ≤ l.sum
  | [], _ => by simp
  | x :: l, h => by
    rw [List.sum_cons]
    have := h x List.mem_cons_self
    have := sum_nn fun n hn => h n (List.mem_cons_of_mem _ hn)
    omega
theorem drop_nn {f s : Int} (z : Sz f s) (k : Nat) : 0 ≤ ((cnt f s).drop k).sum := sum_nn fun n hn => (cnt_ok z).1 n (List.mem_of_mem_drop hn)
theorem cts_ok {CS : Addr} {f s : Int} (z : Sz f s) : S_counts CS [.int f, .int s] (.v (.list ((cnt f s).map .int))) :=
  ⟨_, _, rfl, by rw [if_pos (okSz_iff.mpr ⟨f, s, rfl, rfl, z⟩)]; rfl⟩
end Rk

namespace Rk
open PySem L2
theorem pickL {ds : List PyData} {k : Int} (h : 0 ≤ k ∧ k < ds.length) : ∃ d, ixD (.list ds) k = some d ∧ d ∈ ds := by
  refine ⟨ds[k.toNat]'(by omega), ?_, List.getElem_mem _⟩
  show atI ds k = _
  unfold atI ixN
  rw [if_pos h.1, if_pos (by omega)]
  exact List.getElem?_eq_getElem (by omega)
/-! ### errors -/
def okErr : PyData → Bool
  | .tuple [a, b] => inR b 1 9999 && inR a 0 (unI b) && decide (redI (unI a).toNat (unI b).toNat = (unI a, unI b))
  | _ => false
def S_check_error (CE : Addr) : List PyData → Rs → Prop := fun ds r => ∃ d, ds = [d] ∧ r = if okErr d then .v .none else .x CE
def lnP (f s a b : Int) (n : Int) : Bool := decide (((cnt f s).drop n.toNat).sum * b ≤ a * (cnt f s).sum)
def ln (f s a b : Int) : Nat := (rgI 0 (cnt f s).length).findIdx (lnP f s a b)
def lnD (f s a b : Int) : PyData := if ln f s a b < (cnt f s).length then .int (ln f s a b) else .none
def S_least_of : List PyData → Rs → Prop := fun ds r => ∃ f s a b : Int, ds = [.int f, .int s, .tuple [.int a, .int b]] ∧ Sz f s ∧ (0 ≤ a ∧ a ≤ 9999) ∧ (0 ≤ b ∧ b ≤ 9999) ∧ r = .v (lnD f s a b)
def un0 : PyData → Int
  | .tuple (a :: _) => unI a
  | _ => 0
def un1 : PyData → Int
  | .tuple (_ :: b :: _) => unI b
  | _ => 0
def S_least_wins (CS CE : Addr) : List PyData → Rs → Prop := fun ds r => ∃ a b e, ds = [a, b, e] ∧ r = if okSz a b then (if okErr e then .v (lnD (unI a) (unI b) (un0 e) (un1 e)) else .x CE) else .x CS
theorem okErr_iff {d : PyData} (h : okErr d = true) : ∃ a b : Int, d = .tuple [.int a, .int b] ∧ 0 ≤ a ∧ a ≤ b ∧ 1 ≤ b ∧ b ≤ 9999 ∧ redI a.toNat b.toNat = (a, b) := by
  match d, h with
  | .tuple [x, y], h =>
    have h : (inR y 1 9999 && inR x 0 (unI y) && decide (redI (unI x).toNat (unI y).toNat = (unI x, unI y))) = true := h
    simp only [Bool.and_eq_true, decide_eq_true_eq] at h
    obtain ⟨b, rfl, b1, b2⟩ := inR_int h.1.1
    obtain ⟨a, rfl, a1, a2⟩ := inR_int h.1.2
    exact ⟨a, b, rfl, a1, a2, b1, b2, h.2⟩
theorem okErr_of {a b : Int} (h1 : 0 ≤ a) (h2 : a ≤ b) (h3 : 1 ≤ b) (h4 : b ≤ 9999) (h5 : redI a.toNat b.toNat = (a, b)) : okErr (.tuple [.int a, .int b]) = true := by
  show (inR (.int b) 1 9999 && inR (.int a) 0 b && decide (redI a.toNat b.toNat = (a, b))) = true
  rw [inR_i.mpr ⟨h3, h4⟩, inR_i.mpr ⟨h1, h2⟩, decide_eq_true h5]; rfl
theorem redI_red (a b : Nat) (hb : 0 < b) : redI ((redI a b).1.toNat) ((redI a b).2.toNat) = redI a b := by
  unfold redI
  simp only [Int.toNat_natCast]
  have g : 0 < Nat.gcd a b := Nat.gcd_pos_of_pos_right _ hb
  rw [Nat.gcd_div (Nat.gcd_dvd_left a b) (Nat.gcd_dvd_right a b), Nat.div_self g, Nat.div_one, Nat.div_one]
theorem okErr_red {a b : Nat} (h : a ≤ b) (hb : 0 < b) (h9 : b ≤ 9999) : okErr (.tuple [.int (redI a b).1, .int (redI a b).2]) = true := by
  have e := redI_red a b hb
  have g : 0 < Nat.gcd a b := Nat.gcd_pos_of_pos_right _ hb
  have l1 : (redI a b).1 ≤ (redI a b).2 := by
    show ((a / Nat.gcd a b : Nat) : Int) ≤ ((b / Nat.gcd a b : Nat) : Int)
    exact Int.ofNat_le.mpr (Nat.div_le_div_right h)
  have l2 : (redI a b).2 ≤ 9999 := by
    show ((b / Nat.gcd a b : Nat) : Int) ≤ 9999
    have := Nat.div_le_self b (Nat.gcd a b); omega
  have l3 : 1 ≤ (redI a b).2 := by
    show 1 ≤ ((b / Nat.gcd a b : Nat) : Int)
    have := Nat.div_pos (Nat.gcd_le_right a hb) g; omega
  exact okErr_of (Int.natCast_nonneg _) l1 l3 l2 e
theorem ln_lt {f s a b : Int} {i : Nat} (h : i < ln f s a b) (hl : i < (cnt f s).length) : lnP f s a b i = false := by
  have hr : i < (rgI 0 (cnt f s).length).length := by rw [rgI_len]; omega
  have q := List.not_of_lt_findIdx (p := lnP f s a b) (xs := rgI 0 (cnt f s).length) h
  have e : (rgI 0 (cnt f s).length)[i] = (i : Int) := by
    have := (rgI_get (List.getElem?_eq_getElem hr)).1
    omega
  simpa [e] using q
theorem ln_at {f s a b : Int} (h : ln f s a b < (cnt f s).length) : lnP f s a b (ln f s a b : Nat) = true := by
  have hr : (rgI 0 (cnt f s).length).findIdx (lnP f s a b) < (rgI 0 (cnt f s).length).length := by rw [rgI_len]; unfold ln at h; omega
  have q := List.findIdx_getElem (w := hr)
  have e : (rgI 0 (cnt f s).length)[(rgI 0 (cnt f s).length).findIdx (lnP f s a b)] = ((ln f s a b : Nat) : Int) := by
    have := (rgI_get (List.getElem?_eq_getElem hr)).1
    unfold ln
    omega
  rw [e] at q; exact q
theorem ln_le (f s a b : Int) : ln f s a b ≤ (cnt f s).length := by
  have := List.findIdx_le_length (p := lnP f s a b) (xs := rgI 0 (cnt f s).length)
  rw [rgI_len] at this
  unfold ln; omega
theorem lw_ok {CS CE : Addr} {f s : Int} {e : PyData} (z : Sz f s) (h : okErr e = true) : S_least_wins CS CE [.int f, .int s, e] (.v (lnD f s (un0 e) (un1 e))) :=
  ⟨_, _, _, rfl, by rw [if_pos (okSz_iff.mpr ⟨f, s, rfl, rfl, z⟩), if_pos h]; rfl⟩
theorem lw_ok2 {CS CE : Addr} {f s a b : Int} (z : Sz f s) (h : okErr (.tuple [.int a, .int b]) = true) : S_least_wins CS CE [.int f, .int s, .tuple [.int a, .int b]] (.v (lnD f s a b)) := lw_ok z h
theorem lw_bad {CS CE : Addr} {a b e : PyData} (z : okSz a b = true) (h : ¬ okErr e = true) : S_least_wins CS CE [a, b, e] (.x CE) := ⟨_, _, _, rfl, by rw [if_pos z, if_neg h]⟩
theorem lw_siz {CS CE : Addr} {a b e : PyData} (z : ¬ okSz a b = true) : S_least_wins CS CE [a, b, e] (.x CS) := ⟨_, _, _, rfl, by rw [if_neg z]⟩
theorem chf_le {f s n e0 e1 : Int} (z : Sz f s) : ((chf f s n).1 * e1 ≤ e0 * (chf f s n).2) ↔ lnP f s e0 e1 n = true := by
  have c2 := (cnt_ok z).2.2
  have c3 := drop_nn z n.toNat
  obtain ⟨A, hA⟩ : ∃ A : Nat, ((cnt f s).drop n.toNat).sum = A := ⟨_, (Int.toNat_of_nonneg c3).symm⟩
  obtain ⟨B, hB⟩ : ∃ B : Nat, (cnt f s).sum = B := ⟨_, (Int.toNat_of_nonneg (Int.le_of_lt c2)).symm⟩
  unfold chf lnP
  rw [hA, hB, decide_eq_true_eq]
  show ((A / Nat.gcd A B : Nat) : Int) * e1 ≤ e0 * ((B / Nat.gcd A B : Nat) : Int) ↔ _
  have g : 0 < Nat.gcd A B := Nat.gcd_pos_of_pos_right _ (by omega)
  have e1' : (A : Int) = (Nat.gcd A B : Int) * ((A / Nat.gcd A B : Nat) : Int) := by
    rw [← Int.natCast_mul, Nat.mul_div_cancel' (Nat.gcd_dvd_left A B)]
  have e2' : (B : Int) = (Nat.gcd A B : Int) * ((B / Nat.gcd A B : Nat) : Int) := by
    rw [← Int.natCast_mul, Nat.mul_div_cancel' (Nat.gcd_dvd_right A B)]
  generalize ((A / Nat.gcd A B : Nat) : Int) = x at *
  generalize ((B / Nat.gcd A B : Nat) : Int) = y at *
  rw [e1', e2']
  have r1 : (Nat.gcd A B : Int) * x * e1 = (Nat.gcd A B : Int) * (x * e1) := Int.mul_assoc _ _ _
  have r2 : e0 * ((Nat.gcd A B : Int) * y) = (Nat.gcd A B : Int) * (e0 * y) := by rw [← Int.mul_assoc, Int.mul_comm e0, Int.mul_assoc]
  rw [r1, r2]
  constructor
  · intro h; exact Int.mul_le_mul_of_nonneg_left h (by omega)
  · intro h; exact Int.le_of_mul_le_mul_left h (by omega)
theorem sum_drop_le : ∀ {l : List Int}, (∀ n ∈ l, 0 < n) → ∀ k, (l.drop k).sum ≤ l.sum
  | [], _, k => by simp
  | x :: l, h, 0 => by simp
  | x :: l, h, k + 1 => by
    have := sum_drop_le (l := l) (fun n hn => h n (List.mem_cons_of_mem _ hn)) k
    have := h x List.mem_cons_self
    rw [List.drop_succ_cons, List.sum_cons]; omega
theorem okErr_chf {f s n : Int} (z : Sz f s) : okErr (.tuple [.int (chf f s n).1, .int (chf f s n).2]) = true := by
  have c1 := (cnt_ok z).2.1
  have c2 := (cnt_ok z).2.2
  have c3 := drop_nn z n.toNat
  have c4 := sum_drop_le (cnt_ok z).1 n.toNat
  exact okErr_red (by omega) (by omega) (by omega)
end Rk

namespace Rk
open PySem L2
/-! ### all choices, as the laws list them -/
def laSt (f : Int) : Nat → List (List Int)
  | 0 => [[]]
  | t + 1 => laSt f t ++ ((laSt f t).filter fun c => decide ((c.length : Int) < f)).map fun c => c ++ [1 + (t : Int)]
theorem laSt_len (f : Int) : ∀ t, (laSt f t).length ≤ 2 ^ t
  | 0 => Nat.le_refl _
  | t + 1 => by
    have h := laSt_len f t
    have h2 := List.length_filter_le (fun c : List Int => decide ((c.length : Int) < f)) (laSt f t)
    unfold laSt
    rw [List.length_append, List.length_map, Nat.pow_succ]; omega
theorem laSt_len12 (f : Int) {t : Nat} (h : t ≤ 12) : (laSt f t).length ≤ 4096 := Nat.le_trans (laSt_len f t) (Nat.pow_le_pow_right (by decide) h)
theorem laSt_mem {f : Int} (hf : 0 ≤ f) : ∀ {t : Nat} {c : List Int}, c ∈ laSt f t ↔ c.Pairwise (· < ·) ∧ (∀ n ∈ c, 1 ≤ n ∧ n ≤ t) ∧ (c.length : Int) ≤ f
  | 0, c => by
    constructor
    · intro h
      have : c = [] := by simpa [laSt] using h
      subst this
      exact ⟨.nil, by simp, hf⟩
    · rintro ⟨_, h, _⟩
      cases c with
      | nil => simp [laSt]
      | cons x c => have := h x List.mem_cons_self; omega
  | t + 1, c => by
    unfold laSt
    rw [List.mem_append, List.mem_map]
    constructor
    · rintro (h | ⟨d, h, rfl⟩)
      · obtain ⟨h1, h2, h3⟩ := (laSt_mem hf).mp h
        exact ⟨h1, fun n hn => by have := h2 n hn; omega, h3⟩
      · rw [List.mem_filter] at h
        obtain ⟨h1, h2, h3⟩ := (laSt_mem hf).mp h.1
        have h4 := of_decide_eq_true h.2
        refine ⟨List.pairwise_append.mpr ⟨h1, List.pairwise_singleton _ _, fun a ha b hb => ?_⟩, fun n hn => ?_, ?_⟩
        · have := h2 a ha
          rw [List.mem_singleton.mp hb]; omega
        · rcases List.mem_append.mp hn with q | q
          · have := h2 n q; omega
          · rw [List.mem_singleton.mp q]; omega
        · rw [List.length_append, List.length_singleton]; omega
    · rintro ⟨h1, h2, h3⟩
      rcases List.eq_nil_or_concat c with rfl | ⟨d, x, rfl⟩
      · exact .inl ((laSt_mem hf).mpr ⟨.nil, by simp, hf⟩)
      · rw [List.concat_eq_append] at h1 h2 h3 ⊢
        obtain ⟨p1, _, p2⟩ := List.pairwise_append.mp h1
        have hx := h2 x (by simp)
        rw [List.length_append, List.length_singleton] at h3
        by_cases e : x = 1 + (t : Int)
        · subst e
          refine .inr ⟨d, List.mem_filter.mpr ⟨(laSt_mem hf).mpr ⟨p1, fun n hn => ?_, by omega⟩, decide_eq_true (by omega)⟩, rfl⟩
          have := h2 n (List.mem_append_left _ hn)
          have := p2 n hn _ (List.mem_singleton.mpr rfl)
          omega
        · refine .inl ((laSt_mem hf).mpr ⟨h1, fun n hn => ?_, by rw [List.length_append, List.length_singleton]; omega⟩)
          rcases List.mem_append.mp hn with q | q
          · have := h2 n hn
            have := p2 n q _ (List.mem_singleton.mpr rfl)
            omega
          · have := h2 n hn
            rw [List.mem_singleton.mp q] at this ⊢; omega
theorem laSt_nodup {f : Int} (hf : 0 ≤ f) : ∀ t : Nat, (laSt f t).Nodup
  | 0 => by simp [laSt]
  | t + 1 => by
    unfold laSt
    refine List.nodup_append.mpr ⟨laSt_nodup hf t, ?_, fun a ha b hb e => ?_⟩
    · refine List.pairwise_map.mpr (((laSt_nodup hf t).filter _).imp fun h e => h (List.append_cancel_right e))
    · obtain ⟨d, h, rfl⟩ := List.mem_map.mp hb
      subst e
      have := ((laSt_mem hf).mp ha).2.1 (1 + (t : Int)) (by simp)
      omega
def lall (f s : Int) : List (List Int) := sortT ((laSt f (f + s).toNat).filter fun c => decide ((c.length : Int) = f))
theorem lall_mem {f s : Int} (z : Sz f s) {c : List Int} : c ∈ lall f s ↔ Ch f s c := by
  obtain ⟨⟨z1, z2⟩, z3, z4⟩ := z
  unfold lall
  rw [(sortT_perm _).mem_iff, List.mem_filter, laSt_mem (by omega), decide_eq_true_eq]
  constructor
  · rintro ⟨⟨h1, h2, _⟩, h4⟩
    exact ⟨h4, fun n hn => by have := h2 n hn; omega, h1⟩
  · rintro ⟨h1, h2, h3⟩
    exact ⟨⟨h3, fun n hn => by have := h2 n hn; omega, by omega⟩, h1⟩
theorem subs_mem : ∀ {l c : List Int} {k : Nat}, c ∈ subs l k → c.Sublist l ∧ c.length = k
  | l, c, 0, h => by
    have : c = [] := by cases l <;> simpa [subs] using h
    subst this; exact ⟨List.nil_sublist _, rfl⟩
  | [], c, k + 1, h => by cases h
  | x :: l, c, k + 1, h => by
    have h : c ∈ (subs l k).map (x :: ·) ++ subs l (k + 1) := h
    rcases List.mem_append.mp h with h | h
    · obtain ⟨d, hd, rfl⟩ := List.mem_map.mp h
      obtain ⟨h1, h2⟩ := subs_mem hd
      exact ⟨h1.cons_cons x, by simp [h2]⟩
    · obtain ⟨h1, h2⟩ := subs_mem h
      exact ⟨h1.cons x, h2⟩
theorem subs_lex : ∀ {l : List Int} {k : Nat}, l.Pairwise (· < ·) → (subs l k).Pairwise (fun a b => HT.lexLt a b = true)
  | l, 0, _ => by cases l <;> exact List.pairwise_singleton _ _
  | [], k + 1, _ => .nil
  | x :: l, k + 1, h => by
    rw [List.pairwise_cons] at h
    show ((subs l k).map (x :: ·) ++ subs l (k + 1)).Pairwise _
    refine List.pairwise_append.mpr ⟨List.pairwise_map.mpr ((subs_lex h.2).imp fun q => ?_), subs_lex h.2, fun a ha b hb => ?_⟩
    · rw [HT.lexLt_cons, if_pos rfl]; exact q
    · obtain ⟨d, hd, rfl⟩ := List.mem_map.mp ha
      obtain ⟨h1, h2⟩ := subs_mem hb
      cases b with
      | nil => cases h2
      | cons y b =>
        have := h.1 y (h1.subset List.mem_cons_self)
        rw [HT.lexLt_cons, if_neg (by omega)]
        exact decide_eq_true this
theorem ch_of_chAll {f s : Int} (hf : 0 ≤ f) {c : List Int} (h : c ∈ chAll f s) : Ch f s c := by
  obtain ⟨h1, h2⟩ := subs_mem h
  refine ⟨by omega, fun n hn => ?_, (rgI_nodup _ _).sublist h1⟩
  have := mem_rgI.mp (h1.subset hn)
  omega
theorem lall_eq {f s : Int} (z : Sz f s) : lall f s = chAll f s := by
  have hf : 0 ≤ f := by have := z.1; omega
  have p : (chAll f s).Pairwise (fun a b => HT.lexLt a b = true) := subs_lex (rgI_nodup _ _)
  symm
  refine sortT_of (p.imp fun h => NtL.lex_asym _ _ h) ?_
  refine (List.perm_ext_iff_of_nodup (p.imp fun h e => ?_) ((laSt_nodup hf _).filter _)).mpr fun c => ?_
  · subst e
    have := NtL.lex_asym _ _ h
    rw [h] at this; cases this
  · have h1 := lall_mem z (c := c)
    unfold lall at h1
    rw [(sortT_perm _).mem_iff] at h1
    rw [h1]
    exact ⟨ch_of_chAll hf, mem_chAll⟩
def S_lall : List PyData → Rs → Prop := fun ds r => ∃ f s : Int, ds = [.int f, .int s] ∧ Sz f s ∧ r = .v (.list ((lall f s).map tI))
end Rk

namespace Rk
open PySem L2
/-! ### two choices -/
def grd2 (CS CC : Addr) (a b d e : PyData) (res : PyData) : Rs := if okSz a b then (if isCh (unI a) (unI b) d && isCh (unI a) (unI b) e then .v res else .x CC) else .x CS
def S_cc2 (CS CC : Addr) (g : List Int → List Int → PyData) : List PyData → Rs → Prop := fun ds r => ∃ a b d e, ds = [a, b, d, e] ∧ smallT d ∧ smallT e ∧ r = grd2 CS CC a b d e (g (unTs d) (unTs e))
section
variable {CS CC : Addr} {g : List Int → List Int → PyData} {a b d e : PyData} {f s : Int} {c c' : List Int}
theorem small_ch (z : Sz f s) (h : Ch f s c) : smallT (.tuple (c.map .int)) := by
  show (c.map PyData.int).length ≤ 1000
  rw [List.length_map]; have := h.len6 z; omega
theorem cc2_ok (z : Sz f s) (h : Ch f s c) (h' : Ch f s c') : S_cc2 CS CC g [.int f, .int s, .tuple (c.map .int), .tuple (c'.map .int)] (.v (g c c')) := by
  refine ⟨_, _, _, _, rfl, small_ch z h, small_ch z h', ?_⟩
  unfold grd2
  have h2 : isCh (unI (.int f)) (unI (.int s)) (.tuple (c.map .int)) = true := isCh_iff.mpr ⟨c, rfl, h⟩
  have h3 : isCh (unI (.int f)) (unI (.int s)) (.tuple (c'.map .int)) = true := isCh_iff.mpr ⟨c', rfl, h'⟩
  rw [if_pos (okSz_iff.mpr ⟨f, s, rfl, rfl, z⟩), if_pos (by rw [h2, h3]; rfl), unTs_ints, unTs_ints]
theorem cc2_bad (hs : smallT d) (hs2 : smallT e) (h1 : okSz a b = true) (h2 : ¬ (isCh (unI a) (unI b) d && isCh (unI a) (unI b) e) = true) : S_cc2 CS CC g [a, b, d, e] (.x CC) := ⟨_, _, _, _, rfl, hs, hs2, by unfold grd2; rw [if_pos h1, if_neg h2]⟩
theorem cc2_siz (hs : smallT d) (hs2 : smallT e) (h1 : ¬ okSz a b = true) : S_cc2 CS CC g [a, b, d, e] (.x CS) := ⟨_, _, _, _, rfl, hs, hs2, by unfold grd2; rw [if_neg h1]⟩
end
def belI (c d : List Int) : Bool := ((c.zip d).filter fun p => decide (p.2 < p.1)).isEmpty
def upI (c d : List Int) : List Int := (c.zip d).map fun p => if p.2 > p.1 then p.2 else p.1
def loI (c d : List Int) : List Int := (c.zip d).map fun p => if p.2 < p.1 then p.2 else p.1
abbrev S_check_two (CS CC : Addr) := S_cc2 CS CC fun _ _ => .none
def S_lies_below : List PyData → Rs → Prop := fun ds r => ∃ c d : List Int, ds = [.tuple (c.map .int), .tuple (d.map .int)] ∧ c.length ≤ 1000 ∧ d.length ≤ 1000 ∧ r = .v (.bool (belI c d))
abbrev S_is_below (CS CC : Addr) := S_cc2 CS CC fun c d => .bool (belI c d)
abbrev S_upper (CS CC : Addr) := S_cc2 CS CC fun c d => .tuple ((upI c d).map .int)
abbrev S_lower (CS CC : Addr) := S_cc2 CS CC fun c d => .tuple ((loI c d).map .int)
def lbelI (c d : List Int) : Bool := decide (((rgI 0 c.length).filter fun i => decide (d.getD i.toNat 0 < c.getD i.toNat 0)) = [])
def S_lbel : List PyData → Rs → Prop := fun ds r => ∃ c d : List Int, ds = [.tuple (c.map .int), .tuple (d.map .int)] ∧ c.length = d.length ∧ c.length ≤ 1000 ∧ r = .v (.bool (lbelI c d))
/-! the order -/
def Bel (c d : List Int) : Prop := ∀ (i : Nat) (x y : Int), c[i]? = some x → d[i]? = some y → x ≤ y
theorem belI_iff {c d : List Int} : belI c d = true ↔ Bel c d := by
  unfold belI
  rw [List.isEmpty_iff, List.filter_eq_nil_iff]
  constructor
  · intro h i x y h1 h2
    have := h (x, y) (List.mem_iff_getElem?.mpr ⟨i, List.getElem?_zip_eq_some.mpr ⟨h1, h2⟩⟩)
    simp at this; exact this
  · rintro h ⟨x, y⟩ hp
    obtain ⟨i, hi⟩ := List.mem_iff_getElem?.mp hp
    obtain ⟨h1, h2⟩ := List.getElem?_zip_eq_some.mp hi
    have := h i x y h1 h2
    simp; exact this
theorem lbelI_iff {c d : List Int} (hl : c.length = d.length) : lbelI c d = true ↔ Bel c d := by
  unfold lbelI
  rw [decide_eq_true_eq, List.filter_eq_nil_iff]
  constructor
  · intro h i x y h1 h2
    have hi := (List.getElem?_eq_some_iff.mp h1).1
    have := h (i : Int) (mem_rgI.mpr (by omega))
    rw [List.getD_eq_getElem?_getD, List.getD_eq_getElem?_getD] at this
    simp only [Int.toNat_natCast, h1, h2, Option.getD_some, decide_eq_true_eq] at this
    omega
  · intro h i hi
    have hi := mem_rgI.mp hi
    have h1 : c[i.toNat]? = some c[i.toNat] := List.getElem?_eq_getElem (by omega)
    have h2 : d[i.toNat]? = some d[i.toNat] := List.getElem?_eq_getElem (by omega)
    have := h i.toNat _ _ h1 h2
    rw [List.getD_eq_getElem?_getD, List.getD_eq_getElem?_getD, h1, h2]
    simp only [Option.getD_some, decide_eq_true_eq]
    omega
theorem lbelI_eq {c d : List Int} (hl : c.length = d.length) : lbelI c d = belI c d := by
  cases h : belI c d with
  | true => exact (lbelI_iff hl).mpr (belI_iff.mp h)
  | false =>
    refine Bool.eq_false_iff.mpr fun q => ?_
    rw [belI_iff.mpr ((lbelI_iff hl).mp q)] at h; cases h
theorem zm_get {h : Int × Int → Int} {c d : List Int} {i : Nat} {z : Int} (q : ((c.zip d).map h)[i]? = some z) : ∃ x y, c[i]? = some x ∧ d[i]? = some y ∧ z = h (x, y) := by
  rw [List.getElem?_map] at q
  cases e : (c.zip d)[i]? with
  | none => rw [e] at q; cases q
  | some p =>
    rw [e] at q; cases q
    obtain ⟨h1, h2⟩ := List.getElem?_zip_eq_some.mp e
    exact ⟨p.1, p.2, h1, h2, rfl⟩
theorem pw_iff {l : List Int} : l.Pairwise (· < ·) ↔ ∀ (i j : Nat) (x y : Int), i < j → l[i]? = some x → l[j]? = some y → x < y := by
  rw [List.pairwise_iff_getElem]
  constructor
  · intro h i j x y hij h1 h2
    obtain ⟨a1, rfl⟩ := List.getElem?_eq_some_iff.mp h1
    obtain ⟨a2, rfl⟩ := List.getElem?_eq_some_iff.mp h2
    exact h i j a1 a2 hij
  · intro h i j hi hj hij
    exact h i j _ _ hij (List.getElem?_eq_getElem hi) (List.getElem?_eq_getElem hj)
theorem ch_zip {f s : Int} {c d : List Int} {h : Int × Int → Int} (h1 : Ch f s c) (h2 : Ch f s d) (hh : ∀ x y, h (x, y) = x ∨ h (x, y) = y) (hm : ∀ x y x' y', x < x' → y < y' → h (x, y) < h (x', y')) : Ch f s ((c.zip d).map h) := by
  obtain ⟨a1, a2, a3⟩ := h1
  obtain ⟨b1, b2, b3⟩ := h2
  refine ⟨by rw [List.length_map, List.length_zip]; omega, fun n hn => ?_, pw_iff.mpr fun i j x y hij q1 q2 => ?_⟩
  · obtain ⟨i, hi⟩ := List.mem_iff_getElem?.mp hn
    obtain ⟨x, y, e1, e2, rfl⟩ := zm_get hi
    rcases hh x y with q | q <;> rw [q]
    · exact a2 x (List.mem_of_getElem? e1)
    · exact b2 y (List.mem_of_getElem? e2)
  · obtain ⟨u, v, e1, e2, rfl⟩ := zm_get q1
    obtain ⟨u', v', e3, e4, rfl⟩ := zm_get q2
    exact hm _ _ _ _ (pw_iff.mp a3 i j _ _ hij e1 e3) (pw_iff.mp b3 i j _ _ hij e2 e4)
section
variable {f s : Int} {c d e : List Int}
theorem ch_up (h1 : Ch f s c) (h2 : Ch f s d) : Ch f s (upI c d) := ch_zip h1 h2 (fun x y => by simp only; split <;> simp) (fun x y x' y' h h' => by simp only; split <;> split <;> omega)
theorem ch_lo (h1 : Ch f s c) (h2 : Ch f s d) : Ch f s (loI c d) := ch_zip h1 h2 (fun x y => by simp only; split <;> simp) (fun x y x' y' h h' => by simp only; split <;> split <;> omega)
theorem bel_refl (c : List Int) : Bel c c := fun i x y h1 h2 => by rw [h1] at h2; cases h2; exact Int.le_refl _
theorem bel_up1 : Bel c (upI c d) := fun i x y h1 h2 => by
  obtain ⟨u, v, e1, e2, rfl⟩ := zm_get h2
  rw [h1] at e1; cases e1
  simp only; split <;> omega
theorem bel_up2 : Bel d (upI c d) := fun i x y h1 h2 => by
  obtain ⟨u, v, e1, e2, rfl⟩ := zm_get h2
  rw [h1] at e2; cases e2
  simp only; split <;> omega
theorem bel_lo1 : Bel (loI c d) c := fun i x y h1 h2 => by
  obtain ⟨u, v, e1, e2, rfl⟩ := zm_get h1
  rw [h2] at e1; cases e1
  simp only; split <;> omega
theorem bel_lo2 : Bel (loI c d) d := fun i x y h1 h2 => by
  obtain ⟨u, v, e1, e2, rfl⟩ := zm_get h1
  rw [h2] at e2; cases e2
  simp only; split <;> omega
theorem bel_upL (h1 : Bel c e) (h2 : Bel d e) : Bel (upI c d) e := fun i x y q1 q2 => by
  obtain ⟨u, v, e1, e2, rfl⟩ := zm_get q1
  have := h1 i u y e1 q2
  have := h2 i v y e2 q2
  simp only; split <;> omega
theorem bel_loG (h1 : Bel e c) (h2 : Bel e d) : Bel e (loI c d) := fun i x y q1 q2 => by
  obtain ⟨u, v, e1, e2, rfl⟩ := zm_get q2
  have := h1 i x u q1 e1
  have := h2 i x v q1 e2
  simp only; split <;> omega
theorem bel_anti (hl : c.length = d.length) (h1 : Bel c d) (h2 : Bel d c) : c = d := List.ext_getElem hl fun i hi hj => by
  have a1 := h1 i _ _ (List.getElem?_eq_getElem hi) (List.getElem?_eq_getElem hj)
  have a2 := h2 i _ _ (List.getElem?_eq_getElem hj) (List.getElem?_eq_getElem hi)
  omega
end
theorem up_lo_sum : ∀ {c d : List Int}, c.length = d.length → (upI c d).sum + (loI c d).sum = c.sum + d.sum
  | [], [], _ => rfl
  | x :: c, y :: d, h => by
    have ih := up_lo_sum (c := c) (d := d) (by simpa using h)
    show ((if y > x then y else x) :: upI c d).sum + ((if y < x then y else x) :: loI c d).sum = _
    rw [List.sum_cons, List.sum_cons, List.sum_cons, List.sum_cons]
    split <;> split <;> omega
theorem wins_up_lo {f s : Int} {c d : List Int} (h1 : Ch f s c) (h2 : Ch f s d) : winsI (upI c d) + winsI (loI c d) = winsI c + winsI d := by
  have e := up_lo_sum (c := c) (d := d) (by have := h1.1; have := h2.1; omega)
  unfold winsI
  rw [(ch_up h1 h2).1, (ch_lo h1 h2).1, h1.1, h2.1]
  omega
/-! closers -/
theorem ov_eqLN {X : Cx} {a : List Int} (hu : X.A.units + 64 < cLine) : OpV X (compareOp .Eq) (.list (a.map .int)) (.list []) (.bool (decide (a = []))) := ov_eqLI (b := []) hu
theorem ov_neLN {X : Cx} {a : List Int} (hu : X.A.units + 64 < cLine) : OpV X (compareOp .NotEq) (.list (a.map .int)) (.list []) (.bool (!decide (a = []))) := ov_neLI (b := []) hu
theorem ov_eqB {X : Cx} {a b : Bool} (hu : X.A.units + 64 < cLine) : OpV X (compareOp .Eq) (.bool a) (.bool b) (.bool (a == b)) := by
  have h := ov_eqD (X := X) (da := .bool a) (db := .bool b) hu (by cases a <;> rfl) (by cases b <;> rfl)
  have e : PyData.eqv (.bool a) (.bool b) = (a == b) := by cases a <;> cases b <;> rfl
  rwa [e] at h
theorem ov_neB {X : Cx} {a b : Bool} (hu : X.A.units + 64 < cLine) : OpV X (compareOp .NotEq) (.bool a) (.bool b) (.bool (!(a == b))) := by
  have h := ov_neD (X := X) (da := .bool a) (db := .bool b) hu (by cases a <;> rfl) (by cases b <;> rfl)
  have e : PyData.eqv (.bool a) (.bool b) = (a == b) := by cases a <;> cases b <;> rfl
  rwa [e] at h
end Rk

namespace Rk
open PySem L2
/-! ### all choices, as the program lists them -/
def stI : List Int → Int
  | [] => 1
  | c => c.getLastD 0 + 1
def evSt (s : Int) : Nat → List (List Int)
  | 0 => [[]]
  | t + 1 => (evSt s t).flatMap fun c => (rgI (stI c) (s + (t : Int) + 2)).map fun r => c ++ [r]
def Pev (f s : Int) : Bool := decide (evSt s f.toNat = chAll f s) && decide ((evSt s f.toNat).length ≤ 1000)
theorem all_ev : allSS Pev = true := by decide +kernel
theorem ev_ok {f s : Int} (z : Sz f s) : evSt s f.toNat = chAll f s ∧ (evSt s f.toNat).length ≤ 1000 := by
  have q := by_allS all_ev z
  unfold Pev at q
  simpa using q
theorem ev_len {s : Int} (hs : 1 ≤ s ∧ s ≤ 6) : ∀ {t : Nat}, t ≤ 6 → (evSt s t).length ≤ 1000
  | 0, _ => by simp [evSt]
  | t + 1, h => by
    have := (ev_ok (f := (t : Int) + 1) (s := s) ⟨by omega, hs⟩).2
    rwa [show ((t : Int) + 1).toNat = t + 1 by omega] at this
theorem ev_mem {s : Int} : ∀ {t : Nat} {c : List Int}, c ∈ evSt s t → c.length = t
  | 0, c, h => by
    have : c = [] := by simpa [evSt] using h
    subst this; rfl
  | t + 1, c, h => by
    unfold evSt at h
    obtain ⟨d, hd, hc⟩ := List.mem_flatMap.mp h
    obtain ⟨r, _, rfl⟩ := List.mem_map.mp hc
    rw [List.length_append, ev_mem hd]; rfl
theorem stI_app (d : List Int) (r : Int) : stI (d ++ [r]) = r + 1 := by
  cases d with
  | nil => rfl
  | cons x d =>
    show (x :: (d ++ [r])).getLastD 0 + 1 = r + 1
    have : (x :: (d ++ [r])) = (x :: d) ++ [r] := rfl
    rw [this, List.getLastD_eq_getLast?, List.getLast?_append]; rfl
theorem ev_bd {s : Int} : ∀ {t : Nat} {c : List Int}, c ∈ evSt s t → 1 ≤ stI c ∧ (stI c ≤ s + t + 1 ∨ stI c = 1)
  | 0, c, h => by
    have : c = [] := by simpa [evSt] using h
    subst this; exact ⟨Int.le_refl _, .inr rfl⟩
  | t + 1, c, h => by
    unfold evSt at h
    obtain ⟨d, hd, hc⟩ := List.mem_flatMap.mp h
    obtain ⟨r, hr, rfl⟩ := List.mem_map.mp hc
    have := (ev_bd hd).1
    have := mem_rgI.mp hr
    rw [stI_app]
    omega
theorem fm_take_len {α β : Type} (g : α → List β) (l : List α) (i : Nat) : ((l.take i).flatMap g).length ≤ (l.flatMap g).length := by
  have e : l.flatMap g = (l.take i).flatMap g ++ (l.drop i).flatMap g := by rw [← List.flatMap_append, List.take_append_drop]
  rw [e, List.length_append]; omega
def S_every_choice : List PyData → Rs → Prop := fun ds r => ∃ f s : Int, ds = [.int f, .int s] ∧ Sz f s ∧ r = .v (.list ((chAll f s).map tI))
def S_all_choices (CS : Addr) : List PyData → Rs → Prop := fun ds r => ∃ a b, ds = [a, b] ∧ r = if okSz a b then .v (.list ((chAll (unI a) (unI b)).map tI)) else .x CS
theorem ac_ok {CS : Addr} {f s : Int} (z : Sz f s) : S_all_choices CS [.int f, .int s] (.v (.list ((chAll f s).map tI))) :=
  ⟨_, _, rfl, by rw [if_pos (okSz_iff.mpr ⟨f, s, rfl, rfl, z⟩)]; rfl⟩
end Rk

namespace Rk
open PySem L2
/-! ### ranks of choices -/
def wayN (n : Int) : Nat → Int
  | 0 => 1
  | t + 1 => wayN n t * (n - t) / ((t : Int) + 1)
def wayI (n k : Int) : Int := wayN n k.toNat
def S_ways : List PyData → Rs → Prop := fun ds r => ∃ n k : Int, ds = [.int n, .int k] ∧ (-100 ≤ n ∧ n ≤ 100) ∧ (-100 ≤ k ∧ k ≤ 100) ∧ r = .v (.int (wayI n k))
def rkSt (f s : Int) (c : List Int) : Nat → Int × Int
  | 0 => (0, 0)
  | t + 1 => ((rkSt f s c t).1 + ((rgI ((rkSt f s c t).2 + 1) (c.getD t 0)).map fun le => wayI (f + s - le) (f - t - 1)).sum, c.getD t 0)
def rkI (f s : Int) (c : List Int) : Int := (rkSt f s c c.length).1
abbrev S_rank_of (CS CC : Addr) := S_cc CS CC fun f s c => .int (rkI f s c)
theorem rkSt_bd {f s : Int} {c : List Int} (h : Ch f s c) (z : Sz f s) : ∀ t, t ≤ c.length → 0 ≤ (rkSt f s c t).2 ∧ (rkSt f s c t).2 ≤ f + s
  | 0, _ => by
    have := z.1; have := z.2
    show (0 : Int) ≤ 0 ∧ (0 : Int) ≤ f + s
    omega
  | t + 1, ht => by
    show 0 ≤ c.getD t 0 ∧ c.getD t 0 ≤ f + s
    rw [List.getD_eq_getElem?_getD, List.getElem?_eq_getElem (show t < c.length by omega)]
    have := h.2.1 c[t] (List.getElem_mem _)
    simp only [Option.getD_some]; omega
def frSt (f s n : Int) : Nat → List Int × Int
  | 0 => ([], n)
  | t + 1 => if ((frSt f s n t).1.length : Int) < f then
      (if (frSt f s n t).2 < wayI (f + s - (1 + (t : Int))) (f - ((frSt f s n t).1.length : Int) - 1) then ((frSt f s n t).1 ++ [1 + (t : Int)], (frSt f s n t).2) else ((frSt f s n t).1, (frSt f s n t).2 - wayI (f + s - (1 + (t : Int))) (f - ((frSt f s n t).1.length : Int) - 1)))
    else frSt f s n t
theorem frSt_len (f s n : Int) : ∀ t, (frSt f s n t).1.length ≤ t
  | 0 => Nat.le_refl _
  | t + 1 => by
    have := frSt_len f s n t
    unfold frSt
    split
    · split
      · simp only [List.length_append, List.length_singleton]; omega
      · simp only; omega
    · omega
def frI (f s n : Int) : List Int := (frSt f s n (f + s).toNat).1
def S_from_rank (CS CN : Addr) : List PyData → Rs → Prop := fun ds r => ∃ a b d, ds = [a, b, d] ∧ r = if okSz a b then (if inR d 0 (wayI (unI a + unI b) (unI a) - 1) then .v (.tuple ((frI (unI a) (unI b) (unI d)).map .int)) else .x CN) else .x CS
theorem fr_ok {CS CN : Addr} {f s n : Int} (z : Sz f s) (h : 0 ≤ n ∧ n ≤ wayI (f + s) f - 1) : S_from_rank CS CN [.int f, .int s, .int n] (.v (.tuple ((frI f s n).map .int))) := by
  refine ⟨_, _, _, rfl, ?_⟩
  have h2 : inR (.int n) 0 (wayI (unI (.int f) + unI (.int s)) (unI (.int f)) - 1) = true := inR_i.mpr h
  rw [if_pos (okSz_iff.mpr ⟨f, s, rfl, rfl, z⟩), if_pos h2]; rfl
theorem fr_bad {CS CN : Addr} {f s : Int} {d : PyData} (z : Sz f s) (h : inR d 0 (wayI (f + s) f - 1) = false) : S_from_rank CS CN [.int f, .int s, d] (.x CN) := by
  refine ⟨_, _, _, rfl, ?_⟩
  have h2 : ¬ inR d 0 (wayI (unI (.int f) + unI (.int s)) (unI (.int f)) - 1) = true := by
    rw [show inR d 0 (wayI (unI (.int f) + unI (.int s)) (unI (.int f)) - 1) = false from h]; decide
  rw [if_pos (okSz_iff.mpr ⟨f, s, rfl, rfl, z⟩), if_neg h2]
theorem fr_siz {CS CN : Addr} {a b d : PyData} (h : ¬ okSz a b = true) : S_from_rank CS CN [a, b, d] (.x CS) := ⟨_, _, _, rfl, by rw [if_neg h]⟩
end Rk

namespace Rk
open PySem L2
/-! ### shapes -/
def shp (c : List Int) : List Int := (((rgI 0 c.length).zip c).map fun p => p.2 - p.1 - 1).reverse
def unshp (ns : List Int) : List Int := ((rgI 0 ns.reverse.length).zip ns.reverse).map fun p => p.2 + p.1 + 1
def fallsB (ns : List Int) : Bool := ((ns.zip (ns.drop 1)).filter fun p => decide (p.1 < p.2)).isEmpty
def isShp (f s : Int) : PyData → Bool
  | .tuple xs => decide ((xs.length : Int) = f) && xs.all (fun d => inR d 0 s) && fallsB (xs.map unI)
  | _ => false
abbrev S_shape (CS CC : Addr) := S_cc CS CC fun _ _ c => .tuple ((shp c).map .int)
def S_is_shape (CS : Addr) : List PyData → Rs → Prop := fun ds r => ∃ a b d, ds = [a, b, d] ∧ smallT d ∧ r = if okSz a b then .v (.bool (isShp (unI a) (unI b) d)) else .x CS
def S_from_shape (CS CH : Addr) : List PyData → Rs → Prop := fun ds r => ∃ a b d, ds = [a, b, d] ∧ smallT d ∧ r = if okSz a b then (if isShp (unI a) (unI b) d then .v (.tuple ((unshp (unTs d)).map .int)) else .x CH) else .x CS
theorem falls_pair : ∀ {ns : List Int}, fallsB ns = true ↔ ns.Pairwise (fun a b => b ≤ a)
  | [] => by simp [fallsB]
  | [_] => by simp [fallsB]
  | i :: j :: r => by
    have ih := falls_pair (ns := j :: r)
    unfold fallsB at ih ⊢
    show (((i, j) :: ((j :: r).zip ((j :: r).drop 1))).filter fun p => decide (p.1 < p.2)).isEmpty = true ↔ _
    rw [List.filter_cons]
    by_cases h : i < j
    · rw [if_pos (by simpa using h)]
      constructor
      · intro h; cases h
      · intro q
        have := (List.pairwise_cons.mp q).1 j List.mem_cons_self
        omega
    · rw [if_neg (by simpa using h), ih]
      constructor
      · intro q
        refine List.pairwise_cons.mpr ⟨fun a ha => ?_, q⟩
        rcases List.mem_cons.mp ha with rfl | ha
        · omega
        · have := (List.pairwise_cons.mp q).1 a ha; omega
      · intro q; exact (List.pairwise_cons.mp q).2
theorem falls_sort (ns : List Int) : fallsB ns = decide (ns = (sortI ns).reverse) := by
  by_cases h : ns = (sortI ns).reverse
  · rw [decide_eq_true h, falls_pair]
    rw [h]
    exact List.pairwise_reverse.mpr (sortI_rises ns)
  · rw [decide_eq_false h]
    refine Bool.eq_false_iff.mpr fun q => h ?_
    have p := falls_pair.mp q
    have p2 : ns.reverse.Pairwise (· ≤ ·) := List.pairwise_reverse.mpr p
    have := sortI_of p2 (List.reverse_perm ns)
    rw [← this, List.reverse_reverse]
theorem isShp_iff {f s : Int} {d : PyData} (h : isShp f s d = true) : ∃ ns : List Int, d = .tuple (ns.map .int) ∧ (ns.length : Int) = f ∧ (∀ n ∈ ns, 0 ≤ n ∧ n ≤ s) ∧ ns.Pairwise (fun a b => b ≤ a) := by
  cases d with
  | tuple xs =>
    have h : (decide ((xs.length : Int) = f) && xs.all (fun d => inR d 0 s) && fallsB (xs.map unI)) = true := h
    rw [Bool.and_eq_true, Bool.and_eq_true, decide_eq_true_eq] at h
    obtain ⟨⟨h1, h2⟩, h3⟩ := h
    obtain ⟨ns, rfl, hb⟩ := allR_ints h2
    rw [map_unI, falls_pair] at h3
    rw [List.length_map] at h1
    exact ⟨ns, rfl, h1, hb, h3⟩
  | _ => cases h
theorem isShp_of {f s : Int} {ns : List Int} (h1 : (ns.length : Int) = f) (h2 : ∀ n ∈ ns, 0 ≤ n ∧ n ≤ s) (h3 : fallsB ns = true) : isShp f s (.tuple (ns.map .int)) = true := by
  show (decide (((ns.map PyData.int).length : Int) = f) && (ns.map PyData.int).all (fun d => inR d 0 s) && fallsB ((ns.map PyData.int).map unI)) = true
  rw [List.length_map, decide_eq_true h1, allR_of.mpr h2, map_unI, h3]; rfl
theorem rz_get {c : List Int} {g : Int × Int → Int} {i : Nat} {z : Int} (q : (((rgI 0 c.length).zip c).map g)[i]? = some z) : ∃ y, c[i]? = some y ∧ z = g ((i : Int), y) := by
  obtain ⟨x, y, h1, h2, rfl⟩ := zm_get q
  have := (rgI_get h1).1
  exact ⟨y, h2, by rw [this, Int.zero_add]⟩
theorem rz_len (c : List Int) (g : Int × Int → Int) : (((rgI 0 c.length).zip c).map g).length = c.length := by
  rw [List.length_map, List.length_zip, rgI_len]; omega
theorem unshp_ok {f s : Int} {ns : List Int} (h1 : (ns.length : Int) = f) (h2 : ∀ n ∈ ns, 0 ≤ n ∧ n ≤ s) (h3 : ns.Pairwise (fun a b => b ≤ a)) : Ch f s (unshp ns) ∧ shp (unshp ns) = ns := by
  have p2 : ns.reverse.Pairwise (· ≤ ·) := List.pairwise_reverse.mpr h3
  have m2 : ∀ n ∈ ns.reverse, 0 ≤ n ∧ n ≤ s := fun n hn => h2 n (List.mem_reverse.mp hn)
  have l2 : ns.reverse.length = ns.length := List.length_reverse
  constructor
  · unfold unshp
    generalize ns.reverse = r at *
    refine ⟨by rw [rz_len]; omega, fun n hn => ?_, pw_iff.mpr fun i j x y hij q1 q2 => ?_⟩
    · obtain ⟨i, hi⟩ := List.mem_iff_getElem?.mp hn
      obtain ⟨y, e1, rfl⟩ := rz_get hi
      have := m2 y (List.mem_of_getElem? e1)
      have := (List.getElem?_eq_some_iff.mp e1).1
      simp only; omega
    · obtain ⟨u, e1, rfl⟩ := rz_get q1
      obtain ⟨v, e2, rfl⟩ := rz_get q2
      obtain ⟨a1, rfl⟩ := List.getElem?_eq_some_iff.mp e1
      obtain ⟨a2, rfl⟩ := List.getElem?_eq_some_iff.mp e2
      have := (List.pairwise_iff_getElem.mp p2) i j a1 a2 hij
      simp only; omega
  · have key : ∀ r : List Int, ((rgI 0 (((rgI 0 r.length).zip r).map fun p => p.2 + p.1 + 1).length).zip (((rgI 0 r.length).zip r).map fun p => p.2 + p.1 + 1)).map (fun p => p.2 - p.1 - 1) = r := fun r => by
      refine List.ext_getElem (by rw [rz_len, rz_len]) fun i hi hj => ?_
      obtain ⟨y, e1, e2⟩ := rz_get (List.getElem?_eq_getElem hi)
      obtain ⟨w, e3, e4⟩ := rz_get e1
      rw [e2, e4]
      have := (List.getElem?_eq_some_iff.mp e3).2
      rw [this]; simp only; omega
    unfold shp unshp
    rw [key, List.reverse_reverse]
theorem sh_bad {CS : Addr} {CH : Addr} {a b d : PyData} (hs : smallT d) (h1 : okSz a b = true) (h2 : ¬ isShp (unI a) (unI b) d = true) : S_from_shape CS CH [a, b, d] (.x CH) := ⟨_, _, _, rfl, hs, by rw [if_pos h1, if_neg h2]⟩
theorem sh_siz {CS : Addr} {CH : Addr} {a b d : PyData} (hs : smallT d) (h1 : ¬ okSz a b = true) : S_from_shape CS CH [a, b, d] (.x CS) := ⟨_, _, _, rfl, hs, by rw [if_neg h1]⟩
theorem sh_ok {CS : Addr} {CH : Addr} {f s : Int} {d : PyData} (z : Sz f s) (hs : smallT d) (h2 : isShp f s d = true) : S_from_shape CS CH [.int f, .int s, d] (.v (.tuple ((unshp (unTs d)).map .int))) :=
  ⟨_, _, _, rfl, hs, by rw [if_pos (okSz_iff.mpr ⟨f, s, rfl, rfl, z⟩), if_pos (show isShp (unI (.int f)) (unI (.int s)) d = true from h2)]⟩
theorem ish_ok {CS : Addr} {f s : Int} {d : PyData} (z : Sz f s) (hs : smallT d) : S_is_shape CS [.int f, .int s, d] (.v (.bool (isShp f s d))) :=
  ⟨_, _, _, rfl, hs, by rw [if_pos (okSz_iff.mpr ⟨f, s, rfl, rfl, z⟩)]; rfl⟩
theorem ish_siz {CS : Addr} {a b d : PyData} (hs : smallT d) (h1 : ¬ okSz a b = true) : S_is_shape CS [a, b, d] (.x CS) := ⟨_, _, _, rfl, hs, by rw [if_neg h1]⟩
end Rk

namespace Rk
open PySem L2
/-! ### rows -/
def isRow : PyData → Bool
  | .tuple xs => decide (1 ≤ xs.length) && decide (xs.length ≤ 6) && xs.all (fun d => inR d (-999) 999) && decide ((ddI (xs.map unI)).length = (xs.map unI).length)
  | _ => false
def Row (ns : List Int) : Prop := (1 ≤ ns.length ∧ ns.length ≤ 6) ∧ (∀ n ∈ ns, -999 ≤ n ∧ n ≤ 999) ∧ ns.Nodup
theorem isRow_iff {d : PyData} : isRow d = true ↔ ∃ ns : List Int, d = .tuple (ns.map .int) ∧ Row ns := by
  constructor
  · intro h
    cases d with
    | tuple xs =>
      have h : (decide (1 ≤ xs.length) && decide (xs.length ≤ 6) && xs.all (fun d => inR d (-999) 999) && decide ((ddI (xs.map unI)).length = (xs.map unI).length)) = true := h
      simp only [Bool.and_eq_true, decide_eq_true_eq] at h
      obtain ⟨⟨⟨h1, h2⟩, h3⟩, h4⟩ := h
      obtain ⟨ns, rfl, hb⟩ := allR_ints h3
      rw [map_unI] at h4
      rw [List.length_map] at h1 h2
      exact ⟨ns, rfl, ⟨h1, h2⟩, hb, ddI_full.mp h4⟩
    | _ => cases h
  · rintro ⟨ns, rfl, ⟨h1, h2⟩, h3, h4⟩
    show (decide (1 ≤ (ns.map PyData.int).length) && decide ((ns.map PyData.int).length ≤ 6) && (ns.map PyData.int).all (fun d => inR d (-999) 999) && decide ((ddI ((ns.map PyData.int).map unI)).length = ((ns.map PyData.int).map unI).length)) = true
    rw [List.length_map, map_unI, decide_eq_true h1, decide_eq_true h2, allR_of.mpr h3, decide_eq_true (ddI_full.mpr h4)]; rfl
def S_is_row : List PyData → Rs → Prop := fun ds r => ∃ d, ds = [d] ∧ smallT d ∧ r = .v (.bool (isRow d))
def waI (a b : List Int) (sh : Int) : Int := (a.map fun n => ((b.filter fun m => decide (sh < n - m)).length : Int)).sum
def S_wins_after : List PyData → Rs → Prop := fun ds r => ∃ (a b : List Int) (sh : Int), ds = [.tuple (a.map .int), .tuple (b.map .int), .int sh] ∧ a.length ≤ 1000 ∧ b.length ≤ 1000 ∧ r = .v (.int (waI a b sh))
def S_wins_at (CR CN : Addr) : List PyData → Rs → Prop := fun ds r => ∃ d e s, ds = [d, e, s] ∧ smallT d ∧ smallT e ∧ r = if isRow d && isRow e then (if inR s (-9999) 9999 then .v (.int (waI (unTs d) (unTs e) (unI s))) else .x CN) else .x CR
def dfU (a b : List Int) : List Int := a.flatMap fun n => b.map fun m => n - m
def dfI (a b : List Int) : List Int := sortI (dfU a b)
theorem dfU_len (a b : List Int) : (dfU a b).length = a.length * b.length := by
  unfold dfU
  induction a with
  | nil => simp
  | cons x a ih => rw [List.flatMap_cons, List.length_append, ih, List.length_map, List.length_cons, Nat.succ_mul]; omega
theorem dfI_len (a b : List Int) : (dfI a b).length = a.length * b.length := by unfold dfI; rw [(sortI_perm _).length_eq, dfU_len]
def S_differences_of : List PyData → Rs → Prop := fun ds r => ∃ (a b : List Int), ds = [.tuple (a.map .int), .tuple (b.map .int)] ∧ a.length ≤ 6 ∧ b.length ≤ 6 ∧ r = .v (.list ((dfI a b).map .int))
def S_rows (CR : Addr) (g : List Int → List Int → PyData) : List PyData → Rs → Prop := fun ds r => ∃ d e, ds = [d, e] ∧ smallT d ∧ smallT e ∧ r = if isRow d && isRow e then .v (g (unTs d) (unTs e)) else .x CR
abbrev S_check_rows (CR : Addr) := S_rows CR fun _ _ => .none
abbrev S_differences (CR : Addr) := S_rows CR fun a b => .list ((dfI a b).map .int)
def midI (l : List Int) : Int := l.getD ((l.length - 1) / 2) 0 + l.getD (l.length / 2) 0
abbrev S_middle_shift (CR : Addr) := S_rows CR fun a b => .int (midI (dfI a b))
theorem small_row {ns : List Int} (h : Row ns) : smallT (.tuple (ns.map .int)) := by
  show (ns.map PyData.int).length ≤ 1000
  rw [List.length_map]; have := h.1; omega
theorem rows_ok {CR : Addr} {g : List Int → List Int → PyData} {a b : List Int} (ha : Row a) (hb : Row b) : S_rows CR g [.tuple (a.map .int), .tuple (b.map .int)] (.v (g a b)) :=
  ⟨_, _, rfl, small_row ha, small_row hb, by rw [if_pos (by rw [isRow_iff.mpr ⟨a, rfl, ha⟩, isRow_iff.mpr ⟨b, rfl, hb⟩]; rfl), unTs_ints, unTs_ints]⟩
theorem rows_bad {CR : Addr} {g : List Int → List Int → PyData} {d e : PyData} (hd : smallT d) (he : smallT e) (h : ¬ (isRow d && isRow e) = true) : S_rows CR g [d, e] (.x CR) := ⟨_, _, rfl, hd, he, by rw [if_neg h]⟩
end Rk

namespace Rk
open PySem L2
/-! ### drawn rows -/
def numX (ns : List Int) (at_ : Int) (t : Nat) : Int := (drw ns at_).getD (1 + t) 0 % 30 - 9
def numSt (ns : List Int) (at_ : Int) : Nat → List Int
  | 0 => []
  | t + 1 => if numX ns at_ t ∈ numSt ns at_ t then numSt ns at_ t else numSt ns at_ t ++ [numX ns at_ t]
theorem numSt_ok (ns : List Int) (at_ : Int) : ∀ t, (numSt ns at_ t).Nodup ∧ (∀ n ∈ numSt ns at_ t, -9 ≤ n ∧ n ≤ 20) ∧ (numSt ns at_ t).length ≤ t ∧ (1 ≤ t → 1 ≤ (numSt ns at_ t).length)
  | 0 => ⟨.nil, by simp [numSt], Nat.le_refl _, fun h => by omega⟩
  | t + 1 => by
    obtain ⟨h1, h2, h3, h4⟩ := numSt_ok ns at_ t
    unfold numSt
    split
    · rename_i h
      exact ⟨h1, h2, by omega, fun _ => List.length_pos_of_mem h⟩
    · rename_i h
      refine ⟨List.nodup_append.mpr ⟨h1, by simp, fun a ha b hb e => ?_⟩, fun n hn => ?_, by simp; omega, fun _ => by simp⟩
      · rw [List.mem_singleton.mp hb] at e
        exact h (e ▸ ha)
      · rcases List.mem_append.mp hn with q | q
        · exact h2 n q
        · rw [List.mem_singleton.mp q]; unfold numX; omega
def nums (ns : List Int) (at_ : Int) : List Int := numSt ns at_ (1 + (drw ns at_).getD 0 0 % 6).toNat
theorem nums_ok (ns : List Int) (at_ : Int) : Row (nums ns at_) ∧ ∀ n ∈ nums ns at_, -9 ≤ n ∧ n ≤ 20 := by
  obtain ⟨h1, h2, h3, h4⟩ := numSt_ok ns at_ (1 + (drw ns at_).getD 0 0 % 6).toNat
  have h4 := h4 (by omega)
  exact ⟨⟨⟨h4, Nat.le_trans h3 (by omega)⟩, fun n hn => by have := h2 n hn; omega, h1⟩, h2⟩
def S_numbers : List PyData → Rs → Prop := fun ds r => ∃ (ns : List Int) (at_ : Int), ds = [scrD ns, .int at_] ∧ 0 ≤ at_ ∧ r = .v (.tuple ((nums ns at_).map .int))
/-! differences and wins -/
theorem waI_df (sh : Int) : ∀ (a b : List Int), waI a b sh = (((dfU a b).filter fun p => decide (sh < p)).length : Int)
  | [], b => rfl
  | x :: a, b => by
    have ih := waI_df sh a b
    unfold waI dfU at *
    rw [List.map_cons, List.sum_cons, ih, List.flatMap_cons, List.filter_append, List.length_append, List.filter_map, List.length_map, Int.natCast_add]
    rfl
theorem waI_dfI (a b : List Int) (sh : Int) : waI a b sh = (((dfI a b).filter fun p => decide (sh < p)).length : Int) := by
  rw [waI_df]
  unfold dfI
  rw [((sortI_perm (dfU a b)).filter _).length_eq]
theorem dfU_move (st : Int) : ∀ (a b : List Int), dfU (a.map fun n => n + st) b = (dfU a b).map fun p => p + st
  | [], b => rfl
  | x :: a, b => by
    have ih := dfU_move st a b
    unfold dfU at *
    rw [List.map_cons, List.flatMap_cons, List.flatMap_cons, ih, List.map_append, List.map_map]
    congr 1
    refine List.map_congr_left fun m _ => ?_
    show x + st - m = x - m + st
    omega
theorem dfI_move (a b : List Int) (st : Int) : dfI (a.map fun n => n + st) b = (dfI a b).map fun p => p + st := by
  unfold dfI
  rw [dfU_move]
  symm
  exact sortI_of (List.pairwise_map.mpr ((sortI_rises _).imp fun h => by omega)) ((sortI_perm _).map _)
theorem waI_move (a b : List Int) (sh st : Int) : waI (a.map fun n => n + st) b (sh + st) = waI a b sh := by
  rw [waI_df, waI_df, dfU_move, List.filter_map, List.length_map]
  congr 3
  funext p
  show decide (sh + st < p + st) = decide (sh < p)
  exact decide_eq_decide.mpr (by omega)
theorem row_move {a : List Int} (h : Row a) (hb : ∀ n ∈ a, -9 ≤ n ∧ n ≤ 20) {st : Int} (h1 : -100 ≤ st) (h2 : st ≤ 100) : Row (a.map fun n => n + st) := by
  obtain ⟨⟨a1, a2⟩, _, a4⟩ := h
  refine ⟨by rw [List.length_map]; exact ⟨a1, a2⟩, fun n hn => ?_, List.pairwise_map.mpr (a4.imp fun h e => h (by omega))⟩
  obtain ⟨m, hm, rfl⟩ := List.mem_map.mp hn
  have := hb m hm
  omega
end Rk
namespace Rk
open PySem L2
def sbD (a b : List Int) (e0 e1 : Int) : PyData :=
  if ln a.length b.length e0 e1 < (cnt a.length b.length).length then
    (if 0 < ln a.length b.length e0 e1 ∧ (dfI a b).getD ((dfI a b).length - ln a.length b.length e0 e1) 0 ≤ (dfI a b).getD (ln a.length b.length e0 e1 - 1) 0 then .tuple [.int ((dfI a b).getD ((dfI a b).length - ln a.length b.length e0 e1) 0), .int ((dfI a b).getD (ln a.length b.length e0 e1 - 1) 0)] else .none)
  else .tuple [.none, .none]
def S_shift_bounds (CR CE : Addr) : List PyData → Rs → Prop := fun ds r => ∃ d e x, ds = [d, e, x] ∧ smallT d ∧ smallT e ∧ r = if isRow d && isRow e then (if okErr x then .v (sbD (unTs d) (unTs e) (un0 x) (un1 x)) else .x CE) else .x CR
def S_double_bad (CR : Addr) : List PyData → Rs → Prop := fun ds r => ∃ d e, ds = [d, e] ∧ smallT d ∧ smallT e ∧ ¬ (isRow d && isRow e) = true ∧ r = .x CR
theorem row_sz {a b : List Int} (ha : Row a) (hb : Row b) : Sz (a.length : Int) (b.length : Int) := ⟨⟨by have := ha.1; omega, by have := ha.1; omega⟩, by have := hb.1; omega, by have := hb.1; omega⟩
end Rk
namespace Rk
open PySem L2
section
variable {CR CN CE : Addr} {d e x : PyData} {a b : List Int} {sh e0 e1 : Int}
theorem wa_ok (ha : Row a) (hb : Row b) (h : -9999 ≤ sh ∧ sh ≤ 9999) : S_wins_at CR CN [.tuple (a.map .int), .tuple (b.map .int), .int sh] (.v (.int (waI a b sh))) :=
  ⟨_, _, _, rfl, small_row ha, small_row hb, by rw [if_pos (by rw [isRow_iff.mpr ⟨a, rfl, ha⟩, isRow_iff.mpr ⟨b, rfl, hb⟩]; rfl), if_pos (inR_i.mpr h), unTs_ints, unTs_ints]; rfl⟩
theorem wa_row (hd : smallT d) (he : smallT e) (h : ¬ (isRow d && isRow e) = true) : S_wins_at CR CN [d, e, x] (.x CR) := ⟨_, _, _, rfl, hd, he, by rw [if_neg h]⟩
theorem wa_num (hd : smallT d) (he : smallT e) (h : (isRow d && isRow e) = true) (h2 : inR x (-9999) 9999 = false) : S_wins_at CR CN [d, e, x] (.x CN) := ⟨_, _, _, rfl, hd, he, by rw [if_pos h, if_neg (by rw [h2]; decide)]⟩
theorem sb_row (hd : smallT d) (he : smallT e) (h : ¬ (isRow d && isRow e) = true) : S_shift_bounds CR CE [d, e, x] (.x CR) := ⟨_, _, _, rfl, hd, he, by rw [if_neg h]⟩
theorem sb_err (hd : smallT d) (he : smallT e) (h : (isRow d && isRow e) = true) (h2 : okErr x = false) : S_shift_bounds CR CE [d, e, x] (.x CE) := ⟨_, _, _, rfl, hd, he, by rw [if_pos h, if_neg (by rw [h2]; decide)]⟩
theorem sb_ok (ha : Row a) (hb : Row b) (h : okErr x = true) : S_shift_bounds CR CE [.tuple (a.map .int), .tuple (b.map .int), x] (.v (sbD a b (un0 x) (un1 x))) :=
  ⟨_, _, _, rfl, small_row ha, small_row hb, by rw [if_pos (by rw [isRow_iff.mpr ⟨a, rfl, ha⟩, isRow_iff.mpr ⟨b, rfl, hb⟩]; rfl), if_pos h, unTs_ints, unTs_ints]⟩
end
def S_shifted : List PyData → Rs → Prop := fun ds r => ∃ (m : Int) (d e x : PyData), ds = [.int m, d, e, x] ∧ (0 ≤ m ∧ m ≤ 4) ∧ smallT d ∧ smallT e ∧
  ((¬ (isRow d && isRow e) = true ∧ r = .v (.str "rows")) ∨ (m = 1 ∧ (isRow d && isRow e) = true ∧ inR x (-9999) 9999 = false ∧ r = .v (.str "number")) ∨ (m = 3 ∧ (isRow d && isRow e) = true ∧ okErr x = false ∧ r = .v (.str "error")))
end Rk

namespace Rk
open PySem L2
/-! ### way, where it raises -/
def S_way_bad (CC CB : Addr) : List PyData → Rs → Prop := fun ds r => ∃ a b d e, ds = [a, b, d, e] ∧ smallT d ∧ smallT e ∧ okSz a b = true ∧
  ((¬ (isCh (unI a) (unI b) d && isCh (unI a) (unI b) e) = true ∧ r = .x CC) ∨ ((isCh (unI a) (unI b) d && isCh (unI a) (unI b) e) = true ∧ belI (unTs d) (unTs e) = false ∧ r = .x CB))
end Rk
namespace Rk
open PySem L2
theorem GoS.post {X : Cx} {W : WX} {env env1 env2 : List Sl} {st : Stmt} (h : GoS X W env st (.nx env1)) (w : Wk env1 env2) : GoS X W env st (.nx env2) := ⟨fun Hf Hb σ H0 H k D q => h.run Hf Hb σ H0 H k D fun σ' H0' H' k' => q σ' H0' H' (k'.weak w)⟩
theorem map_int_inj : ∀ {a b : List Int}, a.map PyData.int = b.map PyData.int → a = b
  | [], [], _ => rfl
  | [], _ :: _, h => by cases h
  | _ :: _, [], h => by cases h
  | x :: a, y :: b, h => by
    rw [List.map_cons, List.map_cons] at h
    injection h with h1 h2
    rw [map_int_inj h2]
    injection h1 with h1
    rw [h1]
end Rk
namespace Rk
open PySem L2
theorem GoS.is {X : Cx} {W : WX} {env : List Sl} {st : Stmt} {o o' : Out} (h : GoS X W env st o) (q : o = o') : GoS X W env st o' := q ▸ h
end Rk

namespace Rk
open PySem L2
/-! ### slices of tuples of ints -/
theorem cutD_to {α : Type} (xs : List α) (i : Nat) : cutD xs none (some (i : Int)) = xs.take i := by
  unfold cutD
  rw [HT.sIx_none, HT.sIx_nat]
  by_cases h : i ≤ xs.length
  · rw [Nat.min_eq_left h]; simp
  · rw [Nat.min_eq_right (by omega)]; simp
    rw [List.take_of_length_le (by omega)]
theorem cutD_fromN {α : Type} (xs : List α) (i : Nat) : cutD xs (some (i : Int)) none = xs.drop i := by
  unfold cutD
  rw [HT.sIx_none, HT.sIx_nat]
  by_cases h : i ≤ xs.length
  · rw [Nat.min_eq_left h]
    rw [List.take_of_length_le (by rw [List.length_drop]; omega)]
  · rw [Nat.min_eq_right (by omega), List.drop_of_length_le (Nat.le_refl _), List.drop_of_length_le (by omega)]; simp
theorem slT_to {c : List Int} {i : Nat} : slD (.tuple (c.map .int)) none (some (i : Int)) = some (.tuple ((c.take i).map .int)) := by
  show some (PyData.tuple (cutD (c.map PyData.int) none (some (i : Int)))) = _
  rw [cutD_to, List.map_take]
theorem slT_fr {c : List Int} {i : Nat} : slD (.tuple (c.map .int)) (some ((i : Int) + 1)) none = some (.tuple ((c.drop (i + 1)).map .int)) := by
  show some (PyData.tuple (cutD (c.map PyData.int) (some ((i + 1 : Nat) : Int)) none)) = _
  rw [cutD_fromN, List.map_drop]
/-! ### steps -/
def upAt (c : List Int) (i : Nat) : List Int := c.take i ++ [c.getD i 0 + 1] ++ c.drop (i + 1)
def stepsL (f s : Int) (c : List Int) (t : Nat) : List (List Int) := ((List.range t).map (upAt c)).filter fun d => isCh f s (tI d)
def raisedI (f s : Int) (c : List Int) : List (List Int) := sortT (stepsL f s c c.length)
abbrev S_raised (CS CC : Addr) := S_cc CS CC fun f s c => .list ((raisedI f s c).map tI)
theorem stepsL_succ (f s : Int) (c : List Int) (t : Nat) : stepsL f s c (t + 1) = stepsL f s c t ++ if isCh f s (tI (upAt c t)) = true then [upAt c t] else [] := by
  unfold stepsL
  rw [List.range_succ, List.map_append, List.filter_append]
  congr 1
  show [upAt c t].filter _ = _
  rw [List.filter_cons]; simp
theorem stepsL_len (f s : Int) (c : List Int) (t : Nat) : (stepsL f s c t).length ≤ t := by
  unfold stepsL
  refine Nat.le_trans (List.length_filter_le _ _) ?_
  simp
theorem upAt_len {c : List Int} {i : Nat} (h : i < c.length) : (upAt c i).length = c.length := by
  unfold upAt
  simp; omega
/-! ### texts of choices -/
def txtL (f s : Int) (c : List Int) : List Str := (rgI 1 (f + s + 1)).map fun r => if r ∈ c then "a" else "b"
def txtI (f s : Int) (c : List Int) : Str := Txt.join "" (txtL f s c)
theorem txt_sum : ∀ {ys : List Str}, (∀ y ∈ ys, y.length ≤ 1) → (ys.map (·.length)).sum ≤ ys.length
  | [], _ => Nat.le_refl _
  | y :: ys, h => by
    have := txt_sum (ys := ys) fun z hz => h z (List.mem_cons_of_mem _ hz)
    have := h y List.mem_cons_self
    simp only [List.map_cons, List.sum_cons, List.length_cons]; omega
theorem txtL_bd {f s : Int} (z : Sz f s) (c : List Int) : ((txtL f s c).map (·.length)).sum + (txtL f s c).length * (Str.length "") ≤ 16777216 := by
  have h1 := txt_sum (ys := txtL f s c) fun y hy => by
    obtain ⟨r, _, rfl⟩ := List.mem_map.mp hy
    split <;> decide
  have h2 : (txtL f s c).length ≤ 12 := by unfold txtL; rw [List.length_map, rgI_len]; have := z.1; have := z.2; omega
  have h3 : (Str.length "") = 0 := by decide
  rw [h3]; omega
def S_text_of : List PyData → Rs → Prop := fun ds r => ∃ (f s : Int) (c : List Int), ds = [.int f, .int s, .tuple (c.map .int)] ∧ Sz f s ∧ r = .v (.str (txtI f s c))
abbrev S_format_choice (CS CC : Addr) := S_cc CS CC fun f s c => .str (txtI f s c)
theorem txtL_map (f s : Int) (c : List Int) : ((rgI 1 (f + s + 1)).map fun y => if decide (y ∈ c) = true then PyData.str "a" else .str "b") = (txtL f s c).map .str := by
  unfold txtL
  rw [List.map_map]
  refine List.map_congr_left fun y _ => ?_
  show _ = PyData.str (if y ∈ c then "a" else "b")
  by_cases h : y ∈ c
  · rw [if_pos h, if_pos (decide_eq_true h)]
  · rw [if_neg h, if_neg (by rw [decide_eq_false h]; decide)]
/-! ### the law's own choices -/
def flatT : PyData → Prop
  | .tuple xs => xs.all flatE = true
  | _ => True
theorem dd_rises {ns : List Int} : ns = sortI (ddI ns) ↔ ns.Pairwise (· < ·) := by
  constructor
  · intro h
    rw [h]
    exact lt_of_le_nodup (sortI_rises _) ((sortI_perm _).nodup_iff.mpr (ddI_nodup ns))
  · intro h
    have nd : ns.Nodup := h.imp fun h => by omega
    refine sortI_of (h.imp fun h => by omega) ?_
    exact (List.perm_ext_iff_of_nodup nd (ddI_nodup ns)).mpr fun x => ddI_mem.symm
def S_lisch : List PyData → Rs → Prop := fun ds r => ∃ f s d, ds = [.int f, .int s, d] ∧ f ≤ 50 ∧ smallT d ∧ flatT d ∧ r = .v (.bool (isCh f s d))
end Rk

namespace Rk
open PySem L2
/-! ### tables of choices with numbers -/
abbrev Tb := List (List Int × Int)
def lookT (d : Tb) (k : List Int) : Option Int := (d.find? fun p => decide (p.1 = k)).map (·.2)
def putT (d : Tb) (k : List Int) (v : Int) : Tb := if (d.any fun p => decide (p.1 = k)) = true then d.map (fun p => if p.1 = k then (p.1, v) else p) else d ++ [(k, v)]
def addT (d : Tb) (k : List Int) (v : Int) : Tb := putT d k ((lookT d k).getD 0 + v)
def sumT (d : Tb) (h : List Int → Int) : Int := (d.map fun p => p.2 * h p.1).sum
def keysT (d : Tb) : List (List Int) := d.map (·.1)
theorem any_key {d : Tb} {k : List Int} : (d.any fun p => decide (p.1 = k)) = true ↔ k ∈ keysT d := by
  unfold keysT
  rw [List.any_eq_true, List.mem_map]
  constructor
  · rintro ⟨p, h1, h2⟩; exact ⟨p, h1, of_decide_eq_true h2⟩
  · rintro ⟨p, h1, h2⟩; exact ⟨p, h1, decide_eq_true h2⟩
theorem put_keys (d : Tb) (k : List Int) (v : Int) : keysT (putT d k v) = if k ∈ keysT d then keysT d else keysT d ++ [k] := by
  unfold putT
  by_cases h : k ∈ keysT d
  · rw [if_pos (any_key.mpr h), if_pos h]
    unfold keysT
    rw [List.map_map]
    refine List.map_congr_left fun p _ => ?_
    show (if p.1 = k then (p.1, v) else p).1 = p.1
    split <;> rfl
  · rw [if_neg (fun z => h (any_key.mp z)), if_neg h]
    unfold keysT
    rw [List.map_append]; rfl
theorem put_nodup {d : Tb} (h : (keysT d).Nodup) (k : List Int) (v : Int) : (keysT (putT d k v)).Nodup := by
  rw [put_keys]
  split
  · exact h
  · rename_i q
    rw [List.nodup_append]
    refine ⟨h, by simp, fun a ha b hb e => ?_⟩
    rw [List.mem_singleton] at hb
    exact q (by rw [← hb, ← e]; exact ha)
theorem put_ne {p : List Int × Int} {d : Tb} {k : List Int} (h : ¬ p.1 = k) (v : Int) : putT (p :: d) k v = p :: putT d k v := by
  unfold putT
  rw [List.any_cons, decide_eq_false h, Bool.false_or, List.map_cons, if_neg h]
  split <;> rfl
theorem look_ne {p : List Int × Int} {d : Tb} {k : List Int} (h : ¬ p.1 = k) : lookT (p :: d) k = lookT d k := by
  unfold lookT
  rw [List.find?_cons, decide_eq_false h]
theorem look_eq {p : List Int × Int} {d : Tb} {k : List Int} (h : p.1 = k) : lookT (p :: d) k = some p.2 := by
  unfold lookT
  rw [List.find?_cons, decide_eq_true h]; rfl
theorem add_sum {h : List Int → Int} {k : List Int} {v : Int} : ∀ {d : Tb}, (keysT d).Nodup → sumT (addT d k v) h = sumT d h + v * h k
  | [], _ => by
    show sumT [(k, 0 + v)] h = _
    unfold sumT
    simp
  | p :: d, nd => by
    have nd' : (p.1 :: keysT d).Nodup := nd
    rw [List.nodup_cons] at nd'
    by_cases e : p.1 = k
    · unfold addT
      rw [look_eq e]
      unfold putT
      rw [if_pos (by rw [List.any_cons, decide_eq_true e]; rfl), List.map_cons, if_pos e]
      have e2 : d.map (fun q => if q.1 = k then (q.1, (some p.2).getD 0 + v) else q) = d := by
        have : ∀ q ∈ d, (if q.1 = k then (q.1, (some p.2).getD 0 + v) else q) = id q := fun q hq => by
          rw [if_neg]; · rfl
          intro z
          exact nd'.1 (by rw [e, ← z]; exact List.mem_map.mpr ⟨q, hq, rfl⟩)
        rw [List.map_congr_left this, List.map_id]
      rw [e2]
      unfold sumT
      rw [List.map_cons, List.map_cons, List.sum_cons, List.sum_cons]
      show ((some p.2).getD 0 + v) * h p.1 + _ = _
      rw [e]
      show (p.2 + v) * h k + _ = _
      rw [Int.add_mul]; omega
    · have ih := add_sum (h := h) (k := k) (v := v) nd'.2
      unfold addT at ih ⊢
      rw [look_ne e, put_ne e]
      unfold sumT at ih ⊢
      rw [List.map_cons, List.map_cons, List.sum_cons, List.sum_cons, ih]; omega
/-- one level -/
def addAll (d : Tb) (ms : List (List Int)) (v : Int) : Tb := ms.foldl (fun d m => addT d m v) d
def lvG (R : List Int → List (List Int)) (d : Tb) (l : Tb) : Tb := l.foldl (fun d p => addAll d (R p.1) p.2) d
def lvN (R : List Int → List (List Int)) (one : List Int) : Nat → Tb
  | 0 => [(one, 1)]
  | n + 1 => lvG R [] (lvN R one n)
def Tn (R : List Int → List (List Int)) (o : List Int) : Nat → List Int → Int
  | 0, c => if c = o then 1 else 0
  | n + 1, c => ((R c).map (Tn R o n)).sum
theorem addAll_nodup {v : Int} : ∀ {ms : List (List Int)} {d : Tb}, (keysT d).Nodup → (keysT (addAll d ms v)).Nodup
  | [], _, h => h
  | m :: ms, d, h => addAll_nodup (ms := ms) (put_nodup h m _)
theorem addAll_sum {h : List Int → Int} {v : Int} : ∀ {ms : List (List Int)} {d : Tb}, (keysT d).Nodup → sumT (addAll d ms v) h = sumT d h + v * (ms.map h).sum
  | [], d, _ => by show sumT d h = _; simp
  | m :: ms, d, nd => by
    have := addAll_sum (h := h) (v := v) (ms := ms) (d := addT d m v) (put_nodup nd m _)
    show sumT (addAll (addT d m v) ms v) h = _
    rw [this, add_sum nd, List.map_cons, List.sum_cons, Int.mul_add]; omega
theorem lvG_nodup {R : List Int → List (List Int)} : ∀ {l d : Tb}, (keysT d).Nodup → (keysT (lvG R d l)).Nodup
  | [], _, h => h
  | p :: l, d, h => lvG_nodup (l := l) (addAll_nodup h)
theorem lvG_sum {R : List Int → List (List Int)} {h : List Int → Int} : ∀ {l d : Tb}, (keysT d).Nodup → sumT (lvG R d l) h = sumT d h + sumT l fun c => ((R c).map h).sum
  | [], d, _ => by show sumT d h = sumT d h + 0; omega
  | p :: l, d, nd => by
    have := lvG_sum (R := R) (h := h) (l := l) (d := addAll d (R p.1) p.2) (addAll_nodup nd)
    show sumT (lvG R (addAll d (R p.1) p.2) l) h = _
    rw [this, addAll_sum nd]
    show _ = sumT d h + (((p :: l).map fun p => p.2 * ((R p.1).map h).sum).sum)
    rw [List.map_cons, List.sum_cons]
    show _ + sumT l _ = sumT d h + (_ + sumT l fun c => ((R c).map h).sum)
    omega
theorem lvN_nodup (R : List Int → List (List Int)) (one : List Int) : ∀ n, (keysT (lvN R one n)).Nodup
  | 0 => by simp [lvN, keysT]
  | n + 1 => lvG_nodup (by simp [keysT])
theorem lvN_sum (R : List Int → List (List Int)) (one o : List Int) : ∀ n m, sumT (lvN R one n) (Tn R o m) = Tn R o (n + m) one
  | 0, m => by simp [lvN, sumT]
  | n + 1, m => by
    show sumT (lvG R [] (lvN R one n)) _ = _
    rw [lvG_sum (by simp [keysT])]
    have := lvN_sum R one o n (m + 1)
    rw [show n + 1 + m = n + (m + 1) by omega, ← this]
    show 0 + _ = _
    rw [Int.zero_add]; rfl
theorem look_sum (o : List Int) : ∀ {d : Tb}, (keysT d).Nodup → (lookT d o).getD 0 = sumT d fun c => if c = o then 1 else 0
  | [], _ => rfl
  | p :: d, nd => by
    have nd' : (p.1 :: keysT d).Nodup := nd
    rw [List.nodup_cons] at nd'
    have ih := look_sum o nd'.2
    unfold sumT at ih ⊢
    rw [List.map_cons, List.sum_cons, ← ih]
    show _ = p.2 * (if p.1 = o then 1 else 0) + _
    by_cases e : p.1 = o
    · rw [look_eq e, if_pos e]
      have : lookT d o = none := by
        unfold lookT
        rw [Option.map_eq_none_iff, List.find?_eq_none]
        intro q hq z
        exact nd'.1 (by rw [e, ← of_decide_eq_true z]; exact List.mem_map.mpr ⟨q, hq, rfl⟩)
      rw [this]
      simp
    · rw [look_ne e, if_neg e]; simp
theorem count_T (R : List Int → List (List Int)) (one o : List Int) (n : Nat) : (lookT (lvN R one n) o).getD 0 = Tn R o n one := by
  rw [look_sum o (lvN_nodup R one n)]
  exact lvN_sum R one o n 0
theorem look_mem {d : Tb} {p : List Int × Int} (nd : (keysT d).Nodup) (h : p ∈ d) : lookT d p.1 = some p.2 := by
  induction d with
  | nil => cases h
  | cons q d ih =>
    have nd' : (q.1 :: keysT d).Nodup := nd
    rw [List.nodup_cons] at nd'
    rcases List.mem_cons.mp h with rfl | h
    · exact look_eq rfl
    · rw [look_ne]
      · exact ih nd'.2 h
      · intro z
        exact nd'.1 (by rw [z]; exact List.mem_map.mpr ⟨p, h, rfl⟩)
/-- steps up -/
theorem Tn_nn {R : List Int → List (List Int)} {o : List Int} : ∀ n c, 0 ≤ Tn R o n c
  | 0, c => by unfold Tn; split <;> decide
  | n + 1, c => by
    unfold Tn
    have : ∀ l : List (List Int), 0 ≤ (l.map (Tn R o n)).sum := fun l => by
      induction l with
      | nil => exact Int.le_refl 0
      | cons x l ih => rw [List.map_cons, List.sum_cons]; have := Tn_nn (R := R) (o := o) n x; omega
    exact this _
theorem Tn_pos {R : List Int → List (List Int)} {o c m : List Int} {n : Nat} (h : m ∈ R c) (hp : 1 ≤ Tn R o n m) : 1 ≤ Tn R o (n + 1) c := by
  unfold Tn
  have : ∀ l : List (List Int), m ∈ l → 1 ≤ (l.map (Tn R o n)).sum := fun l hl => by
    induction l with
    | nil => cases hl
    | cons x l ih =>
      have h0 : 0 ≤ (l.map (Tn R o n)).sum := by
        clear ih hl
        induction l with
        | nil => exact Int.le_refl 0
        | cons y l ih => rw [List.map_cons, List.sum_cons]; have := Tn_nn (R := R) (o := o) n y; omega
      rw [List.map_cons, List.sum_cons]
      have := Tn_nn (R := R) (o := o) n x
      rcases List.mem_cons.mp hl with rfl | hl
      · omega
      · have := ih hl; omega
  exact this _ h
theorem perm_sum {a b : List Int} (p : a.Perm b) : a.sum = b.sum := by
  induction p with
  | nil => rfl
  | cons x _ ih => rw [List.sum_cons, List.sum_cons, ih]
  | swap x y l => simp only [List.sum_cons]; omega
  | trans _ _ h1 h2 => exact h1.trans h2
/-- the steps that lead past o count nothing -/
theorem Tn_cut {R : List Int → List (List Int)} {o : List Int} (B : List Int → Bool) (h0 : B o = true) (hB : ∀ c m, m ∈ R c → B m = true → B c = true) (R' : List Int → List (List Int)) (hR : ∀ c, (R' c).Perm ((R c).filter B)) :
    ∀ n c, (B c = false → Tn R o n c = 0) ∧ Tn R' o n c = Tn R o n c
  | 0, c => ⟨(fun h => by
      unfold Tn
      rw [if_neg]
      intro e; rw [e, h0] at h; cases h), rfl⟩
  | n + 1, c => by
    have ih := Tn_cut B h0 hB R' hR n
    refine ⟨fun h => ?_, ?_⟩
    · unfold Tn
      have : ∀ m ∈ R c, Tn R o n m = 0 := fun m hm => (ih m).1 (by
        cases q : B m with
        | false => rfl
        | true => rw [hB c m hm q] at h; cases h)
      have hs : ∀ l : List (List Int), (∀ m ∈ l, Tn R o n m = 0) → (l.map (Tn R o n)).sum = 0 := fun l hl => by
        induction l with
        | nil => rfl
        | cons x l ih => rw [List.map_cons, List.sum_cons, hl x List.mem_cons_self, ih fun m hm => hl m (List.mem_cons_of_mem _ hm)]; rfl
      exact hs _ this
    · unfold Tn
      have e1 : ((R' c).map (Tn R' o n)).sum = (((R c).filter B).map (Tn R o n)).sum := by
        rw [show Tn R' o n = Tn R o n from funext fun m => (ih m).2]
        exact perm_sum ((hR c).map _)
      rw [e1]
      have hs : ∀ l : List (List Int), ((l.filter B).map (Tn R o n)).sum = (l.map (Tn R o n)).sum := fun l => by
        induction l with
        | nil => rfl
        | cons x l ihl =>
          rw [List.filter_cons]
          cases q : B x with
          | true => rw [if_pos rfl, List.map_cons, List.sum_cons, ihl, List.map_cons, List.sum_cons]
          | false => rw [if_neg (by decide), ihl, List.map_cons, List.sum_cons, (ih x).1 q, Int.zero_add]
      exact hs _
/-! ### a way -/
def wv (one other : List Int) (p : Nat) (x : Int) : List Int := one.take p ++ x :: other.drop (p + 1)
def wyI (one other : List Int) (p j : Nat) : List (List Int) := (List.range j).map fun (t : Nat) => wv one other p (one.getD p 0 + t + 1)
def wayL (one other : List Int) : Nat → List (List Int)
  | 0 => [one]
  | k + 1 => wayL one other k ++ wyI one other (one.length - 1 - k) (other.getD (one.length - 1 - k) 0 - one.getD (one.length - 1 - k) 0).toNat
theorem wyI_succ (one other : List Int) (p j : Nat) : wyI one other p (j + 1) = wyI one other p j ++ [wv one other p (one.getD p 0 + j + 1)] := by
  unfold wyI
  rw [List.range_succ, List.map_append]; rfl
theorem getD_w {c : List Int} {p : Nat} (h : p < c.length) : c.getD p 0 = c[p] := by
  rw [List.getD_eq_getElem?_getD, List.getElem?_eq_getElem h]; rfl
theorem wv_at {one other : List Int} {p : Nat} (x : Int) (h : p < one.length) : (wv one other p x).getD p 0 = x := by
  unfold wv
  rw [List.getD_eq_getElem?_getD, List.getElem?_append_right (by rw [List.length_take]; omega), List.length_take, Nat.min_eq_left (by omega), Nat.sub_self]; rfl
theorem upAt_wv {one other : List Int} {p : Nat} (x : Int) (h : p < one.length) : upAt (wv one other p x) p = wv one other p (x + 1) := by
  unfold upAt
  rw [wv_at x h]
  unfold wv
  have l : (one.take p).length = p := by rw [List.length_take]; omega
  rw [List.take_append_of_le_length (by omega), List.take_of_length_le (by omega), List.drop_append, l, show p + 1 - p = 1 by omega, List.drop_of_length_le (by omega)]
  simp
theorem wv_lo {one other : List Int} {p : Nat} (h : p < one.length) : wv one other p (one.getD p 0) = one.take (p + 1) ++ other.drop (p + 1) := by
  unfold wv
  rw [List.take_succ_eq_append_getElem h, getD_w h, List.append_assoc]; rfl
theorem wv_hi {one other : List Int} {p : Nat} (h : p < other.length) : wv one other p (other.getD p 0) = one.take p ++ other.drop p := by
  unfold wv
  rw [List.drop_eq_getElem_cons h, getD_w h]
theorem wv_len {one other : List Int} (hl : one.length = other.length) {p : Nat} (x : Int) (h : p < one.length) : (wv one other p x).length = one.length := by
  unfold wv
  rw [List.length_append, List.length_take, List.length_cons, List.length_drop]; omega
theorem wv_ch {f s : Int} {one other : List Int} (h1 : Ch f s one) (h2 : Ch f s other) {p : Nat} {x : Int} (hp : p < one.length) (x1 : one.getD p 0 ≤ x) (x2 : x ≤ other.getD p 0) : Ch f s (wv one other p x) := by
  obtain ⟨a1, a2, a3⟩ := h1
  obtain ⟨b1, b2, b3⟩ := h2
  have hl : one.length = other.length := by omega
  have hp2 : p < other.length := by omega
  rw [getD_w hp] at x1
  rw [getD_w hp2] at x2
  have m1 := a2 one[p] (List.getElem_mem hp)
  have m2 := b2 other[p] (List.getElem_mem hp2)
  have lo : ∀ a ∈ one.take p, a < one[p] := fun a ha => by
    obtain ⟨i, hi, e⟩ := List.mem_iff_getElem.mp ha
    rw [List.length_take] at hi
    rw [List.getElem_take] at e
    have := List.pairwise_iff_getElem.mp a3 i p (by omega) hp (by omega)
    omega
  have hi : ∀ b ∈ other.drop (p + 1), other[p] < b := fun b hb => by
    obtain ⟨i, hi, e⟩ := List.mem_iff_getElem.mp hb
    rw [List.length_drop] at hi
    rw [List.getElem_drop] at e
    have := List.pairwise_iff_getElem.mp b3 p (p + 1 + i) hp2 (by omega) (by omega)
    omega
  refine ⟨by rw [wv_len hl x hp]; exact a1, fun n hn => ?_, ?_⟩
  · unfold wv at hn
    rcases List.mem_append.mp hn with q | q
    · exact a2 n (List.mem_of_mem_take q)
    · rcases List.mem_cons.mp q with rfl | q
      · omega
      · exact b2 n (List.mem_of_mem_drop q)
  · unfold wv
    rw [List.pairwise_append]
    refine ⟨a3.sublist (List.take_sublist _ _), List.pairwise_cons.mpr ⟨fun b hb => ?_, b3.sublist (List.drop_sublist _ _)⟩, fun a ha b hb => ?_⟩
    · have := hi b hb; omega
    · have := lo a ha
      rcases List.mem_cons.mp hb with rfl | q
      · omega
      · have := hi b q; omega
def Chn (P : List Int → List Int → Prop) (L : List (List Int)) : Prop := ∀ (i : Nat) (a b : List Int), L[i]? = some a → L[i + 1]? = some b → P a b
theorem Chn.snoc {P : List Int → List Int → Prop} {L : List (List Int)} {a b : List Int} (h : Chn P L) (hl : L.getLast? = some a) (hp : P a b) : Chn P (L ++ [b]) := fun i x y h1 h2 => by
  have hi : i + 1 < (L ++ [b]).length := (List.getElem?_eq_some_iff.mp h2).1
  rw [List.length_append, List.length_singleton] at hi
  rw [List.getElem?_append_left (by omega)] at h1
  by_cases q : i + 1 < L.length
  · rw [List.getElem?_append_left q] at h2
    exact h i x y h1 h2
  · have e : i + 1 = L.length := by omega
    rw [List.getElem?_append_right (by omega), e, Nat.sub_self] at h2
    cases h2
    rw [List.getLast?_eq_getElem?, show L.length - 1 = i by omega, h1] at hl
    cases hl
    exact hp
/-- a step: one place up by one, a choice again -/
def StpW (f s : Int) (a b : List Int) : Prop := (∃ p, p < a.length ∧ b = upAt a p) ∧ Ch f s b
structure WayOk (f s : Int) (one last : List Int) (L : List (List Int)) : Prop where
  hd : L[0]? = some one
  ls : L.getLast? = some last
  ch : Chn (StpW f s) L
theorem way_in {f s : Int} {one other : List Int} (h1 : Ch f s one) (h2 : Ch f s other) {p : Nat} (hp : p < one.length) {L : List (List Int)} (w : WayOk f s one (wv one other p (one.getD p 0)) L) :
    ∀ j : Nat, one.getD p 0 + j ≤ other.getD p 0 → WayOk f s one (wv one other p (one.getD p 0 + j)) (L ++ wyI one other p j)
  | 0, _ => by
    show WayOk f s one (wv one other p (one.getD p 0 + 0)) (L ++ [])
    rw [List.append_nil, Int.add_zero]; exact w
  | j + 1, hj => by
    have w' := way_in h1 h2 hp w j (by omega)
    have hl : one.length = other.length := by have := h1.1; have := h2.1; omega
    rw [wyI_succ, ← List.append_assoc]
    refine ⟨?_, ?_, w'.ch.snoc w'.ls ⟨⟨p, by rw [wv_len hl _ hp]; exact hp, (upAt_wv _ hp).symm⟩, wv_ch h1 h2 hp (by omega) (by omega)⟩⟩
    · have := w'.hd
      rw [List.getElem?_append_left (List.getElem?_eq_some_iff.mp this).1]; exact this
    · rw [List.getLast?_append]
      show some (wv one other p (one.getD p 0 + j + 1)) = some (wv one other p (one.getD p 0 + ((j + 1 : Nat) : Int)))
      rw [show one.getD p 0 + ((j + 1 : Nat) : Int) = one.getD p 0 + j + 1 by omega]
theorem way_ok {f s : Int} {one other : List Int} (h1 : Ch f s one) (h2 : Ch f s other) (hb : Bel one other) : ∀ k : Nat, k ≤ one.length → WayOk f s one (one.take (one.length - k) ++ other.drop (one.length - k)) (wayL one other k)
  | 0, _ => by
    have hl : one.length = other.length := by have := h1.1; have := h2.1; omega
    have e : one.take (one.length - 0) ++ other.drop (one.length - 0) = one := by
      rw [Nat.sub_zero, List.take_length, List.drop_of_length_le (by omega), List.append_nil]
    rw [e]
    exact ⟨rfl, rfl, fun i a b _ h => by
      have := (List.getElem?_eq_some_iff.mp h).1
      have : i + 1 < 1 := this
      omega⟩
  | k + 1, hk => by
    have w := way_ok h1 h2 hb k (by omega)
    have hl : one.length = other.length := by have := h1.1; have := h2.1; omega
    have hp : one.length - 1 - k < one.length := by omega
    have e1 : one.length - k = (one.length - 1 - k) + 1 := by omega
    have e2 : one.length - (k + 1) = one.length - 1 - k := by omega
    rw [e1, ← wv_lo hp] at w
    rw [e2, ← wv_hi (by omega)]
    have hle : one.getD (one.length - 1 - k) 0 ≤ other.getD (one.length - 1 - k) 0 := by
      rw [getD_w hp, getD_w (by omega)]
      exact hb _ _ _ (List.getElem?_eq_getElem hp) (List.getElem?_eq_getElem (by omega))
    have := way_in h1 h2 hp w (other.getD (one.length - 1 - k) 0 - one.getD (one.length - 1 - k) 0).toNat (by omega)
    rw [show one.getD (one.length - 1 - k) 0 + (((other.getD (one.length - 1 - k) 0 - one.getD (one.length - 1 - k) 0).toNat : Nat) : Int) = other.getD (one.length - 1 - k) 0 by omega] at this
    exact this
def wayA (one other : List Int) : List (List Int) := wayL one other one.length
theorem wayA_ok {f s : Int} {one other : List Int} (h1 : Ch f s one) (h2 : Ch f s other) (hb : Bel one other) : WayOk f s one other (wayA one other) := by
  have := way_ok h1 h2 hb one.length (Nat.le_refl _)
  rw [Nat.sub_self] at this
  exact this
theorem sum_upAt {c : List Int} {p : Nat} (h : p < c.length) : (upAt c p).sum = c.sum + 1 := by
  have e : c.sum = (c.take p ++ c[p] :: c.drop (p + 1)).sum := by rw [← List.drop_eq_getElem_cons h, List.take_append_drop]
  rw [e]
  unfold upAt
  rw [getD_w h]
  simp only [List.sum_append, List.sum_cons, List.sum_nil]
  omega
theorem chn_sum {f s : Int} {L : List (List Int)} {one : List Int} (h : Chn (StpW f s) L) (h0 : L[0]? = some one) : ∀ (i : Nat) (a : List Int), L[i]? = some a → a.sum = one.sum + i
  | 0, a, h => by rw [h0] at h; cases h; simp
  | i + 1, b, hb => by
    have hi := (List.getElem?_eq_some_iff.mp hb).1
    have ha : L[i]? = some L[i] := List.getElem?_eq_getElem (by omega)
    obtain ⟨⟨p, hp, e⟩, _⟩ := h i _ b ha hb
    have := chn_sum h h0 i _ ha
    rw [e, sum_upAt hp]; omega
theorem way_len {f s : Int} {one other : List Int} {L : List (List Int)} (w : WayOk f s one other L) : (L.length : Int) - 1 = other.sum - one.sum := by
  have h := w.ls
  rw [List.getLast?_eq_getElem?] at h
  have h0 := (List.getElem?_eq_some_iff.mp w.hd).1
  have := chn_sum w.ch w.hd _ _ h
  omega
end Rk

namespace Rk
open PySem PySem.Spec PyProof.Rows L2
/-! ### tables in the heap -/
abbrev kI (c : List Int) : List Key := c.map Sum.inl
def kvT (d : Tb) : List (List Key × V) := d.map fun p => (kI p.1, V.int p.2)
theorem kI_V (c : List Int) : (kI c).map kV = c.map V.int := by
  rw [List.map_map]; rfl
theorem kI_inj : ∀ {a b : List Int}, kI a = kI b → a = b
  | [], [], _ => rfl
  | [], _ :: _, h => by cases h
  | _ :: _, [], h => by cases h
  | x :: a, y :: b, h => by
    have h' : Sum.inl x :: kI a = Sum.inl y :: kI b := h
    injection h' with h1 h2
    injection h1 with h1
    rw [h1, kI_inj h2]
theorem kI_dec (a b : List Int) : decide (kI a = kI b) = decide (a = b) := decide_eq_decide.mpr ⟨kI_inj, fun h => by rw [h]⟩
theorem val_kvT (k : List Int) : ∀ d : Tb, valV (kvT d) (kI k) = (lookT d k).map V.int
  | [] => rfl
  | p :: d => by
    show valV ((kI p.1, V.int p.2) :: kvT d) (kI k) = _
    by_cases e : p.1 = k
    · rw [look_eq e, valV_pos (by rw [e])]; rfl
    · rw [look_ne e, valV_neg (fun z => e (kI_inj z)), val_kvT k d]
theorem put_kvT (d : Tb) (k : List Int) (v : Int) : putK (kvT d) (kI k) (V.int v) = kvT (putT d k v) := by
  unfold putK putT kvT
  rw [List.any_map]
  have e : ((fun kv : List Key × V => decide (kv.1 = kI k)) ∘ fun p : List Int × Int => (kI p.1, V.int p.2)) = fun p => decide (p.1 = k) := funext fun p => kI_dec p.1 k
  rw [e]
  split
  · rw [List.map_map, List.map_map]
    refine List.map_congr_left fun p _ => ?_
    show (if kI p.1 = kI k then (kI p.1, V.int v) else (kI p.1, V.int p.2)) = _
    by_cases q : p.1 = k
    · rw [if_pos (by rw [q])]
      show _ = (kI (if p.1 = k then (p.1, v) else p).1, V.int (if p.1 = k then (p.1, v) else p).2)
      rw [if_pos q]
    · rw [if_neg (fun z => q (kI_inj z))]
      show _ = (kI (if p.1 = k then (p.1, v) else p).1, V.int (if p.1 = k then (p.1, v) else p).2)
      rw [if_neg q]
  · rw [List.map_append]; rfl
theorem kvT_len (d : Tb) : (kvT d).length = d.length := by unfold kvT; rw [List.length_map]
section
variable {K : PySem.W.Frag} {Hf Hb H0 H : Hp} {env : List Sl} {σ : L2.St}
theorem Gr.nt {p : Addr} {o : HO} (g : Gr Hf Hb H0 H) (hp : Hb p = some o) (ho : ∀ vs, o ≠ .tup vs) (h0 : Hf p = none) : H0 p = none := by
  cases q : H0 p with
  | none => rfl
  | some u =>
    rcases g.n p _ u hp q with ⟨ws, e⟩ | e
    · have z1 := g.i _ _ q
      rw [g.b _ _ hp] at z1
      cases z1
      exact absurd e (ho ws)
    · rw [e] at h0; cases h0
/-- an object of one's own at a -/
def obG (a : Addr) (o : HO) (h1 : ∀ vs, o ≠ .tup vs) (h2 : ∀ vs, o ≠ .lst vs) : Gs where
  φ := fun K Hb H0 H v => v = .ref a ∧ Hb a = none ∧ H0 a = none ∧ H a = some o
  fp := [a]
  gro := fun g ⟨e, hb, h0, h⟩ => ⟨e, hb, g.nt h h1 h0, g.b _ _ h⟩
  oth := fun n ⟨e, hb, h0, h⟩ => ⟨e, hb, h0, by rw [upd_ne (fun z => n (by simp [z]))]; exact h⟩
  frz := fun n n0 ⟨e, hb, h0, h⟩ => ⟨e, hb, by rw [upd_ne (fun z => n (by simp [z]))]; exact h0, h⟩
  nl := fun ⟨e, hb, h0, h⟩ b m => by
    have : b = _ := List.mem_singleton.mp m
    subst this
    exact ⟨_, h, h2⟩
def dtG (a : Addr) (d : Tb) : Gs := obG a (.dT (kvT d)) (fun vs z => by cases z) (fun vs z => by cases z)
def dlG (a : Addr) (od : Obj) (d : Tb) : Gs := obG a (.frz od (.dT (kvT d))) (fun vs z => by cases z) (fun vs z => by cases z)
def RdD (G : Gs) (a : Addr) (d : Tb) : Prop := ∀ K Hb H0 H v, G.φ K Hb H0 H v → v = .ref a ∧ L2.Rd H a (.dT (kvT d))
theorem rd_dt (a : Addr) (d : Tb) : RdD (dtG a d) a d := fun K Hb H0 H v ⟨e, _, _, h⟩ => ⟨e, .inl h⟩
theorem rd_dl (a : Addr) (od : Obj) (d : Tb) : RdD (dlG a od d) a d := fun K Hb H0 H v ⟨e, _, _, h⟩ => ⟨e, .inr ⟨od, h⟩⟩
/-- no other slot has the address -/
def NoD (env : List Sl) (i : Nat) (a : Addr) : Prop := ∀ (j : Nat) (G : Gs), j ≠ i → env[j]? = some (.g G) → a ∉ G.fp
theorem Ok.upg (k : Ok K Hf Hb env σ H0 H) {i : Nat} {a : Addr} {v : V} {G G' : Gs} {o : HO} (hs : env[i]? = some (.g G)) (h1 : σ[i]? = some (some v)) (hb : Hb a = none) (h0 : H0 a = none) (hl : ∀ vs, H a ≠ some (.lst vs)) (hn : NoD env i a)
    (r : G'.φ K Hb H0 (upd H a o) v) : Ok K Hf Hb (env.set i (.g G')) σ H0 (upd H a o) := by
  have li : i < env.length := (List.getElem?_eq_some_iff.mp hs).1
  have sm : ∀ {G : Hp}, G a = none → Same G H → Same G (upd H a o) := fun {G} g s b u q => by
    rw [upd_ne (ne_of_none q g)]; exact s _ _ q
  refine ⟨⟨k.gr.f, sm hb k.gr.b, sm h0 k.gr.i, k.gr.n⟩, by simp [k.len], fun j t ej => ?_, fun j l xs ys q ne e1 e2 e3 e4 => ?_⟩
  · by_cases q : i = j
    · subst q
      rw [List.getElem?_set_self li] at ej
      cases ej
      exact ⟨_, h1, _, rfl, r⟩
    · rw [List.getElem?_set_ne q] at ej
      obtain ⟨x, g1, g2⟩ := k.sl j t ej
      refine ⟨x, g1, ?_⟩
      cases t with
      | no => trivial
      | v d => exact g2
      | r v => exact g2
      | g G => obtain ⟨v, e', h⟩ := g2; exact ⟨v, e', G.oth (hn j G (Ne.symm q) ej) h⟩
      | o zs =>
        obtain ⟨p', vs', e', hb', h0', hp', ha'⟩ := g2
        refine ⟨p', vs', e', hb', h0', ?_, ha'⟩
        rw [upd_ne (fun z => ?_)]
        · exact hp'
        · subst z
          exact hl _ hp'
  · have nn : ∀ m us, (env.set i (.g G'))[m]? = some (.o us) → i ≠ m := fun m us em q => by
      subst q
      rw [List.getElem?_set_self li] at em; cases em
    have n1 := nn _ _ e1
    have n2 := nn _ _ e2
    rw [List.getElem?_set_ne n1] at e1
    rw [List.getElem?_set_ne n2] at e2
    exact k.ne j l xs ys q ne e1 e2 e3 e4
theorem Ok.fresh (k : Ok K Hf Hb env σ H0 H) {a : Addr} (ha : H a = none) : ∀ (j : Nat) (G : Gs), env[j]? = some (.g G) → a ∉ G.fp := fun j G e m => by
  obtain ⟨x, g1, v, e', h⟩ := k.sl j _ e
  obtain ⟨o, h1, _⟩ := G.nl h a m
  rw [ha] at h1; cases h1
end
/-! ### ends with an environment that is not known before -/
structure GoSE (X : Cx) (W : WX) (env : List Sl) (st : Stmt) (E : List Sl → Prop) : Prop where
  run : ∀ (Hf Hb : Hp) (σ : L2.St) (H0 H : Hp), Ok X.K Hf Hb env σ H0 H → ∀ D : Ends, (∀ env' σ' H0' H', E env' → Ok X.K Hf Hb env' σ' H0' H' → D.nx σ' H') → wS X st D σ H
structure GoE (X : Cx) (W : WX) (env : List Sl) (ss : List Stmt) (E : List Sl → Prop) : Prop where
  run : ∀ (Hf Hb : Hp) (σ : L2.St) (H0 H : Hp), Ok X.K Hf Hb env σ H0 H → ∀ D : Ends, (∀ env' σ' H0' H', E env' → Ok X.K Hf Hb env' σ' H0' H' → D.nx σ' H') → wB X ss D σ H
structure GoTE (X : Cx) (W : WX) (env : List Sl) (tg : Expr) (d : PyData) (body : List Stmt) (E : List Sl → Prop) : Prop where
  run : ∀ (Hf Hb : Hp) (σ : L2.St) (H0 H : Hp) (v : V), Ok X.K Hf Hb env σ H0 H → Dq X.K H0 v d → ∀ D : Ends, (∀ env' σ' H0' H', E env' → Ok X.K Hf Hb env' σ' H0' H' → D.nx σ' H') → wG X tg v σ H fun σ2 H2 => wB X body D σ2 H2
section
variable {X : Cx} {W : WX} {env env1 : List Sl} {st : Stmt} {ss body : List Stmt} {o : Out} {e f tg : Expr} {pos p pos' apos cpos : Pos} {x : Str} {E E1 : List Sl → Prop} {d : Tb} {a b : Addr}
theorem goe_nil (h : E env) : GoE X W env [] E := ⟨fun Hf Hb σ H0 H k D q => ⟨_, pss_nil, q env σ H0 H h k⟩⟩
theorem goe_cons (h1 : GoS X W env st (.nx env1)) (h2 : GoE X W env1 ss E) : GoE X W env (st :: ss) E := ⟨fun Hf Hb σ H0 H k D q => ⟨_, pss_cons uS uB, h1.run Hf Hb σ H0 H k _ fun σ' H0' H' k' => h2.run Hf Hb σ' H0' H' k' D q⟩⟩
theorem goe_consE (h1 : GoSE X W env st E1) (h2 : ∀ env1, E1 env1 → GoE X W env1 ss E) : GoE X W env (st :: ss) E := ⟨fun Hf Hb σ H0 H k D q => ⟨_, pss_cons uS uB, h1.run Hf Hb σ H0 H k _ fun env1 σ' H0' H' he k' => (h2 env1 he).run Hf Hb σ' H0' H' k' D q⟩⟩
theorem go_consE (h1 : GoSE X W env st E1) (h2 : ∀ env1, E1 env1 → Go X W env1 ss o) : Go X W env (st :: ss) o := ⟨fun Hf Hb σ H0 H k D q => ⟨_, pss_cons uS uB, h1.run Hf Hb σ H0 H k _ fun env1 σ' H0' H' he k' => (h2 env1 he).run Hf Hb σ' H0' H' k' D q⟩⟩
theorem GoE.pre (w : Wk env env1) (h : GoE X W env1 ss E) : GoE X W env ss E := ⟨fun Hf Hb σ H0 H k D q => h.run Hf Hb σ H0 H (k.weak w) D q⟩
theorem gote_of {is : List Nat} {dd : PyData} (ht : TgD X env tg dd env1 is) (h : GoE X W env1 body E) : GoTE X W env tg dd body E := ⟨fun Hf Hb σ H0 H v k hv D q => ht.run Hf Hb σ H0 H v k hv _ fun σ' k' _ => h.run Hf Hb σ' H0 H k' D q⟩
theorem gose_for {α : Type} {ι : α → PyData} {zs : List α} {iter : Expr} (inv : Nat → List Sl → Prop) (n : Nat) (hi : EvI X env tg iter ι zs) (hn : zs.length = n) (h0 : inv 0 env) (hb : ∀ i y env', zs[i]? = some y → inv i env' → GoTE X W env' tg (ι y) body (inv (i + 1)))
    (hp : PassesOwn (model X.prog X.w) X.A X.env X.xe) (hc : X.calm = true := by rfl) (hs : ∀ x, foldedSetIterable iter X.env x = pure x := by intro _; rfl) : GoSE X W env (.For tg iter body [] pos) (inv n) := ⟨fun Hf Hb σ H0 H k D q => by
  subst hn
  refine ⟨_, ps_for hp hc uI uG uB hs, hi.run Hf Hb σ H0 H k _ fun J H1 H1' g wk => ?_⟩
  have k1 := k.gro g
  refine ⟨fun i m σ' H' => m = zs.length - i ∧ i ≤ zs.length ∧ ∃ env' H0', inv i env' ∧ Ok X.K H1 Hb env' σ' H0' H', ⟨zs.length, by simp, Nat.zero_le _, env, H1, h0, k1.reb⟩, ?_⟩
  rintro i m σ' H' ⟨rfl, hi, env', H0', he, k'⟩
  obtain ⟨w1, w2, w3⟩ := wk H0' H' k'.gr.f k'.gr.i
  by_cases hlt : i < zs.length
  · refine .inr ⟨w1 i hlt, fun σ'' H'' => i + 1 ≤ zs.length ∧ ∃ env'' H0'', inv (i + 1) env'' ∧ Ok X.K H1 Hb env'' σ'' H0'' H'', fun σ'' H'' ⟨z1, z2⟩ => ⟨zs.length - (i + 1), by omega, rfl, z1, z2⟩, fun x H3 yl => ?_⟩
    obtain ⟨y, hy⟩ : ∃ y, zs[i]? = some y := ⟨zs[i], List.getElem?_eq_getElem hlt⟩
    obtain ⟨H03, g3, hx⟩ := w3 i x H3 y hy yl
    exact (hb i y env' hy he).run H1 Hb σ' H03 H3 x (k'.gro g3) hx _ fun env2 σ2 H02 H2 he2 k2 => ⟨hlt, env2, H02, he2, k2⟩
  · have e : i = zs.length := by omega
    subst e
    exact .inl ⟨w2, q _ _ H0' _ he (Ok.back k1.gr k')⟩⟩
/-! ### dicts -/
theorem gose_dnew (i : Nat) (hN : X.N.Nodup) (hi : X.N[i]? = some x := by rfl) (hx : Loc X.env.scope x := by first | exact Or.inl rfl | exact Or.inr rfl) {py : Pos} (hs : swapsWith (.Dict [] [] p) (some (.Name x py)) pos.line X.env = pure false := by rfl) (hf : X.fn x = true ∨ X.env.scope.names.lookup x = some .local := by first | exact .inl rfl | exact .inr rfl) :
    GoSE X W env (.Assign [.Name x py] (.Dict [] [] p) pos) (fun env' => ∃ a, env' = env.set i (.g (dtG a [])) ∧ ∀ (j : Nat) (G : Gs), env[j]? = some (.g G) → a ∉ G.fp) := ⟨fun Hf Hb σ H0 H k D q =>
  ⟨_, ps_set hN hi hx pe_dnewT hs hf, fun a ha => q _ _ H0 _ ⟨a, rfl, k.fresh ha⟩ ((k.gro (Gr.own k.gr.i ha)).setg i (.ref a) (dtG a []) ⟨rfl, k.gr.b.free ha, k.gr.i.free ha, upd_same⟩)⟩⟩
theorem gos_moveG (i j : Nat) {y : Str} {G : Gs} {px : Pos} (hN : X.N.Nodup) (hs : env[j]? = some (.g G) := by rfl) (hi : X.N[i]? = some x := by rfl) (hj : X.N[j]? = some y := by rfl) (hx : Loc X.env.scope x := by first | exact Or.inl rfl | exact Or.inr rfl) {py : Pos}
    (hv : Vis X.env.scope y := by first | exact Or.inl rfl | exact Or.inr (Or.inl rfl) | exact Or.inr (Or.inr rfl)) (hd : (y == ("__debug__" : Str)) = false := by decide) (hcd : (y == ("__classdict__" : Str)) = false := by decide)
    (hsw : swapsWith (.Name y px) (some (.Name x py)) pos.line X.env = pure false := by rfl) (hf : X.fn x = true ∨ X.env.scope.names.lookup x = some .local := by first | exact .inl rfl | exact .inr rfl) :
    GoS X W env (.Assign [.Name x py] (.Name y px) pos) (.nx ((env.set j .no).set i (.g G))) := ⟨fun Hf Hb σ H0 H k D q => by
  obtain ⟨z, h1, v, rfl, hφ⟩ := k.sl j _ hs
  exact ⟨_, ps_set hN hi hx (pe_var hj hv hd hcd) hsw hf, _, h1, q _ H0 H ((k.weak (wk_no env j)).setg i v G hφ)⟩⟩
/-- d[k] -/
theorem evv_dix (i : Nat) {G : Gs} {c : List Int} {n : Int} (hu : X.A.units + 1 < cLine) (hG : RdD G a d) (he : EvV X env e (.tuple (c.map .int))) (hl : lookT d c = some n) (hns : NoSl e := by exact fun _ _ => rfl)
    (hs : env[i]? = some (.g G) := by rfl) (hN : X.N[i]? = some x := by rfl) (hv : Vis X.env.scope x := by first | exact Or.inl rfl | exact Or.inr (Or.inl rfl) | exact Or.inr (Or.inr rfl)) (hd : (x == ("__debug__" : Str)) = false := by decide) (hcd : (x == ("__classdict__" : Str)) = false := by decide) :
    EvV X env (.Subscript (.Name x p) e pos) (.int n) := ⟨fun Hf Hb σ H0 H k Q q => by
  obtain ⟨z, h1, v, rfl, hφ⟩ := k.sl i _ hs
  obtain ⟨rfl, _⟩ := hG _ _ _ _ _ hφ
  refine ⟨_, pe_dget hu (pe_var hN hv hd hcd) uE hns, _, h1, he.run Hf Hb σ H0 H k _ fun y H1 H1' g d1 => ?_⟩
  obtain ⟨bb, vs, rfl, g1, g2⟩ := dq_tup d1
  rw [dqa_ints g2] at g1
  obtain ⟨z', h1', v', e', hφ'⟩ := (k.gro g).sl i _ hs
  obtain ⟨_, hr⟩ := hG _ _ _ _ _ hφ'
  refine ⟨a, .int n, rfl, .inr ⟨kvT d, kI c, bb, hr, rfl, by rw [kI_V]; exact g.i _ _ g1, ?_⟩, q _ H1 H1' g (.int n)⟩
  rw [val_kvT, hl]; rfl⟩
/-- d.get(k, n) -/
theorem evv_dget2 (i : Nat) {G : Gs} {c : List Int} {n : Int} (hu : X.A.units + 1 < cLine) (hG : RdD G a d) (he : EvV X env e (.tuple (c.map .int))) (hf : EvV X env f (.int n)) (m : M2 X (.Name x p) "get" apos e f cpos := by exact ⟨rfl, rfl, rfl, rfl⟩)
    (hs : env[i]? = some (.g G) := by rfl) (hN : X.N[i]? = some x := by rfl) (hv : Vis X.env.scope x := by first | exact Or.inl rfl | exact Or.inr (Or.inl rfl) | exact Or.inr (Or.inr rfl)) (hd : (x == ("__debug__" : Str)) = false := by decide) (hcd : (x == ("__classdict__" : Str)) = false := by decide) :
    EvV X env (.Call (.Attribute (.Name x p) "get" apos) [e, f] [] cpos) (.int ((lookT d c).getD n)) := ⟨fun Hf Hb σ H0 H k Q q => by
  obtain ⟨z, h1, v, rfl, hφ⟩ := k.sl i _ hs
  obtain ⟨rfl, h0⟩ := hG _ _ _ _ _ hφ
  refine ⟨_, pe_dget2 hu (pe_var hN hv hd hcd) uE uE m, _, h1, a, rfl, .inr ⟨_, h0⟩, he.run Hf Hb σ H0 H k _ fun y H1 H1' g d1 => hf.run Hf Hb σ H1 H1' (k.gro g) _ fun w H2 H2' g' d2 => ?_⟩
  obtain ⟨bb, vs, rfl, g1, g2⟩ := dq_tup (d1.mono g'.f)
  rw [dqa_ints g2] at g1
  rw [dq_int d2]
  obtain ⟨z', h1', v', e', hφ'⟩ := (k.gro (g.trans g')).sl i _ hs
  obtain ⟨_, hr⟩ := hG _ _ _ _ _ hφ'
  refine ⟨_, .inr ⟨kvT d, kI c, bb, hr, rfl, by rw [kI_V]; exact g'.i _ _ g1, rfl⟩, ?_⟩
  rw [val_kvT]
  cases q2 : lookT d c with
  | none => rw [q2] at q; exact q _ H2 H2' (g.trans g') (.int n)
  | some m => rw [q2] at q; exact q _ H2 H2' (g.trans g') (.int m)⟩
/-- d[k] = n -/
theorem gos_dput (i : Nat) {c : List Int} {n : Int} (hu : X.A.units + 1 < cLine) (hn : NoD env i a) (hz : d.length < sizeLine) (he : EvV X env e (.tuple (c.map .int))) (hf : EvV X env f (.int n)) (hs : env[i]? = some (.g (dtG a d)) := by rfl)
    (hN : X.N[i]? = some x := by rfl) (hv : Vis X.env.scope x := by first | exact Or.inl rfl | exact Or.inr (Or.inl rfl) | exact Or.inr (Or.inr rfl)) (hd : (x == ("__debug__" : Str)) = false := by decide) (hcd : (x == ("__classdict__" : Str)) = false := by decide)
    (hsw : swapsWith f (some (.Subscript (.Name x p) e pos')) pos.line X.env = pure false := by rfl) :
    GoS X W env (.Assign [.Subscript (.Name x p) e pos'] f pos) (.nx (env.set i (.g (dtG a (putT d c n))))) := ⟨fun Hf Hb σ H0 H k D q => by
  refine ⟨_, ps_dput hu (pe_var hN hv hd hcd) uE uE hsw, hf.run Hf Hb σ H0 H k _ fun w H1 H1' g d1 => ?_⟩
  rw [dq_int d1]
  obtain ⟨z, h1, v, rfl, rfl, _⟩ := (k.gro g).sl i _ hs
  refine ⟨_, h1, he.run Hf Hb σ H1 H1' (k.gro g) _ fun y H2 H2' g' d2 => ?_⟩
  obtain ⟨bb, vs, rfl, g1, g2⟩ := dq_tup d2
  rw [dqa_ints g2] at g1
  have k2 := k.gro (g.trans g')
  obtain ⟨z', h1', v', rfl, rfl, hb, h0, hh⟩ := k2.sl i _ hs
  refine ⟨a, _, rfl, DPut.t hh (by rw [kI_V]; exact g'.i _ _ g1) (by rw [kvT_len]; exact hz), q _ H2 _ ?_⟩
  refine k2.upg hs h1' hb h0 (fun vs z => by rw [hh] at z; cases z) hn ?_
  refine ⟨rfl, hb, h0, ?_⟩
  rw [upd_same, put_kvT]⟩
/-- for k in d -/
theorem gose_forD (i : Nat) (I : Obj → Nat → List Sl → Prop) (hn : NoD env i b) (h0 : ∀ od, I od 0 (env.set i (.g (dlG b od d)))) (hsl : ∀ od n env', I od n env' → env'[i]? = some (.g (dlG b od d)) ∧ NoD env' i b)
    (hb : ∀ od n p env', d[n]? = some p → I od n env' → GoTE X W env' tg (.tuple (p.1.map .int)) body (I od (n + 1))) (hp : PassesOwn (model X.prog X.w) X.A X.env X.xe) (hs : env[i]? = some (.g (dtG b d)) := by rfl)
    (hN : X.N[i]? = some x := by rfl) (hv : Vis X.env.scope x := by first | exact Or.inl rfl | exact Or.inr (Or.inl rfl) | exact Or.inr (Or.inr rfl)) (hd : (x == ("__debug__" : Str)) = false := by decide) (hcd : (x == ("__classdict__" : Str)) = false := by decide)
    (hc : X.calm = true := by rfl) (hfs : ∀ y, foldedSetIterable (.Name x p) X.env y = pure y := by intro _; rfl) :
    GoSE X W env (.For tg (.Name x p) body [] pos) (fun env' => ∃ od env1, I od d.length env1 ∧ env' = env1.set i (.g (dtG b d))) := ⟨fun Hf Hb σ H0 H k D q => by
  obtain ⟨y, h1, v, rfl, rfl, hb', h0', hh⟩ := k.sl i _ hs
  refine ⟨_, ps_lock (ps_for hp hc (pi_keys (pe_var hN hv hd hcd)) uG uB hfs), b, _, hh, trivial, fun od => ?_⟩
  have k1 : Ok X.K Hf Hb (env.set i (.g (dlG b od d))) σ H0 (upd H b (.frz od (.dT (kvT d)))) := k.upg hs h1 hb' h0' (fun vs z => by rw [hh] at z; cases z) hn ⟨rfl, hb', h0', upd_same⟩
  refine ⟨_, h1, b, od, rfl, .inr ⟨kvT d, upd_same, ?_⟩⟩
  refine ⟨fun n m σ' H' => m = d.length - n ∧ n ≤ d.length ∧ ∃ env' H0', I od n env' ∧ Ok X.K Hf Hb env' σ' H0' H', ⟨d.length, by simp, Nat.zero_le _, _, H0, h0 od, k1⟩, ?_⟩
  rintro n m σ' H' ⟨rfl, hle, env', H0', hI, k'⟩
  obtain ⟨e1, e2⟩ := hsl od n env' hI
  obtain ⟨y', g1, v', rfl, rfl, gb, g0, gh⟩ := k'.sl i _ e1
  by_cases hlt : n < d.length
  · refine .inr ⟨⟨gh, by rw [kvT_len]; exact hlt⟩, fun σ'' H'' => n + 1 ≤ d.length ∧ ∃ env'' H0'', I od (n + 1) env'' ∧ Ok X.K Hf Hb env'' σ'' H0'' H'', fun σ'' H'' ⟨z1, z2⟩ => ⟨d.length - (n + 1), by omega, rfl, z1, z2⟩, fun x H3 yl => ?_⟩
    obtain ⟨rfl, kk, vv, qq, hk, rfl, hq⟩ := yl
    obtain ⟨p, hp1, hp2⟩ : ∃ p, d[n]? = some p ∧ (kI p.1, V.int p.2) = (kk, vv) := by
      unfold kvT at hk
      rw [List.getElem?_map, List.getElem?_eq_getElem hlt] at hk
      exact ⟨d[n], List.getElem?_eq_getElem hlt, Option.some.inj hk⟩
    cases hp2
    rw [kI_V] at hq
    have gt := Gr.tup k'.gr.i hq
    exact (hb od n p env' hp1 hI).run Hf Hb σ' _ _ (.ref qq) (k'.gro gt) (.tup upd_same (ints_dqa _)) _ fun env2 σ2 H02 H2 hI2 k2 => ⟨hlt, env2, H02, hI2, k2⟩
  · have e : n = d.length := by omega
    subst e
    refine .inl ⟨⟨gh, by rw [kvT_len]; exact Nat.le_refl _⟩, gh, ?_⟩
    exact q _ σ' H0' _ ⟨od, env', hI, rfl⟩ (k'.upg e1 g1 gb g0 (fun vs z => by rw [gh] at z; cases z) e2 ⟨rfl, gb, g0, upd_same⟩)⟩
end
/-! ### {k: v}, k a tuple -/
def tDispT (tk tv : TE) : TE := fun σ H Q => ∀ p, H p = none → tk σ (upd H p (.dT [])) fun x H1 => tv σ H1 fun y H2 => ∃ (k : List Key) (b : Addr), x = .ref b ∧ H2 b = some (.tup (k.map kV)) ∧ H2 p = some (.dT []) ∧ Q (.ref p) (upd H2 p (.dT [(k, y)]))
theorem pe_dispT {X : Cx} {pos : Pos} {ke ve : Expr} {tk tv : TE} (hu : X.A.units + 1 < cLine) (hk : PE X ke tk) (hv : PE X ve tv) : PE X (.Dict [some ke] [ve] pos) (tDispT tk tv) := by
  refine ⟨fun pins s σ H Q I q => ?_⟩
  have hn := I.hok.fresh (Nat.le_refl s.heap.objs.size)
  have I1 := I.laid (a := s.heap.objs.size) (o := .dT []) (h' := s.heap.push { cls := .type "dict", data := .dict #[] }) (t' := s.toks) (fun _ _ q => Heap.get?_push_of_some _ q) (Nat.le_refl _) (dt_empty s.heap I.big)
  have hP := (pps_cons hk hv (pps_nil (X := X) (pos := pos))).run pins _ σ _ (fun ps H2 => match ps with | [(x, y)] => ∃ (k : List Key) (b : Addr), x = .ref b ∧ H2 b = some (.tup (k.map kV)) ∧ H2 s.heap.objs.size = some (.dT []) ∧ Q (.ref s.heap.objs.size) (upd H2 s.heap.objs.size (.dT [(k, y)])) | _ => False) I1 (q _ hn)
  have hl := pairTrees_length [some ke] [ve] X.env pos rfl rfl
  have hl : (pairTrees [some ke] [ve] X.env pos).length = 1 := hl
  rw [arm_eval_Dict, zip_pairTrees [some ke] [ve] X.env pos rfl rfl, dictDisplay_pairs _ (fun z => by rw [z] at hl; cases hl) (by omega)]
  refine wpAny_bind (wpAny_standAt (wpAny_bind ?_))
  unfold subDict
  refine wpAny_bind (wpAny_alloc ?_)
  refine wpAny_bind (wpAny_holding ?_)
  rw [if_pos (by omega)]
  refine wpAny_bind (thn hP fun ws s2 ⟨ps, H2, I2, rel, qq⟩ => ?_)
  obtain ⟨x, y, rfl⟩ : ∃ x y, ps = [(x, y)] := by
    match ps, qq with
    | [(x, y)], _ => exact ⟨x, y, rfl⟩
  obtain ⟨k, b, rfl, hb, hd, q2⟩ := qq
  obtain ⟨u, w1, rfl, r1, r2⟩ : ∃ u w1, ws = [(u, w1)] ∧ RelV (.ref b) u ∧ RelV y w1 := by
    cases rel with
    | cons r rr => cases rr; exact ⟨_, _, rfl, r.1, r.2⟩
  cases (show u = Value.ref b from r1)
  refine wpAny_holding ?_
  obtain ⟨z, hs, xs, kt, dd⟩ := dt_of I2.hok hd
  cases kt
  refine wpAny_bind ?_
  rw [List.forIn_cons]
  refine wpAny_bind (wpAny_bind (wpAny_dictSet_heap (hsz := Nat.zero_le _) (knd := tupleKind (mixKind X.prog X.w)) (show X.A.units < cLine by omega) (key_of I2.hok hb) dd fun h' dd' hs' => wpAny_pure ?_))
  show wpAny _ _ (forIn [] PUnit.unit _) _ _ _
  rw [List.forIn_nil]
  refine wpAny_pure (wpAny_pure (wpAny_pure (wpAny_pure ?_)))
  obtain ⟨qo, es, ep, hq, h2, h3, h4, _, h5⟩ := dd'
  refine ⟨.ref s.heap.objs.size, _, ?_, rfl, q2⟩
  refine d_write I2 (by rw [hd]; exact True.intro) hs' ⟨qo, hq⟩ ⟨by show 1 ≤ sizeLine; decide, hs, _, ?_, qo, es, ep, hq, h2, h3, h4, h5⟩
  exact .cons ⟨rfl, by rw [upd_ne (ne_of hb hd (fun z => nomatch z))]; exact hb, r2⟩ .nil
section
variable {X : Cx} {W : WX} {env : List Sl} {e f a b tg : Expr} {pos p : Pos} {x : Str}
theorem gose_disp (i : Nat) {c : List Int} {n : Int} (hN : X.N.Nodup) (hu : X.A.units + 1 < cLine) (he : EvV X env e (.tuple (c.map .int))) (hf : EvV X env f (.int n)) (hl : (env[i]?).isSome = true := by rfl) (hi : X.N[i]? = some x := by rfl) (hx : Loc X.env.scope x := by first | exact Or.inl rfl | exact Or.inr rfl) {py : Pos}
    (hs : swapsWith (.Dict [some e] [f] p) (some (.Name x py)) pos.line X.env = pure false := by rfl) (hff : X.fn x = true ∨ X.env.scope.names.lookup x = some .local := by first | exact .inl rfl | exact .inr rfl) :
    GoSE X W env (.Assign [.Name x py] (.Dict [some e] [f] p) pos) (fun env' => ∃ a, env' = env.set i (.g (dtG a [(c, n)])) ∧ ∀ (j : Nat) (G : Gs), env[j]? = some (.g G) → a ∉ G.fp) := ⟨fun Hf Hb σ H0 H k D q => by
  refine ⟨_, ps_set hN hi hx (pe_dispT hu uE uE) hs hff, fun a ha => ?_⟩
  have g0 : Gr H0 H H0 (upd H a (.dT [])) := Gr.own k.gr.i ha
  have k1 := k.gro g0
  refine he.run Hf Hb σ H0 _ k1 _ fun y H1 H1' g d1 => hf.run Hf Hb σ H1 H1' (k1.gro g) _ fun w H2 H2' g' d2 => ?_
  obtain ⟨bb, vs, rfl, g1, g2⟩ := dq_tup (d1.mono g'.f)
  rw [dqa_ints g2] at g1
  rw [dq_int d2]
  have gg := g.trans g'
  have k2 := k1.gro gg
  have ea : H2' a = some (.dT []) := gg.b _ _ upd_same
  have e0 : H2 a = none := gg.nt upd_same (fun vs z => by cases z) (k.gr.i.free ha)
  have eb : Hb a = none := k.gr.b.free ha
  refine ⟨kI c, bb, rfl, by rw [kI_V]; exact g'.i _ _ g1, ea, q _ _ H2 _ ⟨a, rfl, k.fresh ha⟩ ?_⟩
  have k3 := k2.setg i (.ref a) (dtG a []) ⟨rfl, eb, e0, ea⟩
  have li : i < env.length := by
    cases z : env[i]? with
    | none => rw [z] at hl; cases hl
    | some s => exact (List.getElem?_eq_some_iff.mp z).1
  have k4 := k3.upg (G' := dtG a [(c, n)]) (o := .dT (kvT [(c, n)])) (List.getElem?_set_self li) (List.getElem?_set_self (by rw [← k2.len]; exact li)) eb e0 (fun vs z => by rw [ea] at z; cases z) (fun j G nj ej => by
    rw [List.getElem?_set_ne (Ne.symm nj)] at ej
    exact k.fresh ha j G ej) ⟨rfl, eb, e0, upd_same⟩
  rw [List.set_set] at k4
  exact k4⟩
/-! ### range downwards -/
def rgD (lo hi : Int) : List Int := (List.range (lo - hi).toNat).map fun i => lo - (i : Nat)
theorem rgD_len (lo hi : Int) : (rgD lo hi).length = (lo - hi).toNat := by unfold rgD; simp
theorem rgD_get {lo hi : Int} {i : Nat} {y : Int} (h : (rgD lo hi)[i]? = some y) : y = lo - i ∧ i < (lo - hi).toNat := by
  unfold rgD at h
  rw [List.getElem?_map] at h
  by_cases q : i < (lo - hi).toNat
  · rw [List.getElem?_range q] at h
    simp at h
    exact ⟨h.symm, q⟩
  · rw [List.getElem?_eq_none (by simpa using q)] at h
    cases h
theorem wkd_rgD {K : PySem.W.Frag} {lo hi : Int} {H0 : Hp} : WkD K (Itc lo (-1) (lo - hi).toNat) PyData.int (rgD lo hi) H0 := fun H0' H' s0 s1 => by
  rw [rgD_len]
  refine ⟨fun i hi => hi, Nat.le_refl _, fun i x H3 y hy yl => ?_⟩
  obtain ⟨h1, h2⟩ := rgD_get hy
  obtain ⟨rfl, rfl⟩ := yl
  subst h1
  have e : lo + (i : Nat) * (-1 : Int) = lo - i := by omega
  rw [e]
  exact ⟨H0', Gr.refl s1, .int _⟩
theorem evi_rgD {lo hi : Int} {c : Expr} (hm : X.mg "range" = none) (ha : EvV X env a (.int lo)) (hb : EvV X env b (.int hi)) (hc : EvV X env c (.int (-1))) (h : -(2 ^ 62) ≤ lo ∧ lo < 2 ^ 62 ∧ -(2 ^ 62) ≤ hi ∧ hi < 2 ^ 62) (hg : Gl X "range" := by rfl)
    (hs : starEach [a, b, c] X.env = (false, eval a X.env) :: starEach [b, c] X.env := by rfl) (hs2 : starEach [b, c] X.env = (false, eval b X.env) :: starEach [c] X.env := by rfl) (hs3 : starEach [c] X.env = (false, eval c X.env) :: starEach [] X.env := by rfl) (hpl : (backTo pos (starEach [b, c] X.env)).any (·.1) = false := by rfl) :
    EvI X env tg (.Call (.Name "range" p) [a, b, c] [] pos) PyData.int (rgD lo hi) := ⟨fun Hf Hb σ H0 H k R q =>
  ⟨_, pi_range3 hg hm (pa_cons uE (pa_cons uE (pa_cons uE pa_nil hs3) hs2) hs) hs hpl, ha.run Hf Hb σ H0 H k _ fun x H1 H1' g1 d1 => hb.run Hf Hb σ H1 H1' (k.gro g1) _ fun y H2 H2' g2 d2 => hc.run Hf Hb σ H2 H2' (k.gro (g1.trans g2)) _ fun z H3 H3' g3 d3 => by
    rw [dq_int d1, dq_int d2, dq_int d3]
    exact ⟨lo, hi, -1, _, rfl, RgC.neg h.1 h.2.1 h.2.2.1 h.2.2.2, q _ H3 H3' ((g1.trans g2).trans g3) wkd_rgD⟩⟩⟩
end
theorem goe_wk {X : Cx} {W : WX} {env env1 : List Sl} {E : List Sl → Prop} (w : Wk env env1) (h : E env1) : GoE X W env [] E := ⟨fun Hf Hb σ H0 H k D q => ⟨_, pss_nil, q env1 σ H0 H h (k.weak w)⟩⟩
end Rk

namespace Rk
open PySem L2
/-! ### steps and tables of choices -/
theorem isCh_tI {f s : Int} {c : List Int} : isCh f s (tI c) = true ↔ Ch f s c := by
  rw [isCh_iff]
  constructor
  · rintro ⟨c', e, h⟩
    rw [map_int_inj (PyData.tuple.inj e)]; exact h
  · intro h
    exact ⟨c, rfl, h⟩
theorem stp_iff {f s : Int} {c d : List Int} : d ∈ stepsL f s c c.length ↔ StpW f s c d := by
  unfold stepsL StpW
  rw [List.mem_filter, List.mem_map, isCh_tI]
  constructor
  · rintro ⟨⟨p, hp, rfl⟩, h⟩
    exact ⟨⟨p, List.mem_range.mp hp, rfl⟩, h⟩
  · rintro ⟨⟨p, hp, rfl⟩, h⟩
    exact ⟨⟨p, List.mem_range.mpr hp, rfl⟩, h⟩
theorem raised_iff {f s : Int} {c d : List Int} : d ∈ raisedI f s c ↔ StpW f s c d := by
  unfold raisedI
  rw [(sortT_perm _).mem_iff]; exact stp_iff
def R2 (f s : Int) (o c : List Int) (t : Nat) : List (List Int) := (stepsL f s c t).filter fun m => belI m o
theorem R2_succ (f s : Int) (o c : List Int) (t : Nat) : R2 f s o c (t + 1) = R2 f s o c t ++ if (isCh f s (tI (upAt c t)) && belI (upAt c t) o) = true then [upAt c t] else [] := by
  unfold R2
  rw [stepsL_succ, List.filter_append]
  congr 1
  cases isCh f s (tI (upAt c t)) with
  | true =>
    rw [if_pos rfl, List.filter_cons, Bool.true_and]
    rfl
  | false =>
    rw [if_neg (by decide), Bool.false_and, if_neg (by decide)]; rfl
theorem R2_ch {f s : Int} {o c m : List Int} {t : Nat} (h : m ∈ R2 f s o c t) : Ch f s m := isCh_tI.mp (List.mem_filter.mp (List.mem_filter.mp h).1).2
def KCh (f s : Int) (d : Tb) : Prop := (keysT d).Nodup ∧ ∀ k ∈ keysT d, Ch f s k
theorem KCh.nil {f s : Int} : KCh f s [] := ⟨by simp [keysT], fun k hk => by cases hk⟩
theorem KCh.one {f s : Int} {c : List Int} (h : Ch f s c) (n : Int) : KCh f s [(c, n)] := ⟨by simp [keysT], fun k hk => by
  have : k = c := by simpa [keysT] using hk
  rw [this]; exact h⟩
theorem KCh.add {f s : Int} {d : Tb} {m : List Int} (h : KCh f s d) (hm : Ch f s m) (v : Int) : KCh f s (addT d m v) := ⟨put_nodup h.1 _ _, fun k hk => by
  unfold addT at hk
  rw [put_keys] at hk
  split at hk
  · exact h.2 k hk
  · rcases List.mem_append.mp hk with q | q
    · exact h.2 k q
    · rw [List.mem_singleton.mp q]; exact hm⟩
theorem KCh.all {f s v : Int} : ∀ {ms : List (List Int)} {d : Tb}, KCh f s d → (∀ m ∈ ms, Ch f s m) → KCh f s (addAll d ms v)
  | [], _, h, _ => h
  | m :: ms, d, h, hm => KCh.all (ms := ms) (h.add (hm m List.mem_cons_self) v) fun x hx => hm x (List.mem_cons_of_mem _ hx)
theorem KCh.lv {f s : Int} {R : List Int → List (List Int)} (hR : ∀ c m, m ∈ R c → Ch f s m) : ∀ {l d : Tb}, KCh f s d → KCh f s (lvG R d l)
  | [], _, h => h
  | p :: l, d, h => KCh.lv hR (l := l) (h.all fun m hm => hR _ m hm)
theorem KCh.lvn {f s : Int} {R : List Int → List (List Int)} (hR : ∀ c m, m ∈ R c → Ch f s m) {one : List Int} (h1 : Ch f s one) : ∀ n, KCh f s (lvN R one n)
  | 0 => KCh.one h1 1
  | n + 1 => KCh.lv hR KCh.nil
theorem nodup_le : ∀ {l m : List (List Int)}, l.Nodup → (∀ x ∈ l, x ∈ m) → l.length ≤ m.length
  | [], m, _, _ => Nat.zero_le _
  | x :: l, m, h, hm => by
    rw [List.nodup_cons] at h
    have hx := hm x List.mem_cons_self
    have ih := nodup_le (l := l) (m := m.erase x) h.2 fun y hy => (List.mem_erase_of_ne (fun e => h.1 (by rw [← e]; exact hy))).mpr (hm y (List.mem_cons_of_mem _ hy))
    have := List.length_erase_of_mem hx
    have : 0 < m.length := List.length_pos_of_mem hx
    rw [List.length_cons]; omega
theorem subs_len : ∀ (l : List Int) (k : Nat), (subs l k).length ≤ 2 ^ l.length
  | l, 0 => by
    have : 1 ≤ 2 ^ l.length := Nat.one_le_two_pow
    cases l <;> simpa [subs] using this
  | [], _ + 1 => by simp [subs]
  | x :: l, k + 1 => by
    have h1 := subs_len l k
    have h2 := subs_len l (k + 1)
    show ((subs l k).map (x :: ·) ++ subs l (k + 1)).length ≤ 2 ^ (l.length + 1)
    rw [List.length_append, List.length_map, Nat.pow_succ]; omega
theorem KCh.len {f s : Int} {d : Tb} (z : Sz f s) (h : KCh f s d) : d.length ≤ 4096 := by
  have h1 := nodup_le h.1 fun k hk => mem_chAll (h.2 k hk)
  have h2 : (chAll f s).length ≤ 2 ^ (rgI 1 (f + s + 1)).length := subs_len _ _
  have h3 : (rgI 1 (f + s + 1)).length ≤ 12 := by rw [rgI_len]; have := z.1; have := z.2; omega
  have h4 : 2 ^ (rgI 1 (f + s + 1)).length ≤ 2 ^ 12 := Nat.pow_le_pow_right (by decide) h3
  have h5 : (keysT d).length = d.length := by unfold keysT; rw [List.length_map]
  omega
theorem addAll_app (d : Tb) (a b : List (List Int)) (v : Int) : addAll d (a ++ b) v = addAll (addAll d a v) b v := by
  unfold addAll
  rw [List.foldl_append]
theorem lvG_take {R : List Int → List (List Int)} {d l : Tb} {n : Nat} {p : List Int × Int} (h : l[n]? = some p) : lvG R d (l.take (n + 1)) = addAll (lvG R d (l.take n)) (R p.1) p.2 := by
  unfold lvG
  rw [List.take_add_one, h, List.foldl_append]; rfl
/-! ### the number of ways -/
def nSt (one other : List Int) : Nat := (other.sum - one.sum).toNat
def cwN (f s : Int) (one other : List Int) : Int := if belI one other then (lookT (lvN (fun c => R2 f s other c c.length) one (nSt one other)) other).getD 0 else 0
theorem upAt_bel {c : List Int} {p : Nat} (h : p < c.length) : Bel c (upAt c p) := fun i x y h1 h2 => by
  have hi := (List.getElem?_eq_some_iff.mp h1).1
  unfold upAt at h2
  rw [List.append_assoc] at h2
  by_cases q : i < p
  · rw [List.getElem?_append_left (by rw [List.length_take]; omega), List.getElem?_take_of_lt q, h1] at h2
    cases h2; exact Int.le_refl _
  · rw [List.getElem?_append_right (by rw [List.length_take]; omega), List.length_take, Nat.min_eq_left (by omega)] at h2
    by_cases e : i = p
    · subst e
      rw [Nat.sub_self] at h2
      have h2 : some (c.getD i 0 + 1) = some y := h2
      rw [List.getD_eq_getElem?_getD, h1] at h2
      cases h2
      show x ≤ x + 1
      omega
    · obtain ⟨j, hj⟩ : ∃ j, i - p = j + 1 := ⟨i - p - 1, by omega⟩
      rw [hj] at h2
      have h2 : (c.drop (p + 1))[j]? = some y := h2
      rw [List.getElem?_drop, show p + 1 + j = i by omega, h1] at h2
      cases h2; exact Int.le_refl _
theorem chain_T {f s : Int} {R : List Int → List (List Int)} (hR : ∀ a b, StpW f s a b → b ∈ R a) {one other : List Int} {L : List (List Int)} (w : WayOk f s one other L) : 1 ≤ Tn R other (L.length - 1) one := by
  have h0 := (List.getElem?_eq_some_iff.mp w.hd).1
  have key : ∀ i, i ≤ L.length - 1 → ∀ a, L[L.length - 1 - i]? = some a → 1 ≤ Tn R other i a := fun i => by
    induction i with
    | zero =>
      intro _ a ha
      have hl := w.ls
      rw [List.getLast?_eq_getElem?, show L.length - 1 = L.length - 1 - 0 by omega, ha] at hl
      cases hl
      unfold Tn
      rw [if_pos rfl]; exact Int.le_refl _
    | succ i ih =>
      intro hi a ha
      have hb : L[L.length - 1 - i]? = some (L[L.length - 1 - i]'(by omega)) := List.getElem?_eq_getElem (by omega)
      have st := w.ch (L.length - 1 - (i + 1)) a _ ha (by rw [show L.length - 1 - (i + 1) + 1 = L.length - 1 - i by omega]; exact hb)
      exact Tn_pos (hR _ _ st) (ih (by omega) _ hb)
  exact key (L.length - 1) (Nat.le_refl _) one (by rw [Nat.sub_self]; exact w.hd)
theorem cw_eq {f s : Int} {one other : List Int} (h1 : Ch f s one) (h2 : Ch f s other) (hb : Bel one other) : lookT (lvN (raisedI f s) one (nSt one other)) other = some (cwN f s one other) := by
  have w := wayA_ok h1 h2 hb
  have hl := way_len w
  have h0 := (List.getElem?_eq_some_iff.mp w.hd).1
  have en : nSt one other = (wayA one other).length - 1 := by unfold nSt; omega
  have hp : 1 ≤ Tn (raisedI f s) other (nSt one other) one := by
    rw [en]
    exact chain_T (fun a b h => raised_iff.mpr h) w
  have e1 := count_T (raisedI f s) one other (nSt one other)
  have e2 := count_T (fun c => R2 f s other c c.length) one other (nSt one other)
  have cut := (Tn_cut (R := raisedI f s) (o := other) (fun m => belI m other) (belI_iff.mpr (bel_refl other)) (fun c m hm hB => by
    obtain ⟨⟨p, hp, rfl⟩, hc⟩ := raised_iff.mp hm
    have hB := belI_iff.mp hB
    refine belI_iff.mpr fun i x y g1 g2 => ?_
    have hi := (List.getElem?_eq_some_iff.mp g1).1
    have hl2 := upAt_len hp
    have g3 : (upAt c p)[i]? = some ((upAt c p)[i]'(by omega)) := List.getElem?_eq_getElem (by omega)
    have a1 := upAt_bel hp i x _ g1 g3
    have a2 := hB i _ y g3 g2
    omega) (fun c => R2 f s other c c.length) (fun c => by
    unfold R2 raisedI
    exact ((sortT_perm _).symm.filter _)) (nSt one other) one).2
  unfold cwN
  rw [if_pos (belI_iff.mpr hb), e2, cut]
  cases q : lookT (lvN (raisedI f s) one (nSt one other)) other with
  | none => rw [q] at e1; have e1 : (0 : Int) = _ := e1; omega
  | some v => rw [q] at e1; have e1 : v = _ := e1; rw [e1]
theorem sum_bd {M : Int} : ∀ {l : List Int}, (∀ x ∈ l, 0 ≤ x ∧ x ≤ M) → 0 ≤ l.sum ∧ l.sum ≤ M * l.length
  | [], _ => by simp
  | x :: l, h => by
    have ih := sum_bd (l := l) fun y hy => h y (List.mem_cons_of_mem _ hy)
    have := h x List.mem_cons_self
    rw [List.sum_cons, List.length_cons]
    have e : M * ((l.length + 1 : Nat) : Int) = M * (l.length : Int) + M := by
      rw [show ((l.length + 1 : Nat) : Int) = (l.length : Int) + 1 by omega, Int.mul_add, Int.mul_one]
    omega
theorem Ch.sum72 {f s : Int} {c : List Int} (z : Sz f s) (h : Ch f s c) : 0 ≤ c.sum ∧ c.sum ≤ 72 := by
  have h1 := sum_bd (M := 12) (l := c) fun x hx => by
    have := h.2.1 x hx
    have := z.1; have := z.2
    omega
  have := h.1
  have := z.1
  omega
def S_cw (CC : Addr) : List PyData → Rs → Prop := fun ds r => ∃ f s d e, ds = [.int f, .int s, d, e] ∧ Sz f s ∧ smallT d ∧ smallT e ∧
  ((¬ (isCh f s d && isCh f s e) = true ∧ r = .x CC) ∨ ∃ c1 c2, d = tI c1 ∧ e = tI c2 ∧ Ch f s c1 ∧ Ch f s c2 ∧ r = .v (.int (cwN f s c1 c2)))
def S_way (CC CB : Addr) : List PyData → Rs → Prop := fun ds r => ∃ f s d e, ds = [.int f, .int s, d, e] ∧ Sz f s ∧ smallT d ∧ smallT e ∧
  ((¬ (isCh f s d && isCh f s e) = true ∧ r = .x CC) ∨ ∃ c1 c2, d = tI c1 ∧ e = tI c2 ∧ Ch f s c1 ∧ Ch f s c2 ∧ r = if belI c1 c2 then .v (.list ((wayA c1 c2).map tI)) else .x CB)
def S_lraised : List PyData → Rs → Prop := fun ds r => ∃ f s c, ds = [.int f, .int s, tI c] ∧ Sz f s ∧ Ch f s c ∧ r = .v (.list ((raisedI f s c).map tI))
def S_led : List PyData → Rs → Prop := fun ds r => ∃ m f s d e, ds = [.int m, .int f, .int s, d, e] ∧ (m = 0 ∨ m = 1) ∧ Sz f s ∧ smallT d ∧ smallT e ∧
  ((¬ (isCh f s d && isCh f s e) = true ∧ r = .v (.str "choice")) ∨ (m = 0 ∧ ∃ c1 c2, d = tI c1 ∧ e = tI c2 ∧ Ch f s c1 ∧ Ch f s c2 ∧ ((belI c1 c2 = true ∧ r = .v (.list ((wayA c1 c2).map tI))) ∨ (belI c1 c2 = false ∧ r = .v (.str "not")))))
theorem atI_lastT {xs : List (List Int)} {a : List Int} (h : xs.getLast? = some a) : atI (xs.map tI) (-1) = some (tI a) := by
  rw [List.getLast?_eq_getElem?] at h
  have hl := (List.getElem?_eq_some_iff.mp h).1
  unfold atI ixN
  rw [if_neg (by decide), List.length_map, if_pos (by omega)]
  show (xs.map tI)[(-1 + (xs.length : Int)).toNat]? = _
  rw [List.getElem?_map, show (-1 + (xs.length : Int)).toNat = xs.length - 1 by omega, h]; rfl
theorem upM (c : List Int) (p : Nat) : PyData.tuple (((c.take p).map .int ++ [.int (c.getD p 0 + 1)]) ++ (c.drop (p + 1)).map .int) = tI (upAt c p) := by
  unfold upAt
  show _ = PyData.tuple ((c.take p ++ [c.getD p 0 + 1] ++ c.drop (p + 1)).map .int)
  rw [List.map_append, List.map_append]; rfl
theorem flatT_ints (c : List Int) : flatT (tI c) := by
  show (c.map PyData.int).all flatE = true
  rw [List.all_eq_true]
  intro x hx
  obtain ⟨n, _, rfl⟩ := List.mem_map.mp hx
  rfl
theorem ixD_any (l : List PyData) {i : Int} (h : 0 ≤ i ∧ i < (l.length : Int)) : ixD (.list l) i = some (l.getD i.toNat .none) := by
  show atI l i = _
  unfold atI ixN
  rw [if_pos h.1, if_pos h.2]
  show l[i.toNat]? = _
  rw [List.getD_eq_getElem?_getD, List.getElem?_eq_getElem (by omega)]; rfl
theorem ixL_T (l : List (List Int)) {i : Int} (h : 0 ≤ i ∧ i < (l.length : Int)) : ixD (.list (l.map tI)) i = some (tI (l.getD i.toNat [])) := by
  show atI (l.map tI) i = _
  rw [atI_map]
  unfold atI ixN
  rw [if_pos h.1, if_pos h.2]
  show Option.map _ (l[i.toNat]?) = _
  rw [List.getD_eq_getElem?_getD, List.getElem?_eq_getElem (by omega)]; rfl
theorem mx_up {f : Int} {c d : List Int} (h1 : (c.length : Int) = f) (h2 : (d.length : Int) = f) : ((rgI 0 f).map fun y => PyData.int (if d.getD y.toNat 0 > c.getD y.toNat 0 then d.getD y.toNat 0 else c.getD y.toNat 0)) = (upI c d).map .int := by
  unfold upI
  rw [List.map_map]
  apply List.ext_getElem?
  intro i
  rw [List.getElem?_map, List.getElem?_map]
  by_cases hi : i < c.length
  · have e1 : (rgI 0 f)[i]? = some (i : Int) := by
      have hl : i < (rgI 0 f).length := by rw [rgI_len]; omega
      rw [List.getElem?_eq_getElem hl]
      have := (rgI_get (List.getElem?_eq_getElem hl)).1
      rw [this]; simp
    have e2 : (c.zip d)[i]? = some (c[i], d[i]'(by omega)) := List.getElem?_zip_eq_some.mpr ⟨List.getElem?_eq_getElem hi, List.getElem?_eq_getElem (by omega)⟩
    rw [e1, e2]
    show some (PyData.int (if d.getD (i : Int).toNat 0 > c.getD (i : Int).toNat 0 then d.getD (i : Int).toNat 0 else c.getD (i : Int).toNat 0)) = some (PyData.int (if d[i] > c[i] then d[i] else c[i]))
    rw [Int.toNat_natCast, getD_w hi, getD_w (show i < d.length by omega)]
  · rw [List.getElem?_eq_none (by rw [rgI_len]; omega), List.getElem?_eq_none (by rw [List.length_zip]; omega)]; rfl
theorem way_all {f s : Int} {one last : List Int} {L : List (List Int)} (h1 : Ch f s one) (w : WayOk f s one last L) {k : Nat} (hk : k < L.length) : Ch f s (L.getD k []) := by
  have e : L[k]? = some (L.getD k []) := by rw [List.getD_eq_getElem?_getD, List.getElem?_eq_getElem hk]; rfl
  cases k with
  | zero => rw [w.hd] at e; rw [← Option.some.inj e]; exact h1
  | succ k =>
    have e0 : L[k]? = some (L[k]'(by omega)) := List.getElem?_eq_getElem (by omega)
    exact (w.ch k _ _ e0 e).2
theorem way_in_raised {f s : Int} {one last : List Int} {L : List (List Int)} (w : WayOk f s one last L) {y : Int} (h : 1 ≤ y ∧ y < (L.length : Int)) : L.getD y.toNat [] ∈ raisedI f s (L.getD (y - 1).toNat []) := by
  have e : L[(y - 1).toNat + 1]? = some (L.getD y.toNat []) := by rw [show (y - 1).toNat + 1 = y.toNat by omega, List.getD_eq_getElem?_getD, List.getElem?_eq_getElem (by omega)]; rfl
  have e0 : L[(y - 1).toNat]? = some (L.getD (y - 1).toNat []) := by rw [List.getD_eq_getElem?_getD, List.getElem?_eq_getElem (by omega)]; rfl
  exact raised_iff.mpr (w.ch _ _ _ e0 e)
theorem cutD_len {α : Type} (xs : List α) (l u : Option Int) : (cutD xs l u).length ≤ xs.length := by
  unfold cutD
  rw [List.length_take, List.length_drop]; omega
def WL (o : List Int) : List PyData := [.none, .list (o.map .int), .tuple ((o.drop 1).map .int), .tuple (cutD (o.map .int) none (some (-1)) ++ [.int 99])]
theorem wl_bad {f s : Int} {c o : List Int} (z : Sz f s) (ho : Ch f s o) {i : Int} (h : 0 ≤ i ∧ i < 4) : smallT ((WL o).getD i.toNat .none) ∧ ¬ (isCh f s (tI c) && isCh f s ((WL o).getD i.toNat .none)) = true := by
  have l6 := ho.len6 z
  have q := ho.1
  have : i = 0 ∨ i = 1 ∨ i = 2 ∨ i = 3 := by omega
  rw [Bool.and_eq_true]
  rcases this with rfl | rfl | rfl | rfl
  · exact ⟨trivial, fun h => by cases h.2⟩
  · exact ⟨trivial, fun h => by cases h.2⟩
  · refine ⟨?_, fun h => ?_⟩
    · show ((o.drop 1).map PyData.int).length ≤ 1000
      rw [List.length_map, List.length_drop]; omega
    · have h2 := (isCh_tI (c := o.drop 1)).mp h.2
      have h3 := h2.1
      rw [List.length_drop] at h3
      have := z.1
      omega
  · refine ⟨?_, fun h => ?_⟩
    · show (cutD (o.map PyData.int) none (some (-1)) ++ [PyData.int 99]).length ≤ 1000
      have := cutD_len (o.map PyData.int) none (some (-1))
      rw [List.length_map] at this
      rw [List.length_append, List.length_singleton]; omega
    · obtain ⟨c', e, h2⟩ := isCh_iff.mp h.2
      have e : cutD (o.map PyData.int) none (some (-1)) ++ [PyData.int 99] = c'.map PyData.int := PyData.tuple.inj e
      have m : PyData.int 99 ∈ c'.map PyData.int := by rw [← e]; simp
      obtain ⟨n, hn, en⟩ := List.mem_map.mp m
      cases en
      have h3 : (1 : Int) ≤ 99 ∧ 99 ≤ f + s := h2.2.1 99 hn
      have := z.1; have := z.2
      omega
theorem Room.units65 {k : Nat} {A : Around} (r : Room k A) : A.units + 65 < cLine := by have := r.un; omega
theorem any_tups (c : List Int) : ∀ ds : List (List Int), ((ds.map tI).any fun z => PyData.eqv z (tI c)) = decide (c ∈ ds)
  | [] => by simp
  | d :: ds => by
    rw [List.map_cons, List.any_cons, any_tups c ds]
    have e : PyData.eqv (tI d) (tI c) = decide (d = c) := by rw [PyData.eqv, eqvAll_ints]
    rw [e, ← Bool.decide_or]
    refine decide_eq_decide.mpr ?_
    rw [List.mem_cons]
    exact ⟨fun h => h.imp Eq.symm id, fun h => h.imp Eq.symm id⟩
theorem ov_notInLT {X : Cx} {c : List Int} {ds : List (List Int)} (hu : X.A.units + 65 < cLine) : OpV X (compareOp .NotIn) (tI c) (.list (ds.map tI)) (.bool (!decide (c ∈ ds))) :=
  ⟨_, op_notInD hu, fun x y H0 H hs hx hy Q q => ⟨tI c, ds.map tI, (hx.mono hs).dp (SeqAt.canLay_of_shaped shT_ints), (hy.mono hs).dp (SeqAt.canLay_of_shaped shL_tups), shT_ints, shL_tups, by
    have e := any_tups c ds
    rw [e]
    exact q _ H0 H (Gr.refl hs) (.bl _)⟩⟩
end Rk

namespace Rk
open PySem PySem.Spec PyProof.Rows L2
local macro_rules | `(tactic| walk_at "arith") => `(tactic| (first | decide | omega | assumption))
local macro_rules | `(tactic| walk_at "Add") => `(tactic| (first | exact ov_add | exact ov_catTm (by walk_at "szl") | exact ov_catT (by walk_at "szl") | exact (of_cat (by walk_at "szl")).v))
local macro_rules | `(tactic| walk_at "AddF") => `(tactic| (first | exact of_cat (by walk_at "szl")))
local macro_rules | `(tactic| walk_at "Sub") => `(tactic| exact ov_sub)
local macro_rules | `(tactic| walk_at "Mult") => `(tactic| (first | exact ov_mul (by unfold CMul; first | decide | omega) | exact (of_rep1 (by omega) (by omega) (by walk_at "szl")).v | exact (of_rep (by omega) (by omega) (by walk_at "szl")).v))
local macro_rules | `(tactic| walk_at "FloorDiv") => `(tactic| exact ov_fdiv (by unfold CDiv; first | decide | omega))
local macro_rules | `(tactic| walk_at "Mod") => `(tactic| exact ov_mod (by first | decide | omega))
local macro_rules | `(tactic| walk_at "Pow") => `(tactic| exact ov_pow (by unfold CPow; first | decide | omega))
local macro_rules | `(tactic| walk_at "Lt") => `(tactic| exact ov_lt)
local macro_rules | `(tactic| walk_at "LtE") => `(tactic| exact ov_le)
local macro_rules | `(tactic| walk_at "Gt") => `(tactic| exact ov_gt)
local macro_rules | `(tactic| walk_at "GtE") => `(tactic| exact ov_ge)
local macro_rules | `(tactic| walk_at "Eq") => `(tactic| (first | exact ov_eq | exact ov_eqP (by walk_at "units") | exact ov_eqTI (by walk_at "units") | exact ov_eqLI (by walk_at "units") | exact ov_eqD (by walk_at "units") (by walk_at "shape") (by walk_at "shape")))
local macro_rules | `(tactic| walk_at "NotEq") => `(tactic| (first | exact ov_ne | exact ov_neP (by walk_at "units") | exact ov_neTI (by walk_at "units") | exact ov_neLI (by walk_at "units") | exact ov_neD (by walk_at "units") (by walk_at "shape") (by walk_at "shape")))
local macro_rules | `(tactic| walk_at "In") => `(tactic| (first | exact ov_inT | exact ov_inL))
local macro_rules | `(tactic| walk_at "NotIn") => `(tactic| (first | exact ov_notInT | exact ov_notInL))
local macro_rules | `(tactic| walk_at "Is") => `(tactic| exact ov_isN)
local macro_rules | `(tactic| walk_at "IsNot") => `(tactic| exact ov_notN)
local macro_rules | `(tactic| walk_at "len") => `(tactic| (first | exact ca_lenTm | exact ca_lenLm | exact ca_lenT | exact ca_lenL | exact ca_lenS))
local macro_rules | `(tactic| walk_at "sum") => `(tactic| (first | exact ca_sumT rfl | exact ca_sumL rfl))
local macro_rules | `(tactic| walk_at "sorted") => `(tactic| (first | exact ca_sortedT | exact ca_sortedL))
local macro_rules | `(tactic| walk_at "list") => `(tactic| (first | exact ca_listT))
local macro_rules | `(tactic| walk_at "it") => `(tactic| (first | exact ItD.tup | exact ItD.lst | exact ItD.tupI | exact ItD.lstI))
local macro_rules | `(tactic| walk_at "zip") => `(tactic| (first | exact ZpD.tup | exact ZpD.lst))
local macro_rules | `(tactic| walk_at "tru") => `(tactic| exact trivial)
local macro_rules | `(tactic| walk_at "rv") => `(tactic| (first | exact rvT_ints | exact rvL_ints | rfl))
local macro_rules | `(tactic| walk_at "sl") => `(tactic| (first | exact slT_1 | exact slT_1d | exact slL_from (by omega) | rfl))
local macro_rules | `(tactic| walk_at "units") => `(tactic| exact Room.units (by assumption))
local macro_rules | `(tactic| walk_at "in_range") => `(tactic| exact ⟨_, _, _, rfl, rfl⟩)
local macro_rules | `(tactic| walk_at "sz") => `(tactic| exact sz_of (by (try simp only [List.length_map, List.length_zip, List.length_drop, List.length_range, rgI_len, List.length_append, List.length_cons, List.length_nil, List.length_reverse, List.length_replicate]); omega))
local macro_rules | `(tactic| walk_at "szl") => `(tactic| exact sz_le (by (try simp only [List.length_map, List.length_zip, List.length_drop, List.length_range, rgI_len, List.length_append, List.length_cons, List.length_nil, List.length_reverse, List.length_replicate]); omega))
local macro_rules | `(tactic| walk_at "ix") => `(tactic| (first | exact ixP0 | exact ixP1 | exact ixL_ints (by constructor <;> omega) | exact ixT_ints (by constructor <;> omega) | exact ixS_ints (by constructor <;> omega)))
local macro_rules | `(tactic| walk_at "rgb") => `(tactic| (first | decide | omega | (refine ⟨?_, ?_, ?_, ?_⟩ <;> omega)))
local macro_rules | `(tactic| walk_at "rg") => `(tactic| (refine ⟨?_, ?_, ?_, ?_, ?_⟩ <;> omega))
local macro_rules | `(tactic| walk_at "ints") => `(tactic| rfl)
local macro_rules | `(tactic| walk_at "shape") => `(tactic| (first | exact shT_ints | exact shL_ints | decide +kernel | rfl))
local macro_rules | `(tactic| walk_at "check_sizes") => `(tactic| exact ⟨_, _, rfl, by first | exact (if_pos (by assumption)).symm | exact (if_neg (by assumption)).symm⟩)
local macro_rules | `(tactic| walk_at "is_choice_of") => `(tactic| exact ⟨_, _, _, rfl, by first | assumption | exact trivial, rfl⟩)
local macro_rules | `(tactic| walk_at "cc") => `(tactic| (first | exact cc_ok (by assumption) (by assumption) | exact cc_bad (by assumption) (by assumption) (by assumption) | exact cc_siz (by assumption) (by assumption)))
local macro_rules | `(tactic| walk_at "check_choice") => `(tactic| walk_at "cc")
local macro_rules | `(tactic| walk_at "wins") => `(tactic| walk_at "cc")
local macro_rules | `(tactic| walk_at "other_group") => `(tactic| walk_at "cc")
local macro_rules | `(tactic| walk_at "turned") => `(tactic| walk_at "cc")
local macro_rules | `(tactic| walk_at "wins_of") => `(tactic| exact ⟨_, rfl, by omega, rfl⟩)
local macro_rules | `(tactic| walk_at "_law_cell") => `(tactic| exact ⟨_, _, rfl, by omega, rfl⟩)
local macro_rules | `(tactic| walk_at "_law_whole") => `(tactic| exact ⟨_, rfl, rfl⟩)
local macro_rules | `(tactic| walk_at "_law_in") => `(tactic| exact ⟨_, _, _, rfl, rfl⟩)
local macro_rules | `(tactic| walk_at "_law_row") => `(tactic| exact ⟨_, _, rfl, by omega, rfl⟩)
local macro_rules | `(tactic| walk_at "_law_choice") => `(tactic| exact ⟨_, _, _, _, rfl, by omega, by assumption, rfl⟩)
local macro_rules | `(tactic| walk_at "lenB") => `(tactic| (first | exact cb_lenM | exact cb_len))
local macro_rules | `(tactic| walk_at "wk") => `(tactic| (repeat (first | exact Wk.nil | refine Wk.no ?_ | refine Wk.eq ?_)))
local macro_rules | `(tactic| walk_at "_law_wins") => `(tactic| exact ⟨_, _, _, rfl, by omega, Ch.bd (by assumption) (by assumption), rfl⟩)
local macro_rules | `(tactic| walk_at "is_choice") => `(tactic| exact isc_ok (by assumption) (by assumption))
local macro_rules | `(tactic| walk_at "counts_of") => `(tactic| (first | exact ⟨_, _, rfl, by omega, by omega, by omega, rfl⟩ | exact cntS (by assumption)))
local macro_rules | `(tactic| walk_at "enum") => `(tactic| first | exact EnD2.lst | exact EnD2.tup)
local macro_rules | `(tactic| walk_at "MultF") => `(tactic| (first | exact of_rep1 (by omega) (by omega) (by walk_at "szl")))
local macro_rules | `(tactic| walk_at "divisor_of") => `(tactic| exact ⟨_, _, rfl, rfl⟩)
local macro_rules | `(tactic| walk_at "_law_gcd") => `(tactic| exact ⟨_, _, rfl, rfl⟩)
local macro_rules | `(tactic| walk_at "reduced") => `(tactic| exact ⟨_, _, rfl, by omega, by omega, rfl⟩)
local macro_rules | `(tactic| walk_at "at_least") => `(tactic| exact ⟨_, _, _, rfl, by assumption, by omega, rfl⟩)
local macro_rules | `(tactic| walk_at "counts") => `(tactic| exact cts_ok (by assumption))
local macro_rules | `(tactic| walk_at "chance") => `(tactic| (first | exact nn_ok (by assumption) (by constructor <;> omega) | exact nn_bad (by assumption) (by assumption) | exact nn_siz (by assumption)))
local macro_rules | `(tactic| walk_at "count_wins") => `(tactic| walk_at "chance")
local macro_rules | `(tactic| walk_at "check_error") => `(tactic| exact ⟨_, rfl, by first | exact (if_pos (by assumption)).symm | exact (if_neg (by assumption)).symm⟩)
local macro_rules | `(tactic| walk_at "least_of") => `(tactic| exact ⟨_, _, _, _, rfl, by assumption, by constructor <;> omega, by constructor <;> omega, rfl⟩)
local macro_rules | `(tactic| walk_at "least_wins") => `(tactic| (first | exact lw_ok2 (by assumption) (by first | assumption | decide +kernel) | exact lw_ok (by assumption) (by assumption) | exact lw_bad (by assumption) (by assumption) | exact lw_siz (by assumption)))
set_option hygiene false in
local macro_rules | `(tactic| walk_at "szl") => `(tactic| (have hLq := hLen _ hy; exact sz_le (by (try simp only [List.length_map, List.length_append, List.length_cons, List.length_nil]); omega)))
set_option hygiene false in
local macro_rules | `(tactic| walk_at "ix") => `(tactic| (have hyq := mem_rgI.mp hy; first | exact ixT_ints (by constructor <;> omega) | exact ixL_ints (by constructor <;> omega)))
local macro_rules | `(tactic| walk_at "Eq") => `(tactic| (first | exact ov_eqLN (by walk_at "units") | exact ov_eqB (by walk_at "units")))
local macro_rules | `(tactic| walk_at "NotEq") => `(tactic| (first | exact ov_neLN (by walk_at "units") | exact ov_neB (by walk_at "units")))
local macro_rules | `(tactic| walk_at "_law_all") => `(tactic| exact ⟨_, _, rfl, by assumption, rfl⟩)
local macro_rules | `(tactic| walk_at "lies_below") => `(tactic| exact ⟨_, _, rfl, by omega, by omega, rfl⟩)
local macro_rules | `(tactic| walk_at "_law_below") => `(tactic| exact ⟨_, _, rfl, by omega, by omega, rfl⟩)
local macro_rules | `(tactic| walk_at "cc2") => `(tactic| (first | exact cc2_ok (by assumption) (by assumption) (by assumption) | exact cc2_bad (by assumption) (by assumption) (by assumption) (by assumption) | exact cc2_siz (by assumption) (by assumption) (by assumption)))
local macro_rules | `(tactic| walk_at "check_two") => `(tactic| walk_at "cc2")
local macro_rules | `(tactic| walk_at "is_below") => `(tactic| walk_at "cc2")
local macro_rules | `(tactic| walk_at "upper") => `(tactic| walk_at "cc2")
local macro_rules | `(tactic| walk_at "lower") => `(tactic| walk_at "cc2")
local macro_rules | `(tactic| walk_at "every_choice") => `(tactic| exact ⟨_, _, rfl, by assumption, rfl⟩)
local macro_rules | `(tactic| walk_at "all_choices") => `(tactic| exact ac_ok (by assumption))
set_option hygiene false in
local macro_rules | `(tactic| walk_at "chance") => `(tactic| (have hyq := mem_rgI.mp hy; exact nn_ok (by assumption) (by constructor <;> omega)))
local macro_rules | `(tactic| walk_at "Eq") => `(tactic| exact ov_eqLT (by walk_at "units"))
local macro_rules | `(tactic| walk_at "NotEq") => `(tactic| exact ov_neLT (by walk_at "units"))
local macro_rules | `(tactic| walk_at "ways") => `(tactic| exact ⟨_, _, rfl, by constructor <;> omega, by constructor <;> omega, rfl⟩)
local macro_rules | `(tactic| walk_at "rank_of") => `(tactic| walk_at "cc")
local macro_rules | `(tactic| walk_at "from_rank") => `(tactic| (first | exact fr_ok (by assumption) (by constructor <;> omega) | exact fr_bad (by assumption) (by assumption) | exact fr_siz (by assumption)))
local macro_rules | `(tactic| walk_at "Lt") => `(tactic| exact ov_ltTI (by walk_at "units"))
local macro_rules | `(tactic| walk_at "shape") => `(tactic| walk_at "cc")
local macro_rules | `(tactic| walk_at "is_shape") => `(tactic| (first | exact ish_ok (by assumption) (by assumption) | exact ish_siz (by assumption) (by assumption)))
local macro_rules | `(tactic| walk_at "from_shape") => `(tactic| (first | exact sh_ok (by assumption) (by assumption) (by assumption) | exact sh_bad (by assumption) (by assumption) (by assumption) | exact sh_siz (by assumption) (by assumption)))
local macro_rules | `(tactic| walk_at "is_row") => `(tactic| exact ⟨_, rfl, by assumption, rfl⟩)
local macro_rules | `(tactic| walk_at "rows") => `(tactic| (first | exact rows_ok (by assumption) (by assumption) | exact rows_bad (by assumption) (by assumption) (by assumption)))
local macro_rules | `(tactic| walk_at "check_rows") => `(tactic| walk_at "rows")
local macro_rules | `(tactic| walk_at "differences") => `(tactic| walk_at "rows")
local macro_rules | `(tactic| walk_at "middle_shift") => `(tactic| walk_at "rows")
local macro_rules | `(tactic| walk_at "wins_after") => `(tactic| exact ⟨_, _, _, rfl, by omega, by omega, rfl⟩)
local macro_rules | `(tactic| walk_at "differences_of") => `(tactic| exact ⟨_, _, rfl, by omega, by omega, rfl⟩)
local macro_rules | `(tactic| walk_at "_law_numbers") => `(tactic| exact ⟨_, _, rfl, by omega, rfl⟩)
local macro_rules | `(tactic| walk_at "wins_at") => `(tactic| (first | exact wa_ok (by assumption) (by assumption) (by constructor <;> omega) | exact wa_row (by assumption) (by assumption) (by assumption) | exact wa_num (by assumption) (by assumption) (by assumption) (by assumption)))
local macro_rules | `(tactic| walk_at "shift_bounds") => `(tactic| (first | exact sb_row (by assumption) (by assumption) (by assumption) | exact sb_err (by assumption) (by assumption) (by assumption) (by assumption) | exact sb_ok (by assumption) (by assumption) (by assumption)))
local macro_rules | `(tactic| walk_at "double_ranks") => `(tactic| exact ⟨_, _, rfl, by assumption, by assumption, by assumption, rfl⟩)
local macro_rules | `(tactic| walk_at "raised") => `(tactic| walk_at "cc")
local macro_rules | `(tactic| walk_at "format_choice") => `(tactic| walk_at "cc")
local macro_rules | `(tactic| walk_at "text_of") => `(tactic| exact ⟨_, _, _, rfl, by assumption, rfl⟩)
local macro_rules | `(tactic| walk_at "_law_is_choice") => `(tactic| exact ⟨_, _, _, rfl, by omega, by assumption, by assumption, rfl⟩)
local macro_rules | `(tactic| walk_at "Mult") => `(tactic| exact ov_repT1 (by omega) (by omega))

local macro_rules | `(tactic| walk_at "_law_raised") => `(tactic| exact ⟨_, _, _, rfl, by assumption, by assumption, rfl⟩)
local macro_rules | `(tactic| walk_at "nod") => `(tactic| (intro j G hj e; rcases j with _ | _ | _ | _ | _ | _ | _ | _ | _ | _ | _ | _ | _ | _ | _ | j <;> first | exact absurd rfl hj | (cases e; done) | (cases e; intro hm; have hm := List.mem_singleton.mp hm; first | exact absurd hm (by assumption) | exact absurd hm.symm (by assumption))))
def top (i : Nat) : Stmt := PySem.Challenge.pw_ranksums_k10_whole_ways.main.body.getD i (.Pass ⟨0, 0, 0, 0⟩)
abbrev s_in_range : Stmt := top 7
abbrev s_check_sizes : Stmt := top 8
abbrev s_is_choice_of : Stmt := top 9
abbrev s_check_choice : Stmt := top 10
abbrev s_check_two : Stmt := top 12
abbrev s_lies_below : Stmt := top 13
abbrev s_raised : Stmt := top 14
abbrev s_way : Stmt := top 15
abbrev s_count_ways : Stmt := top 16
abbrev s__law_cell : Stmt := top 18
abbrev s__law_whole : Stmt := top 19
abbrev s__law_row : Stmt := top 20
abbrev s__law_in : Stmt := top 21
abbrev s__law_choice : Stmt := top 22
abbrev s__law_is_choice : Stmt := top 23
abbrev s__law_below : Stmt := top 24
abbrev s__law_raised : Stmt := top 25
abbrev s__law_led : Stmt := top 26
abbrev s_law : Stmt := top 27
structure Tx (K : PySem.W.Frag) (mg : Str → Option Value) (c_RankError c_InvalidSizes c_InvalidChoice c_NotBelow : Addr) (t_MAX_SIZE : Tok) : Prop where
  m_isinstance : mg "isinstance" = none
  m_int : mg "int" = none
  m_bool : mg "bool" = none
  m_tuple : mg "tuple" = none
  m_len : mg "len" = none
  m_zip : mg "zip" = none
  m_enumerate : mg "enumerate" = none
  m_sorted : mg "sorted" = none
  m_range : mg "range" = none
  m_sum : mg "sum" = none
  m_list : mg "list" = none
  m_set : mg "set" = none
  m_max : mg "max" = none
  g_MAX_SIZE : mg "MAX_SIZE" = some (.int 6 t_MAX_SIZE)
  x_RankError : XcT K mg "RankError" c_RankError
  x_InvalidSizes : XcT K mg "InvalidSizes" c_InvalidSizes
  x_InvalidChoice : XcT K mg "InvalidChoice" c_InvalidChoice
  x_NotBelow : XcT K mg "NotBelow" c_NotBelow
  e_RankError : ExcC K c_RankError
  i_RankError : PySem.W.isClsIn K c_RankError = true
  v_RankError : PySem.W.subIn K (.ref c_RankError) (.type "ValueError") = some true
  s_RankError_RankError : PySem.W.subIn K (.ref c_RankError) (.ref c_RankError) = some true
  s_RankError_InvalidSizes : PySem.W.subIn K (.ref c_RankError) (.ref c_InvalidSizes) = some false
  s_RankError_InvalidChoice : PySem.W.subIn K (.ref c_RankError) (.ref c_InvalidChoice) = some false
  s_RankError_NotBelow : PySem.W.subIn K (.ref c_RankError) (.ref c_NotBelow) = some false
  e_InvalidSizes : ExcC K c_InvalidSizes
  i_InvalidSizes : PySem.W.isClsIn K c_InvalidSizes = true
  v_InvalidSizes : PySem.W.subIn K (.ref c_InvalidSizes) (.type "ValueError") = some true
  s_InvalidSizes_RankError : PySem.W.subIn K (.ref c_InvalidSizes) (.ref c_RankError) = some true
  s_InvalidSizes_InvalidSizes : PySem.W.subIn K (.ref c_InvalidSizes) (.ref c_InvalidSizes) = some true
  s_InvalidSizes_InvalidChoice : PySem.W.subIn K (.ref c_InvalidSizes) (.ref c_InvalidChoice) = some false
  s_InvalidSizes_NotBelow : PySem.W.subIn K (.ref c_InvalidSizes) (.ref c_NotBelow) = some false
  e_InvalidChoice : ExcC K c_InvalidChoice
  i_InvalidChoice : PySem.W.isClsIn K c_InvalidChoice = true
  v_InvalidChoice : PySem.W.subIn K (.ref c_InvalidChoice) (.type "ValueError") = some true
  s_InvalidChoice_RankError : PySem.W.subIn K (.ref c_InvalidChoice) (.ref c_RankError) = some true
  s_InvalidChoice_InvalidSizes : PySem.W.subIn K (.ref c_InvalidChoice) (.ref c_InvalidSizes) = some false
  s_InvalidChoice_InvalidChoice : PySem.W.subIn K (.ref c_InvalidChoice) (.ref c_InvalidChoice) = some true
  s_InvalidChoice_NotBelow : PySem.W.subIn K (.ref c_InvalidChoice) (.ref c_NotBelow) = some false
  e_NotBelow : ExcC K c_NotBelow
  i_NotBelow : PySem.W.isClsIn K c_NotBelow = true
  v_NotBelow : PySem.W.subIn K (.ref c_NotBelow) (.type "ValueError") = some true
  s_NotBelow_RankError : PySem.W.subIn K (.ref c_NotBelow) (.ref c_RankError) = some true
  s_NotBelow_InvalidSizes : PySem.W.subIn K (.ref c_NotBelow) (.ref c_InvalidSizes) = some false
  s_NotBelow_InvalidChoice : PySem.W.subIn K (.ref c_NotBelow) (.ref c_InvalidChoice) = some false
  s_NotBelow_NotBelow : PySem.W.subIn K (.ref c_NotBelow) (.ref c_NotBelow) = some true
set_option hygiene false in
local macro_rules | `(tactic| walk_at "exc") => `(tactic| (first | exact T.e_RankError | exact T.e_InvalidSizes | exact T.e_InvalidChoice | exact T.e_NotBelow))
set_option hygiene false in
local macro_rules | `(tactic| walk_at "kit") => `(tactic| (first | exact kitV T.v_RankError | exact kitV T.v_InvalidSizes | exact kitV T.v_InvalidChoice | exact kitV T.v_NotBelow | exact kitO T.i_RankError T.x_RankError.t T.s_RankError_RankError T.s_RankError_RankError | exact kitO T.i_InvalidSizes T.x_InvalidSizes.t T.s_RankError_InvalidSizes T.s_RankError_RankError | exact kitO T.i_InvalidChoice T.x_InvalidChoice.t T.s_RankError_InvalidChoice T.s_RankError_RankError | exact kitO T.i_NotBelow T.x_NotBelow.t T.s_RankError_NotBelow T.s_RankError_RankError | exact kitO T.i_RankError T.x_RankError.t T.s_InvalidSizes_RankError T.s_InvalidSizes_InvalidSizes | exact kitO T.i_InvalidSizes T.x_InvalidSizes.t T.s_InvalidSizes_InvalidSizes T.s_InvalidSizes_InvalidSizes | exact kitO T.i_InvalidChoice T.x_InvalidChoice.t T.s_InvalidSizes_InvalidChoice T.s_InvalidSizes_InvalidSizes | exact kitO T.i_NotBelow T.x_NotBelow.t T.s_InvalidSizes_NotBelow T.s_InvalidSizes_InvalidSizes | exact kitO T.i_RankError T.x_RankError.t T.s_InvalidChoice_RankError T.s_InvalidChoice_InvalidChoice | exact kitO T.i_InvalidSizes T.x_InvalidSizes.t T.s_InvalidChoice_InvalidSizes T.s_InvalidChoice_InvalidChoice | exact kitO T.i_InvalidChoice T.x_InvalidChoice.t T.s_InvalidChoice_InvalidChoice T.s_InvalidChoice_InvalidChoice | exact kitO T.i_NotBelow T.x_NotBelow.t T.s_InvalidChoice_NotBelow T.s_InvalidChoice_InvalidChoice | exact kitO T.i_RankError T.x_RankError.t T.s_NotBelow_RankError T.s_NotBelow_NotBelow | exact kitO T.i_InvalidSizes T.x_InvalidSizes.t T.s_NotBelow_InvalidSizes T.s_NotBelow_NotBelow | exact kitO T.i_InvalidChoice T.x_InvalidChoice.t T.s_NotBelow_InvalidChoice T.s_NotBelow_NotBelow | exact kitO T.i_NotBelow T.x_NotBelow.t T.s_NotBelow_NotBelow T.s_NotBelow_NotBelow))
set_option hygiene false in
local macro_rules | `(tactic| walk_at "exm") => `(tactic| (first | exact PySem.W.exm_ref T.x_RankError.b T.e_RankError.hd T.x_RankError.t T.s_RankError_RankError | exact PySem.W.exm_ref T.x_InvalidSizes.b T.e_InvalidSizes.hd T.x_InvalidSizes.t T.s_RankError_InvalidSizes | exact PySem.W.exm_ref T.x_InvalidChoice.b T.e_InvalidChoice.hd T.x_InvalidChoice.t T.s_RankError_InvalidChoice | exact PySem.W.exm_ref T.x_NotBelow.b T.e_NotBelow.hd T.x_NotBelow.t T.s_RankError_NotBelow | exact PySem.W.exm_ref T.x_RankError.b T.e_RankError.hd T.x_RankError.t T.s_InvalidSizes_RankError | exact PySem.W.exm_ref T.x_InvalidSizes.b T.e_InvalidSizes.hd T.x_InvalidSizes.t T.s_InvalidSizes_InvalidSizes | exact PySem.W.exm_ref T.x_InvalidChoice.b T.e_InvalidChoice.hd T.x_InvalidChoice.t T.s_InvalidSizes_InvalidChoice | exact PySem.W.exm_ref T.x_NotBelow.b T.e_NotBelow.hd T.x_NotBelow.t T.s_InvalidSizes_NotBelow | exact PySem.W.exm_ref T.x_RankError.b T.e_RankError.hd T.x_RankError.t T.s_InvalidChoice_RankError | exact PySem.W.exm_ref T.x_InvalidSizes.b T.e_InvalidSizes.hd T.x_InvalidSizes.t T.s_InvalidChoice_InvalidSizes | exact PySem.W.exm_ref T.x_InvalidChoice.b T.e_InvalidChoice.hd T.x_InvalidChoice.t T.s_InvalidChoice_InvalidChoice | exact PySem.W.exm_ref T.x_NotBelow.b T.e_NotBelow.hd T.x_NotBelow.t T.s_InvalidChoice_NotBelow | exact PySem.W.exm_ref T.x_RankError.b T.e_RankError.hd T.x_RankError.t T.s_NotBelow_RankError | exact PySem.W.exm_ref T.x_InvalidSizes.b T.e_InvalidSizes.hd T.x_InvalidSizes.t T.s_NotBelow_InvalidSizes | exact PySem.W.exm_ref T.x_InvalidChoice.b T.e_InvalidChoice.hd T.x_InvalidChoice.t T.s_NotBelow_InvalidChoice | exact PySem.W.exm_ref T.x_NotBelow.b T.e_NotBelow.hd T.x_NotBelow.t T.s_NotBelow_NotBelow))
section
variable {P : Program} {w : World} {K : PySem.W.Frag} {mg : Str → Option Value} {base : Heap} {c_RankError c_InvalidSizes c_InvalidChoice c_NotBelow : Addr} {t_MAX_SIZE : Tok}
theorem sc_in_range : FnScope ["value", "low", "high"] ["value", "low", "high"] (defScope s_in_range) := ⟨rfl, rfl, rfl, by decide +kernel, rfl, by decide +kernel, by decide +kernel⟩
theorem ok_in_range {f : Addr} {fd : FuncData} (T : Tx K mg c_RankError c_InvalidSizes c_InvalidChoice c_NotBelow t_MAX_SIZE) (F : Fun K "in_range" "in_range" s_in_range f fd) (hm : mg "in_range" = some (.ref f)) (bd : Binds K fd ["value", "low", "high"] []) : Fnk P w K mg base "in_range" 1 (S_in_range) := by
  refine fn_mk F sc_in_range hm bd (by rintro _ _ ⟨d, lo, hi, rfl, _⟩; rfl) fun cdv A outer s H E hr ds r hS => ?_
  have tk := takes_of (X := cxOf (L2.CX P w) P w K mg base ["value", "low", "high"] "in_range" (defScope s_in_range) f cdv A outer s H E) (E := E) rfl rfl rfl rfl
  obtain ⟨d, lo, hi, rfl, rfl⟩ := hS
  have fin : ∀ {b : Bool}, b = false → ∀ x : PyData, (if b then x else .bool false) = PyData.bool false := fun h x => by rw [h]; rfl
  cases d with
  | int i =>
    refine ⟨_, .rt, go_ret (gos_ret (EvV.is (evv_and (evv_isi T.m_isinstance (nV 0) (pe_tyName (t := "int") T.m_int) (by decide)) (fun _ => (evv_and (evv_notT (evv_isi T.m_isinstance (nV 0) (pe_tyName (t := "bool") T.m_bool) (by decide)) (by walk_at "tru")) (fun _ => (evv_one (evv_chain (nV 1) (nV 0) (nV 2) (by walk_at "LtE") (by walk_at "LtE"))))))) ?_))⟩
    show (if true = true then (if (!false) = true then (if decide (lo ≤ i) = true then PyData.bool (decide (i ≤ hi)) else .bool false) else .bool false) else .bool false) = .bool (decide (lo ≤ i) && decide (i ≤ hi))
    cases decide (lo ≤ i) <;> rfl
  | bool b => exact ⟨_, .rt, go_ret (gos_ret (EvV.is (evv_and (evv_isi T.m_isinstance (nV 0) (pe_tyName (t := "int") T.m_int) (by decide)) (fun _ => evv_and (evv_notT (evv_isi T.m_isinstance (nV 0) (pe_tyName (t := "bool") T.m_bool) (by decide)) (by walk_at "tru")) (fun h => by cases h) (d := .none))) rfl))⟩
  | none => exact ⟨_, .rt, go_ret (gos_ret (EvV.is (evv_and (evv_isi T.m_isinstance (nV 0) (pe_tyName (t := "int") T.m_int) (by decide)) (fun h => by cases h) (d := .none)) rfl))⟩
  | str x => exact ⟨_, .rt, go_ret (gos_ret (EvV.is (evv_and (evv_isi T.m_isinstance (nV 0) (pe_tyName (t := "int") T.m_int) (by decide)) (fun h => by cases h) (d := .none)) rfl))⟩
  | list x => exact ⟨_, .rt, go_ret (gos_ret (EvV.is (evv_and (evv_isi T.m_isinstance (nV 0) (pe_tyName (t := "int") T.m_int) (by decide)) (fun h => by cases h) (d := .none)) rfl))⟩
  | tuple x => exact ⟨_, .rt, go_ret (gos_ret (EvV.is (evv_and (evv_isi T.m_isinstance (nV 0) (pe_tyName (t := "int") T.m_int) (by decide)) (fun h => by cases h) (d := .none)) rfl))⟩
  | dict x => exact ⟨_, .rt, go_ret (gos_ret (EvV.is (evv_and (evv_isi T.m_isinstance (nV 0) (pe_tyName (t := "int") T.m_int) (by decide)) (fun h => by cases h) (d := .none)) rfl))⟩
theorem sc_check_sizes : FnScope ["first", "second"] ["first", "second"] (defScope s_check_sizes) := ⟨rfl, rfl, rfl, by decide +kernel, rfl, by decide +kernel, by decide +kernel⟩
theorem ok_check_sizes {f : Addr} {fd : FuncData} (T : Tx K mg c_RankError c_InvalidSizes c_InvalidChoice c_NotBelow t_MAX_SIZE) (F_in_range : Fnk P w K mg base "in_range" 1 (S_in_range)) (F : Fun K "check_sizes" "check_sizes" s_check_sizes f fd) (hm : mg "check_sizes" = some (.ref f)) (bd : Binds K fd ["first", "second"] []) : Fnk P w K mg base "check_sizes" 2 (S_check_sizes c_InvalidSizes) := by
  refine fn_mk F sc_check_sizes hm bd (by rintro _ _ ⟨a, b, rfl, _⟩; rfl) fun cdv A outer s H E hr ds r hS => ?_
  have tk := takes_of (X := cxOf (L2.CX P w) P w K mg base ["first", "second"] "check_sizes" (defScope s_check_sizes) f cdv A outer s H E) (E := E) rfl rfl rfl rfl
  obtain ⟨a, b, rfl, rfl⟩ := hS
  have e : ((!inR a 1 6) || (!inR b 1 6)) = !okSz a b := by unfold okSz; cases inR a 1 6 <;> rfl
  cases h : okSz a b with
  | false =>
    rw [h] at e
    refine ⟨_, .ex, go_ex (gos_ifT (EvT.is ((ew_or (evt_not (evt_truth (evv_call F_in_range hr (eva_cons (nV 0) (eva_cons evv_int (eva_cons (evv_gI T.g_MAX_SIZE) eva_nil))) (by walk_at "in_range")) (by walk_at "tru"))) (fun _ => (ew_or1 (evt_not (evt_truth (evv_call F_in_range hr (eva_cons (nV 1) (eva_cons evv_int (eva_cons (evv_gI T.g_MAX_SIZE) eva_nil))) (by walk_at "in_range")) (by walk_at "tru"))))))).t ?_) (go_ex (gos_raise T.x_InvalidSizes tk)))⟩
    exact e
  | true =>
    rw [h] at e
    refine ⟨_, .nx, go_cons (gos_ifF (EvT.is ((ew_or (evt_not (evt_truth (evv_call F_in_range hr (eva_cons (nV 0) (eva_cons evv_int (eva_cons (evv_gI T.g_MAX_SIZE) eva_nil))) (by walk_at "in_range")) (by walk_at "tru"))) (fun _ => (ew_or1 (evt_not (evt_truth (evv_call F_in_range hr (eva_cons (nV 1) (eva_cons evv_int (eva_cons (evv_gI T.g_MAX_SIZE) eva_nil))) (by walk_at "in_range")) (by walk_at "tru"))))))).t ?_) go_nil) go_nil⟩
    exact e
theorem sc_is_choice_of : FnScope ["first", "second", "value", "rank", "one", "other"] ["first", "second", "value"] (defScope s_is_choice_of) := ⟨rfl, rfl, rfl, by decide +kernel, rfl, by decide +kernel, by decide +kernel⟩
theorem ok_is_choice_of {f : Addr} {fd : FuncData} (T : Tx K mg c_RankError c_InvalidSizes c_InvalidChoice c_NotBelow t_MAX_SIZE) (F_in_range : Fnk P w K mg base "in_range" 1 (S_in_range)) (F : Fun K "is_choice_of" "is_choice_of" s_is_choice_of f fd) (hm : mg "is_choice_of" = some (.ref f)) (bd : Binds K fd ["first", "second", "value"] []) : Fnk P w K mg base "is_choice_of" 2 (S_is_choice_of) := by
  refine fn_mk F sc_is_choice_of hm bd (by rintro _ _ ⟨f, s, d, rfl, _⟩; rfl) fun cdv A outer s H E hr ds r hS => ?_
  have tk := takes_of (X := cxOf (L2.CX P w) P w K mg base ["first", "second", "value", "rank", "one", "other"] "is_choice_of" (defScope s_is_choice_of) f cdv A outer s H E) (E := E) rfl rfl rfl rfl
  obtain ⟨f1, s1, d, rfl, hsm, rfl⟩ := hS
  by_cases ht : isD d "tuple" = false
  · have e : isCh f1 s1 d = false := by cases d <;> first | rfl | cases ht
    rw [e]
    refine ⟨_, .rt, go_ret (gos_ifT (EvT.is ((ew_or (evt_not (evt_truth (evv_isi T.m_isinstance (nV 2) (pe_tyName (t := "tuple") T.m_tuple) (by decide)) (by walk_at "tru"))) (fun h => by rw [show isD d "tuple" = false from ht] at h; cases h) (c' := true)).t) ?_) (go_ret (gos_ret evv_bl)))⟩
    rw [ht]; rfl
  · obtain ⟨xs, rfl⟩ : ∃ xs, d = .tuple xs := by cases d <;> first | exact ⟨_, rfl⟩ | exact absurd rfl ht
    have hx : xs.length ≤ 1000 := hsm
    by_cases hl : (xs.length : Int) = f1
    · by_cases ha : xs.all (fun d => inR d 1 (f1 + s1)) = true
      · obtain ⟨ns, rfl, hb⟩ := allR_ints ha
        rw [List.length_map] at hx hl
        refine ⟨_, .rt, go_cons (gos_ifF (EvT.is ((ew_or (evt_not (evt_truth (evv_isi T.m_isinstance (nV 2) (pe_tyName (t := "tuple") T.m_tuple) (by decide)) (by walk_at "tru"))) (fun _ => (ew_or1 (evt_cmp (evv_cB T.m_len (eva_cons (nV 2) eva_nil) (by walk_at "len")) (nV 0) (by walk_at "NotEq")))))).t ?_) go_nil) (go_cons (gos_ifF (EvT.is (evt_truth ((evf_comp sc_is_choice_of.nd (blkOk_by (own := [("rank", 3)]) (N := ["first", "second", "value", "rank", "one", "other"]) (sc := defScope s_is_choice_of) (by decide +kernel)) (evi_of (nV 2) (by walk_at "it")) (fun _ _ _ _ _ y hy => tg_name 3 sc_is_choice_of.nd) (fun _ _ _ _ _ y hy => (ts_one (evt_not (evt_truth (evv_call F_in_range hr (eva_cons (nV 3) (eva_cons evv_int (eva_cons (evv_bin (nV 0) (nV 1) (by walk_at "Add")) eva_nil))) (by walk_at "in_range")) (by walk_at "tru"))))) (fun _ _ _ _ _ y hy ht => (nV 3)) (by walk_at "sz"))).v (by walk_at "tru")) ?_) go_nil) (go_ret (gos_ret (EvV.is (evv_notT ((evf_comp sc_is_choice_of.nd (blkOk_by (own := [("one", 4), ("other", 5)]) (N := ["first", "second", "value", "rank", "one", "other"]) (sc := defScope s_is_choice_of) (by decide +kernel)) (evi_zip T.m_zip (nV 2) (evv_sl (nV 2) (evo_some evv_int) evo_none (by walk_at "sl")) (by walk_at "zip")) (fun _ _ _ _ _ y hy => tg_tup2 4 5 sc_is_choice_of.nd) (fun _ _ _ _ _ y hy => (ts_one (evt_cmp (nV 4) (nV 5) (by walk_at "GtE")))) (fun _ _ _ _ _ y hy ht => evv_int) (by walk_at "sz"))).v (by walk_at "tru")) ?_))))⟩
        · rw [decide_eq_true hl]; rfl
        · show (!((ns.filter fun y => !(inR (.int y) 1 (f1 + s1))).map PyData.int).isEmpty) = false
          rw [List.filter_eq_nil_iff.mpr]
          · rfl
          · intro n hn
            rw [inR_i.mpr (hb n hn)]; decide
        · show PyData.bool (!!(((ns.zip (ns.drop 1)).filter fun p => decide (p.2 ≤ p.1)).map fun _ => PyData.int 1).isEmpty) = .bool (decide (((ns.map PyData.int).length : Int) = f1) && (ns.map PyData.int).all (fun d => inR d 1 (f1 + s1)) && risesB ((ns.map PyData.int).map unI))
          rw [List.length_map, decide_eq_true hl, ha, map_unI, ← rises_zip, Bool.not_not, List.isEmpty_map]; rfl
      · have e : isCh f1 s1 (.tuple xs) = false := by
          show (_ && xs.all (fun d => inR d 1 (f1 + s1)) && _) = false
          rw [Bool.eq_false_iff.mpr ha, Bool.and_false]; rfl
        rw [e]
        refine ⟨_, .rt, go_cons (gos_ifF (EvT.is ((ew_or (evt_not (evt_truth (evv_isi T.m_isinstance (nV 2) (pe_tyName (t := "tuple") T.m_tuple) (by decide)) (by walk_at "tru"))) (fun _ => (ew_or1 (evt_cmp (evv_cB T.m_len (eva_cons (nV 2) eva_nil) (by walk_at "len")) (nV 0) (by walk_at "NotEq")))))).t ?_) go_nil) (go_ret (gos_ifT (EvT.is (evt_truth ((evf_comp sc_is_choice_of.nd (blkOk_by (own := [("rank", 3)]) (N := ["first", "second", "value", "rank", "one", "other"]) (sc := defScope s_is_choice_of) (by decide +kernel)) (evi_of (nV 2) (by walk_at "it")) (fun _ _ _ _ _ y hy => tg_name 3 sc_is_choice_of.nd) (fun _ _ _ _ _ y hy => (ts_one (evt_not (evt_truth (evv_call F_in_range hr (eva_cons (nV 3) (eva_cons evv_int (eva_cons (evv_bin (nV 0) (nV 1) (by walk_at "Add")) eva_nil))) (by walk_at "in_range")) (by walk_at "tru"))))) (fun _ _ _ _ _ y hy ht => (nV 3)) (by walk_at "sz"))).v (by walk_at "tru")) ?_) (go_ret (gos_ret evv_bl))))⟩
        · rw [decide_eq_true hl]; rfl
        · show (!((xs.filter fun y => !(inR y 1 (f1 + s1))).map fun y => y).isEmpty) = true
          rw [Bool.not_eq_true', List.isEmpty_eq_false_iff]
          intro h
          apply ha
          rw [List.map_eq_nil_iff, List.filter_eq_nil_iff] at h
          rw [List.all_eq_true]
          intro x hx
          have := h x hx
          simpa using this
    · have e : isCh f1 s1 (.tuple xs) = false := by
        show (decide ((xs.length : Int) = f1) && _ && _) = false
        rw [decide_eq_false hl]; rfl
      rw [e]
      refine ⟨_, .rt, go_ret (gos_ifT (EvT.is ((ew_or (evt_not (evt_truth (evv_isi T.m_isinstance (nV 2) (pe_tyName (t := "tuple") T.m_tuple) (by decide)) (by walk_at "tru"))) (fun _ => (ew_or1 (evt_cmp (evv_cB T.m_len (eva_cons (nV 2) eva_nil) (by walk_at "len")) (nV 0) (by walk_at "NotEq")))))).t ?_) (go_ret (gos_ret evv_bl)))⟩
      rw [decide_eq_false hl]; rfl
theorem sc_check_choice : FnScope ["first", "second", "choice"] ["first", "second", "choice"] (defScope s_check_choice) := ⟨rfl, rfl, rfl, by decide +kernel, rfl, by decide +kernel, by decide +kernel⟩
theorem ok_check_choice {f : Addr} {fd : FuncData} (T : Tx K mg c_RankError c_InvalidSizes c_InvalidChoice c_NotBelow t_MAX_SIZE) (F_check_sizes : Fnk P w K mg base "check_sizes" 2 (S_check_sizes c_InvalidSizes)) (F_is_choice_of : Fnk P w K mg base "is_choice_of" 2 (S_is_choice_of)) (F : Fun K "check_choice" "check_choice" s_check_choice f fd) (hm : mg "check_choice" = some (.ref f)) (bd : Binds K fd ["first", "second", "choice"] []) : Fnk P w K mg base "check_choice" 3 (S_check_choice c_InvalidSizes c_InvalidChoice) := by
  refine fn_mk F sc_check_choice hm bd (by rintro _ _ ⟨a, b, d, rfl, _⟩; rfl) fun cdv A outer s H E hr ds r hS => ?_
  have tk := takes_of (X := cxOf (L2.CX P w) P w K mg base ["first", "second", "choice"] "check_choice" (defScope s_check_choice) f cdv A outer s H E) (E := E) rfl rfl rfl rfl
  obtain ⟨a, b, d, rfl, hsm, rfl⟩ := hS
  unfold grd
  by_cases h : okSz a b = true
  · rw [if_pos h]
    have h' := h
    obtain ⟨f1, s1, rfl, rfl, z⟩ := okSz_iff.mp h'
    by_cases h2 : isCh (unI (.int f1)) (unI (.int s1)) d = true
    · rw [if_pos h2]
      refine ⟨_, .nx, go_cons (gos_expr (evv_call F_check_sizes hr (eva_cons (nV 0) (eva_cons (nV 1) eva_nil)) (by walk_at "check_sizes"))) (go_cons (gos_ifF (EvT.is (evt_not (evt_truth (evv_call F_is_choice_of hr (eva_cons (nV 0) (eva_cons (nV 1) (eva_cons (nV 2) eva_nil))) (by walk_at "is_choice_of")) (by walk_at "tru"))) ?_) go_nil) go_nil)⟩
      show (!isCh f1 s1 d) = false
      rw [show isCh f1 s1 d = true from h2]; rfl
    · rw [if_neg h2]
      refine ⟨_, .ex, go_cons (gos_expr (evv_call F_check_sizes hr (eva_cons (nV 0) (eva_cons (nV 1) eva_nil)) (by walk_at "check_sizes"))) (go_ex (gos_ifT (EvT.is (evt_not (evt_truth (evv_call F_is_choice_of hr (eva_cons (nV 0) (eva_cons (nV 1) (eva_cons (nV 2) eva_nil))) (by walk_at "is_choice_of")) (by walk_at "tru"))) ?_) (go_ex (gos_raise T.x_InvalidChoice tk))))⟩
      show (!isCh f1 s1 d) = true
      rw [show isCh f1 s1 d = false from Bool.eq_false_iff.mpr h2]; rfl
  · rw [if_neg h]
    exact ⟨_, .ex, go_ex (gos_exprX (evx_call F_check_sizes hr tk (eva_cons (nV 0) (eva_cons (nV 1) eva_nil)) (by walk_at "check_sizes")))⟩
theorem sc_check_two : FnScope ["first", "second", "one", "other"] ["first", "second", "one", "other"] (defScope s_check_two) := ⟨rfl, rfl, rfl, by decide +kernel, rfl, by decide +kernel, by decide +kernel⟩
theorem ok_check_two {f : Addr} {fd : FuncData} (T : Tx K mg c_RankError c_InvalidSizes c_InvalidChoice c_NotBelow t_MAX_SIZE) (F_check_choice : Fnk P w K mg base "check_choice" 3 (S_check_choice c_InvalidSizes c_InvalidChoice)) (F_is_choice_of : Fnk P w K mg base "is_choice_of" 2 (S_is_choice_of)) (F : Fun K "check_two" "check_two" s_check_two f fd) (hm : mg "check_two" = some (.ref f)) (bd : Binds K fd ["first", "second", "one", "other"] []) : Fnk P w K mg base "check_two" 4 (S_check_two c_InvalidSizes c_InvalidChoice) := by
  refine fn_mk F sc_check_two hm bd (by rintro _ _ ⟨a, b, d, e, rfl, _⟩; rfl) fun cdv A outer s H E hr ds r hS => ?_
  have tk := takes_of (X := cxOf (L2.CX P w) P w K mg base ["first", "second", "one", "other"] "check_two" (defScope s_check_two) f cdv A outer s H E) (E := E) rfl rfl rfl rfl
  obtain ⟨a, b, d, e, rfl, hsm, hsm2, rfl⟩ := hS
  unfold grd2
  by_cases h : okSz a b = true
  · rw [if_pos h]
    have h' := h
    obtain ⟨f1, s1, rfl, rfl, z⟩ := okSz_iff.mp h'
    by_cases h2 : isCh (unI (.int f1)) (unI (.int s1)) d = true
    · have h2' := h2
      obtain ⟨c1, rfl, hc1⟩ := isCh_iff.mp h2'
      have hc1 : Ch f1 s1 c1 := hc1
      by_cases h3 : isCh (unI (.int f1)) (unI (.int s1)) e = true
      · rw [if_pos (by rw [h2, h3]; rfl)]
        refine ⟨_, .nx, go_cons (gos_expr (evv_call F_check_choice hr (eva_cons (nV 0) (eva_cons (nV 1) (eva_cons (nV 2) eva_nil))) (by walk_at "check_choice"))) (go_cons (gos_ifF (EvT.is (evt_not (evt_truth (evv_call F_is_choice_of hr (eva_cons (nV 0) (eva_cons (nV 1) (eva_cons (nV 3) eva_nil))) (by walk_at "is_choice_of")) (by walk_at "tru"))) ?_) go_nil) go_nil)⟩
        show (!isCh f1 s1 e) = false
        rw [show isCh f1 s1 e = true from h3]; rfl
      · rw [if_neg (by rw [h2, Bool.eq_false_iff.mpr h3]; decide)]
        refine ⟨_, .ex, go_cons (gos_expr (evv_call F_check_choice hr (eva_cons (nV 0) (eva_cons (nV 1) (eva_cons (nV 2) eva_nil))) (by walk_at "check_choice"))) (go_ex (gos_ifT (EvT.is (evt_not (evt_truth (evv_call F_is_choice_of hr (eva_cons (nV 0) (eva_cons (nV 1) (eva_cons (nV 3) eva_nil))) (by walk_at "is_choice_of")) (by walk_at "tru"))) ?_) (go_ex (gos_raise T.x_InvalidChoice tk))))⟩
        show (!isCh f1 s1 e) = true
        rw [show isCh f1 s1 e = false from Bool.eq_false_iff.mpr h3]; rfl
    · rw [if_neg (by rw [Bool.eq_false_iff.mpr h2, Bool.false_and]; decide)]
      exact ⟨_, .ex, go_ex (gos_exprX (evx_call F_check_choice hr tk (eva_cons (nV 0) (eva_cons (nV 1) (eva_cons (nV 2) eva_nil))) (by walk_at "check_choice")))⟩
  · rw [if_neg h]
    exact ⟨_, .ex, go_ex (gos_exprX (evx_call F_check_choice hr tk (eva_cons (nV 0) (eva_cons (nV 1) (eva_cons (nV 2) eva_nil))) (by walk_at "check_choice")))⟩
theorem sc_lies_below : FnScope ["one", "other", "rank", "more"] ["one", "other"] (defScope s_lies_below) := ⟨rfl, rfl, rfl, by decide +kernel, rfl, by decide +kernel, by decide +kernel⟩
theorem ok_lies_below {f : Addr} {fd : FuncData} (T : Tx K mg c_RankError c_InvalidSizes c_InvalidChoice c_NotBelow t_MAX_SIZE) (F : Fun K "lies_below" "lies_below" s_lies_below f fd) (hm : mg "lies_below" = some (.ref f)) (bd : Binds K fd ["one", "other"] []) : Fnk P w K mg base "lies_below" 1 (S_lies_below) := by
  refine fn_mk F sc_lies_below hm bd (by rintro _ _ ⟨c, d, rfl, _⟩; rfl) fun cdv A outer s H E hr ds r hS => ?_
  have tk := takes_of (X := cxOf (L2.CX P w) P w K mg base ["one", "other", "rank", "more"] "lies_below" (defScope s_lies_below) f cdv A outer s H E) (E := E) rfl rfl rfl rfl
  obtain ⟨c1, c2, rfl, l1, l2, rfl⟩ := hS
  refine ⟨_, .rt, go_ret (gos_ret (EvV.is (evv_notT ((evf_comp sc_lies_below.nd (blkOk_by (own := [("rank", 2), ("more", 3)]) (N := ["one", "other", "rank", "more"]) (sc := defScope s_lies_below) (by decide +kernel)) (evi_zip T.m_zip (nV 0) (nV 1) (by walk_at "zip")) (fun _ _ _ _ _ y hy => tg_tup2 2 3 sc_lies_below.nd) (fun _ _ _ _ _ y hy => (ts_one (evt_cmp (nV 2) (nV 3) (by walk_at "Gt")))) (fun _ _ _ _ _ y hy ht => evv_int) (by walk_at "sz"))).v (by walk_at "tru")) ?_))⟩
  show PyData.bool (!!(((c1.zip c2).filter fun p => decide (p.2 < p.1)).map fun _ => PyData.int 1).isEmpty) = .bool (belI c1 c2)
  rw [Bool.not_not, List.isEmpty_map]; rfl
theorem sc_raised : FnScope ["first", "second", "choice", "found", "place", "rank", "more"] ["first", "second", "choice"] (defScope s_raised) := ⟨rfl, rfl, rfl, by decide +kernel, rfl, by decide +kernel, by decide +kernel⟩
theorem ok_raised {f : Addr} {fd : FuncData} (T : Tx K mg c_RankError c_InvalidSizes c_InvalidChoice c_NotBelow t_MAX_SIZE) (F_check_choice : Fnk P w K mg base "check_choice" 3 (S_check_choice c_InvalidSizes c_InvalidChoice)) (F_is_choice_of : Fnk P w K mg base "is_choice_of" 2 (S_is_choice_of)) (F : Fun K "raised" "raised" s_raised f fd) (hm : mg "raised" = some (.ref f)) (bd : Binds K fd ["first", "second", "choice"] []) : Fnk P w K mg base "raised" 4 (S_raised c_InvalidSizes c_InvalidChoice) := by
  refine fn_mk F sc_raised hm bd (by rintro _ _ ⟨a, b, d, rfl, _⟩; rfl) fun cdv A outer s H E hr ds r hS => ?_
  have tk := takes_of (X := cxOf (L2.CX P w) P w K mg base ["first", "second", "choice", "found", "place", "rank", "more"] "raised" (defScope s_raised) f cdv A outer s H E) (E := E) rfl rfl rfl rfl
  obtain ⟨a, b, d, rfl, hsm, rfl⟩ := hS
  unfold grd
  by_cases h : okSz a b = true
  · by_cases h2 : isCh (unI a) (unI b) d = true
    · rw [if_pos h, if_pos h2]
      obtain ⟨f1, s1, rfl, rfl, z⟩ := okSz_iff.mp h
      obtain ⟨c, rfl, hc⟩ := isCh_iff.mp h2
      have hc : Ch f1 s1 c := hc
      have l6 := hc.len6 z
      have ⟨⟨z1, z2⟩, z3, z4⟩ := z
      rw [unTs_ints]
      refine ⟨_, .rt, go_cons (gos_expr (evv_call F_check_choice hr (eva_cons (nV 0) (eva_cons (nV 1) (eva_cons (nV 2) eva_nil))) (by walk_at "check_choice"))) (go_cons (gos_setO 3 sc_raised.nd (evf_lst eva_nil)) (go_cons (gos_for (fun t => [.v (.int f1), .v (.int s1), .v (.tuple (c.map .int)), .o ((stepsL f1 s1 c t).map tI), .no, .no, .no]) c.length (evi_enum2 T.m_enumerate (nV 2) (by walk_at "enum")) ?_ (by walk_at "wk") (fun t y hy => ?_) (passes_of rfl)) ?_))⟩
      · rw [List.length_zip, rgI_len]; omega
      · obtain ⟨g1, g2⟩ := List.getElem?_zip_eq_some.mp hy
        obtain ⟨g3, g4⟩ := rgI_get g1
        obtain ⟨y1, y2⟩ := y
        have g3 : y1 = t := by have : y1 = 0 + (t : Int) := g3; omega
        subst g3
        have g2 : c[t]? = some y2 := g2
        have e5 : c.getD t 0 = y2 := by rw [List.getD_eq_getElem?_getD, g2]; rfl
        have ht : t < c.length := (List.getElem?_eq_some_iff.mp g2).1
        have hsl := stepsL_len f1 s1 c t
        have hul := upAt_len ht
        have l3 := List.length_take (i := t) (l := c)
        have l4 := List.length_drop (i := t + 1) (l := c)
        have hsm2 : smallT (tI (upAt c t)) := by show ((upAt c t).map PyData.int).length ≤ 1000; rw [List.length_map]; omega
        have eM : PyData.tuple (((c.take t).map .int ++ [.int (y2 + 1)]) ++ (c.drop (t + 1)).map .int) = tI (upAt c t) := by
          unfold upAt
          rw [e5]
          show _ = PyData.tuple ((c.take t ++ [y2 + 1] ++ c.drop (t + 1)).map .int)
          rw [List.map_append, List.map_append]; rfl
        rw [stepsL_succ]
        by_cases hP : isCh f1 s1 (tI (upAt c t)) = true
        · rw [if_pos hP, List.map_append]
          refine got_of (tg_tup2 4 5 sc_raised.nd) (Go.weak (go_cons (gos_set 6 sc_raised.nd (EvV.is (evv_bin (evv_bin (evv_sl (nV 2) evo_none (evo_some (nV 4)) slT_to) (evv_tup (eva_cons (evv_bin (nV 5) evv_int (by walk_at "Add")) eva_nil)) (ov_catT (by walk_at "szl"))) (evv_sl (nV 2) (evo_some (evv_bin (nV 4) evv_int (by walk_at "Add"))) evo_none slT_fr) (ov_catT (by walk_at "szl"))) eM)) (go_cons (gos_ifT (EvT.is (evt_truth (evv_call F_is_choice_of hr (eva_cons (nV 0) (eva_cons (nV 1) (eva_cons (nV 6) eva_nil))) (by walk_at "is_choice_of")) (by walk_at "tru")) ?_) (go_cons (gos_append 3 (nV 6)) go_nil)) go_nil)) (by walk_at "wk"))
          exact hP
        · rw [if_neg hP, List.append_nil]
          refine got_of (tg_tup2 4 5 sc_raised.nd) (Go.weak (go_cons (gos_set 6 sc_raised.nd (EvV.is (evv_bin (evv_bin (evv_sl (nV 2) evo_none (evo_some (nV 4)) slT_to) (evv_tup (eva_cons (evv_bin (nV 5) evv_int (by walk_at "Add")) eva_nil)) (ov_catT (by walk_at "szl"))) (evv_sl (nV 2) (evo_some (evv_bin (nV 4) evv_int (by walk_at "Add"))) evo_none slT_fr) (ov_catT (by walk_at "szl"))) eM)) (go_cons (gos_ifF (EvT.is (evt_truth (evv_call F_is_choice_of hr (eva_cons (nV 0) (eva_cons (nV 1) (eva_cons (nV 6) eva_nil))) (by walk_at "is_choice_of")) (by walk_at "tru")) ?_) go_nil) go_nil)) (by walk_at "wk"))
          exact Bool.eq_false_iff.mpr hP
      · refine go_frz 3 ?_
        refine go_ret (gos_ret (evf_cB T.m_sorted (eva_cons (nV 3) eva_nil) (ca_sortedTL (fun d hd => ?_))).v)
        obtain ⟨c', e, hc'⟩ := isCh_iff.mp (List.mem_filter.mp hd).2
        have hl := hc'.1
        rw [map_int_inj (PyData.tuple.inj e)]
        intro q
        rw [q] at hl
        have : (0 : Int) = f1 := hl
        omega
    · rw [if_pos h, if_neg h2]; exact ⟨_, .ex, go_ex (gos_exprX (evx_call F_check_choice hr tk (eva_cons (nV 0) (eva_cons (nV 1) (eva_cons (nV 2) eva_nil))) (by walk_at "check_choice")))⟩
  · rw [if_neg h]; exact ⟨_, .ex, go_ex (gos_exprX (evx_call F_check_choice hr tk (eva_cons (nV 0) (eva_cons (nV 1) (eva_cons (nV 2) eva_nil))) (by walk_at "check_choice")))⟩
theorem sc_way : FnScope ["first", "second", "one", "other", "result", "place", "last"] ["first", "second", "one", "other"] (defScope s_way) := ⟨rfl, rfl, rfl, by decide +kernel, rfl, by decide +kernel, by decide +kernel⟩
theorem ok_way {f : Addr} {fd : FuncData} (T : Tx K mg c_RankError c_InvalidSizes c_InvalidChoice c_NotBelow t_MAX_SIZE) (F_check_two : Fnk P w K mg base "check_two" 4 (S_check_two c_InvalidSizes c_InvalidChoice)) (F_lies_below : Fnk P w K mg base "lies_below" 1 (S_lies_below)) (F : Fun K "way" "way" s_way f fd) (hm : mg "way" = some (.ref f)) (bd : Binds K fd ["first", "second", "one", "other"] []) : Fnk P w K mg base "way" 5 (S_way c_InvalidChoice c_NotBelow) := by
  refine fn_mk F sc_way hm bd (by rintro _ _ ⟨f, s, d, e, rfl, _⟩; rfl) fun cdv A outer s H E hr ds r hS => ?_
  have tk := takes_of (X := cxOf (L2.CX P w) P w K mg base ["first", "second", "one", "other", "result", "place", "last"] "way" (defScope s_way) f cdv A outer s H E) (E := E) rfl rfl rfl rfl
  obtain ⟨f1, s1, d, e, rfl, z, hsm, hsm2, h⟩ := hS
  have hz : okSz (.int f1) (.int s1) = true := okSz_iff.mpr ⟨_, _, rfl, rfl, z⟩
  rcases h with ⟨h, rfl⟩ | ⟨c1, c2, rfl, rfl, hc1, hc2, rfl⟩
  · have h : ¬ (isCh (unI (.int f1)) (unI (.int s1)) d && isCh (unI (.int f1)) (unI (.int s1)) e) = true := h
    exact ⟨_, .ex, go_ex (gos_exprX (evx_call F_check_two hr tk (eva_cons (nV 0) (eva_cons (nV 1) (eva_cons (nV 2) (eva_cons (nV 3) eva_nil)))) (by walk_at "check_two")))⟩
  · have l1 := hc1.len6 z
    have l2 := hc2.len6 z
    have q1 := hc1.1
    have q2 := hc2.1
    have hl : c1.length = c2.length := by omega
    by_cases hb : belI c1 c2 = true
    · rw [if_pos hb]
      have hB := belI_iff.mp hb
      have ⟨⟨z1, z2⟩, z3, z4⟩ := z
      refine ⟨_, .rt, go_cons (gos_expr (evv_call F_check_two hr (eva_cons (nV 0) (eva_cons (nV 1) (eva_cons (nV 2) (eva_cons (nV 3) eva_nil)))) (by walk_at "check_two"))) (go_cons (gos_ifF (EvT.is (evt_not (evt_truth (evv_call F_lies_below hr (eva_cons (nV 2) (eva_cons (nV 3) eva_nil)) (by walk_at "lies_below")) (by walk_at "tru"))) ?_) go_nil) (go_cons (gos_setO 4 sc_way.nd (evf_lst (eva_cons (nV 2) eva_nil))) (go_cons (gos_for (fun t => [.v (.int f1), .v (.int s1), .v (tI c1), .v (tI c2), .o ((wayL c1 c2 t).map tI), .no, .no]) c1.length (evi_rgD T.m_range (evv_bin (nV 0) evv_int (by walk_at "Sub")) (evv_neg evv_int) (evv_neg evv_int) (by walk_at "rgb")) ?_ (by walk_at "wk") (fun t y hy => ?_) (passes_of rfl)) (go_ret (gos_retO 4)))))⟩
      · rw [hb]; rfl
      · rw [rgD_len]; omega
      · obtain ⟨g1, g2⟩ := rgD_get hy
        have w := way_ok hc1 hc2 hB t (by omega)
        have e1 : wayL c1 c2 (t + 1) = wayL c1 c2 t ++ wyI c1 c2 (c1.length - 1 - t) (c2.getD (c1.length - 1 - t) 0 - c1.getD (c1.length - 1 - t) 0).toNat := rfl
        have ey : y = ((c1.length - 1 - t : Nat) : Int) := by omega
        have hp : c1.length - 1 - t < c1.length := by omega
        rw [show c1.length - t = (c1.length - 1 - t) + 1 by omega, ← wv_lo hp] at w
        generalize c1.length - 1 - t = p at w e1 ey hp
        subst ey
        have hle : c1.getD p 0 ≤ c2.getD p 0 := by
          rw [getD_w hp, getD_w (by omega)]
          exact hB _ _ _ (List.getElem?_eq_getElem hp) (List.getElem?_eq_getElem (by omega))
        have wj := way_in hc1 hc2 hp w
        have lw := fun j : Nat => wv_len hl (c1.getD p 0 + j) hp
        have e0 : wayL c1 c2 t ++ wyI c1 c2 p 0 = wayL c1 c2 t := List.append_nil _
        rw [e1]
        refine got_of (tg_name 5 sc_way.nd) (Go.weak (go_cons (gos_while (c2.getD p 0 - c1.getD p 0).toNat (fun j => [.v (.int f1), .v (.int s1), .v (tI c1), .v (tI c2), .o ((wayL c1 c2 t ++ wyI c1 c2 p j).map tI), .v (.int (p : Int)), .no]) ?_ (fun j hj => ?_) ?_ (fun j hj => ?_) (passes_of rfl)) go_nil) (by walk_at "wk"))
        · rw [e0]; walk_at "wk"
        · have lwj := lw j
          have hj2 : c1.getD p 0 + (j : Int) ≤ c2.getD p 0 := by omega
          refine EvT.is (evt_cmp (evv_ix (evv_ixB (nB 4) (evv_neg evv_int) (atI_lastT (wj j hj2).ls)) (nV 5) (ixT_ints (by constructor <;> omega))) (evv_ix (nV 3) (nV 5) (ixT_ints (by constructor <;> omega))) ov_lt) ?_
          rw [Int.toNat_natCast, wv_at _ hp]
          exact decide_eq_true (by omega)
        · have lwj := lw (c2.getD p 0 - c1.getD p 0).toNat
          have hj2 : c1.getD p 0 + (((c2.getD p 0 - c1.getD p 0).toNat : Nat) : Int) ≤ c2.getD p 0 := by omega
          refine EvT.is (evt_cmp (evv_ix (evv_ixB (nB 4) (evv_neg evv_int) (atI_lastT (wj _ hj2).ls)) (nV 5) (ixT_ints (by constructor <;> omega))) (evv_ix (nV 3) (nV 5) (ixT_ints (by constructor <;> omega))) ov_lt) ?_
          rw [Int.toNat_natCast, wv_at _ hp]
          exact decide_eq_false (by omega)
        · have lwj := lw j
          have hj2 : c1.getD p 0 + (j : Int) ≤ c2.getD p 0 := by omega
          have lst := (wj j hj2).ls
          have lLj : (wayL c1 c2 t).length + (wyI c1 c2 p j).length ≤ 1000 := by
            have e2 := way_len (wj j hj2)
            have e3 := (wv_ch hc1 hc2 hp (x := c1.getD p 0 + (j : Int)) (by omega) hj2).sum72 z
            have e4 := hc1.sum72 z
            rw [List.length_append] at e2
            omega
          have eU := upAt_wv (other := c2) (c1.getD p 0 + (j : Int)) hp
          have eS : (wayL c1 c2 t ++ wyI c1 c2 p (j + 1)).map tI = (wayL c1 c2 t ++ wyI c1 c2 p j).map tI ++ [tI (upAt (wv c1 c2 p (c1.getD p 0 + (j : Int))) p)] := by
            rw [wyI_succ, ← List.append_assoc, List.map_append, eU]; rfl
          rw [eS]
          generalize wv c1 c2 p (c1.getD p 0 + (j : Int)) = cc at lwj lst eU
          have l3 := List.length_take (i := p) (l := cc)
          have l4 := List.length_drop (i := p + 1) (l := cc)
          exact Go.weak (go_cons (gos_set 6 sc_way.nd (evv_ixB (nB 4) (evv_neg evv_int) (atI_lastT lst))) (go_cons (gos_append 4 (EvV.is (evv_bin (evv_bin (evv_sl (nV 6) evo_none (evo_some (nV 5)) slT_to) (evv_tup (eva_cons (evv_bin (evv_ix (nV 6) (nV 5) (ixT_ints (by constructor <;> omega))) evv_int ov_add) eva_nil)) (ov_catT (by walk_at "szl"))) (evv_sl (nV 6) (evo_some (evv_bin (nV 5) evv_int ov_add)) evo_none slT_fr) (ov_catT (by walk_at "szl"))) (upM cc p))) go_nil)) (by walk_at "wk")
    · rw [if_neg hb]
      refine ⟨_, .ex, go_cons (gos_expr (evv_call F_check_two hr (eva_cons (nV 0) (eva_cons (nV 1) (eva_cons (nV 2) (eva_cons (nV 3) eva_nil)))) (by walk_at "check_two"))) (go_ex (gos_ifT (EvT.is (evt_not (evt_truth (evv_call F_lies_below hr (eva_cons (nV 2) (eva_cons (nV 3) eva_nil)) (by walk_at "lies_below")) (by walk_at "tru"))) ?_) (go_ex (gos_raise T.x_NotBelow tk))))⟩
      rw [Bool.eq_false_iff.mpr hb]; rfl
theorem sc_count_ways : FnScope ["first", "second", "one", "other", "level", "step", "later", "choice", "place", "rank", "more"] ["first", "second", "one", "other"] (defScope s_count_ways) := ⟨rfl, rfl, rfl, by decide +kernel, rfl, by decide +kernel, by decide +kernel⟩
theorem ok_count_ways {f : Addr} {fd : FuncData} (T : Tx K mg c_RankError c_InvalidSizes c_InvalidChoice c_NotBelow t_MAX_SIZE) (F_check_two : Fnk P w K mg base "check_two" 4 (S_check_two c_InvalidSizes c_InvalidChoice)) (F_lies_below : Fnk P w K mg base "lies_below" 1 (S_lies_below)) (F_is_choice_of : Fnk P w K mg base "is_choice_of" 2 (S_is_choice_of)) (F : Fun K "count_ways" "count_ways" s_count_ways f fd) (hm : mg "count_ways" = some (.ref f)) (bd : Binds K fd ["first", "second", "one", "other"] []) : Fnk P w K mg base "count_ways" 5 (S_cw c_InvalidChoice) := by
  refine fn_mk F sc_count_ways hm bd (by rintro _ _ ⟨f, s, d, e, rfl, _⟩; rfl) fun cdv A outer s H E hr ds r hS => ?_
  have tk := takes_of (X := cxOf (L2.CX P w) P w K mg base ["first", "second", "one", "other", "level", "step", "later", "choice", "place", "rank", "more"] "count_ways" (defScope s_count_ways) f cdv A outer s H E) (E := E) rfl rfl rfl rfl
  obtain ⟨f1, s1, d, e, rfl, z, hsm, hsm2, h⟩ := hS
  have hz : okSz (.int f1) (.int s1) = true := okSz_iff.mpr ⟨_, _, rfl, rfl, z⟩
  rcases h with ⟨h, rfl⟩ | ⟨c1, c2, rfl, rfl, hc1, hc2, rfl⟩
  · have h : ¬ (isCh (unI (.int f1)) (unI (.int s1)) d && isCh (unI (.int f1)) (unI (.int s1)) e) = true := h
    exact ⟨_, .ex, go_ex (gos_exprX (evx_call F_check_two hr tk (eva_cons (nV 0) (eva_cons (nV 1) (eva_cons (nV 2) (eva_cons (nV 3) eva_nil)))) (by walk_at "check_two")))⟩
  · have hu := Nat.lt_of_le_of_lt (Nat.add_le_add_left (show 1 ≤ 64 by decide) _) (Room.units hr)
    have l1 := hc1.len6 z
    have l2 := hc2.len6 z
    have q1 := hc1.1
    have q2 := hc2.1
    have hl : c1.length = c2.length := by omega
    have b1 := hc1.sum72 z
    have b2 := hc2.sum72 z
    have hR : ∀ c m, m ∈ R2 f1 s1 c2 c c.length → Ch f1 s1 m := fun c m => R2_ch
    refine ⟨_, .rt, go_cons (gos_expr (evv_call F_check_two hr (eva_cons (nV 0) (eva_cons (nV 1) (eva_cons (nV 2) (eva_cons (nV 3) eva_nil)))) (by walk_at "check_two"))) (go_consE (gose_disp 4 sc_count_ways.nd hu (nV 2) evv_int) (fun env1 hE => ?_))⟩
    obtain ⟨a0, rfl, _⟩ := hE
    refine go_consE (gose_for (fun n env' => ∃ a, env' = [.v (.int f1), .v (.int s1), .v (tI c1), .v (tI c2), .g (dtG a (lvN (fun c => R2 f1 s1 c2 c c.length) c1 n)), .no, .no, .no, .no, .no, .no]) (nSt c1 c2) (evi_rg1 T.m_range (evv_bin (evv_cB T.m_sum (eva_cons (nV 3) eva_nil) (by walk_at "sum")) (evv_cB T.m_sum (eva_cons (nV 2) eva_nil) (by walk_at "sum")) (by walk_at "Sub")) (by omega) (by omega)) ?_ ⟨a0, rfl⟩ (fun n y env' hy he => ?_) (passes_of rfl)) (fun env1 he => ?_)
    · rw [rgI_len]; unfold nSt; omega
    · obtain ⟨a, rfl⟩ := he
      have kL := KCh.lvn hR hc1 n
      have eLv : lvN (fun c => R2 f1 s1 c2 c c.length) c1 (n + 1) = lvG (fun c => R2 f1 s1 c2 c c.length) [] (lvN (fun c => R2 f1 s1 c2 c c.length) c1 n) := rfl
      rw [eLv]
      generalize lvN (fun c => R2 f1 s1 c2 c c.length) c1 n = Lv at kL
      refine gote_of (tg_name 5 sc_count_ways.nd) (goe_consE (gose_dnew 6 sc_count_ways.nd) (fun env1 hE => ?_))
      obtain ⟨b, rfl, fr⟩ := hE
      have hba : b ≠ a := fun e => fr 4 (dtG a Lv) rfl (by rw [e]; exact List.mem_singleton.mpr rfl)
      refine goe_consE (gose_forD 4 (b := a) (d := Lv) (fun od j env' => env' = [.v (.int f1), .v (.int s1), .v (tI c1), .v (tI c2), .g (dlG a od Lv), .v (.int y), .g (dtG b (lvG (fun c => R2 f1 s1 c2 c c.length) [] (Lv.take j))), .no, .no, .no, .no]) ?_ (fun od => rfl) (fun od j env' he => ?_) (fun od j p env' hp he => ?_) (passes_of rfl)) (fun env1 hE => ?_)
      · walk_at "nod"
      · subst he
        refine ⟨rfl, ?_⟩
        walk_at "nod"
      · subst he
        have hpm : p ∈ Lv := List.mem_of_getElem? hp
        have hpc : Ch f1 s1 p.1 := kL.2 p.1 (List.mem_map.mpr ⟨p, hpm, rfl⟩)
        have hlk := look_mem kL.1 hpm
        have lp := hpc.len6 z
        have qp := hpc.1
        have kD := KCh.lv (d := []) hR (l := Lv.take j) KCh.nil
        refine gote_of (tg_name 7 sc_count_ways.nd) (goe_cons (gos_for (fun t => [.v (.int f1), .v (.int s1), .v (tI c1), .v (tI c2), .g (dlG a od Lv), .v (.int y), .g (dtG b (addAll (lvG (fun c => R2 f1 s1 c2 c c.length) [] (Lv.take j)) (R2 f1 s1 c2 p.1 t) p.2)), .v (tI p.1), .no, .no, .no]) p.1.length (evi_enum2 T.m_enumerate (nV 7) (by walk_at "enum")) ?_ ?_ (fun t y2 hy2 => ?_) (passes_of rfl)) (goe_wk (env1 := [.v (.int f1), .v (.int s1), .v (tI c1), .v (tI c2), .g (dlG a od Lv), .v (.int y), .g (dtG b (addAll (lvG (fun c => R2 f1 s1 c2 c c.length) [] (Lv.take j)) (R2 f1 s1 c2 p.1 p.1.length) p.2)), .no, .no, .no, .no]) (by walk_at "wk") ?_))
        · rw [List.length_zip, rgI_len]; omega
        · walk_at "wk"
        · obtain ⟨g1, g2⟩ := List.getElem?_zip_eq_some.mp hy2
          obtain ⟨g3, g4⟩ := rgI_get g1
          obtain ⟨y3, y4⟩ := y2
          have g3 : y3 = t := by have : y3 = 0 + (t : Int) := g3; omega
          subst g3
          have g2 : p.1[t]? = some y4 := g2
          have e5 : p.1.getD t 0 = y4 := by rw [List.getD_eq_getElem?_getD, g2]; rfl
          have ht : t < p.1.length := (List.getElem?_eq_some_iff.mp g2).1
          have hul := upAt_len ht
          have l3 := List.length_take (i := t) (l := p.1)
          have l4 := List.length_drop (i := t + 1) (l := p.1)
          have hsm3 : smallT (tI (upAt p.1 t)) := by show ((upAt p.1 t).map PyData.int).length ≤ 1000; rw [List.length_map]; omega
          have eM : PyData.tuple (((p.1.take t).map .int ++ [.int (y4 + 1)]) ++ (p.1.drop (t + 1)).map .int) = tI (upAt p.1 t) := by rw [← e5]; exact upM p.1 t
          have kA : KCh f1 s1 (addAll (lvG (fun c => R2 f1 s1 c2 c c.length) [] (Lv.take j)) (R2 f1 s1 c2 p.1 t) p.2) := kD.all fun m hm => R2_ch hm
          have lA := kA.len z
          rw [R2_succ, addAll_app]
          generalize addAll (lvG (fun c => R2 f1 s1 c2 c c.length) [] (Lv.take j)) (R2 f1 s1 c2 p.1 t) p.2 = Dd at lA
          generalize upAt p.1 t = mm at eM hsm3 hul
          by_cases hP : (isCh f1 s1 (tI mm) && belI mm c2) = true
          · rw [if_pos hP]
            refine got_of (tg_tup2 8 9 sc_count_ways.nd) (Go.weak (go_cons (gos_set 10 sc_count_ways.nd (EvV.is (evv_bin (evv_bin (evv_sl (nV 7) evo_none (evo_some (nV 8)) slT_to) (evv_tup (eva_cons (evv_bin (nV 9) evv_int (by walk_at "Add")) eva_nil)) (ov_catT (by walk_at "szl"))) (evv_sl (nV 7) (evo_some (evv_bin (nV 8) evv_int ov_add)) evo_none slT_fr) (ov_catT (by walk_at "szl"))) eM)) (go_cons (gos_ifT (EvT.is ((ew_and (evt_truth (evv_call F_is_choice_of hr (eva_cons (nV 0) (eva_cons (nV 1) (eva_cons (nV 10) eva_nil))) (by walk_at "is_choice_of")) (by walk_at "tru")) (fun _ => (ew_and1 (evt_truth (evv_call F_lies_below hr (eva_cons (nV 10) (eva_cons (nV 3) eva_nil)) (by walk_at "lies_below")) (by walk_at "tru")))))).t ?_) (go_cons (gos_dput 6 hu ?_ (by show Dd.length < 16777216; omega) (nV 10) (evv_bin (evv_dget2 6 hu (rd_dt b Dd) (nV 10) evv_int) (evv_dix 4 hu (rd_dl a od Lv) (nV 7) hlk) ov_add)) go_nil)) go_nil)) (by walk_at "wk"))
            · exact hP
            · walk_at "nod"
          · rw [if_neg hP]
            refine got_of (tg_tup2 8 9 sc_count_ways.nd) (Go.weak (go_cons (gos_set 10 sc_count_ways.nd (EvV.is (evv_bin (evv_bin (evv_sl (nV 7) evo_none (evo_some (nV 8)) slT_to) (evv_tup (eva_cons (evv_bin (nV 9) evv_int (by walk_at "Add")) eva_nil)) (ov_catT (by walk_at "szl"))) (evv_sl (nV 7) (evo_some (evv_bin (nV 8) evv_int ov_add)) evo_none slT_fr) (ov_catT (by walk_at "szl"))) eM)) (go_cons (gos_ifF (EvT.is ((ew_and (evt_truth (evv_call F_is_choice_of hr (eva_cons (nV 0) (eva_cons (nV 1) (eva_cons (nV 10) eva_nil))) (by walk_at "is_choice_of")) (by walk_at "tru")) (fun _ => (ew_and1 (evt_truth (evv_call F_lies_below hr (eva_cons (nV 10) (eva_cons (nV 3) eva_nil)) (by walk_at "lies_below")) (by walk_at "tru")))))).t ?_) go_nil) go_nil)) (by walk_at "wk"))
            exact Bool.eq_false_iff.mpr hP
        · rw [lvG_take hp]
      · obtain ⟨od, env1, rfl, rfl⟩ := hE
        rw [List.take_length]
        exact goe_cons (gos_moveG 4 6 sc_count_ways.nd) (goe_wk (by walk_at "wk") ⟨b, rfl⟩)
    · obtain ⟨a, rfl⟩ := he
      refine go_ret (gos_ret (EvV.is (evv_ifB (evt_truth (evv_call F_lies_below hr (eva_cons (nV 2) (eva_cons (nV 3) eva_nil)) (by walk_at "lies_below")) (by walk_at "tru")) (fun _ => evv_dget2 4 hu (rd_dt a _) (nV 3) evv_int) (fun _ => evv_int)) ?_))
      unfold cwN
      cases belI c1 c2 <;> rfl
theorem sc__law_cell : FnScope ["script", "k"] ["script", "k"] (defScope s__law_cell) := ⟨rfl, rfl, rfl, by decide +kernel, rfl, by decide +kernel, by decide +kernel⟩
theorem ok__law_cell {f : Addr} {fd : FuncData} (T : Tx K mg c_RankError c_InvalidSizes c_InvalidChoice c_NotBelow t_MAX_SIZE) (F : Fun K "_law_cell" "_law_cell" s__law_cell f fd) (hm : mg "_law_cell" = some (.ref f)) (bd : Binds K fd ["script", "k"] []) : Fnk P w K mg base "_law_cell" 1 (S_cell) := by
  refine fn_mk F sc__law_cell hm bd (by rintro _ _ ⟨ns, k, rfl, _⟩; rfl) fun cdv A outer s H E hr ds r hS => ?_
  have tk := takes_of (X := cxOf (L2.CX P w) P w K mg base ["script", "k"] "_law_cell" (defScope s__law_cell) f cdv A outer s H E) (E := E) rfl rfl rfl rfl
  obtain ⟨ns, k, rfl, hk, rfl⟩ := hS
  unfold cellN
  by_cases h : k < ns.length
  · rw [if_pos h]
    refine ⟨_, .rt, go_ret (gos_ifT (EvT.is (evt_cmp (nV 1) (evv_cB T.m_len (eva_cons (nV 0) eva_nil) (by walk_at "len")) (by walk_at "Lt")) ?_) (go_ret (gos_ret (evv_ix (nV 0) (nV 1) (by walk_at "ix")))))⟩
    exact decide_eq_true h
  · rw [if_neg h]
    refine ⟨_, .rt, go_cons (gos_ifF (EvT.is (evt_cmp (nV 1) (evv_cB T.m_len (eva_cons (nV 0) eva_nil) (by walk_at "len")) (by walk_at "Lt")) ?_) go_nil) (go_ret (gos_ret evv_int))⟩
    exact decide_eq_false h
theorem sc__law_whole : FnScope ["found"] ["found"] (defScope s__law_whole) := ⟨rfl, rfl, rfl, by decide +kernel, rfl, by decide +kernel, by decide +kernel⟩
theorem ok__law_whole {f : Addr} {fd : FuncData} (T : Tx K mg c_RankError c_InvalidSizes c_InvalidChoice c_NotBelow t_MAX_SIZE) (F : Fun K "_law_whole" "_law_whole" s__law_whole f fd) (hm : mg "_law_whole" = some (.ref f)) (bd : Binds K fd ["found"] []) : Fnk P w K mg base "_law_whole" 1 (S_whole) := by
  refine fn_mk F sc__law_whole hm bd (by rintro _ _ ⟨d, rfl, _⟩; rfl) fun cdv A outer s H E hr ds r hS => ?_
  have tk := takes_of (X := cxOf (L2.CX P w) P w K mg base ["found"] "_law_whole" (defScope s__law_whole) f cdv A outer s H E) (E := E) rfl rfl rfl rfl
  obtain ⟨d, rfl, rfl⟩ := hS
  refine ⟨_, .rt, go_ret (gos_ret (EvV.is (evv_and (evv_isi T.m_isinstance (nV 0) (pe_tyName (t := "int") T.m_int) (by decide)) (fun _ => (evv_one (evv_notT (evv_isi T.m_isinstance (nV 0) (pe_tyName (t := "bool") T.m_bool) (by decide)) (by walk_at "tru"))))) ?_))⟩
  cases d <;> rfl
theorem sc__law_row : FnScope ["script", "at", "cell", "found", "time"] ["script", "at"] (defScope s__law_row) := ⟨rfl, rfl, rfl, by decide +kernel, rfl, by decide +kernel, by decide +kernel⟩
theorem ok__law_row {f : Addr} {fd : FuncData} (T : Tx K mg c_RankError c_InvalidSizes c_InvalidChoice c_NotBelow t_MAX_SIZE) (F__law_cell : Fnk P w K mg base "_law_cell" 1 (S_cell)) (F : Fun K "_law_row" "_law_row" s__law_row f fd) (hm : mg "_law_row" = some (.ref f)) (bd : Binds K fd ["script", "at"] []) : Fnk P w K mg base "_law_row" 2 (S_row) := by
  refine fn_mk F sc__law_row hm bd (by rintro _ _ ⟨ns, a, rfl, _⟩; rfl) fun cdv A outer s H E hr ds r hS => ?_
  have tk := takes_of (X := cxOf (L2.CX P w) P w K mg base ["script", "at", "cell", "found", "time"] "_law_row" (defScope s__law_row) f cdv A outer s H E) (E := E) rfl rfl rfl rfl
  obtain ⟨ns, at_, rfl, ha, rfl⟩ := hS
  refine ⟨_, .rt, go_cons (gos_set 2 sc__law_row.nd (evv_call F__law_cell hr (eva_cons (nV 0) (eva_cons (nV 1) eva_nil)) (by walk_at "_law_cell"))) (go_cons (gos_setO 3 sc__law_row.nd (evf_lst eva_nil)) (go_cons (gos_for (fun t => [.v (scrD ns), .v (.int at_), .v (.int (rowSt ns at_ t).1), .o ((rowSt ns at_ t).2.map .int), .no]) 60 (evi_rg1 T.m_range evv_int (by walk_at "rgb") (by walk_at "rgb")) (by rw [rgI_len]; rfl) (by walk_at "wk") (fun i y hy => ?_) (passes_of rfl)) (go_ret (gos_retO 3))))⟩
  obtain ⟨e, hi⟩ := rgI_get hy
  rw [Int.zero_add] at e
  subst e
  have hl := (rowSt_ok ns at_ i).1
  have hi : i < 60 := hi
  by_cases hc : cellN ns at_ < 10 ^ 18
  · obtain ⟨e1, e2⟩ := rowSt_a (t := i) hc
    simp only [e1, e2, List.map_append, List.map_cons, List.map_nil]
    refine got_of (tg_name 4 sc__law_row.nd) (Go.weak (go_cons (gos_ifT (EvT.is (evt_cmp (evv_call F__law_cell hr (eva_cons (nV 0) (eva_cons (nV 1) eva_nil)) (by walk_at "_law_cell")) (evv_bin evv_int evv_int (by walk_at "Pow")) (by walk_at "Lt")) ?_) (go_cons (gos_set 2 sc__law_row.nd (evv_bin (evv_bin (evv_bin (evv_bin (evv_bin (nV 2) evv_int (by walk_at "Mult")) (evv_bin evv_int (nV 4) (by walk_at "Mult")) (by walk_at "Add")) evv_int (by walk_at "Add")) (evv_call F__law_cell hr (eva_cons (nV 0) (eva_cons (evv_bin (evv_bin (evv_bin (nV 1) evv_int (by walk_at "Add")) (nV 4) (by walk_at "Add")) evv_int (by walk_at "Mod")) eva_nil)) (by walk_at "_law_cell")) (by walk_at "Add")) evv_int (by walk_at "Mod"))) (go_cons (gos_append 3 (evv_bin (evv_bin (nV 2) evv_int (by walk_at "FloorDiv")) evv_int (by walk_at "Mod"))) go_nil))) go_nil) (by walk_at "wk"))
    exact decide_eq_true hc
  · obtain ⟨e1, e2⟩ := rowSt_b (t := i) hc
    simp only [e1, e2, List.map_append, List.map_cons, List.map_nil]
    refine got_of (tg_name 4 sc__law_row.nd) (Go.weak (go_cons (gos_ifF (EvT.is (evt_cmp (evv_call F__law_cell hr (eva_cons (nV 0) (eva_cons (nV 1) eva_nil)) (by walk_at "_law_cell")) (evv_bin evv_int evv_int (by walk_at "Pow")) (by walk_at "Lt")) ?_) (go_cons (gos_append 3 (evv_bin (nV 2) evv_int (by walk_at "Mod"))) (go_cons (gos_set 2 sc__law_row.nd (evv_bin (nV 2) evv_int (by walk_at "FloorDiv"))) go_nil))) go_nil) (by walk_at "wk"))
    exact decide_eq_false hc
theorem sc__law_in : FnScope ["thing", "low", "high"] ["thing", "low", "high"] (defScope s__law_in) := ⟨rfl, rfl, rfl, by decide +kernel, rfl, by decide +kernel, by decide +kernel⟩
theorem ok__law_in {f : Addr} {fd : FuncData} (T : Tx K mg c_RankError c_InvalidSizes c_InvalidChoice c_NotBelow t_MAX_SIZE) (F__law_whole : Fnk P w K mg base "_law_whole" 1 (S_whole)) (F : Fun K "_law_in" "_law_in" s__law_in f fd) (hm : mg "_law_in" = some (.ref f)) (bd : Binds K fd ["thing", "low", "high"] []) : Fnk P w K mg base "_law_in" 2 (S_in_range) := by
  refine fn_mk F sc__law_in hm bd (by rintro _ _ ⟨d, lo, hi, rfl, _⟩; rfl) fun cdv A outer s H E hr ds r hS => ?_
  have tk := takes_of (X := cxOf (L2.CX P w) P w K mg base ["thing", "low", "high"] "_law_in" (defScope s__law_in) f cdv A outer s H E) (E := E) rfl rfl rfl rfl
  obtain ⟨d, lo, hi, rfl, rfl⟩ := hS
  cases d with
  | int i =>
    refine ⟨_, .rt, go_ret (gos_ret (EvV.is (evv_and (evv_call F__law_whole hr (eva_cons (nV 0) eva_nil) (by walk_at "_law_whole")) (fun _ => (evv_one (evv_chain (nV 1) (nV 0) (nV 2) (by walk_at "LtE") (by walk_at "LtE"))))) ?_))⟩
    show (if true = true then (if decide (lo ≤ i) = true then PyData.bool (decide (i ≤ hi)) else .bool false) else .bool false) = .bool (decide (lo ≤ i) && decide (i ≤ hi))
    cases decide (lo ≤ i) <;> rfl
  | bool b => exact ⟨_, .rt, go_ret (gos_ret (EvV.is (evv_and (evv_call F__law_whole hr (eva_cons (nV 0) eva_nil) (by walk_at "_law_whole")) (fun h => by cases h) (d := .none)) rfl))⟩
  | none => exact ⟨_, .rt, go_ret (gos_ret (EvV.is (evv_and (evv_call F__law_whole hr (eva_cons (nV 0) eva_nil) (by walk_at "_law_whole")) (fun h => by cases h) (d := .none)) rfl))⟩
  | str x => exact ⟨_, .rt, go_ret (gos_ret (EvV.is (evv_and (evv_call F__law_whole hr (eva_cons (nV 0) eva_nil) (by walk_at "_law_whole")) (fun h => by cases h) (d := .none)) rfl))⟩
  | list x => exact ⟨_, .rt, go_ret (gos_ret (EvV.is (evv_and (evv_call F__law_whole hr (eva_cons (nV 0) eva_nil) (by walk_at "_law_whole")) (fun h => by cases h) (d := .none)) rfl))⟩
  | tuple x => exact ⟨_, .rt, go_ret (gos_ret (EvV.is (evv_and (evv_call F__law_whole hr (eva_cons (nV 0) eva_nil) (by walk_at "_law_whole")) (fun h => by cases h) (d := .none)) rfl))⟩
  | dict x => exact ⟨_, .rt, go_ret (gos_ret (EvV.is (evv_and (evv_call F__law_whole hr (eva_cons (nV 0) eva_nil) (by walk_at "_law_whole")) (fun h => by cases h) (d := .none)) rfl))⟩
theorem sc__law_choice : FnScope ["script", "at", "first", "second", "draws", "left", "found", "time"] ["script", "at", "first", "second"] (defScope s__law_choice) := ⟨rfl, rfl, rfl, by decide +kernel, rfl, by decide +kernel, by decide +kernel⟩
theorem ok__law_choice {f : Addr} {fd : FuncData} (T : Tx K mg c_RankError c_InvalidSizes c_InvalidChoice c_NotBelow t_MAX_SIZE) (F__law_row : Fnk P w K mg base "_law_row" 2 (S_row)) (F : Fun K "_law_choice" "_law_choice" s__law_choice f fd) (hm : mg "_law_choice" = some (.ref f)) (bd : Binds K fd ["script", "at", "first", "second"] []) : Fnk P w K mg base "_law_choice" 3 (S_choice) := by
  refine fn_mk F sc__law_choice hm bd (by rintro _ _ ⟨ns, a, f, s, rfl, _⟩; rfl) fun cdv A outer s H E hr ds r hS => ?_
  have tk := takes_of (X := cxOf (L2.CX P w) P w K mg base ["script", "at", "first", "second", "draws", "left", "found", "time"] "_law_choice" (defScope s__law_choice) f cdv A outer s H E) (E := E) rfl rfl rfl rfl
  obtain ⟨ns, at_, f1, s1, rfl, ha, z, rfl⟩ := hS
  have z' := z
  obtain ⟨⟨z1, z2⟩, z3, z4⟩ := z'
  have hd := drw_len ns at_
  refine ⟨_, .rt, go_cons (gos_set 4 sc__law_choice.nd (evv_call F__law_row hr (eva_cons (nV 0) (eva_cons (nV 1) eva_nil)) (by walk_at "_law_row"))) (go_cons (gos_parO 5 6 sc__law_choice.nd (evf_lstRg2 T.m_list T.m_range evv_int (evv_bin (evv_bin (nV 2) (nV 3) (by walk_at "Add")) evv_int (by walk_at "Add")) (by walk_at "rg")) (evf_lst eva_nil)) (go_cons (gos_for (fun t => [.v (scrD ns), .v (.int at_), .v (.int f1), .v (.int s1), .v (.list ((drw ns at_).map .int)), .o ((chSt ns at_ f1 s1 t).1.map .int), .o ((chSt ns at_ f1 s1 t).2.map .int), .no]) f1.toNat (evi_rg1 T.m_range (nV 2) (by walk_at "rgb") (by walk_at "rgb")) (by rw [rgI_len]; omega) (by walk_at "wk") (fun i y hy => ?_) (passes_of rfl)) (go_ret (gos_ret (evv_bT T.m_tuple ((evf_bB T.m_sorted (EvB.is (nB 6) (by walk_at "ints")) cb_sorted)).bor cb_tuple)))))⟩
  obtain ⟨e, hi⟩ := rgI_get hy
  rw [Int.zero_add] at e
  subst e
  obtain ⟨h1, h2, h3⟩ := chSt_ok ns at_ f1 s1 z3 i (by omega)
  obtain ⟨k1, k2, k3⟩ := chSt_step ns at_ f1 s1 i (by omega)
  simp only [k1, k2, List.map_append, List.map_cons, List.map_nil, map_erase]
  refine got_of (tg_name 7 sc__law_choice.nd) (Go.weak (go_cons (gos_appendPop 6 5 (d := .int ((chSt ns at_ f1 s1 i).1.getD ((drw ns at_).getD i 0 % ((chSt ns at_ f1 s1 i).1.length : Int)).toNat 0)) (k := ((drw ns at_).getD i 0 % ((chSt ns at_ f1 s1 i).1.length : Int)).toNat) (EvV.is (evv_bin (evv_ix (nV 4) (nV 7) (by walk_at "ix")) (evv_bB T.m_len (nB 5) (by walk_at "lenB")) (by walk_at "Mod")) ?_) (hk := ?_) (hkb := ?_)) go_nil) (by walk_at "wk"))
  · have a1 := Int.emod_nonneg ((drw ns at_).getD i 0) (show ((chSt ns at_ f1 s1 i).1.length : Int) ≠ 0 by omega)
    rw [Int.toNat_of_nonneg a1]; rfl
  · rw [List.getElem?_map, getD_of (d := (0 : Int)) k3]; rfl
  · omega
theorem sc__law_is_choice : FnScope ["first", "second", "value", "one"] ["first", "second", "value"] (defScope s__law_is_choice) := ⟨rfl, rfl, rfl, by decide +kernel, rfl, by decide +kernel, by decide +kernel⟩
theorem ok__law_is_choice {f : Addr} {fd : FuncData} (T : Tx K mg c_RankError c_InvalidSizes c_InvalidChoice c_NotBelow t_MAX_SIZE) (F__law_in : Fnk P w K mg base "_law_in" 2 (S_in_range)) (F : Fun K "_law_is_choice" "_law_is_choice" s__law_is_choice f fd) (hm : mg "_law_is_choice" = some (.ref f)) (bd : Binds K fd ["first", "second", "value"] []) : Fnk P w K mg base "_law_is_choice" 3 (S_lisch) := by
  refine fn_mk F sc__law_is_choice hm bd (by rintro _ _ ⟨f, s, d, rfl, _⟩; rfl) fun cdv A outer s H E hr ds r hS => ?_
  have tk := takes_of (X := cxOf (L2.CX P w) P w K mg base ["first", "second", "value", "one"] "_law_is_choice" (defScope s__law_is_choice) f cdv A outer s H E) (E := E) rfl rfl rfl rfl
  obtain ⟨f1, s1, d, rfl, hf50, hsm, hfl, rfl⟩ := hS
  by_cases ht : isD d "tuple" = false
  · have e : isCh f1 s1 d = false := by cases d <;> first | rfl | cases ht
    rw [e]
    refine ⟨_, .rt, go_ret (gos_ifT (EvT.is ((ew_or (evt_not (evt_truth (evv_isi T.m_isinstance (nV 2) (pe_tyName (t := "tuple") T.m_tuple) (by decide)) (by walk_at "tru"))) (fun h => by rw [show isD d "tuple" = false from ht] at h; cases h) (c' := true)).t) ?_) (go_ret (gos_ret evv_bl)))⟩
    rw [ht]; rfl
  · obtain ⟨xs, rfl⟩ : ∃ xs, d = .tuple xs := by cases d <;> first | exact ⟨_, rfl⟩ | exact absurd rfl ht
    have hx : xs.length ≤ 1000 := hsm
    have hfl : xs.all flatE = true := hfl
    by_cases hl : (xs.length : Int) = f1
    · by_cases ha : xs.all (fun d => inR d 1 (f1 + s1)) = true
      · obtain ⟨ns, rfl, hb⟩ := allR_ints ha
        rw [List.length_map] at hx hl
        have hls : ns.length < 64 := by omega
        refine ⟨_, .rt, go_cons (gos_ifF (EvT.is ((ew_or (evt_not (evt_truth (evv_isi T.m_isinstance (nV 2) (pe_tyName (t := "tuple") T.m_tuple) (by decide)) (by walk_at "tru"))) (fun _ => (ew_or1 (evt_cmp (evv_cB T.m_len (eva_cons (nV 2) eva_nil) (by walk_at "len")) (nV 0) (by walk_at "NotEq")))))).t ?_) go_nil) (go_cons (gos_ifF (EvT.is (evt_cmp ((evf_comp sc__law_is_choice.nd (blkOk_by (own := [("one", 3)]) (N := ["first", "second", "value", "one"]) (sc := defScope s__law_is_choice) (by decide +kernel)) (evi_of (nV 2) (by walk_at "it")) (fun _ _ _ _ _ y hy => tg_name 3 sc__law_is_choice.nd) (fun _ _ _ _ _ y hy => (ts_one (evt_not (evt_truth (evv_call F__law_in hr (eva_cons (nV 3) (eva_cons evv_int (eva_cons (evv_bin (nV 0) (nV 1) (by walk_at "Add")) eva_nil))) (by walk_at "_law_in")) (by walk_at "tru"))))) (fun _ _ _ _ _ y hy ht => (nV 3)) (by walk_at "sz"))).v ((evf_lst eva_nil)).v (by walk_at "NotEq")) ?_) go_nil) (go_ret (gos_ret (EvV.is (evv_cmp ((evf_cT T.m_list (eva_cons (nV 2) eva_nil) (by walk_at "list"))).v ((evf_sortSet T.m_sorted T.m_set (nV 2) (by omega))).v (by walk_at "Eq")) ?_))))⟩
        · rw [decide_eq_true hl]; rfl
        · have e : (ns.filter fun y => !(inR (.int y) 1 (f1 + s1))) = [] := List.filter_eq_nil_iff.mpr fun n hn => by rw [inR_i.mpr (hb n hn)]; decide
          show (!decide ((ns.filter fun y => !(inR (.int y) 1 (f1 + s1))) = [])) = false
          rw [decide_eq_true e]; rfl
        · show PyData.bool (decide (ns = sortI (ddI ns))) = .bool (decide (((ns.map PyData.int).length : Int) = f1) && (ns.map PyData.int).all (fun d => inR d 1 (f1 + s1)) && risesB ((ns.map PyData.int).map unI))
          rw [List.length_map, decide_eq_true hl, ha, map_unI]
          congr 1
          rw [Bool.true_and, Bool.true_and]
          exact Bool.eq_iff_iff.mpr (by rw [decide_eq_true_eq, dd_rises, rises_pair])
      · have e : isCh f1 s1 (.tuple xs) = false := by
          show (_ && xs.all (fun d => inR d 1 (f1 + s1)) && _) = false
          rw [Bool.eq_false_iff.mpr ha, Bool.and_false]; rfl
        rw [e]
        have hflf : ((xs.filter fun y => !(inR y 1 (f1 + s1))).map fun y => y).all flatE = true := by
          rw [List.map_id'', List.all_eq_true]
          · intro x hx
            exact List.all_eq_true.mp hfl x (List.mem_filter.mp hx).1
          · exact fun _ => rfl
        refine ⟨_, .rt, go_cons (gos_ifF (EvT.is ((ew_or (evt_not (evt_truth (evv_isi T.m_isinstance (nV 2) (pe_tyName (t := "tuple") T.m_tuple) (by decide)) (by walk_at "tru"))) (fun _ => (ew_or1 (evt_cmp (evv_cB T.m_len (eva_cons (nV 2) eva_nil) (by walk_at "len")) (nV 0) (by walk_at "NotEq")))))).t ?_) go_nil) (go_ret (gos_ifT (EvT.is (evt_cmp ((evf_comp sc__law_is_choice.nd (blkOk_by (own := [("one", 3)]) (N := ["first", "second", "value", "one"]) (sc := defScope s__law_is_choice) (by decide +kernel)) (evi_of (nV 2) (by walk_at "it")) (fun _ _ _ _ _ y hy => tg_name 3 sc__law_is_choice.nd) (fun _ _ _ _ _ y hy => (ts_one (evt_not (evt_truth (evv_call F__law_in hr (eva_cons (nV 3) (eva_cons evv_int (eva_cons (evv_bin (nV 0) (nV 1) (by walk_at "Add")) eva_nil))) (by walk_at "_law_in")) (by walk_at "tru"))))) (fun _ _ _ _ _ y hy ht => (nV 3)) (by walk_at "sz"))).v ((evf_lst eva_nil)).v (ov_neFN (by walk_at "units") hflf)) ?_) (go_ret (gos_ret evv_bl))))⟩
        · rw [decide_eq_true hl]; rfl
        · show (!((xs.filter fun y => !(inR y 1 (f1 + s1))).map fun y => y).isEmpty) = true
          rw [Bool.not_eq_true', List.isEmpty_eq_false_iff]
          intro h
          apply ha
          rw [List.map_eq_nil_iff, List.filter_eq_nil_iff] at h
          rw [List.all_eq_true]
          intro x hx
          have := h x hx
          simpa using this
    · have e : isCh f1 s1 (.tuple xs) = false := by
        show (decide ((xs.length : Int) = f1) && _ && _) = false
        rw [decide_eq_false hl]; rfl
      rw [e]
      refine ⟨_, .rt, go_ret (gos_ifT (EvT.is ((ew_or (evt_not (evt_truth (evv_isi T.m_isinstance (nV 2) (pe_tyName (t := "tuple") T.m_tuple) (by decide)) (by walk_at "tru"))) (fun _ => (ew_or1 (evt_cmp (evv_cB T.m_len (eva_cons (nV 2) eva_nil) (by walk_at "len")) (nV 0) (by walk_at "NotEq")))))).t ?_) (go_ret (gos_ret evv_bl)))⟩
      rw [decide_eq_false hl]; rfl
theorem sc__law_below : FnScope ["one", "other", "at"] ["one", "other"] (defScope s__law_below) := ⟨rfl, rfl, rfl, by decide +kernel, rfl, by decide +kernel, by decide +kernel⟩
theorem ok__law_below {f : Addr} {fd : FuncData} (T : Tx K mg c_RankError c_InvalidSizes c_InvalidChoice c_NotBelow t_MAX_SIZE) (F : Fun K "_law_below" "_law_below" s__law_below f fd) (hm : mg "_law_below" = some (.ref f)) (bd : Binds K fd ["one", "other"] []) : Fnk P w K mg base "_law_below" 1 (S_lbel) := by
  refine fn_mk F sc__law_below hm bd (by rintro _ _ ⟨c, d, rfl, _⟩; rfl) fun cdv A outer s H E hr ds r hS => ?_
  have tk := takes_of (X := cxOf (L2.CX P w) P w K mg base ["one", "other", "at"] "_law_below" (defScope s__law_below) f cdv A outer s H E) (E := E) rfl rfl rfl rfl
  obtain ⟨c1, c2, rfl, l1, l2, rfl⟩ := hS
  exact ⟨_, .rt, go_ret (gos_ret (evv_cmp ((evf_comp sc__law_below.nd (blkOk_by (own := [("at", 2)]) (N := ["one", "other", "at"]) (sc := defScope s__law_below) (by decide +kernel)) (evi_rg1 T.m_range (evv_cB T.m_len (eva_cons (nV 0) eva_nil) (by walk_at "len")) (by walk_at "rgb") (by walk_at "rgb")) (fun _ _ _ _ _ y hy => tg_name 2 sc__law_below.nd) (fun _ _ _ _ _ y hy => (ts_one (evt_cmp (evv_ix (nV 0) (nV 2) (by walk_at "ix")) (evv_ix (nV 1) (nV 2) (by walk_at "ix")) (by walk_at "Gt")))) (fun _ _ _ _ _ y hy ht => (nV 2)) (by walk_at "sz"))).v ((evf_lst eva_nil)).v (by walk_at "Eq")))⟩
theorem sc__law_raised : FnScope ["first", "second", "choice", "found", "at", "more"] ["first", "second", "choice"] (defScope s__law_raised) := ⟨rfl, rfl, rfl, by decide +kernel, rfl, by decide +kernel, by decide +kernel⟩
theorem ok__law_raised {f : Addr} {fd : FuncData} (T : Tx K mg c_RankError c_InvalidSizes c_InvalidChoice c_NotBelow t_MAX_SIZE) (F__law_is_choice : Fnk P w K mg base "_law_is_choice" 3 (S_lisch)) (F : Fun K "_law_raised" "_law_raised" s__law_raised f fd) (hm : mg "_law_raised" = some (.ref f)) (bd : Binds K fd ["first", "second", "choice"] []) : Fnk P w K mg base "_law_raised" 4 (S_lraised) := by
  refine fn_mk F sc__law_raised hm bd (by rintro _ _ ⟨f, s, c, rfl, _⟩; rfl) fun cdv A outer s H E hr ds r hS => ?_
  have tk := takes_of (X := cxOf (L2.CX P w) P w K mg base ["first", "second", "choice", "found", "at", "more"] "_law_raised" (defScope s__law_raised) f cdv A outer s H E) (E := E) rfl rfl rfl rfl
  obtain ⟨f1, s1, c, rfl, z, hc, rfl⟩ := hS
  have l6 := hc.len6 z
  have q1 := hc.1
  have ⟨⟨z1, z2⟩, z3, z4⟩ := z
  refine ⟨_, .rt, go_cons (gos_setO 3 sc__law_raised.nd (evf_lst eva_nil)) (go_cons (gos_for (fun t => [.v (.int f1), .v (.int s1), .v (tI c), .o ((stepsL f1 s1 c t).map tI), .no, .no]) c.length (evi_rg1 T.m_range (nV 0) (by walk_at "rgb") (by walk_at "rgb")) ?_ (by walk_at "wk") (fun t y hy => ?_) (passes_of rfl)) ?_)⟩
  · rw [rgI_len]; omega
  · obtain ⟨g3, g4⟩ := rgI_get hy
    have g3 : y = (t : Int) := by omega
    subst g3
    have ht : t < c.length := by omega
    have hsl := stepsL_len f1 s1 c t
    have hul := upAt_len ht
    have l3 := List.length_take (i := t) (l := c)
    have l4 := List.length_drop (i := t + 1) (l := c)
    have hsm2 : smallT (tI (upAt c t)) := by show ((upAt c t).map PyData.int).length ≤ 1000; rw [List.length_map]; omega
    have hfl : flatT (tI (upAt c t)) := flatT_ints _
    rw [stepsL_succ]
    by_cases hP : isCh f1 s1 (tI (upAt c t)) = true
    · rw [if_pos hP, List.map_append]
      refine got_of (tg_name 4 sc__law_raised.nd) (Go.weak (go_cons (gos_set 5 sc__law_raised.nd (EvV.is (evv_bin (evv_bin (evv_sl (nV 2) evo_none (evo_some (nV 4)) slT_to) (evv_tup (eva_cons (evv_bin (evv_ix (nV 2) (nV 4) (ixT_ints (by constructor <;> omega))) evv_int ov_add) eva_nil)) (ov_catT (by walk_at "szl"))) (evv_sl (nV 2) (evo_some (evv_bin (nV 4) evv_int ov_add)) evo_none slT_fr) (ov_catT (by walk_at "szl"))) (upM c t))) (go_cons (gos_ifT (EvT.is (evt_truth (evv_call F__law_is_choice hr (eva_cons (nV 0) (eva_cons (nV 1) (eva_cons (nV 5) eva_nil))) (by walk_at "_law_is_choice")) (by walk_at "tru")) ?_) (go_cons (gos_append 3 (nV 5)) go_nil)) go_nil)) (by walk_at "wk"))
      exact hP
    · rw [if_neg hP, List.append_nil]
      refine got_of (tg_name 4 sc__law_raised.nd) (Go.weak (go_cons (gos_set 5 sc__law_raised.nd (EvV.is (evv_bin (evv_bin (evv_sl (nV 2) evo_none (evo_some (nV 4)) slT_to) (evv_tup (eva_cons (evv_bin (evv_ix (nV 2) (nV 4) (ixT_ints (by constructor <;> omega))) evv_int ov_add) eva_nil)) (ov_catT (by walk_at "szl"))) (evv_sl (nV 2) (evo_some (evv_bin (nV 4) evv_int ov_add)) evo_none slT_fr) (ov_catT (by walk_at "szl"))) (upM c t))) (go_cons (gos_ifF (EvT.is (evt_truth (evv_call F__law_is_choice hr (eva_cons (nV 0) (eva_cons (nV 1) (eva_cons (nV 5) eva_nil))) (by walk_at "_law_is_choice")) (by walk_at "tru")) ?_) go_nil) go_nil)) (by walk_at "wk"))
      exact Bool.eq_false_iff.mpr hP
  · refine go_frz 3 ?_
    refine go_ret (gos_ret (evf_cB T.m_sorted (eva_cons (nV 3) eva_nil) (ca_sortedTL (fun d hd => ?_))).v)
    have hc' := isCh_tI.mp (List.mem_filter.mp hd).2
    have hl := hc'.1
    intro q
    rw [q] at hl
    have : (0 : Int) = f1 := hl
    omega
theorem sc__law_led : FnScope ["mode", "first", "second", "one", "other", "e"] ["mode", "first", "second", "one", "other"] (defScope s__law_led) := ⟨rfl, rfl, rfl, by decide +kernel, rfl, by decide +kernel, by decide +kernel⟩
theorem ok__law_led {f : Addr} {fd : FuncData} (T : Tx K mg c_RankError c_InvalidSizes c_InvalidChoice c_NotBelow t_MAX_SIZE) (F_way : Fnk P w K mg base "way" 5 (S_way c_InvalidChoice c_NotBelow)) (F_count_ways : Fnk P w K mg base "count_ways" 5 (S_cw c_InvalidChoice)) (F : Fun K "_law_led" "_law_led" s__law_led f fd) (hm : mg "_law_led" = some (.ref f)) (bd : Binds K fd ["mode", "first", "second", "one", "other"] []) : Fnk P w K mg base "_law_led" 6 (S_led) := by
  refine fn_mk F sc__law_led hm bd (by rintro _ _ ⟨m, f, s, d, e, rfl, _⟩; rfl) fun cdv A outer s H E hr ds r hS => ?_
  have tk := takes_of (X := cxOf (L2.CX P w) P w K mg base ["mode", "first", "second", "one", "other", "e"] "_law_led" (defScope s__law_led) f cdv A outer s H E) (E := E) rfl rfl rfl rfl
  obtain ⟨m, f1, s1, d, e, rfl, hm, z, hsm, hsm2, h⟩ := hS
  rcases h with ⟨h, rfl⟩ | ⟨rfl, c1, c2, rfl, rfl, hc1, hc2, ⟨hb, rfl⟩ | ⟨hb, rfl⟩⟩
  · rcases hm with rfl | rfl
    · exact ⟨_, .rt, go_ret (gos_tryX (o := .rt (.str "choice")) (C := c_InvalidChoice) (env1 := [.v (.int 0), .v (.int f1), .v (.int s1), .v d, .v e, .no]) 5 sc__law_led.nd tk (fun W pn xe tk => go_ex (gos_retX (evx_ifT (EvT.is (evt_cmp (nV 0) evv_int (by walk_at "Eq")) rfl) (evx_call F_way hr tk (eva_cons (nV 1) (eva_cons (nV 2) (eva_cons (nV 3) (eva_cons (nV 4) eva_nil)))) ⟨_, _, _, _, rfl, z, hsm, hsm2, .inl ⟨h, rfl⟩⟩)))) (.miss ⟨rfl, by decide, .inl T.x_NotBelow.g⟩ (by walk_at "exm") (.hit ⟨rfl, by decide, .inl T.x_InvalidChoice.g⟩ (by walk_at "exm") (fun a ob pn hz hf => go_ret (gos_ret (evv_if (k1 := true) (EvT.is ((ew_and (evt_truth (evv_isE 5 hz hf T.m_isinstance T.x_RankError.g (by walk_at "exc") (by walk_at "kit")) (by walk_at "tru")) (fun _ => (ew_and1 (evt_not (evt_truth (evv_isE 5 hz hf T.m_isinstance T.x_NotBelow.g (by walk_at "exc") (by walk_at "kit")) (by walk_at "tru"))))))).t rfl) (fun _ => evv_str) (fun h => by cases h)))) .nil)))⟩
    · exact ⟨_, .rt, go_ret (gos_tryX (o := .rt (.str "choice")) (C := c_InvalidChoice) (env1 := [.v (.int 1), .v (.int f1), .v (.int s1), .v d, .v e, .no]) 5 sc__law_led.nd tk (fun W pn xe tk => go_ex (gos_retX (evx_ifF (EvT.is (evt_cmp (nV 0) evv_int (by walk_at "Eq")) rfl) (evx_call F_count_ways hr tk (eva_cons (nV 1) (eva_cons (nV 2) (eva_cons (nV 3) (eva_cons (nV 4) eva_nil)))) ⟨_, _, _, _, rfl, z, hsm, hsm2, .inl ⟨h, rfl⟩⟩)))) (.miss ⟨rfl, by decide, .inl T.x_NotBelow.g⟩ (by walk_at "exm") (.hit ⟨rfl, by decide, .inl T.x_InvalidChoice.g⟩ (by walk_at "exm") (fun a ob pn hz hf => go_ret (gos_ret (evv_if (k1 := true) (EvT.is ((ew_and (evt_truth (evv_isE 5 hz hf T.m_isinstance T.x_RankError.g (by walk_at "exc") (by walk_at "kit")) (by walk_at "tru")) (fun _ => (ew_and1 (evt_not (evt_truth (evv_isE 5 hz hf T.m_isinstance T.x_NotBelow.g (by walk_at "exc") (by walk_at "kit")) (by walk_at "tru"))))))).t rfl) (fun _ => evv_str) (fun h => by cases h)))) .nil)))⟩
  · exact ⟨_, .rt, go_ret (gos_tryN (o := .rt (.list ((wayA c1 c2).map tI))) 5 sc__law_led.nd tk (fun W pn xe tk => go_ret (gos_ret (evv_if (k1 := true) (EvT.is (evt_cmp (nV 0) evv_int (by walk_at "Eq")) rfl) (fun _ => evv_call F_way hr (eva_cons (nV 1) (eva_cons (nV 2) (eva_cons (nV 3) (eva_cons (nV 4) eva_nil)))) ⟨_, _, _, _, rfl, z, hsm, hsm2, .inr ⟨c1, c2, rfl, rfl, hc1, hc2, by rw [if_pos hb]⟩⟩) (fun h => by cases h)))) (.cons ⟨rfl, by decide, .inl T.x_NotBelow.g⟩ (.cons ⟨rfl, by decide, .inl T.x_InvalidChoice.g⟩ .nil)))⟩
  · exact ⟨_, .rt, go_ret (gos_tryX (o := .rt (.str "not")) (C := c_NotBelow) (env1 := [.v (.int 0), .v (.int f1), .v (.int s1), .v (tI c1), .v (tI c2), .no]) 5 sc__law_led.nd tk (fun W pn xe tk => go_ex (gos_retX (evx_ifT (EvT.is (evt_cmp (nV 0) evv_int (by walk_at "Eq")) rfl) (evx_call F_way hr tk (eva_cons (nV 1) (eva_cons (nV 2) (eva_cons (nV 3) (eva_cons (nV 4) eva_nil)))) ⟨_, _, _, _, rfl, z, hsm, hsm2, .inr ⟨c1, c2, rfl, rfl, hc1, hc2, by rw [if_neg (by rw [hb]; decide)]⟩⟩)))) (.hit ⟨rfl, by decide, .inl T.x_NotBelow.g⟩ (by walk_at "exm") (fun a ob pn hz hf => go_ret (gos_ret (evv_if (k1 := true) (EvT.is ((ew_and (evt_truth (evv_isE 5 hz hf T.m_isinstance T.x_RankError.g (by walk_at "exc") (by walk_at "kit")) (by walk_at "tru")) (fun _ => (ew_and1 (evt_not (evt_truth (evv_isE 5 hz hf T.m_isinstance T.x_InvalidChoice.g (by walk_at "exc") (by walk_at "kit")) (by walk_at "tru"))))))).t rfl) (fun _ => evv_str) (fun h => by cases h)))) (.cons ⟨rfl, by decide, .inl T.x_InvalidChoice.g⟩ .nil)))⟩
theorem sc_law : FnScope ["script", "draws", "first", "second", "one", "other", "found", "wrong", "level", "time", "later", "some", "more", "at"] ["script"] (defScope s_law) := ⟨rfl, rfl, rfl, by decide +kernel, rfl, by decide +kernel, by decide +kernel⟩
theorem ok_law {f : Addr} {fd : FuncData} (T : Tx K mg c_RankError c_InvalidSizes c_InvalidChoice c_NotBelow t_MAX_SIZE) (F__law_row : Fnk P w K mg base "_law_row" 2 (S_row)) (F__law_led : Fnk P w K mg base "_law_led" 6 (S_led)) (F__law_choice : Fnk P w K mg base "_law_choice" 3 (S_choice)) (F_raised : Fnk P w K mg base "raised" 4 (S_raised c_InvalidSizes c_InvalidChoice)) (F__law_raised : Fnk P w K mg base "_law_raised" 4 (S_lraised)) (F__law_below : Fnk P w K mg base "_law_below" 1 (S_lbel)) (F_count_ways : Fnk P w K mg base "count_ways" 5 (S_cw c_InvalidChoice)) (F : Fun K "law" "law" s_law f fd) : FnOk P w K mg base (L2.CX P w) 7 f fd ["script"] (spD K S_law) := by
  refine fn_ok F sc_law (by rintro _ _ ⟨ns, rfl, _⟩; rfl) fun cdv A outer s H E hr ds r hS => ?_
  have tk := takes_of (X := cxOf (L2.CX P w) P w K mg base ["script", "draws", "first", "second", "one", "other", "found", "wrong", "level", "time", "later", "some", "more", "at"] "law" (defScope s_law) f cdv A outer s H E) (E := E) rfl rfl rfl rfl
  obtain ⟨ns, rfl, rfl⟩ := hS
  have hd := drw_len ns 4
  have hu := Room.units hr
  have hu1 := Nat.lt_of_le_of_lt (Nat.add_le_add_left (show 1 ≤ 64 by decide) _) (Room.units hr)
  have hu65 := Room.units65 hr
  refine ⟨_, .rt, go_cons (gos_set 1 sc_law.nd (evv_call F__law_row hr (eva_cons (nV 0) (eva_cons evv_int eva_nil)) (by walk_at "_law_row"))) (go_cons (gos_asg (evv_tup (eva_cons (evv_bin evv_int (evv_bin (evv_ix (nV 1) evv_int (by walk_at "ix")) evv_int (by walk_at "Mod")) (by walk_at "Add")) (eva_cons (evv_bin evv_int (evv_bin (evv_ix (nV 1) evv_int (by walk_at "ix")) evv_int (by walk_at "Mod")) (by walk_at "Add")) eva_nil))) (tg_tup2 2 3 sc_law.nd)) ?_)⟩
  have z : Sz (1 + (drw ns 4).getD (Int.toNat 0) 0 % 4) (1 + (drw ns 4).getD (Int.toNat 1) 0 % 4) := Sz.of (by omega) (by omega) (by omega) (by omega)
  generalize (1 + (drw ns 4).getD (Int.toNat 0) 0 % 4) = f1 at z ⊢
  generalize (1 + (drw ns 4).getD (Int.toNat 1) 0 % 4) = s1 at z ⊢
  have ⟨⟨z1, z2⟩, z3, z4⟩ := z
  have hc1 := chs_ok ns 2 z
  have hc2 := chs_ok ns 3 z
  refine go_cons (gos_asg (evv_tup (eva_cons (evv_call F__law_choice hr (eva_cons (nV 0) (eva_cons evv_int (eva_cons (nV 2) (eva_cons (nV 3) eva_nil)))) (by walk_at "_law_choice")) (eva_cons (evv_call F__law_choice hr (eva_cons (nV 0) (eva_cons evv_int (eva_cons (nV 2) (eva_cons (nV 3) eva_nil)))) (by walk_at "_law_choice")) eva_nil))) (tg_tup2 4 5 sc_law.nd)) ?_
  generalize chs ns 2 f1 s1 = c1 at hc1 ⊢
  generalize chs ns 3 f1 s1 = c2 at hc2 ⊢
  have l1 := hc1.len6 z
  have l2 := hc2.len6 z
  have q1 := hc1.1
  have q2 := hc2.1
  refine go_cons (env1 := [.v (scrD ns), .v (.list ((drw ns 4).map .int)), .v (.int f1), .v (.int s1), .v (tI c1), .v (tI (if (drw ns 4).getD (Int.toNat 2) 0 % 2 = 0 then upI c1 c2 else c2)), .no, .no, .no, .no, .no, .no, .no, .no]) ?_ ?_
  · by_cases h2 : (drw ns 4).getD (Int.toNat 2) 0 % 2 = 0
    · rw [if_pos h2]
      exact gos_ifT (EvT.is (evt_cmp (evv_bin (evv_ix (nV 1) evv_int (by walk_at "ix")) evv_int (by walk_at "Mod")) evv_int (by walk_at "Eq")) (decide_eq_true h2)) (go_cons (gos_set 5 sc_law.nd (EvV.is (evv_bT T.m_tuple ((evf_comp0 sc_law.nd (blkOk_by (own := [("at", 13)]) (N := ["script", "draws", "first", "second", "one", "other", "found", "wrong", "level", "time", "later", "some", "more", "at"]) (sc := defScope s_law) (by decide +kernel)) (evi_rg1 T.m_range (nV 2) (by walk_at "rgb") (by walk_at "rgb")) (fun _ _ _ _ _ y hy => tg_name 13 sc_law.nd) (fun _ _ _ _ _ y hy => (evv_cB T.m_max (eva_cons (evv_ix (nV 4) (nV 13) (by walk_at "ix")) (eva_cons (evv_ix (nV 5) (nV 13) (by walk_at "ix")) eva_nil)) (ca_max rfl))) (by walk_at "sz"))).bor cb_tuple) (congrArg PyData.tuple (mx_up q1 q2)))) go_nil)
    · rw [if_neg h2]
      exact gos_ifF (EvT.is (evt_cmp (evv_bin (evv_ix (nV 1) evv_int (by walk_at "ix")) evv_int (by walk_at "Mod")) evv_int (by walk_at "Eq")) (decide_eq_false h2)) go_nil
  have hO : Ch f1 s1 (if (drw ns 4).getD (Int.toNat 2) 0 % 2 = 0 then upI c1 c2 else c2) := by
    split
    · exact ch_up hc1 hc2
    · exact hc2
  generalize (if (drw ns 4).getD (Int.toNat 2) 0 % 2 = 0 then upI c1 c2 else c2) = o at hO
  clear hc2 l2 q2
  have lo := hO.len6 z
  have qo := hO.1
  have hl : c1.length = o.length := by omega
  have b1 := hc1.sum72 z
  have b2 := hO.sum72 z
  have hsm1 : smallT (tI c1) := by show (c1.map PyData.int).length ≤ 1000; rw [List.length_map]; omega
  have hsm2 : smallT (tI o) := by show (o.map PyData.int).length ≤ 1000; rw [List.length_map]; omega
  obtain ⟨fd, hled, hfd⟩ : ∃ fd, S_led [.int 0, .int f1, .int s1, tI c1, tI o] (.v fd) ∧ ((belI c1 o = true ∧ fd = .list ((wayA c1 o).map tI)) ∨ (belI c1 o = false ∧ fd = .str "not")) := by
    cases hb : belI c1 o with
    | true => exact ⟨_, ⟨_, _, _, _, _, rfl, .inl rfl, z, hsm1, hsm2, .inr ⟨rfl, c1, o, rfl, rfl, hc1, hO, .inl ⟨hb, rfl⟩⟩⟩, .inl ⟨rfl, rfl⟩⟩
    | false => exact ⟨_, ⟨_, _, _, _, _, rfl, .inl rfl, z, hsm1, hsm2, .inr ⟨rfl, c1, o, rfl, rfl, hc1, hO, .inr ⟨hb, rfl⟩⟩⟩, .inr ⟨rfl, rfl⟩⟩
  have m6 : 0 ≤ (drw ns 4).getD (Int.toNat 3) 0 % 4 ∧ (drw ns 4).getD (Int.toNat 3) 0 % 4 < 4 := by omega
  have lcut := cutD_len (o.map PyData.int) none (some (-1))
  rw [List.length_map] at lcut
  obtain ⟨hwS, hwB⟩ := wl_bad (c := c1) z hO m6
  have hled2 : S_led [.int ((drw ns 4).getD (Int.toNat 4) 0 % 2), .int f1, .int s1, tI c1, (WL o).getD ((drw ns 4).getD (Int.toNat 3) 0 % 4).toNat .none] (.v (.str "choice")) := ⟨_, _, _, _, _, rfl, by omega, z, hsm1, hwS, .inl ⟨hwB, rfl⟩⟩
  have okC : PyData.strOk "choice" = true := by decide +kernel
  have okN : PyData.strOk "not" = true := by decide +kernel
  refine go_cons (gos_ifF (EvT.is (evt_cmp (evv_call F_raised hr (eva_cons (nV 2) (eva_cons (nV 3) (eva_cons (nV 4) eva_nil))) (by walk_at "raised")) (evv_call F__law_raised hr (eva_cons (nV 2) (eva_cons (nV 3) (eva_cons (nV 4) eva_nil))) (by walk_at "_law_raised")) (by walk_at "NotEq")) ?_) go_nil) (go_cons (gos_set 6 sc_law.nd (evv_call F__law_led hr (eva_cons evv_int (eva_cons (nV 2) (eva_cons (nV 3) (eva_cons (nV 4) (eva_cons (nV 5) eva_nil))))) hled)) (go_cons (gos_set 7 sc_law.nd (evv_ix (da := .list (WL o)) (EvV.is ((evf_lst (eva_cons evv_non (eva_cons ((evf_cT T.m_list (eva_cons (nV 5) eva_nil) (by walk_at "list"))).v (eva_cons (evv_sl (nV 5) (evo_some evv_int) evo_none slT_1) (eva_cons (evv_bin (evv_sl (nV 5) evo_none (evo_some (evv_neg evv_int)) rfl) (evv_tup (eva_cons evv_int eva_nil)) (ov_catT (sz_le (by show (cutD (o.map PyData.int) none (some (-1))).length + 1 ≤ _; omega)))) eva_nil)))))).v rfl) (evv_bin (evv_ix (nV 1) evv_int (by walk_at "ix")) evv_int (by walk_at "Mod")) (ixD_any (WL o) m6))) ?_))
  · rw [decide_eq_true rfl]; rfl
  refine go_cons (gos_ifF (EvT.is (evt_cmp (evv_call F__law_led hr (eva_cons (evv_bin (evv_ix (nV 1) evv_int (by walk_at "ix")) evv_int (by walk_at "Mod")) (eva_cons (nV 2) (eva_cons (nV 3) (eva_cons (nV 4) (eva_cons (nV 7) eva_nil))))) hled2) evv_str (ov_neS hu okC okC)) ?_) go_nil) ?_
  · rw [decide_eq_true rfl]; rfl
  generalize (WL o).getD ((drw ns 4).getD (Int.toNat 3) 0 % 4).toNat .none = wr
  rcases hfd with ⟨hb, rfl⟩ | ⟨hb, rfl⟩
  · have hB := belI_iff.mp hb
    have w := wayA_ok hc1 hO hB
    have wl := way_len w
    have w0 := (List.getElem?_eq_some_iff.mp w.hd).1
    have whd : ixD (.list ((wayA c1 o).map tI)) 0 = some (tI c1) := by
      rw [ixL_T _ (by constructor <;> omega), List.getD_eq_getElem?_getD]
      show some (tI ((wayA c1 o)[0]?.getD [])) = _
      rw [w.hd]; rfl
    have wls : ixD (.list ((wayA c1 o).map tI)) (-1) = some (tI o) := atI_lastT w.ls
    have lw : (wayA c1 o).length ≤ 73 := by omega
    refine go_cons (gos_ifF (EvT.is (evt_not (evt_truth (evv_call F__law_below hr (eva_cons (nV 4) (eva_cons (nV 5) eva_nil)) (by walk_at "_law_below")) (by walk_at "tru"))) ?_) go_nil) (go_cons (gos_ifF (EvT.is ((ew_or (evt_cmp (evv_ix (nV 6) evv_int whd) (nV 4) (ov_neTI hu)) (fun _ => (ew_or (evt_cmp (evv_ix (nV 6) (evv_neg evv_int) wls) (nV 5) (ov_neTI hu)) (fun _ => (ew_or1 (evt_cmp (evv_bin (evv_cB T.m_len (eva_cons (nV 6) eva_nil) (by walk_at "len")) evv_int (by walk_at "Sub")) (evv_bin (evv_cB T.m_sum (eva_cons (nV 5) eva_nil) (by walk_at "sum")) (evv_cB T.m_sum (eva_cons (nV 4) eva_nil) (by walk_at "sum")) (by walk_at "Sub")) (by walk_at "NotEq"))))))).t) ?_) go_nil) (go_cons (gos_ifF (EvT.is (evt_cmp ((evf_comp sc_law.nd (blkOk_by (own := [("at", 13)]) (N := ["script", "draws", "first", "second", "one", "other", "found", "wrong", "level", "time", "later", "some", "more", "at"]) (sc := defScope s_law) (by decide +kernel)) (evi_rg2 T.m_range evv_int (evv_cB T.m_len (eva_cons (nV 6) eva_nil) ca_lenL) (by rw [List.length_map]; walk_at "rgb")) (fun _ _ _ _ _ y hy => tg_name 13 sc_law.nd) (fun _ _ _ _ _ y hy => (ts_one (evt_cmp (evv_ix (nV 6) (nV 13) (ixL_T (wayA c1 o) (i := y) (by have hyq := mem_rgI.mp hy; rw [List.length_map] at hyq; constructor <;> omega))) (evv_call F__law_raised hr (eva_cons (nV 2) (eva_cons (nV 3) (eva_cons (evv_ix (nV 6) (evv_bin (da := .int y) (db := .int 1) (nV 13) evv_int ov_sub) (ixL_T (wayA c1 o) (i := y - 1) (by have hyq := mem_rgI.mp hy; rw [List.length_map] at hyq; constructor <;> omega))) eva_nil))) ⟨_, _, _, rfl, z, way_all hc1 w (by have hyq := mem_rgI.mp hy; rw [List.length_map] at hyq; omega), rfl⟩) (ov_notInLT hu65)))) (fun _ _ _ _ _ y hy ht => (nV 13)) (by walk_at "sz"))).v ((evf_lst eva_nil)).v (by walk_at "NotEq")) ?_) go_nil) ?_))
    · rw [lbelI_eq hl, hb]; rfl
    · rw [decide_eq_true wl]; simp
    · have eN : (rgI 1 (((wayA c1 o).map tI).length : Int)).filter (fun y => !decide ((wayA c1 o).getD y.toNat [] ∈ raisedI f1 s1 ((wayA c1 o).getD (y - 1).toNat []))) = [] := by
        rw [List.filter_eq_nil_iff]
        intro y hy
        have hyq := mem_rgI.mp hy
        rw [List.length_map] at hyq
        rw [decide_eq_true (way_in_raised w hyq)]; decide
      rw [eN]; rfl
    · have hR : ∀ c m, m ∈ raisedI f1 s1 c → Ch f1 s1 m := fun c m hm => (raised_iff.mp hm).2
      have hS2 : S_cw c_InvalidChoice [.int f1, .int s1, tI c1, tI o] (.v (.int (cwN f1 s1 c1 o))) := ⟨_, _, _, _, rfl, z, hsm1, hsm2, .inr ⟨c1, o, rfl, rfl, hc1, hO, rfl⟩⟩
      refine go_consE (gose_disp 8 sc_law.nd hu1 (nV 4) evv_int) (fun env1 hE => ?_)
      obtain ⟨a0, rfl, _⟩ := hE
      refine go_consE (gose_for (fun n env' => ∃ a, env' = [.v (scrD ns), .v (.list ((drw ns 4).map .int)), .v (.int f1), .v (.int s1), .v (tI c1), .v (tI o), .v (.list ((wayA c1 o).map tI)), .v wr, .g (dtG a (lvN (raisedI f1 s1) c1 n)), .no, .no, .no, .no, .no]) (nSt c1 o) (evi_rg1 T.m_range (evv_bin (evv_cB T.m_sum (eva_cons (nV 5) eva_nil) (by walk_at "sum")) (evv_cB T.m_sum (eva_cons (nV 4) eva_nil) (by walk_at "sum")) (by walk_at "Sub")) (by omega) (by omega)) ?_ ⟨a0, rfl⟩ (fun n y env' hy he => ?_) (passes_of rfl)) (fun env1 he => ?_)
      · rw [rgI_len]; unfold nSt; omega
      · obtain ⟨a, rfl⟩ := he
        have kL := KCh.lvn hR hc1 n
        have eLv : lvN (raisedI f1 s1) c1 (n + 1) = lvG (raisedI f1 s1) [] (lvN (raisedI f1 s1) c1 n) := rfl
        rw [eLv]
        generalize lvN (raisedI f1 s1) c1 n = Lv at kL
        refine gote_of (tg_name 9 sc_law.nd) (goe_consE (gose_dnew 10 sc_law.nd) (fun env1 hE => ?_))
        obtain ⟨b, rfl, fr⟩ := hE
        have hba : b ≠ a := fun e => fr 8 (dtG a Lv) rfl (by rw [e]; exact List.mem_singleton.mpr rfl)
        refine goe_consE (gose_forD 8 (b := a) (d := Lv) (fun od j env' => env' = [.v (scrD ns), .v (.list ((drw ns 4).map .int)), .v (.int f1), .v (.int s1), .v (tI c1), .v (tI o), .v (.list ((wayA c1 o).map tI)), .v wr, .g (dlG a od Lv), .v (.int y), .g (dtG b (lvG (raisedI f1 s1) [] (Lv.take j))), .no, .no, .no]) ?_ (fun od => rfl) (fun od j env' he => ?_) (fun od j p env' hp he => ?_) (passes_of rfl)) (fun env1 hE => ?_)
        · walk_at "nod"
        · subst he
          refine ⟨rfl, ?_⟩
          walk_at "nod"
        · subst he
          have hpm : p ∈ Lv := List.mem_of_getElem? hp
          have hpc : Ch f1 s1 p.1 := kL.2 p.1 (List.mem_map.mpr ⟨p, hpm, rfl⟩)
          have hlk := look_mem kL.1 hpm
          have kD := KCh.lv (d := []) hR (l := Lv.take j) KCh.nil
          refine gote_of (tg_name 11 sc_law.nd) (goe_cons (gos_for (fun t => [.v (scrD ns), .v (.list ((drw ns 4).map .int)), .v (.int f1), .v (.int s1), .v (tI c1), .v (tI o), .v (.list ((wayA c1 o).map tI)), .v wr, .g (dlG a od Lv), .v (.int y), .g (dtG b (addAll (lvG (raisedI f1 s1) [] (Lv.take j)) ((raisedI f1 s1 p.1).take t) p.2)), .v (tI p.1), .no, .no]) (raisedI f1 s1 p.1).length (evi_list (ι := tI) (ys := raisedI f1 s1 p.1) (evv_call F__law_raised hr (eva_cons (nV 2) (eva_cons (nV 3) (eva_cons (nV 11) eva_nil))) ⟨_, _, _, rfl, z, hpc, rfl⟩)) rfl ?_ (fun t m hm => ?_) (passes_of rfl)) (goe_wk (env1 := [.v (scrD ns), .v (.list ((drw ns 4).map .int)), .v (.int f1), .v (.int s1), .v (tI c1), .v (tI o), .v (.list ((wayA c1 o).map tI)), .v wr, .g (dlG a od Lv), .v (.int y), .g (dtG b (addAll (lvG (raisedI f1 s1) [] (Lv.take j)) ((raisedI f1 s1 p.1).take (raisedI f1 s1 p.1).length) p.2)), .no, .no, .no]) (by walk_at "wk") ?_))
          · walk_at "wk"
          · have kA : KCh f1 s1 (addAll (lvG (raisedI f1 s1) [] (Lv.take j)) ((raisedI f1 s1 p.1).take t) p.2) := kD.all fun m hm => hR p.1 m (List.mem_of_mem_take hm)
            have lA := kA.len z
            rw [List.take_add_one, hm, addAll_app]
            generalize addAll (lvG (raisedI f1 s1) [] (Lv.take j)) ((raisedI f1 s1 p.1).take t) p.2 = Dd at lA
            refine got_of (tg_name 12 sc_law.nd) (Go.weak (go_cons (gos_dput 10 hu1 ?_ (by show Dd.length < 16777216; omega) (nV 12) (evv_bin (evv_dget2 10 hu1 (rd_dt b Dd) (nV 12) evv_int) (evv_dix 8 hu1 (rd_dl a od Lv) (nV 11) hlk) ov_add)) go_nil) (by walk_at "wk"))
            walk_at "nod"
          · rw [lvG_take hp, List.take_length]
        · obtain ⟨od, env1, rfl, rfl⟩ := hE
          rw [List.take_length]
          exact goe_cons (gos_moveG 8 10 sc_law.nd) (goe_wk (by walk_at "wk") ⟨b, rfl⟩)
      · obtain ⟨a, rfl⟩ := he
        refine go_ret (gos_ret (EvV.is (evv_cmp (evv_call F_count_ways hr (eva_cons (nV 2) (eva_cons (nV 3) (eva_cons (nV 4) (eva_cons (nV 5) eva_nil)))) hS2) (evv_dix 8 hu1 (rd_dt a _) (nV 5) (cw_eq hc1 hO hB)) ov_eq) ?_))
        rw [decide_eq_true rfl]
  · have hcw : cwN f1 s1 c1 o = 0 := by unfold cwN; rw [if_neg (by rw [hb]; decide)]
    have hS2 : S_cw c_InvalidChoice [.int f1, .int s1, tI c1, tI o] (.v (.int (cwN f1 s1 c1 o))) := ⟨_, _, _, _, rfl, z, hsm1, hsm2, .inr ⟨c1, o, rfl, rfl, hc1, hO, rfl⟩⟩
    refine go_ret (gos_ifT (EvT.is (evt_not (evt_truth (evv_call F__law_below hr (eva_cons (nV 4) (eva_cons (nV 5) eva_nil)) (by walk_at "_law_below")) (by walk_at "tru"))) ?_) (go_ret (gos_ret (EvV.is (evv_and (evv_cmp (nV 6) evv_str (ov_eqS hu okN okN)) (fun _ => (evv_one (evv_cmp (evv_call F_count_ways hr (eva_cons (nV 2) (eva_cons (nV 3) (eva_cons (nV 4) (eva_cons (nV 5) eva_nil)))) hS2) evv_int ov_eq)))) ?_))))
    · rw [lbelI_eq hl, hb]; rfl
    · rw [hcw, decide_eq_true rfl]; rfl
end
theorem all_mk {l : PySem.W.OpenLaw} {w : World} {K : PySem.W.Frag} {h : Heap} {mg : Str → Option Value} {fa f0 f1 f2 f3 f4 f5 f6 f7 f8 f9 f10 f11 f12 f13 f14 f15 f16 f17 f18 c_RankError c_InvalidSizes c_InvalidChoice c_NotBelow : Addr} {t_MAX_SIZE : Tok} (X : K.In h) (G : h.Ns mainGlobals mg) (hfa : mg "law" = some (.ref fa))
    {od0 an0 od1 an1 od2 an2 od3 an3 od4 an4 od5 an5 od6 an6 od7 an7 od8 an8 od9 an9 od10 an10 od11 an11 od12 an12 od13 an13 od14 an14 od15 an15 od16 an16 od17 an17 od18 an18 : Option Addr} {sl0 sl1 sl2 sl3 sl4 sl5 sl6 sl7 sl8 sl9 sl10 sl11 sl12 sl13 sl14 sl15 sl16 sl17 sl18 : Array (Option Value)} {oc0 kV0 dc0 pm0 cd0 ct0 oc1 kV1 dc1 pm1 cd1 ct1 oc2 kV2 dc2 pm2 cd2 ct2 oc3 kV3 dc3 pm3 cd3 ct3 oc4 kV4 dc4 pm4 cd4 ct4 oc5 kV5 dc5 pm5 cd5 ct5 oc6 kV6 dc6 pm6 cd6 ct6 oc7 kV7 dc7 pm7 cd7 ct7 oc8 kV8 dc8 pm8 cd8 ct8 oc9 kV9 dc9 pm9 cd9 ct9 oc10 kV10 dc10 pm10 cd10 ct10 oc11 kV11 dc11 pm11 cd11 ct11 oc12 kV12 dc12 pm12 cd12 ct12 oc13 kV13 dc13 pm13 cd13 ct13 oc14 kV14 dc14 pm14 cd14 ct14 oc15 kV15 dc15 pm15 cd15 ct15 oc16 kV16 dc16 pm16 cd16 ct16 oc17 kV17 dc17 pm17 cd17 ct17 oc18 kV18 dc18 pm18 cd18 ct18 : Value}
    (a0 : PySem.W.nsIn K mainGlobals "in_range" = some (some (.ref f0))) (l0 : K.lookup f0 = some ⟨oc0, od0, .func (PySem.W.fnOf "in_range" "in_range" (defArgs s_in_range) (defBody s_in_range) (defScope s_in_range) .none kV0 dc0 pm0 an0 cd0 ct0), sl0⟩) (q0 : PySem.W.codeIn K cd0 "in_range" = true) (k0 : PySem.W.keepIn K (.ref f0) = true)
    (a1 : PySem.W.nsIn K mainGlobals "check_sizes" = some (some (.ref f1))) (l1 : K.lookup f1 = some ⟨oc1, od1, .func (PySem.W.fnOf "check_sizes" "check_sizes" (defArgs s_check_sizes) (defBody s_check_sizes) (defScope s_check_sizes) .none kV1 dc1 pm1 an1 cd1 ct1), sl1⟩) (q1 : PySem.W.codeIn K cd1 "check_sizes" = true) (k1 : PySem.W.keepIn K (.ref f1) = true)
    (a2 : PySem.W.nsIn K mainGlobals "is_choice_of" = some (some (.ref f2))) (l2 : K.lookup f2 = some ⟨oc2, od2, .func (PySem.W.fnOf "is_choice_of" "is_choice_of" (defArgs s_is_choice_of) (defBody s_is_choice_of) (defScope s_is_choice_of) .none kV2 dc2 pm2 an2 cd2 ct2), sl2⟩) (q2 : PySem.W.codeIn K cd2 "is_choice_of" = true) (k2 : PySem.W.keepIn K (.ref f2) = true)
    (a3 : PySem.W.nsIn K mainGlobals "check_choice" = some (some (.ref f3))) (l3 : K.lookup f3 = some ⟨oc3, od3, .func (PySem.W.fnOf "check_choice" "check_choice" (defArgs s_check_choice) (defBody s_check_choice) (defScope s_check_choice) .none kV3 dc3 pm3 an3 cd3 ct3), sl3⟩) (q3 : PySem.W.codeIn K cd3 "check_choice" = true) (k3 : PySem.W.keepIn K (.ref f3) = true)
    (a4 : PySem.W.nsIn K mainGlobals "check_two" = some (some (.ref f4))) (l4 : K.lookup f4 = some ⟨oc4, od4, .func (PySem.W.fnOf "check_two" "check_two" (defArgs s_check_two) (defBody s_check_two) (defScope s_check_two) .none kV4 dc4 pm4 an4 cd4 ct4), sl4⟩) (q4 : PySem.W.codeIn K cd4 "check_two" = true) (k4 : PySem.W.keepIn K (.ref f4) = true)
    (a5 : PySem.W.nsIn K mainGlobals "lies_below" = some (some (.ref f5))) (l5 : K.lookup f5 = some ⟨oc5, od5, .func (PySem.W.fnOf "lies_below" "lies_below" (defArgs s_lies_below) (defBody s_lies_below) (defScope s_lies_below) .none kV5 dc5 pm5 an5 cd5 ct5), sl5⟩) (q5 : PySem.W.codeIn K cd5 "lies_below" = true) (k5 : PySem.W.keepIn K (.ref f5) = true)
    (a6 : PySem.W.nsIn K mainGlobals "raised" = some (some (.ref f6))) (l6 : K.lookup f6 = some ⟨oc6, od6, .func (PySem.W.fnOf "raised" "raised" (defArgs s_raised) (defBody s_raised) (defScope s_raised) .none kV6 dc6 pm6 an6 cd6 ct6), sl6⟩) (q6 : PySem.W.codeIn K cd6 "raised" = true) (k6 : PySem.W.keepIn K (.ref f6) = true)
    (a7 : PySem.W.nsIn K mainGlobals "way" = some (some (.ref f7))) (l7 : K.lookup f7 = some ⟨oc7, od7, .func (PySem.W.fnOf "way" "way" (defArgs s_way) (defBody s_way) (defScope s_way) .none kV7 dc7 pm7 an7 cd7 ct7), sl7⟩) (q7 : PySem.W.codeIn K cd7 "way" = true) (k7 : PySem.W.keepIn K (.ref f7) = true)
    (a8 : PySem.W.nsIn K mainGlobals "count_ways" = some (some (.ref f8))) (l8 : K.lookup f8 = some ⟨oc8, od8, .func (PySem.W.fnOf "count_ways" "count_ways" (defArgs s_count_ways) (defBody s_count_ways) (defScope s_count_ways) .none kV8 dc8 pm8 an8 cd8 ct8), sl8⟩) (q8 : PySem.W.codeIn K cd8 "count_ways" = true) (k8 : PySem.W.keepIn K (.ref f8) = true)
    (a9 : PySem.W.nsIn K mainGlobals "_law_cell" = some (some (.ref f9))) (l9 : K.lookup f9 = some ⟨oc9, od9, .func (PySem.W.fnOf "_law_cell" "_law_cell" (defArgs s__law_cell) (defBody s__law_cell) (defScope s__law_cell) .none kV9 dc9 pm9 an9 cd9 ct9), sl9⟩) (q9 : PySem.W.codeIn K cd9 "_law_cell" = true) (k9 : PySem.W.keepIn K (.ref f9) = true)
    (a10 : PySem.W.nsIn K mainGlobals "_law_whole" = some (some (.ref f10))) (l10 : K.lookup f10 = some ⟨oc10, od10, .func (PySem.W.fnOf "_law_whole" "_law_whole" (defArgs s__law_whole) (defBody s__law_whole) (defScope s__law_whole) .none kV10 dc10 pm10 an10 cd10 ct10), sl10⟩) (q10 : PySem.W.codeIn K cd10 "_law_whole" = true) (k10 : PySem.W.keepIn K (.ref f10) = true)
    (a11 : PySem.W.nsIn K mainGlobals "_law_row" = some (some (.ref f11))) (l11 : K.lookup f11 = some ⟨oc11, od11, .func (PySem.W.fnOf "_law_row" "_law_row" (defArgs s__law_row) (defBody s__law_row) (defScope s__law_row) .none kV11 dc11 pm11 an11 cd11 ct11), sl11⟩) (q11 : PySem.W.codeIn K cd11 "_law_row" = true) (k11 : PySem.W.keepIn K (.ref f11) = true)
    (a12 : PySem.W.nsIn K mainGlobals "_law_in" = some (some (.ref f12))) (l12 : K.lookup f12 = some ⟨oc12, od12, .func (PySem.W.fnOf "_law_in" "_law_in" (defArgs s__law_in) (defBody s__law_in) (defScope s__law_in) .none kV12 dc12 pm12 an12 cd12 ct12), sl12⟩) (q12 : PySem.W.codeIn K cd12 "_law_in" = true) (k12 : PySem.W.keepIn K (.ref f12) = true)
    (a13 : PySem.W.nsIn K mainGlobals "_law_choice" = some (some (.ref f13))) (l13 : K.lookup f13 = some ⟨oc13, od13, .func (PySem.W.fnOf "_law_choice" "_law_choice" (defArgs s__law_choice) (defBody s__law_choice) (defScope s__law_choice) .none kV13 dc13 pm13 an13 cd13 ct13), sl13⟩) (q13 : PySem.W.codeIn K cd13 "_law_choice" = true) (k13 : PySem.W.keepIn K (.ref f13) = true)
    (a14 : PySem.W.nsIn K mainGlobals "_law_is_choice" = some (some (.ref f14))) (l14 : K.lookup f14 = some ⟨oc14, od14, .func (PySem.W.fnOf "_law_is_choice" "_law_is_choice" (defArgs s__law_is_choice) (defBody s__law_is_choice) (defScope s__law_is_choice) .none kV14 dc14 pm14 an14 cd14 ct14), sl14⟩) (q14 : PySem.W.codeIn K cd14 "_law_is_choice" = true) (k14 : PySem.W.keepIn K (.ref f14) = true)
    (a15 : PySem.W.nsIn K mainGlobals "_law_below" = some (some (.ref f15))) (l15 : K.lookup f15 = some ⟨oc15, od15, .func (PySem.W.fnOf "_law_below" "_law_below" (defArgs s__law_below) (defBody s__law_below) (defScope s__law_below) .none kV15 dc15 pm15 an15 cd15 ct15), sl15⟩) (q15 : PySem.W.codeIn K cd15 "_law_below" = true) (k15 : PySem.W.keepIn K (.ref f15) = true)
    (a16 : PySem.W.nsIn K mainGlobals "_law_raised" = some (some (.ref f16))) (l16 : K.lookup f16 = some ⟨oc16, od16, .func (PySem.W.fnOf "_law_raised" "_law_raised" (defArgs s__law_raised) (defBody s__law_raised) (defScope s__law_raised) .none kV16 dc16 pm16 an16 cd16 ct16), sl16⟩) (q16 : PySem.W.codeIn K cd16 "_law_raised" = true) (k16 : PySem.W.keepIn K (.ref f16) = true)
    (a17 : PySem.W.nsIn K mainGlobals "_law_led" = some (some (.ref f17))) (l17 : K.lookup f17 = some ⟨oc17, od17, .func (PySem.W.fnOf "_law_led" "_law_led" (defArgs s__law_led) (defBody s__law_led) (defScope s__law_led) .none kV17 dc17 pm17 an17 cd17 ct17), sl17⟩) (q17 : PySem.W.codeIn K cd17 "_law_led" = true) (k17 : PySem.W.keepIn K (.ref f17) = true)
    (a18 : PySem.W.nsIn K mainGlobals "law" = some (some (.ref f18))) (l18 : K.lookup f18 = some ⟨oc18, od18, .func (PySem.W.fnOf "law" "law" (defArgs s_law) (defBody s_law) (defScope s_law) .none kV18 dc18 pm18 an18 cd18 ct18), sl18⟩) (q18 : PySem.W.codeIn K cd18 "law" = true) (k18 : PySem.W.keepIn K (.ref f18) = true)
    (z_isinstance : PySem.W.nsIn K mainGlobals "isinstance" = some none)
    (z_int : PySem.W.nsIn K mainGlobals "int" = some none)
    (z_bool : PySem.W.nsIn K mainGlobals "bool" = some none)
    (z_tuple : PySem.W.nsIn K mainGlobals "tuple" = some none)
    (z_len : PySem.W.nsIn K mainGlobals "len" = some none)
    (z_zip : PySem.W.nsIn K mainGlobals "zip" = some none)
    (z_enumerate : PySem.W.nsIn K mainGlobals "enumerate" = some none)
    (z_sorted : PySem.W.nsIn K mainGlobals "sorted" = some none)
    (z_range : PySem.W.nsIn K mainGlobals "range" = some none)
    (z_sum : PySem.W.nsIn K mainGlobals "sum" = some none)
    (z_list : PySem.W.nsIn K mainGlobals "list" = some none)
    (z_set : PySem.W.nsIn K mainGlobals "set" = some none)
    (z_max : PySem.W.nsIn K mainGlobals "max" = some none)
    (g_MAX_SIZE : PySem.W.nsIn K mainGlobals "MAX_SIZE" = some (some (.int 6 t_MAX_SIZE)))
    (a_RankError : PySem.W.nsIn K mainGlobals "RankError" = some (some (.ref c_RankError))) (x_RankError : PySem.W.excIn K c_RankError [.type "ValueError", .type "Exception", .type "BaseException", .type "object"] "ValueError.__new__" = true) (k_RankError : PySem.W.keepIn K (.ref c_RankError) = true) (b_RankError : PySem.W.subIn K (.ref c_RankError) (.type "BaseException") = some true) (t_RankError : PySem.W.typeIn K (.ref c_RankError) = some (.type "type"))
    (a_InvalidSizes : PySem.W.nsIn K mainGlobals "InvalidSizes" = some (some (.ref c_InvalidSizes))) (x_InvalidSizes : PySem.W.excIn K c_InvalidSizes [.type "ValueError", .type "Exception", .type "BaseException", .type "object"] "ValueError.__new__" = true) (k_InvalidSizes : PySem.W.keepIn K (.ref c_InvalidSizes) = true) (b_InvalidSizes : PySem.W.subIn K (.ref c_InvalidSizes) (.type "BaseException") = some true) (t_InvalidSizes : PySem.W.typeIn K (.ref c_InvalidSizes) = some (.type "type"))
    (a_InvalidChoice : PySem.W.nsIn K mainGlobals "InvalidChoice" = some (some (.ref c_InvalidChoice))) (x_InvalidChoice : PySem.W.excIn K c_InvalidChoice [.type "ValueError", .type "Exception", .type "BaseException", .type "object"] "ValueError.__new__" = true) (k_InvalidChoice : PySem.W.keepIn K (.ref c_InvalidChoice) = true) (b_InvalidChoice : PySem.W.subIn K (.ref c_InvalidChoice) (.type "BaseException") = some true) (t_InvalidChoice : PySem.W.typeIn K (.ref c_InvalidChoice) = some (.type "type"))
    (a_NotBelow : PySem.W.nsIn K mainGlobals "NotBelow" = some (some (.ref c_NotBelow))) (x_NotBelow : PySem.W.excIn K c_NotBelow [.type "ValueError", .type "Exception", .type "BaseException", .type "object"] "ValueError.__new__" = true) (k_NotBelow : PySem.W.keepIn K (.ref c_NotBelow) = true) (b_NotBelow : PySem.W.subIn K (.ref c_NotBelow) (.type "BaseException") = some true) (t_NotBelow : PySem.W.typeIn K (.ref c_NotBelow) = some (.type "type"))
    (en : PySem.W.specialIn K (.builtin "object.__class__") "__get__" = some (some (.builtin "getset_descriptor.__get__"))) (et : PySem.W.takesIn K (.builtin "object.__class__") = some true)
    (ehg_RankError : PySem.W.findIn K (.ref c_RankError) "__getattribute__" = some (some (.builtin "BaseException.__getattribute__")))
    (ehk_RankError : PySem.W.findIn K (.ref c_RankError) "__getattr__" = some none)
    (ehd_RankError : PySem.W.hasDictIn K c_RankError = true)
    (eha_RankError : PySem.W.findIn K (.ref c_RankError) "__class__" = some (some (.builtin "object.__class__")))
    (ehm_RankError : PySem.W.mroIn K c_RankError (.type "object") = some true)
    (i_RankError : PySem.W.isClsIn K c_RankError = true) (v_RankError : PySem.W.subIn K (.ref c_RankError) (.type "ValueError") = some true)
    (s_RankError_RankError : PySem.W.subIn K (.ref c_RankError) (.ref c_RankError) = some true)
    (s_RankError_InvalidSizes : PySem.W.subIn K (.ref c_RankError) (.ref c_InvalidSizes) = some false)
    (s_RankError_InvalidChoice : PySem.W.subIn K (.ref c_RankError) (.ref c_InvalidChoice) = some false)
    (s_RankError_NotBelow : PySem.W.subIn K (.ref c_RankError) (.ref c_NotBelow) = some false)
    (ehg_InvalidSizes : PySem.W.findIn K (.ref c_InvalidSizes) "__getattribute__" = some (some (.builtin "BaseException.__getattribute__")))
    (ehk_InvalidSizes : PySem.W.findIn K (.ref c_InvalidSizes) "__getattr__" = some none)
    (ehd_InvalidSizes : PySem.W.hasDictIn K c_InvalidSizes = true)
    (eha_InvalidSizes : PySem.W.findIn K (.ref c_InvalidSizes) "__class__" = some (some (.builtin "object.__class__")))
    (ehm_InvalidSizes : PySem.W.mroIn K c_InvalidSizes (.type "object") = some true)
    (i_InvalidSizes : PySem.W.isClsIn K c_InvalidSizes = true) (v_InvalidSizes : PySem.W.subIn K (.ref c_InvalidSizes) (.type "ValueError") = some true)
    (s_InvalidSizes_RankError : PySem.W.subIn K (.ref c_InvalidSizes) (.ref c_RankError) = some true)
    (s_InvalidSizes_InvalidSizes : PySem.W.subIn K (.ref c_InvalidSizes) (.ref c_InvalidSizes) = some true)
    (s_InvalidSizes_InvalidChoice : PySem.W.subIn K (.ref c_InvalidSizes) (.ref c_InvalidChoice) = some false)
    (s_InvalidSizes_NotBelow : PySem.W.subIn K (.ref c_InvalidSizes) (.ref c_NotBelow) = some false)
    (ehg_InvalidChoice : PySem.W.findIn K (.ref c_InvalidChoice) "__getattribute__" = some (some (.builtin "BaseException.__getattribute__")))
    (ehk_InvalidChoice : PySem.W.findIn K (.ref c_InvalidChoice) "__getattr__" = some none)
    (ehd_InvalidChoice : PySem.W.hasDictIn K c_InvalidChoice = true)
    (eha_InvalidChoice : PySem.W.findIn K (.ref c_InvalidChoice) "__class__" = some (some (.builtin "object.__class__")))
    (ehm_InvalidChoice : PySem.W.mroIn K c_InvalidChoice (.type "object") = some true)
    (i_InvalidChoice : PySem.W.isClsIn K c_InvalidChoice = true) (v_InvalidChoice : PySem.W.subIn K (.ref c_InvalidChoice) (.type "ValueError") = some true)
    (s_InvalidChoice_RankError : PySem.W.subIn K (.ref c_InvalidChoice) (.ref c_RankError) = some true)
    (s_InvalidChoice_InvalidSizes : PySem.W.subIn K (.ref c_InvalidChoice) (.ref c_InvalidSizes) = some false)
    (s_InvalidChoice_InvalidChoice : PySem.W.subIn K (.ref c_InvalidChoice) (.ref c_InvalidChoice) = some true)
    (s_InvalidChoice_NotBelow : PySem.W.subIn K (.ref c_InvalidChoice) (.ref c_NotBelow) = some false)
    (ehg_NotBelow : PySem.W.findIn K (.ref c_NotBelow) "__getattribute__" = some (some (.builtin "BaseException.__getattribute__")))
    (ehk_NotBelow : PySem.W.findIn K (.ref c_NotBelow) "__getattr__" = some none)
    (ehd_NotBelow : PySem.W.hasDictIn K c_NotBelow = true)
    (eha_NotBelow : PySem.W.findIn K (.ref c_NotBelow) "__class__" = some (some (.builtin "object.__class__")))
    (ehm_NotBelow : PySem.W.mroIn K c_NotBelow (.type "object") = some true)
    (i_NotBelow : PySem.W.isClsIn K c_NotBelow = true) (v_NotBelow : PySem.W.subIn K (.ref c_NotBelow) (.type "ValueError") = some true)
    (s_NotBelow_RankError : PySem.W.subIn K (.ref c_NotBelow) (.ref c_RankError) = some true)
    (s_NotBelow_InvalidSizes : PySem.W.subIn K (.ref c_NotBelow) (.ref c_InvalidSizes) = some false)
    (s_NotBelow_InvalidChoice : PySem.W.subIn K (.ref c_NotBelow) (.ref c_InvalidChoice) = some false)
    (s_NotBelow_NotBelow : PySem.W.subIn K (.ref c_NotBelow) (.ref c_NotBelow) = some true) :
    ∃ fd : FuncData, (∀ (s : Shared) (v : Value), BindsTo s fd ⟨[v], []⟩ [("script", v)]) ∧ ∀ base : Heap, K.In base → base.Ns mainGlobals mg → FnOk l.prog w K mg base (L2.CX l.prog w) 7 fa fd ["script"] (spD K S_law) := by
  have e := hfa.symm.trans (PySem.W.mg_of X G a18)
  cases e
  have T : Tx K mg c_RankError c_InvalidSizes c_InvalidChoice c_NotBelow t_MAX_SIZE := ⟨PySem.W.mg_none_of X G z_isinstance, PySem.W.mg_none_of X G z_int, PySem.W.mg_none_of X G z_bool, PySem.W.mg_none_of X G z_tuple, PySem.W.mg_none_of X G z_len, PySem.W.mg_none_of X G z_zip, PySem.W.mg_none_of X G z_enumerate, PySem.W.mg_none_of X G z_sorted, PySem.W.mg_none_of X G z_range, PySem.W.mg_none_of X G z_sum, PySem.W.mg_none_of X G z_list, PySem.W.mg_none_of X G z_set, PySem.W.mg_none_of X G z_max, PySem.W.mg_of X G g_MAX_SIZE, ⟨PySem.W.mg_of X G a_RankError, x_RankError, k_RankError, b_RankError, t_RankError⟩, ⟨PySem.W.mg_of X G a_InvalidSizes, x_InvalidSizes, k_InvalidSizes, b_InvalidSizes, t_InvalidSizes⟩, ⟨PySem.W.mg_of X G a_InvalidChoice, x_InvalidChoice, k_InvalidChoice, b_InvalidChoice, t_InvalidChoice⟩, ⟨PySem.W.mg_of X G a_NotBelow, x_NotBelow, k_NotBelow, b_NotBelow, t_NotBelow⟩, ⟨ehg_RankError, ehk_RankError, b_RankError, ehd_RankError, eha_RankError, en, et, ehm_RankError⟩, i_RankError, v_RankError, s_RankError_RankError, s_RankError_InvalidSizes, s_RankError_InvalidChoice, s_RankError_NotBelow, ⟨ehg_InvalidSizes, ehk_InvalidSizes, b_InvalidSizes, ehd_InvalidSizes, eha_InvalidSizes, en, et, ehm_InvalidSizes⟩, i_InvalidSizes, v_InvalidSizes, s_InvalidSizes_RankError, s_InvalidSizes_InvalidSizes, s_InvalidSizes_InvalidChoice, s_InvalidSizes_NotBelow, ⟨ehg_InvalidChoice, ehk_InvalidChoice, b_InvalidChoice, ehd_InvalidChoice, eha_InvalidChoice, en, et, ehm_InvalidChoice⟩, i_InvalidChoice, v_InvalidChoice, s_InvalidChoice_RankError, s_InvalidChoice_InvalidSizes, s_InvalidChoice_InvalidChoice, s_InvalidChoice_NotBelow, ⟨ehg_NotBelow, ehk_NotBelow, b_NotBelow, ehd_NotBelow, eha_NotBelow, en, et, ehm_NotBelow⟩, i_NotBelow, v_NotBelow, s_NotBelow_RankError, s_NotBelow_InvalidSizes, s_NotBelow_InvalidChoice, s_NotBelow_NotBelow⟩
  refine ⟨PySem.W.fnOf "law" "law" (defArgs s_law) (defBody s_law) (defScope s_law) .none kV18 dc18 pm18 an18 cd18 ct18, fun s v => .of_eq rfl, fun base _ _ => ?_⟩
  have F0 := fun_mk (st := s_in_range) l0 q0 k0
  have G_in_range := ok_in_range (P := l.prog) (w := w) (base := base) T  F0 (PySem.W.mg_of X G a0) (F0.binds (ps := ["value", "low", "high"]) fun _ _ _ _ _ _ us hl => match us, hl with | [_, _, _], _ => rfl)
  have F1 := fun_mk (st := s_check_sizes) l1 q1 k1
  have G_check_sizes := ok_check_sizes (P := l.prog) (w := w) (base := base) T G_in_range F1 (PySem.W.mg_of X G a1) (F1.binds (ps := ["first", "second"]) fun _ _ _ _ _ _ us hl => match us, hl with | [_, _], _ => rfl)
  have F2 := fun_mk (st := s_is_choice_of) l2 q2 k2
  have G_is_choice_of := ok_is_choice_of (P := l.prog) (w := w) (base := base) T G_in_range F2 (PySem.W.mg_of X G a2) (F2.binds (ps := ["first", "second", "value"]) fun _ _ _ _ _ _ us hl => match us, hl with | [_, _, _], _ => rfl)
  have F3 := fun_mk (st := s_check_choice) l3 q3 k3
  have G_check_choice := ok_check_choice (P := l.prog) (w := w) (base := base) T G_check_sizes G_is_choice_of F3 (PySem.W.mg_of X G a3) (F3.binds (ps := ["first", "second", "choice"]) fun _ _ _ _ _ _ us hl => match us, hl with | [_, _, _], _ => rfl)
  have F4 := fun_mk (st := s_check_two) l4 q4 k4
  have G_check_two := ok_check_two (P := l.prog) (w := w) (base := base) T G_check_choice G_is_choice_of F4 (PySem.W.mg_of X G a4) (F4.binds (ps := ["first", "second", "one", "other"]) fun _ _ _ _ _ _ us hl => match us, hl with | [_, _, _, _], _ => rfl)
  have F5 := fun_mk (st := s_lies_below) l5 q5 k5
  have G_lies_below := ok_lies_below (P := l.prog) (w := w) (base := base) T  F5 (PySem.W.mg_of X G a5) (F5.binds (ps := ["one", "other"]) fun _ _ _ _ _ _ us hl => match us, hl with | [_, _], _ => rfl)
  have F6 := fun_mk (st := s_raised) l6 q6 k6
  have G_raised := ok_raised (P := l.prog) (w := w) (base := base) T G_check_choice G_is_choice_of F6 (PySem.W.mg_of X G a6) (F6.binds (ps := ["first", "second", "choice"]) fun _ _ _ _ _ _ us hl => match us, hl with | [_, _, _], _ => rfl)
  have F7 := fun_mk (st := s_way) l7 q7 k7
  have G_way := ok_way (P := l.prog) (w := w) (base := base) T G_check_two G_lies_below F7 (PySem.W.mg_of X G a7) (F7.binds (ps := ["first", "second", "one", "other"]) fun _ _ _ _ _ _ us hl => match us, hl with | [_, _, _, _], _ => rfl)
  have F8 := fun_mk (st := s_count_ways) l8 q8 k8
  have G_count_ways := ok_count_ways (P := l.prog) (w := w) (base := base) T G_check_two G_lies_below G_is_choice_of F8 (PySem.W.mg_of X G a8) (F8.binds (ps := ["first", "second", "one", "other"]) fun _ _ _ _ _ _ us hl => match us, hl with | [_, _, _, _], _ => rfl)
  have F9 := fun_mk (st := s__law_cell) l9 q9 k9
  have G__law_cell := ok__law_cell (P := l.prog) (w := w) (base := base) T  F9 (PySem.W.mg_of X G a9) (F9.binds (ps := ["script", "k"]) fun _ _ _ _ _ _ us hl => match us, hl with | [_, _], _ => rfl)
  have F10 := fun_mk (st := s__law_whole) l10 q10 k10
  have G__law_whole := ok__law_whole (P := l.prog) (w := w) (base := base) T  F10 (PySem.W.mg_of X G a10) (F10.binds (ps := ["found"]) fun _ _ _ _ _ _ us hl => match us, hl with | [_], _ => rfl)
  have F11 := fun_mk (st := s__law_row) l11 q11 k11
  have G__law_row := ok__law_row (P := l.prog) (w := w) (base := base) T G__law_cell F11 (PySem.W.mg_of X G a11) (F11.binds (ps := ["script", "at"]) fun _ _ _ _ _ _ us hl => match us, hl with | [_, _], _ => rfl)
  have F12 := fun_mk (st := s__law_in) l12 q12 k12
  have G__law_in := ok__law_in (P := l.prog) (w := w) (base := base) T G__law_whole F12 (PySem.W.mg_of X G a12) (F12.binds (ps := ["thing", "low", "high"]) fun _ _ _ _ _ _ us hl => match us, hl with | [_, _, _], _ => rfl)
  have F13 := fun_mk (st := s__law_choice) l13 q13 k13
  have G__law_choice := ok__law_choice (P := l.prog) (w := w) (base := base) T G__law_row F13 (PySem.W.mg_of X G a13) (F13.binds (ps := ["script", "at", "first", "second"]) fun _ _ _ _ _ _ us hl => match us, hl with | [_, _, _, _], _ => rfl)
  have F14 := fun_mk (st := s__law_is_choice) l14 q14 k14
  have G__law_is_choice := ok__law_is_choice (P := l.prog) (w := w) (base := base) T G__law_in F14 (PySem.W.mg_of X G a14) (F14.binds (ps := ["first", "second", "value"]) fun _ _ _ _ _ _ us hl => match us, hl with | [_, _, _], _ => rfl)
  have F15 := fun_mk (st := s__law_below) l15 q15 k15
  have G__law_below := ok__law_below (P := l.prog) (w := w) (base := base) T  F15 (PySem.W.mg_of X G a15) (F15.binds (ps := ["one", "other"]) fun _ _ _ _ _ _ us hl => match us, hl with | [_, _], _ => rfl)
  have F16 := fun_mk (st := s__law_raised) l16 q16 k16
  have G__law_raised := ok__law_raised (P := l.prog) (w := w) (base := base) T G__law_is_choice F16 (PySem.W.mg_of X G a16) (F16.binds (ps := ["first", "second", "choice"]) fun _ _ _ _ _ _ us hl => match us, hl with | [_, _, _], _ => rfl)
  have F17 := fun_mk (st := s__law_led) l17 q17 k17
  have G__law_led := ok__law_led (P := l.prog) (w := w) (base := base) T G_way G_count_ways F17 (PySem.W.mg_of X G a17) (F17.binds (ps := ["mode", "first", "second", "one", "other"]) fun _ _ _ _ _ _ us hl => match us, hl with | [_, _, _, _, _], _ => rfl)
  exact ok_law T G__law_row G__law_led G__law_choice G_raised G__law_raised G__law_below G_count_ways (fun_mk (st := s_law) l18 q18 k18)
end Rk
open PySem PySem.W PyProof.Rows
set_option maxRecDepth 100000 in
set_option maxHeartbeats 0 in
theorem PySem.Challenge.cw_ranksums_k10_whole_ways_holds : PySem.Challenge.rw_ranksums_k10_whole_ways.Holds := by
  w_on; o_law; k_head; (case hw => w_witness2)
  k_fill
  refine L2.walk_of (l := PySem.Challenge.rw_ranksums_k10_whole_ways) (n := 63) (k := 7) (x := "script") (CX := fun w => L2.CX (PySem.Challenge.rw_ranksums_k10_whole_ways).prog w) (sp := fun w => Rk.spD _ Rk.S_law) rfl (by decide) rfl ⟨rfl, by decide, by decide⟩ (fun w h Y => PySem.W.kIn_of Y) ?F (fun _ _ a ns _ _ hS => Rk.law_sp hS) (fun _ _ _ _ _ h => Rk.cx_no h)
  case F =>
    intro w mg fa h KX G hmg
    refine' Rk.all_mk KX G hmg ?a0 ?l0 ?q0 ?k0 ?a1 ?l1 ?q1 ?k1 ?a2 ?l2 ?q2 ?k2 ?a3 ?l3 ?q3 ?k3 ?a4 ?l4 ?q4 ?k4 ?a5 ?l5 ?q5 ?k5 ?a6 ?l6 ?q6 ?k6 ?a7 ?l7 ?q7 ?k7 ?a8 ?l8 ?q8 ?k8 ?a9 ?l9 ?q9 ?k9 ?a10 ?l10 ?q10 ?k10 ?a11 ?l11 ?q11 ?k11 ?a12 ?l12 ?q12 ?k12 ?a13 ?l13 ?q13 ?k13 ?a14 ?l14 ?q14 ?k14 ?a15 ?l15 ?q15 ?k15 ?a16 ?l16 ?q16 ?k16 ?a17 ?l17 ?q17 ?k17 ?a18 ?l18 ?q18 ?k18 ?z_isinstance ?z_int ?z_bool ?z_tuple ?z_len ?z_zip ?z_enumerate ?z_sorted ?z_range ?z_sum ?z_list ?z_set ?z_max ?g_MAX_SIZE ?a_RankError ?x_RankError ?k_RankError ?b_RankError ?t_RankError ?a_InvalidSizes ?x_InvalidSizes ?k_InvalidSizes ?b_InvalidSizes ?t_InvalidSizes ?a_InvalidChoice ?x_InvalidChoice ?k_InvalidChoice ?b_InvalidChoice ?t_InvalidChoice ?a_NotBelow ?x_NotBelow ?k_NotBelow ?b_NotBelow ?t_NotBelow ?en ?et ?ehg_RankError ?ehk_RankError ?ehd_RankError ?eha_RankError ?ehm_RankError ?i_RankError ?v_RankError ?s_RankError_RankError ?s_RankError_InvalidSizes ?s_RankError_InvalidChoice ?s_RankError_NotBelow ?ehg_InvalidSizes ?ehk_InvalidSizes ?ehd_InvalidSizes ?eha_InvalidSizes ?ehm_InvalidSizes ?i_InvalidSizes ?v_InvalidSizes ?s_InvalidSizes_RankError ?s_InvalidSizes_InvalidSizes ?s_InvalidSizes_InvalidChoice ?s_InvalidSizes_NotBelow ?ehg_InvalidChoice ?ehk_InvalidChoice ?ehd_InvalidChoice ?eha_InvalidChoice ?ehm_InvalidChoice ?i_InvalidChoice ?v_InvalidChoice ?s_InvalidChoice_RankError ?s_InvalidChoice_InvalidSizes ?s_InvalidChoice_InvalidChoice ?s_InvalidChoice_NotBelow ?ehg_NotBelow ?ehk_NotBelow ?ehd_NotBelow ?eha_NotBelow ?ehm_NotBelow ?i_NotBelow ?v_NotBelow ?s_NotBelow_RankError ?s_NotBelow_InvalidSizes ?s_NotBelow_InvalidChoice ?s_NotBelow_NotBelow
    (case a0 => k_is)
    (case l0 => k_is)
    (case q0 => k_is)
    (case k0 => k_is)
    (case a1 => k_is)
    (case l1 => k_is)
    (case q1 => k_is)
    (case k1 => k_is)
    (case a2 => k_is)
    (case l2 => k_is)
    (case q2 => k_is)
    (case k2 => k_is)
    (case a3 => k_is)
    (case l3 => k_is)
    (case q3 => k_is)
    (case k3 => k_is)
    (case a4 => k_is)
    (case l4 => k_is)
    (case q4 => k_is)
    (case k4 => k_is)
    (case a5 => k_is)
    (case l5 => k_is)
    (case q5 => k_is)
    (case k5 => k_is)
    (case a6 => k_is)
    (case l6 => k_is)
    (case q6 => k_is)
    (case k6 => k_is)
    (case a7 => k_is)
    (case l7 => k_is)
    (case q7 => k_is)
    (case k7 => k_is)
    (case a8 => k_is)
    (case l8 => k_is)
    (case q8 => k_is)
    (case k8 => k_is)
    (case a9 => k_is)
    (case l9 => k_is)
    (case q9 => k_is)
    (case k9 => k_is)
    (case a10 => k_is)
    (case l10 => k_is)
    (case q10 => k_is)
    (case k10 => k_is)
    (case a11 => k_is)
    (case l11 => k_is)
    (case q11 => k_is)
    (case k11 => k_is)
    (case a12 => k_is)
    (case l12 => k_is)
    (case q12 => k_is)
    (case k12 => k_is)
    (case a13 => k_is)
    (case l13 => k_is)
    (case q13 => k_is)
    (case k13 => k_is)
    (case a14 => k_is)
    (case l14 => k_is)
    (case q14 => k_is)
    (case k14 => k_is)
    (case a15 => k_is)
    (case l15 => k_is)
    (case q15 => k_is)
    (case k15 => k_is)
    (case a16 => k_is)
    (case l16 => k_is)
    (case q16 => k_is)
    (case k16 => k_is)
    (case a17 => k_is)
    (case l17 => k_is)
    (case q17 => k_is)
    (case k17 => k_is)
    (case a18 => k_is)
    (case l18 => k_is)
    (case q18 => k_is)
    (case k18 => k_is)
    (case z_isinstance => k_is)
    (case z_int => k_is)
    (case z_bool => k_is)
    (case z_tuple => k_is)
    (case z_len => k_is)
    (case z_zip => k_is)
    (case z_enumerate => k_is)
    (case z_sorted => k_is)
    (case z_range => k_is)
    (case z_sum => k_is)
    (case z_list => k_is)
    (case z_set => k_is)
    (case z_max => k_is)
    (case g_MAX_SIZE => k_is)
    (case a_RankError => k_is)
    (case x_RankError => k_exc)
    (case k_RankError => k_is)
    (case b_RankError => k_is)
    (case t_RankError => k_is)
    (case a_InvalidSizes => k_is)
    (case x_InvalidSizes => k_exc)
    (case k_InvalidSizes => k_is)
    (case b_InvalidSizes => k_is)
    (case t_InvalidSizes => k_is)
    (case a_InvalidChoice => k_is)
    (case x_InvalidChoice => k_exc)
    (case k_InvalidChoice => k_is)
    (case b_InvalidChoice => k_is)
    (case t_InvalidChoice => k_is)
    (case a_NotBelow => k_is)
    (case x_NotBelow => k_exc)
    (case k_NotBelow => k_is)
    (case b_NotBelow => k_is)
    (case t_NotBelow => k_is)
    (case en => k_is)
    (case et => k_is)
    (case ehg_RankError => k_is)
    (case ehk_RankError => k_is)
    (case ehd_RankError => k_is)
    (case eha_RankError => k_is)
    (case ehm_RankError => k_is)
    (case i_RankError => k_is)
    (case v_RankError => k_is)
    (case s_RankError_RankError => k_is)
    (case s_RankError_InvalidSizes => k_is)
    (case s_RankError_InvalidChoice => k_is)
    (case s_RankError_NotBelow => k_is)
    (case ehg_InvalidSizes => k_is)
    (case ehk_InvalidSizes => k_is)
    (case ehd_InvalidSizes => k_is)
    (case eha_InvalidSizes => k_is)
    (case ehm_InvalidSizes => k_is)
    (case i_InvalidSizes => k_is)
    (case v_InvalidSizes => k_is)
    (case s_InvalidSizes_RankError => k_is)
    (case s_InvalidSizes_InvalidSizes => k_is)
    (case s_InvalidSizes_InvalidChoice => k_is)
    (case s_InvalidSizes_NotBelow => k_is)
    (case ehg_InvalidChoice => k_is)
    (case ehk_InvalidChoice => k_is)
    (case ehd_InvalidChoice => k_is)
    (case eha_InvalidChoice => k_is)
    (case ehm_InvalidChoice => k_is)
    (case i_InvalidChoice => k_is)
    (case v_InvalidChoice => k_is)
    (case s_InvalidChoice_RankError => k_is)
    (case s_InvalidChoice_InvalidSizes => k_is)
    (case s_InvalidChoice_InvalidChoice => k_is)
    (case s_InvalidChoice_NotBelow => k_is)
    (case ehg_NotBelow => k_is)
    (case ehk_NotBelow => k_is)
    (case ehd_NotBelow => k_is)
    (case eha_NotBelow => k_is)
    (case ehm_NotBelow => k_is)
    (case i_NotBelow => k_is)
    (case v_NotBelow => k_is)
    (case s_NotBelow_RankError => k_is)
    (case s_NotBelow_InvalidSizes => k_is)
    (case s_NotBelow_InvalidChoice => k_is)
    (case s_NotBelow_NotBelow => k_is)
#print axioms PySem.Challenge.cw_ranksums_k10_whole_ways_holds
