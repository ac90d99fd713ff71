import PyProof.Rows.All
import Wide.All
import OpenK.AllK
import Wide.FinOn
import HandS.ForMost
import HandS.Wide
import HandS.TupMul
import HandS.TupAny
import HandS.TupLe
import HandS.Zip
import HandS.Conv
import HandS.Codes
import HandS.IsInst
import HandS.OwnEq
import HandS.Style
import KE.GoesMore
import KE.KDictKeyed
import KE.KeyNested
import HandS.DictTup
import PyProof.ReprRoads
import PyProof.P3Eq
import PyProof.ReprLen
import PyProof.ReprReads
import KE.DataCmp
import PySem.Challenge.RW_tellsless_k12_whole_led_by_own_sums
set_option Elab.async false
set_option linter.all false
set_option maxRecDepth 100000
set_option maxHeartbeats 4000000
/-! K1: worlds (what a part of the heap must keep), data over what is known of the heap, canonical readings. -/
namespace K12
open PySem PySem.Spec PyProof.Rows L2

/-! ### worlds -/
/-- what others own of the heap: the addresses, and what must hold there -/
structure Wd where
  S : Addr → Prop
  J : Hp → Prop
  dep : ∀ {H H' : Hp}, J H → (∀ a, S a → H' a = H a) → J H'
  ex : ∀ {H : Hp} {a : Addr}, J H → S a → H a ≠ none
/-- G: what is known and stays -/
structure Wd.ok (W : Wd) (G H : Hp) : Prop where
  same : Same G H
  out : ∀ a, W.S a → G a = none
  j : W.J H
def Wd.emp : Wd := ⟨fun _ => False, fun _ => True, fun _ _ => trivial, fun _ h => h.elim⟩
def Wd.sep (W U : Wd) : Wd where
  S := fun a => W.S a ∨ U.S a
  J := fun H => W.J H ∧ U.J H ∧ ∀ a, W.S a → U.S a → False
  dep := fun ⟨h1, h2, h3⟩ k => ⟨W.dep h1 fun a h => k a (.inl h), U.dep h2 fun a h => k a (.inr h), h3⟩
  ex := fun ⟨h1, h2, _⟩ h => h.elim (W.ex h1) (U.ex h2)
/-- one object that is ours -/
def Wd.cell (l : Addr) (o : HO) : Wd where
  S := fun a => a = l
  J := fun H => H l = some o
  dep := fun h k => (k l rfl).trans h
  ex := fun {H a} h e z => by subst e; rw [h] at z; cases z
section
variable {W U V' : Wd} {G H : Hp} {p l : Addr} {o u : HO}
theorem Wd.ok.emp : Wd.emp.ok H H := ⟨Same.refl _, fun _ h => h.elim, trivial⟩
theorem Wd.ok.free (k : W.ok G H) (h : H p = none) : G p = none := k.same.free h
theorem Wd.ok.notS (k : W.ok G H) (h : H p = none) : ¬ W.S p := fun z => W.ex k.j z h
/-- a new object, known from now on -/
theorem Wd.ok.new (k : W.ok G H) (h : H p = none) : W.ok (upd G p o) (upd H p o) := by
  have ns := k.notS h
  refine ⟨fun b x e => ?_, fun a s => ?_, W.dep k.j fun a s => ?_⟩
  · by_cases q : b = p
    · subst q; rw [upd_same] at e ⊢; exact e
    · rw [upd_ne q] at e ⊢; exact k.same _ _ e
  · rw [upd_ne (fun z : a = p => ns (by rw [← z]; exact s))]; exact k.out a s
  · exact upd_ne fun z : a = p => ns (by rw [← z]; exact s)
/-- a new object, ours -/
theorem Wd.ok.newCell (k : W.ok G H) (h : H p = none) : (W.sep (.cell p o)).ok G (upd H p o) := by
  have ns := k.notS h
  refine ⟨fun b x e => ?_, fun a s => ?_, W.dep k.j fun a s => ?_, upd_same, fun a s z => ?_⟩
  · rw [upd_ne (ne_of_none (k.same _ _ e) h)]; exact k.same _ _ e
  · rcases s with s | s
    · exact k.out a s
    · subst s; exact k.free h
  · exact upd_ne fun z : a = p => ns (by rw [← z]; exact s)
  · cases z; exact ns s
/-- a new object that nobody asks for again -/
theorem Wd.ok.drop (k : W.ok G H) (h : H p = none) : W.ok G (upd H p o) := by
  have ns := k.notS h
  refine ⟨fun b x e => ?_, k.out, W.dep k.j fun a s => ?_⟩
  · rw [upd_ne (ne_of_none (k.same _ _ e) h)]; exact k.same _ _ e
  · exact upd_ne fun z : a = p => ns (by rw [← z]; exact s)
theorem Wd.ok.left (k : (W.sep U).ok G H) : W.ok G H := ⟨k.same, fun a s => k.out a (.inl s), k.j.1⟩
theorem Wd.ok.cellAt (k : (W.sep (.cell l o)).ok G H) : H l = some o := k.j.2.1
/-- our object changes -/
theorem Wd.ok.put (k : (W.sep (.cell l o)).ok G H) : (W.sep (.cell l u)).ok G (upd H l u) := by
  have gl : G l = none := k.out l (.inr rfl)
  refine ⟨fun b x e => ?_, k.out, W.dep k.j.1 fun a s => ?_, upd_same, k.j.2.2⟩
  · rw [upd_ne (ne_of_none e gl)]; exact k.same _ _ e
  · exact upd_ne fun z => k.j.2.2 a s z
/-- our object is known from now on -/
theorem Wd.ok.give (k : (W.sep (.cell l o)).ok G H) : W.ok (upd G l o) H := by
  refine ⟨fun b x e => ?_, fun a s => ?_, k.j.1⟩
  · by_cases q : b = l
    · subst q; rw [upd_same] at e; cases e; exact k.cellAt
    · rw [upd_ne q] at e; exact k.same _ _ e
  · rw [upd_ne (fun z => k.j.2.2 a s z)]; exact k.out a (.inl s)
theorem Wd.ok.swap (k : ((W.sep U).sep V').ok G H) : ((W.sep V').sep U).ok G H := by
  obtain ⟨s, n, ⟨⟨j1, j2, j3⟩, j4, j5⟩⟩ := k
  refine ⟨s, fun a z => n a ?_, ⟨j1, j4, fun a x y => j5 a (.inl x) y⟩, j2, fun a x y => ?_⟩
  · rcases z with (z | z) | z
    · exact .inl (.inl z)
    · exact .inr z
    · exact .inl (.inr z)
  · rcases x with x | x
    · exact j3 a x y
    · exact j5 a (.inr y) x
theorem Wd.ok.assoc (k : ((W.sep U).sep V').ok G H) : (W.sep (U.sep V')).ok G H := by
  obtain ⟨s, n, ⟨⟨j1, j2, j3⟩, j4, j5⟩⟩ := k
  refine ⟨s, fun a z => n a ?_, j1, ⟨j2, j4, fun a x y => j5 a (.inr x) y⟩, fun a x y => ?_⟩
  · rcases z with z | z | z
    · exact .inl (.inl z)
    · exact .inl (.inr z)
    · exact .inr z
  · rcases y with y | y
    · exact j3 a x y
    · exact j5 a (.inl x) y
theorem Wd.ok.unassoc (k : (W.sep (U.sep V')).ok G H) : ((W.sep U).sep V').ok G H := by
  obtain ⟨s, n, j1, ⟨j2, j4, j5⟩, j6⟩ := k
  refine ⟨s, fun a z => n a ?_, ⟨j1, j2, fun a x y => j6 a x (.inl y)⟩, j4, fun a x y => ?_⟩
  · rcases z with (z | z) | z
    · exact .inl z
    · exact .inr (.inl z)
    · exact .inr (.inr z)
  · rcases x with x | x
    · exact j6 a x (.inr y)
    · exact j5 a x y
end
theorem same_new {H : Hp} {p : Addr} {o : HO} (h : H p = none) : Same H (upd H p o) := fun b u q => by rw [upd_ne (ne_of_none q h)]; exact q

/-! ### data -/
theorem sqT_same {K : PySem.W.Frag} {H H' : Hp} {a : Addr} {xs : List V} (e : Same H H') (h : SqT K H a xs) : SqT K H' a xs := by
  rcases h with (h | ⟨o, h⟩) | h
  · exact .inl (.inl (e _ _ h))
  · exact .inl (.inr ⟨o, e _ _ h⟩)
  · exact .inr h
theorem sqL_same {K : PySem.W.Frag} {H H' : Hp} {a : Addr} {xs : List V} (e : Same H H') (h : SqL K H a xs) : SqL K H' a xs := e.seq h
mutual
theorem dp_same {K : PySem.W.Frag} {H H' : Hp} (s : Same H H') : ∀ (d : PyData) (v : V), Dp K H v d → Dp K H' v d
  | .none, _, h => by cases h; exact .non
  | .bool b, _, h => by cases h; exact .bl b
  | .int i, _, h => by cases h; exact .int i
  | .str x, _, h => by cases h; exact .str x
  | .list ds, _, h => by cases h with | lst a b => exact .lst (sqL_same s a) (dpAll_same s ds _ b)
  | .tuple ds, _, h => by cases h with | tup a b => exact .tup (sqT_same s a) (dpAll_same s ds _ b)
  | .dict _, _, h => by cases h
theorem dpAll_same {K : PySem.W.Frag} {H H' : Hp} (s : Same H H') : ∀ (ds : List PyData) (vs : List V), DpAll K H vs ds → DpAll K H' vs ds
  | [], _, h => by cases h; exact .nil
  | d :: ds, _, h => by cases h with | cons a b => exact .cons (dp_same s d _ a) (dpAll_same s ds _ b)
end
end K12
namespace L2
open PySem PySem.Spec PyProof.Rows K12
section
variable {K : PySem.W.Frag} {G H : Hp} {v : V} {d : PyData} {ds : List PyData} {vs : List V}
theorem Dp.sm (h : Dp K G v d) (s : Same G H) : Dp K H v d := dp_same s d v h
theorem DpAll.sm (h : DpAll K G vs ds) (s : Same G H) : DpAll K H vs ds := dpAll_same s ds vs h
theorem Dp.int_eq {i : Int} (h : Dp K G v (.int i)) : v = .int i := by cases h; rfl
theorem Dp.str_eq {x : Str} (h : Dp K G v (.str x)) : v = .str x := by cases h; rfl
theorem Dp.bl_eq {b : Bool} (h : Dp K G v (.bool b)) : v = .bl b := by cases h; rfl
theorem Dp.non_eq (h : Dp K G v .none) : v = .non := by cases h; rfl
theorem Dp.tup_inv (h : Dp K G v (.tuple ds)) : ∃ a xs, v = .ref a ∧ SqT K G a xs ∧ DpAll K G xs ds := by
  cases h with | tup a b => exact ⟨_, _, rfl, a, b⟩
theorem Dp.lst_inv (h : Dp K G v (.list ds)) : ∃ a xs, v = .ref a ∧ SqL K G a xs ∧ DpAll K G xs ds := by
  cases h with | lst a b => exact ⟨_, _, rfl, a, b⟩
theorem DpAll.length : ∀ {vs : List V} {ds : List PyData}, DpAll K G vs ds → vs.length = ds.length
  | _, _, .nil => rfl
  | _, _, .cons _ t => by rw [List.length_cons, List.length_cons, DpAll.length t]
theorem DpAll.get : ∀ {vs : List V} {ds : List PyData} {i : Nat} {d : PyData}, DpAll K G vs ds → ds[i]? = some d → ∃ v, vs[i]? = some v ∧ Dp K G v d
  | _, _, i, d, .nil, h => by simp at h
  | _, _, 0, d, .cons a t, h => by
    simp only [List.getElem?_cons_zero, Option.some.injEq] at h
    subst h
    exact ⟨_, rfl, a⟩
  | _, _, i + 1, d, .cons a t, h => by
    simp only [List.getElem?_cons_succ] at h ⊢
    exact DpAll.get t h
theorem DpAll.append : ∀ {vs us : List V} {ds es : List PyData}, DpAll K G vs ds → DpAll K G us es → DpAll K G (vs ++ us) (ds ++ es)
  | _, _, _, _, .nil, h => h
  | _, _, _, _, .cons a t, h => .cons a (DpAll.append t h)
theorem DpAll.snoc {u : V} {e : PyData} (h : DpAll K G vs ds) (h1 : Dp K G u e) : DpAll K G (vs ++ [u]) (ds ++ [e]) := h.append (.cons h1 .nil)
theorem DpAll.drop : ∀ {vs : List V} {ds : List PyData} (n : Nat), DpAll K G vs ds → DpAll K G (vs.drop n) (ds.drop n)
  | _, _, 0, h => h
  | _, _, _ + 1, .nil => .nil
  | _, _, n + 1, .cons _ t => DpAll.drop n t
theorem DpAll.take : ∀ {vs : List V} {ds : List PyData} (n : Nat), DpAll K G vs ds → DpAll K G (vs.take n) (ds.take n)
  | _, _, 0, _ => .nil
  | _, _, _ + 1, .nil => .nil
  | _, _, n + 1, .cons a t => .cons a (DpAll.take n t)
theorem DpAll.ints : ∀ {vs : List V} {ns : List Int}, DpAll K G vs (ns.map .int) → vs = ns.map V.int
  | _, [], h => by cases h; rfl
  | _, n :: ns, h => by
    cases h with
    | cons a t => rw [a.int_eq, DpAll.ints t]; rfl
theorem DpAll.bools : ∀ {vs : List V} {ns : List Bool}, DpAll K G vs (ns.map .bool) → vs = ns.map V.bl
  | _, [], h => by cases h; rfl
  | _, n :: ns, h => by
    cases h with
    | cons a t => rw [a.bl_eq, DpAll.bools t]; rfl
theorem dpInts : ∀ (ns : List Int), DpAll K G (ns.map V.int) (ns.map .int)
  | [] => .nil
  | n :: ns => .cons (.int n) (dpInts ns)
end

end L2
namespace K12
open PySem PySem.Spec PyProof.Rows L2
/-! ### canonical readings -/
def wE (X : Cx) (e : Expr) : TE := fun σ H Q => ∀ (pins : List (Addr × Obj)) (s : Shared), Inv X pins σ H s → wpAny (model X.prog X.w) X.A (eval e X.env) (EP X pins σ Q) X.xe s
def wT (X : Cx) (e : Expr) : TT := fun σ H Q => ∀ (pins : List (Addr × Obj)) (s : Shared), Inv X pins σ H s → wpAny (model X.prog X.w) X.A (isTrue e X.env (eval e X.env)) (TP X pins σ Q) X.xe s
def wW (X : Cx) (e : Expr) : TT := fun σ H Q => ∀ (whole : Sem Value) (pins : List (Addr × Obj)) (s : Shared), Inv X pins σ H s → wpAny (model X.prog X.w) X.A (isTrue e X.env whole) (TP X pins σ Q) X.xe s
def wA (X : Cx) (es : List Expr) : TA := fun σ H Q => ∀ (pos : Pos) (pins : List (Addr × Obj)) (s : Shared), Inv X pins σ H s → wpAny (model X.prog X.w) X.A (spliced (backTo pos (starEach es X.env))) (AP X pins σ Q) X.xe s
def wS (X : Cx) (st : Stmt) : TS := fun D σ H => ∀ (pins : List (Addr × Obj)) (s : Shared), Inv X pins σ H s → wpAny (model X.prog X.w) X.A (exec st X.env) (SP X pins D) X.xe s
def wSs (X : Cx) (st : List Stmt) : TS := fun D σ H => ∀ (pins : List (Addr × Obj)) (s : Shared), Inv X pins σ H s → wpAny (model X.prog X.w) X.A (execs st X.env) (SP X pins D) X.xe s
def wI (X : Cx) (tg iter : Expr) : TI := fun σ H R => ∀ (pins : List (Addr × Obj)) (s : Shared), Inv X pins σ H s →
  wpAny (model X.prog X.w) X.A (eval iter X.env) (fun v s1 => wpAny (model X.prog X.w) X.A (pyIter v) (PIE X pins σ tg R) X.xe s1) X.xe s
section
variable {X : Cx}
theorem pE (e : Expr) : PE X e (wE X e) := ⟨fun pins s _ _ _ I h => h pins s I⟩
theorem pT (e : Expr) : PT X e (wT X e) := ⟨fun pins s _ _ _ I h => h pins s I⟩
theorem pW (e : Expr) : PW X e (wW X e) := ⟨fun wh pins s _ _ _ I h => h wh pins s I⟩
theorem pA (es : List Expr) : PA X es (wA X es) := ⟨fun pos pins s _ _ _ I h => h pos pins s I⟩
theorem pS (st : Stmt) : PS X st (wS X st) := ⟨fun pins s _ _ _ I h => h pins s I⟩
theorem pSs (st : List Stmt) : PSs X st (wSs X st) := ⟨fun pins s _ _ _ I h => h pins s I⟩
theorem pI (tg iter : Expr) : PI X tg iter (wI X tg iter) := ⟨fun pins s _ _ _ I h => h pins s I⟩
theorem useE {e : Expr} {t : TE} {σ : L2.St} {H : Hp} {Q : VK} (p : PE X e t) (h : t σ H Q) : wE X e σ H Q := fun pins s I => p.run pins s σ H Q I h
theorem useT {e : Expr} {t : TT} {σ : L2.St} {H : Hp} {Q : Bool → Hp → Prop} (p : PT X e t) (h : t σ H Q) : wT X e σ H Q := fun pins s I => p.run pins s σ H Q I h
theorem useW {e : Expr} {t : TT} {σ : L2.St} {H : Hp} {Q : Bool → Hp → Prop} (p : PW X e t) (h : t σ H Q) : wW X e σ H Q := fun wh pins s I => p.run wh pins s σ H Q I h
theorem useA {e : List Expr} {t : TA} {σ : L2.St} {H : Hp} {Q : List V → Hp → Prop} (p : PA X e t) (h : t σ H Q) : wA X e σ H Q := fun pos pins s I => p.run pos pins s σ H Q I h
theorem useS {e : Stmt} {t : TS} {σ : L2.St} {H : Hp} {D : Ends} (p : PS X e t) (h : t D σ H) : wS X e D σ H := fun pins s I => p.run pins s σ H D I h
theorem useSs {e : List Stmt} {t : TS} {σ : L2.St} {H : Hp} {D : Ends} (p : PSs X e t) (h : t D σ H) : wSs X e D σ H := fun pins s I => p.run pins s σ H D I h
theorem useI {tg e : Expr} {t : TI} {σ : L2.St} {H : Hp} {R : It → Hp → Prop} (p : PI X tg e t) (h : t σ H R) : wI X tg e σ H R := fun pins s I => p.run pins s σ H R I h
end
end K12
/-! K2: expressions over data. -/
namespace K12
open PySem PySem.Spec PyProof.Rows L2

abbrev Rl := Hp → V → Prop
/-- the value is some data with P -/
def Sm (K : PySem.W.Frag) (P : PyData → Prop) : Rl := fun G v => ∃ d, P d ∧ Dp K G v d
def Is (K : PySem.W.Frag) (d : PyData) : Rl := fun G v => Dp K G v d
def Rf (u : V) : Rl := fun _ v => v = u
/-- e evaluates to a value with R, whatever the world W keeps -/
def Ev (X : Cx) (W : Wd) (e : Expr) (σ : L2.St) (G : Hp) (R : Rl) : Prop := ∀ (G1 H : Hp) (Q : VK), Same G G1 → W.ok G1 H → (∀ v G' H', Same G1 G' → W.ok G' H' → R G' v → Q v H') → wE X e σ H Q
def EvA (X : Cx) (W : Wd) (es : List Expr) (σ : L2.St) (G : Hp) (R : Hp → List V → Prop) : Prop := ∀ (G1 H : Hp) (Q : List V → Hp → Prop), Same G G1 → W.ok G1 H → (∀ v G' H', Same G1 G' → W.ok G' H' → R G' v → Q v H') → wA X es σ H Q
def EvT (X : Cx) (W : Wd) (e : Expr) (σ : L2.St) (G : Hp) (b : Bool) : Prop := ∀ (G1 H : Hp) (Q : Bool → Hp → Prop), Same G G1 → W.ok G1 H → (∀ G' H', Same G1 G' → W.ok G' H' → Q b H') → wT X e σ H Q
def EvW (X : Cx) (W : Wd) (e : Expr) (σ : L2.St) (G : Hp) (b : Bool) : Prop := ∀ (G1 H : Hp) (Q : Bool → Hp → Prop), Same G G1 → W.ok G1 H → (∀ G' H', Same G1 G' → W.ok G' H' → Q b H') → wW X e σ H Q
section
variable {X : Cx} {W : Wd} {e a b c : Expr} {es : List Expr} {σ : L2.St} {G G' H : Hp} {R R' : Rl} {d d' : PyData} {ds : List PyData} {v : V} {pos p : Pos} {x : Str} {k : Bool}
theorem Ev.up (h : Ev X W e σ G R) (s : Same G G') : Ev X W e σ G' R := fun G1 H Q s1 => h G1 H Q (s.trans s1)
theorem EvA.up {R : Hp → List V → Prop} (h : EvA X W es σ G R) (s : Same G G') : EvA X W es σ G' R := fun G1 H Q s1 => h G1 H Q (s.trans s1)
theorem EvT.up (h : EvT X W e σ G k) (s : Same G G') : EvT X W e σ G' k := fun G1 H Q s1 => h G1 H Q (s.trans s1)
theorem Ev.imp (h : Ev X W e σ G R) (f : ∀ G v, R G v → R' G v) : Ev X W e σ G R' := fun G1 H Q s k q => h G1 H Q s k fun v G' H' s' k' r => q v G' H' s' k' (f _ _ r)
theorem Ev.eq (h : Ev X W e σ G (Is X.K d)) (q : d = d') : Ev X W e σ G (Is X.K d') := by subst q; exact h
theorem EvT.eq {k' : Bool} (h : EvT X W e σ G k) (q : k = k') : EvT X W e σ G k' := by subst q; exact h
theorem Ev.sm {P : PyData → Prop} (h : Ev X W e σ G (Is X.K d)) (q : P d) : Ev X W e σ G (Sm X.K P) := h.imp fun _ _ r => ⟨d, q, r⟩
/-- by a rule of the layer that asks nothing of the heap -/
theorem ev_pure {t : TE} (p : PE X e t) (h : ∀ (G1 H : Hp) (Q : VK), Same G G1 → Same G1 H → (∀ v, R G1 v → Q v H) → t σ H Q) : Ev X W e σ G R := fun G1 H Q s k q => useE p (h G1 H Q s k.same fun v r => q v G1 H (Same.refl _) k r)

/-! ### names, constants -/
theorem ev_nm (i : Nat) (h : σ[i]? = some (some v)) (hd : Dp X.K G v d) (hN : X.N[i]? = some x := by rfl) (hv : Vis X.env.scope x := by first | exact Or.inl rfl | exact Or.inr (Or.inl rfl) | exact Or.inr (Or.inr rfl))
    (h1 : (x == ("__debug__" : Str)) = false := by decide) (h2 : (x == ("__classdict__" : Str)) = false := by decide) : Ev X W (.Name x pos) σ G (Is X.K d) :=
  ev_pure (pe_var hN hv h1 h2) fun G1 H Q s1 s2 q => ⟨v, h, q v (hd.sm s1)⟩
theorem ev_rf (i : Nat) (h : σ[i]? = some (some v)) (hN : X.N[i]? = some x := by rfl) (hv : Vis X.env.scope x := by first | exact Or.inl rfl | exact Or.inr (Or.inl rfl) | exact Or.inr (Or.inr rfl))
    (h1 : (x == ("__debug__" : Str)) = false := by decide) (h2 : (x == ("__classdict__" : Str)) = false := by decide) : Ev X W (.Name x pos) σ G (Rf v) :=
  ev_pure (pe_var hN hv h1 h2) fun G1 H Q s1 s2 q => ⟨v, h, q v rfl⟩
/-- a constant of the module -/
structure GC (K : PySem.W.Frag) (mg : Str → Option Value) (x : Str) (d : PyData) : Prop where
  at_ : ∃ v u, mg x = some u ∧ RelV v u ∧ ∀ G, Dp K G v d
theorem ev_gc (g : GC X.K X.mg x d) (hg : Gl X x := by rfl) (h1 : (x == ("__debug__" : Str)) = false := by decide) : Ev X W (.Name x pos) σ G (Is X.K d) := by
  obtain ⟨v, u, h, r, k⟩ := g.at_
  exact ev_pure (pe_glob hg h r h1) fun G1 H Q s1 s2 q => q v (k _)
theorem ev_int {i : Int} {j : Nat} : Ev X W (.Constant (.int i) j pos) σ G (Is X.K (.int i)) := ev_pure pe_int fun _ _ _ _ _ q => q _ (.int i)
theorem ev_str {i : Str} {j : Nat} : Ev X W (.Constant (.str i) j pos) σ G (Is X.K (.str i)) := ev_pure pe_str fun _ _ _ _ _ q => q _ (.str i)
theorem ev_non {j : Nat} : Ev X W (.Constant .none j pos) σ G (Is X.K .none) := ev_pure pe_non fun _ _ _ _ _ q => q _ .non
theorem ev_bl {i : Bool} {j : Nat} : Ev X W (.Constant (.bool i) j pos) σ G (Is X.K (.bool i)) := ev_pure pe_bl fun _ _ _ _ _ q => q _ (.bl i)

/-! ### two operands -/
theorem ev_bin {t : TE} {r : R2} {R1 R2 : Rl} (p : PE X e (tOp r (wE X a) (wE X b))) (ha : Ev X W a σ G R1) (hb : Ev X W b σ G R2) (m : ∀ G G' v, Same G G' → R1 G v → R1 G' v)
    (h : ∀ x y G1 H (Q : VK), Same G G1 → W.ok G1 H → R1 G1 x → R2 G1 y → (∀ v G' H', Same G1 G' → W.ok G' H' → R G' v → Q v H') → r x y H Q) : Ev X W e σ G R := fun G1 H Q s k q => useE p <|
  ha G1 H _ s k fun x G2 H2 s2 k2 r1 => hb G2 H2 _ (s.trans s2) k2 fun y G3 H3 s3 k3 r2 => h x y G3 H3 Q ((s.trans s2).trans s3) k3 (m _ _ _ s3 r1) r2 fun v G' H' s' k' rr => q v G' H' ((s2.trans s3).trans s') k' rr
theorem is_mono {K : PySem.W.Frag} : ∀ G G' v, Same G G' → Is K d G v → Is K d G' v := fun _ _ _ s h => Dp.sm h s
theorem sm_mono {K : PySem.W.Frag} {P : PyData → Prop} : ∀ G G' v, Same G G' → Sm K P G v → Sm K P G' v := fun _ _ _ s ⟨d, p, h⟩ => ⟨d, p, h.sm s⟩
theorem rf_mono {u : V} : ∀ G G' v, Same G G' → Rf u G v → Rf u G' v := fun _ _ _ _ h => h
/-- two operands, the answer a value that no heap is asked for -/
theorem ev_opV {r : R2} {op : Operator} {d1 d2 : PyData} (ho : OpR X (binaryOp op) r) (ha : Ev X W a σ G (Is X.K d1)) (hb : Ev X W b σ G (Is X.K d2))
    (h : ∀ x y G1 H (Q : VK), Same G1 H → Dp X.K G1 x d1 → Dp X.K G1 y d2 → (∀ v, Dp X.K G1 v d → Q v H) → r x y H Q) : Ev X W (.BinOp a op b pos) σ G (Is X.K d) :=
  ev_bin (t := fun _ _ _ => True) (pe_op ho (pE a) (pE b)) ha hb is_mono fun x y G1 H Q s k h1 h2 q => h x y G1 H Q k.same h1 h2 fun v hv => q v G1 H (Same.refl _) k hv
theorem ev_opI {op : Operator} {C : Int → Int → Prop} {g : Int → Int → Int} {i j : Int} (ho : OpR X (binaryOp op) (rI C fun i j => .int (g i j))) (ha : Ev X W a σ G (Is X.K (.int i))) (hb : Ev X W b σ G (Is X.K (.int j))) (hc : C i j) :
    Ev X W (.BinOp a op b pos) σ G (Is X.K (.int (g i j))) := ev_opV ho ha hb fun x y G1 H Q s h1 h2 q => ⟨i, j, h1.int_eq, h2.int_eq, hc, q _ (.int _)⟩
theorem ev_opI0 {op : Operator} {g : Int → Int → Int} {i j : Int} (ho : OpR X (binaryOp op) (rI0 fun i j => .int (g i j))) (ha : Ev X W a σ G (Is X.K (.int i))) (hb : Ev X W b σ G (Is X.K (.int j))) :
    Ev X W (.BinOp a op b pos) σ G (Is X.K (.int (g i j))) := ev_opV ho ha hb fun x y G1 H Q s h1 h2 q => ⟨i, j, h1.int_eq, h2.int_eq, q _ (.int _)⟩
section
variable {i j : Int}
theorem ev_add (ha : Ev X W a σ G (Is X.K (.int i))) (hb : Ev X W b σ G (Is X.K (.int j))) : Ev X W (.BinOp a .Add b pos) σ G (Is X.K (.int (i + j))) := ev_opI0 op_add ha hb
theorem ev_sub (ha : Ev X W a σ G (Is X.K (.int i))) (hb : Ev X W b σ G (Is X.K (.int j))) : Ev X W (.BinOp a .Sub b pos) σ G (Is X.K (.int (i - j))) := ev_opI0 op_sub ha hb
theorem ev_mul (ha : Ev X W a σ G (Is X.K (.int i))) (hb : Ev X W b σ G (Is X.K (.int j))) (hc : CMul i j) : Ev X W (.BinOp a .Mult b pos) σ G (Is X.K (.int (i * j))) := ev_opI op_mul ha hb hc
theorem ev_mulW (ha : Ev X W a σ G (Is X.K (.int i))) (hb : Ev X W b σ G (Is X.K (.int j))) (hc : CMulW i j) : Ev X W (.BinOp a .Mult b pos) σ G (Is X.K (.int (i * j))) := ev_opI op_mulW ha hb hc
theorem ev_fdiv (ha : Ev X W a σ G (Is X.K (.int i))) (hb : Ev X W b σ G (Is X.K (.int j))) (hc : CDiv i j) : Ev X W (.BinOp a .FloorDiv b pos) σ G (Is X.K (.int (i / j))) := ev_opI op_fdiv ha hb hc
theorem ev_fdivW (ha : Ev X W a σ G (Is X.K (.int i))) (hb : Ev X W b σ G (Is X.K (.int j))) (hc : CDivW i j) : Ev X W (.BinOp a .FloorDiv b pos) σ G (Is X.K (.int (i / j))) := ev_opI op_fdivW ha hb hc
theorem ev_mod (ha : Ev X W a σ G (Is X.K (.int i))) (hb : Ev X W b σ G (Is X.K (.int j))) (hc : 0 < j) : Ev X W (.BinOp a .Mod b pos) σ G (Is X.K (.int (i % j))) := ev_opI op_mod ha hb hc
theorem ev_pow (ha : Ev X W a σ G (Is X.K (.int i))) (hb : Ev X W b σ G (Is X.K (.int j))) (hc : CPow i j) : Ev X W (.BinOp a .Pow b pos) σ G (Is X.K (.int (i ^ j.toNat))) := ev_opI op_pow ha hb hc
theorem ev_neg (ha : Ev X W a σ G (Is X.K (.int i))) : Ev X W (.UnaryOp .USub a pos) σ G (Is X.K (.int (-i))) := fun G1 H Q s k q => useE (pe_un un_neg (pE a)) <|
  ha G1 H _ s k fun x G2 H2 s2 k2 r => ⟨i, Dp.int_eq r, q _ G2 H2 s2 k2 (.int _)⟩
end
/-- t + u, tuples -/
theorem ev_cat {es : List PyData} (ha : Ev X W a σ G (Is X.K (.tuple ds))) (hb : Ev X W b σ G (Is X.K (.tuple es))) (hl : ds.length + es.length ≤ 1000) : Ev X W (.BinOp a .Add b pos) σ G (Is X.K (.tuple (ds ++ es))) :=
  ev_bin (t := fun _ _ _ => True) (pe_op op_catA (pE a) (pE b)) ha hb is_mono fun x y G1 H Q s k h1 h2 q => by
    obtain ⟨a, xs, rfl, t1, k1⟩ := Dp.tup_inv h1
    obtain ⟨b, ys, rfl, t2, k2⟩ := Dp.tup_inv h2
    refine ⟨a, b, xs, ys, rfl, rfl, sqT_same k.same t1, sqT_same k.same t2, ?_, fun e => ?_, fun _ e => ?_, fun _ _ p hp => ?_⟩
    · rw [k1.length, k2.length]; exact Nat.le_of_lt (small1000 hl)
    · subst e
      cases k1
      exact q _ G1 H (Same.refl _) k h2
    · subst e
      cases k2
      rw [List.append_nil] at q
      exact q _ G1 H (Same.refl _) k h1
    · exact q _ _ _ (same_new (k.free hp)) (k.new hp) (.tup (SqT.of upd_same) ((k1.append k2).sm (same_new (k.free hp))))
/-- [..] + [..], lists (known ones) -/
theorem dp_lst_in {K : PySem.W.Frag} {xs : List V} {l : Addr} (h : G l = some (.lst xs)) (hd : DpAll K G xs ds) : Dp K G (.ref l) (.list ds) := .lst (SqL.of h) hd

/-! ### displays -/
theorem ea_nil : EvA X W [] σ G (fun G vs => DpAll X.K G vs []) := fun G1 H Q s k q => useA pa_nil (q _ G1 H (Same.refl _) k .nil)
theorem ea_cons (h : Ev X W e σ G (Is X.K d)) (hr : EvA X W es σ G (fun G vs => DpAll X.K G vs ds)) (hs : starEach (e :: es) X.env = (false, eval e X.env) :: starEach es X.env := by rfl) : EvA X W (e :: es) σ G (fun G vs => DpAll X.K G vs (d :: ds)) :=
  fun G1 H Q s k q => useA (pa_cons (pE e) (pA es) hs) <| h G1 H _ s k fun x G2 H2 s2 k2 r => hr G2 H2 _ (s.trans s2) k2 fun xs G3 H3 s3 k3 rr => q _ G3 H3 (s2.trans s3) k3 (.cons (Dp.sm r s3) rr)
/-- one argument of any kind ahead -/
theorem ea_any {Rs : Hp → List V → Prop} (h : Ev X W e σ G R) (m : ∀ G G' v, Same G G' → R G v → R G' v) (hr : EvA X W es σ G Rs) (hs : starEach (e :: es) X.env = (false, eval e X.env) :: starEach es X.env := by rfl) : EvA X W (e :: es) σ G (fun G vs => ∃ v r, vs = v :: r ∧ R G v ∧ Rs G r) :=
  fun G1 H Q s k q => useA (pa_cons (pE e) (pA es) hs) <| h G1 H _ s k fun x G2 H2 s2 k2 r => hr G2 H2 _ (s.trans s2) k2 fun xs G3 H3 s3 k3 rr => q _ G3 H3 (s2.trans s3) k3 ⟨x, xs, rfl, m _ _ _ s3 r, rr⟩
theorem ea_done : EvA X W [] σ G (fun _ vs => vs = []) := fun G1 H Q s k q => useA pa_nil (q _ G1 H (Same.refl _) k rfl)
theorem ev_tup {k1 : Nat} (h : EvA X W es σ G (fun G vs => DpAll X.K G vs ds)) (hl : ds.length ≤ 1000 := by exact Nat.le_of_ble_eq_true rfl) : Ev X W (.Tuple es k1 pos) σ G (Is X.K (.tuple ds)) := fun G1 H Q s k q => useE (pe_tup (pA es)) <|
  h G1 H _ s k fun vs G2 H2 s2 k2 r => ⟨by rw [DpAll.length r]; exact Nat.le_of_lt (small1000 hl), fun p hp => q _ _ _ (s2.trans (same_new (k2.free hp))) (k2.new hp) (.tup (SqT.of upd_same) (DpAll.sm r (same_new (k2.free hp))))⟩
/-- a list that stays as it is -/
theorem ev_lst (h : EvA X W es σ G (fun G vs => DpAll X.K G vs ds)) (hl : ds.length ≤ 1000 := by exact Nat.le_of_ble_eq_true rfl) : Ev X W (.List es pos) σ G (Is X.K (.list ds)) := fun G1 H Q s k q => useE (pe_lst (pA es)) <|
  h G1 H _ s k fun vs G2 H2 s2 k2 r => ⟨by rw [DpAll.length r]; exact Nat.le_of_lt (small1000 hl), fun p hp => q _ _ _ (s2.trans (same_new (k2.free hp))) (k2.new hp) (.lst (SqL.of upd_same) (DpAll.sm r (same_new (k2.free hp))))⟩
/-- a list that will change: it is ours -/
theorem ev_own (h : EvA X W es σ G (fun G vs => DpAll X.K G vs ds)) (hl : ds.length ≤ 1000) {G1 H : Hp} {Q : VK} (s : Same G G1) (k : W.ok G1 H)
    (q : ∀ l vs G' H', Same G1 G' → (W.sep (.cell l (.lst vs))).ok G' H' → DpAll X.K G' vs ds → Q (.ref l) H') : wE X (.List es pos) σ H Q := useE (pe_lst (pA es)) <|
  h G1 H _ s k fun vs G2 H2 s2 k2 r => ⟨by rw [DpAll.length r]; exact Nat.le_of_lt (small1000 hl), fun p hp => q p vs _ _ s2 (k2.newCell hp) r⟩

/-! ### subscripts -/
theorem ev_ix {j : Nat} (ha : Ev X W a σ G (Is X.K (.tuple ds))) (hb : Ev X W b σ G (Is X.K (.int j))) (hj : ds[j]? = some d) (hp : PlainIx b := by intro _ _; rfl) : Ev X W (.Subscript a b pos) σ G (Is X.K d) :=
  ev_bin (t := fun _ _ _ => True) (pe_ix ix_tup (pE a) (pE b) hp) ha hb is_mono fun x y G1 H Q s k h1 h2 q => by
    obtain ⟨a, xs, rfl, t1, k1⟩ := Dp.tup_inv h1
    obtain ⟨v, hv, dv⟩ := k1.get hj
    exact ⟨a, xs, j, v, rfl, h2.int_eq, sqT_same k.same t1, atI_nat hv, q v G1 H (Same.refl _) k dv⟩
theorem ev_ixL {j : Nat} (ha : Ev X W a σ G (Is X.K (.list ds))) (hb : Ev X W b σ G (Is X.K (.int j))) (hj : ds[j]? = some d) (hp : PlainIx b := by intro _ _; rfl) : Ev X W (.Subscript a b pos) σ G (Is X.K d) :=
  ev_bin (t := fun _ _ _ => True) (pe_ix ix_list (pE a) (pE b) hp) ha hb is_mono fun x y G1 H Q s k h1 h2 q => by
    obtain ⟨a, xs, rfl, t1, k1⟩ := Dp.lst_inv h1
    obtain ⟨v, hv, dv⟩ := k1.get hj
    exact ⟨a, xs, j, v, rfl, h2.int_eq, sqL_same k.same t1, atI_nat hv, q v G1 H (Same.refl _) k dv⟩

/-! ### comparisons -/
theorem ev_cmpV {r : R2} {op : CmpOp} {d1 d2 : PyData} (ho : OpR X (compareOp op) r) (hm : behindInMarks op b = false) (ha : Ev X W a σ G (Is X.K d1)) (hb : Ev X W b σ G (Is X.K d2))
    (h : ∀ x y G1 H (Q : VK), Same G1 H → Dp X.K G1 x d1 → Dp X.K G1 y d2 → Q (.bl k) H → r x y H Q) : Ev X W (.Compare a [op] [b] pos) σ G (Is X.K (.bool k)) :=
  ev_bin (t := fun _ _ _ => True) (pe_cmpR ho (pE a) (pE b) hm) ha hb is_mono fun x y G1 H Q s k' h1 h2 q => h x y G1 H Q k'.same h1 h2 (q _ G1 H (Same.refl _) k' (.bl _))
theorem et_cmpV {r : R2} {op : CmpOp} {d1 d2 : PyData} (ho : OpR X (compareOp op) r) (hm : behindInMarks op b = false) (ha : Ev X W a σ G (Is X.K d1)) (hb : Ev X W b σ G (Is X.K d2))
    (h : ∀ x y G1 H (Q : VK), Same G1 H → Dp X.K G1 x d1 → Dp X.K G1 y d2 → Q (.bl k) H → r x y H Q) : EvT X W (.Compare a [op] [b] pos) σ G k := fun G1 H Q s k1 q => useT (pt_cmpR ho (pE a) (pE b) hm) <|
  ha G1 H _ s k1 fun x G2 H2 s2 k2 r1 => hb G2 H2 _ (s.trans s2) k2 fun y G3 H3 s3 k3 r2 => h x y G3 H3 _ k3.same (Dp.sm r1 s3) r2 ⟨k, rfl, q G3 H3 (s2.trans s3) k3⟩
/-- a == b etc. of ints: the answer -/
def cmpI : CmpOp → Int → Int → Bool
  | .Lt, i, j => decide (i < j)
  | .LtE, i, j => decide (i ≤ j)
  | .Gt, i, j => decide (j < i)
  | .GtE, i, j => decide (j ≤ i)
  | .Eq, i, j => decide (i = j)
  | .NotEq, i, j => !decide (i = j)
  | _, _, _ => false
def isCmp : CmpOp → Bool
  | .Lt => true
  | .LtE => true
  | .Gt => true
  | .GtE => true
  | .Eq => true
  | .NotEq => true
  | _ => false
theorem op_cmpI {op : CmpOp} (h : isCmp op = true) : OpR X (compareOp op) (rI0 fun i j => .bl (cmpI op i j)) := by
  cases op with
  | Lt => exact op_lt
  | LtE => exact op_le
  | Gt => exact op_gt
  | GtE => exact op_ge
  | Eq =>
    intro pins s σ H x y v u Q I rx ry ⟨i, j, ex, ey, q⟩
    refine op_eq pins s σ H x y v u Q I rx ry ?_
    subst ex ey
    refine ⟨rfl, ?_⟩
    have e : decide (V.int i = V.int j) = decide (i = j) := decide_eq_decide.mpr ⟨fun h => V.int.inj h, fun h => by rw [h]⟩
    rw [e]; exact q
  | NotEq =>
    intro pins s σ H x y v u Q I rx ry ⟨i, j, ex, ey, q⟩
    refine op_ne pins s σ H x y v u Q I rx ry ?_
    subst ex ey
    refine ⟨rfl, ?_⟩
    have e : decide (V.int i = V.int j) = decide (i = j) := decide_eq_decide.mpr ⟨fun h => V.int.inj h, fun h => by rw [h]⟩
    rw [e]; exact q
  | _ => cases h
theorem cmp_mark {op : CmpOp} (h : isCmp op = true) (b : Expr) : behindInMarks op b = false := nomark b (by cases op <;> first | (intro e; cases e; done) | cases h) (by cases op <;> first | (intro e; cases e; done) | cases h)
section
variable {i j l : Int} {op op' : CmpOp}
theorem ev_cmp (ha : Ev X W a σ G (Is X.K (.int i))) (hb : Ev X W b σ G (Is X.K (.int j))) (h : isCmp op = true := by rfl) : Ev X W (.Compare a [op] [b] pos) σ G (Is X.K (.bool (cmpI op i j))) :=
  ev_cmpV (op_cmpI h) (cmp_mark h b) ha hb fun x y G1 H Q s h1 h2 q => ⟨i, j, h1.int_eq, h2.int_eq, q⟩
theorem et_cmp (ha : Ev X W a σ G (Is X.K (.int i))) (hb : Ev X W b σ G (Is X.K (.int j))) (h : isCmp op = true := by rfl) : EvT X W (.Compare a [op] [b] pos) σ G (cmpI op i j) :=
  et_cmpV (op_cmpI h) (cmp_mark h b) ha hb fun x y G1 H Q s h1 h2 q => ⟨i, j, h1.int_eq, h2.int_eq, q⟩
/-- a < b < c -/
theorem ev_chain (ha : Ev X W a σ G (Is X.K (.int i))) (hb : Ev X W b σ G (Is X.K (.int j))) (hc : Ev X W c σ G (Is X.K (.int l))) (h : isCmp op = true := by rfl) (h' : isCmp op' = true := by rfl) :
    Ev X W (.Compare a [op, op'] [b, c] pos) σ G (Is X.K (.bool (cmpI op i j && cmpI op' j l))) := fun G1 H Q s k1 q => useE (pe_chain (op_cmpI h) (op_cmpI h') (pE a) (pE b) (pE c) (hm := by first | exact cmp_mark h' c | (unfold lastMarks; exact cmp_mark h' c) | simp [lastMarks, cmp_mark h' c])) <|
  ha G1 H _ s k1 fun x G2 H2 s2 k2 r1 => hb G2 H2 _ (s.trans s2) k2 fun y G3 H3 s3 k3 r2 => ⟨i, j, Dp.int_eq r1, Dp.int_eq r2, cmpI op i j, rfl, by
    cases e : cmpI op i j with
    | false =>
      refine iteF ?_
      rw [e] at q
      exact q _ G3 H3 (s2.trans s3) k3 (.bl false)
    | true =>
      refine iteT ?_
      rw [e] at q
      exact hc G3 H3 _ ((s.trans s2).trans s3) k3 fun z G4 H4 s4 k4 r3 => ⟨j, l, Dp.int_eq r2, Dp.int_eq r3, q _ G4 H4 ((s2.trans s3).trans s4) k4 (.bl _)⟩⟩
end
/-- texts -/
theorem et_str {x y : Str} (ha : Ev X W a σ G (Is X.K (.str x))) (hb : Ev X W b σ G (Is X.K (.str y))) : EvT X W (.Compare a [.Eq] [b] pos) σ G (decide (x = y)) :=
  et_cmpV op_eq (nomark b) ha hb fun u v G1 H Q s h1 h2 q => by
    have e1 := h1.str_eq
    have e2 := h2.str_eq
    subst e1 e2
    refine ⟨rfl, ?_⟩
    have e : decide (V.str x = V.str y) = decide (x = y) := decide_eq_decide.mpr ⟨fun h => V.str.inj h, fun h => by rw [h]⟩
    rw [e]; exact q
theorem et_strN {x y : Str} (ha : Ev X W a σ G (Is X.K (.str x))) (hb : Ev X W b σ G (Is X.K (.str y))) : EvT X W (.Compare a [.NotEq] [b] pos) σ G (!decide (x = y)) :=
  et_cmpV op_ne (nomark b) ha hb fun u v G1 H Q s h1 h2 q => by
    have e1 := h1.str_eq
    have e2 := h2.str_eq
    subst e1 e2
    refine ⟨rfl, ?_⟩
    have e : decide (V.str x = V.str y) = decide (x = y) := decide_eq_decide.mpr ⟨fun h => V.str.inj h, fun h => by rw [h]⟩
    rw [e]; exact q
/-- data -/
theorem ev_eqD (hu : X.A.units + 64 < cLine) (ha : Ev X W a σ G (Is X.K d)) (hb : Ev X W b σ G (Is X.K d')) (h1 : SeqAt.shaped d = true) (h2 : SeqAt.shaped d' = true) : Ev X W (.Compare a [.Eq] [b] pos) σ G (Is X.K (.bool (PyData.eqv d d'))) :=
  ev_cmpV (op_eqD hu) (nomark b) ha hb fun x y G1 H Q s q1 q2 q => ⟨d, d', q1.sm s, q2.sm s, h1, h2, q⟩
theorem et_neD (hu : X.A.units + 64 < cLine) (ha : Ev X W a σ G (Is X.K d)) (hb : Ev X W b σ G (Is X.K d')) (h1 : SeqAt.shaped d = true) (h2 : SeqAt.shaped d' = true) : EvT X W (.Compare a [.NotEq] [b] pos) σ G (!PyData.eqv d d') :=
  et_cmpV (op_neD hu) (nomark b) ha hb fun x y G1 H Q s q1 q2 q => ⟨d, d', q1.sm s, q2.sm s, h1, h2, q⟩
/-- tuples of ints -/
theorem ev_ltT {ns ms : List Int} (hu : X.A.units < cLine) (ha : Ev X W a σ G (Is X.K (.tuple (ns.map .int)))) (hb : Ev X W b σ G (Is X.K (.tuple (ms.map .int)))) : Ev X W (.Compare a [.Lt] [b] pos) σ G (Is X.K (.bool (HT.lexLt ns ms))) :=
  ev_cmpV (op_ltT hu) (nomark b) ha hb fun x y G1 H Q s q1 q2 q => by
    obtain ⟨a, xs, rfl, t1, k1⟩ := q1.tup_inv
    obtain ⟨b, ys, rfl, t2, k2⟩ := q2.tup_inv
    rw [k1.ints] at t1
    rw [k2.ints] at t2
    exact ⟨a, b, ns, ms, rfl, rfl, sqT_same s t1, sqT_same s t2, q⟩
theorem et_ltT {ns ms : List Int} (hu : X.A.units < cLine) (ha : Ev X W a σ G (Is X.K (.tuple (ns.map .int)))) (hb : Ev X W b σ G (Is X.K (.tuple (ms.map .int)))) : EvT X W (.Compare a [.Lt] [b] pos) σ G (HT.lexLt ns ms) :=
  et_cmpV (op_ltT hu) (nomark b) ha hb fun x y G1 H Q s q1 q2 q => by
    obtain ⟨a, xs, rfl, t1, k1⟩ := q1.tup_inv
    obtain ⟨b, ys, rfl, t2, k2⟩ := q2.tup_inv
    rw [k1.ints] at t1
    rw [k2.ints] at t2
    exact ⟨a, b, ns, ms, rfl, rfl, sqT_same s t1, sqT_same s t2, q⟩
def isNon : PyData → Bool
  | .none => true
  | _ => false
theorem dp_non {K : PySem.W.Frag} {v : V} (h : Dp K G v d) : decide (v = .non) = isNon d := by
  cases h <;> rfl
/-- e is None, is not None -/
theorem et_isN {j : Nat} {p' : Pos} (ha : Ev X W a σ G (Is X.K d)) : EvT X W (.Compare a [.Is] [.Constant .none j p'] pos) σ G (isNon d) := fun G1 H Q s k1 q => useT (pt_cmp (pc_isN (pE a))) <|
  ha G1 H _ s k1 fun x G2 H2 s2 k2 r1 => ⟨_, by rw [dp_non r1], q G2 H2 s2 k2⟩
theorem et_notN {j : Nat} {p' : Pos} (ha : Ev X W a σ G (Is X.K d)) : EvT X W (.Compare a [.IsNot] [.Constant .none j p'] pos) σ G (!isNon d) := fun G1 H Q s k1 q => useT (pt_cmp (pc_notN (pE a))) <|
  ha G1 H _ s k1 fun x G2 H2 s2 k2 r1 => ⟨_, by rw [dp_non r1], q G2 H2 s2 k2⟩
theorem et_notB {m n : Bool} (ha : Ev X W a σ G (Is X.K (.bool m))) (hb : Ev X W b σ G (Is X.K (.bool n))) : EvT X W (.Compare a [.IsNot] [b] pos) σ G (!decide (m = n)) :=
  et_cmpV op_notBl (nomark b) ha hb fun u v G1 H Q s h1 h2 q => ⟨m, n, h1.bl_eq, h2.bl_eq, q⟩
/-- two flags -/
theorem ev_eqB {m n : Bool} (ha : Ev X W a σ G (Is X.K (.bool m))) (hb : Ev X W b σ G (Is X.K (.bool n))) : Ev X W (.Compare a [.Eq] [b] pos) σ G (Is X.K (.bool (decide (m = n)))) :=
  ev_cmpV op_eq (nomark b) ha hb fun u v G1 H Q s h1 h2 q => by
    have e1 := h1.bl_eq
    have e2 := h2.bl_eq
    subst e1 e2
    refine ⟨rfl, ?_⟩
    have e : decide (V.bl m = V.bl n) = decide (m = n) := decide_eq_decide.mpr ⟨fun h => V.bl.inj h, fun h => by rw [h]⟩
    rw [e]; exact q

/-! ### and, or, not, if else -/
theorem et_val (h : Ev X W e σ G (Is X.K (.bool k))) (he : ∀ whole, isTrue e X.env whole = (do let v ← whole; standAt e.pos; holding [v] (truthy v)) := by intro _; rfl) : EvT X W e σ G k := fun G1 H Q s k1 q => useT (pt_val (pE e) he) <|
  h G1 H _ s k1 fun x G2 H2 s2 k2 r1 => ⟨k, Dp.bl_eq r1, q G2 H2 s2 k2⟩
theorem et_not (h : EvT X W e σ G k) : EvT X W (.UnaryOp .Not e pos) σ G (!k) := fun G1 H Q s k1 q => useT (pt_not (pT e)) <| h G1 H _ s k1 fun G2 H2 s2 k2 => q G2 H2 s2 k2
theorem et_of (h : EvW X W e σ G k) : EvT X W e σ G k := fun G1 H Q s k1 q => fun pins st I => h G1 H Q s k1 q _ pins st I
theorem ew_or1 (h : EvT X W e σ G k) : EvW X W (.BoolOp .Or [e] pos) σ G k := fun G1 H Q s k1 q => useW (pw_or1 (pT e)) <| h G1 H _ s k1 q
theorem ew_and1 (h : EvT X W e σ G k) : EvW X W (.BoolOp .And [e] pos) σ G k := fun G1 H Q s k1 q => useW (pw_and1 (pT e)) <| h G1 H _ s k1 q
theorem ew_or {r : List Expr} {m n : Bool} (h : EvT X W e σ G m) (hr : m = false → EvW X W (.BoolOp .Or (a :: r) pos) σ G n) : EvW X W (.BoolOp .Or (e :: a :: r) pos) σ G (m || n) := fun G1 H Q s k1 q => useW (pw_or (pT e) (pW _)) <|
  h G1 H _ s k1 fun G2 H2 s2 k2 => by
    cases m with
    | true => exact iteT (q G2 H2 s2 k2)
    | false => exact iteF (hr rfl G2 H2 _ (s.trans s2) k2 fun G3 H3 s3 k3 => q G3 H3 (s2.trans s3) k3)
theorem ew_and {r : List Expr} {m n : Bool} (h : EvT X W e σ G m) (hr : m = true → EvW X W (.BoolOp .And (a :: r) pos) σ G n) : EvW X W (.BoolOp .And (e :: a :: r) pos) σ G (m && n) := fun G1 H Q s k1 q => useW (pw_and (pT e) (pW _)) <|
  h G1 H _ s k1 fun G2 H2 s2 k2 => by
    cases m with
    | true => exact iteT (hr rfl G2 H2 _ (s.trans s2) k2 fun G3 H3 s3 k3 => q G3 H3 (s2.trans s3) k3)
    | false => exact iteF (q G2 H2 s2 k2)
theorem ev_and1 (h : Ev X W e σ G R) : Ev X W (.BoolOp .And [e] pos) σ G R := fun G1 H Q s k1 q => useE (pe_one (pE e)) <| h G1 H _ s k1 q
theorem ev_and {r : List Expr} {m n : Bool} (h : Ev X W e σ G (Is X.K (.bool m))) (hr : m = true → Ev X W (.BoolOp .And (a :: r) pos) σ G (Is X.K (.bool n))) : Ev X W (.BoolOp .And (e :: a :: r) pos) σ G (Is X.K (.bool (m && n))) := fun G1 H Q s k1 q => useE (pe_and (pE e) (pE _)) <|
  h G1 H _ s k1 fun x G2 H2 s2 k2 r1 => ⟨m, Dp.bl_eq r1, by
    cases m with
    | true => exact iteT (hr rfl G2 H2 _ (s.trans s2) k2 fun v G3 H3 s3 k3 r3 => q v G3 H3 (s2.trans s3) k3 r3)
    | false => exact iteF (q _ G2 H2 s2 k2 (.bl false))⟩
theorem ev_not {m : Bool} (h : Ev X W e σ G (Is X.K (.bool m))) : Ev X W (.UnaryOp .Not e pos) σ G (Is X.K (.bool (!m))) := fun G1 H Q s k1 q => useE (pe_not (pE e)) <|
  h G1 H _ s k1 fun x G2 H2 s2 k2 r1 => ⟨m, Dp.bl_eq r1, q _ G2 H2 s2 k2 (.bl _)⟩
theorem ev_if {t : Expr} (h : EvT X W t σ G k) (ha : k = true → Ev X W a σ G R) (hb : k = false → Ev X W b σ G R) : Ev X W (.IfExp t a b pos) σ G R := fun G1 H Q s k1 q => useE (pe_ifExp (pT t) (pE a) (pE b)) <|
  h G1 H _ s k1 fun G2 H2 s2 k2 => by
    cases k with
    | true => exact iteT (ha rfl G2 H2 _ (s.trans s2) k2 fun v G3 H3 s3 k3 r3 => q v G3 H3 (s2.trans s3) k3 r3)
    | false => exact iteF (hb rfl G2 H2 _ (s.trans s2) k2 fun v G3 H3 s3 k3 r3 => q v G3 H3 (s2.trans s3) k3 r3)
/-- known answers -/
theorem et_nT (h : Ev X W e σ G (Is X.K (.bool true))) (he : ∀ whole, isTrue e X.env whole = (do let v ← whole; standAt e.pos; holding [v] (truthy v)) := by intro _; rfl) : EvT X W (.UnaryOp .Not e pos) σ G false := et_not (k := true) (et_val h he)
theorem et_nF (h : Ev X W e σ G (Is X.K (.bool false))) (he : ∀ whole, isTrue e X.env whole = (do let v ← whole; standAt e.pos; holding [v] (truthy v)) := by intro _; rfl) : EvT X W (.UnaryOp .Not e pos) σ G true := et_not (k := false) (et_val h he)
theorem ew_orF {r : List Expr} (h : EvT X W e σ G false) (hr : EvW X W (.BoolOp .Or (a :: r) pos) σ G false) : EvW X W (.BoolOp .Or (e :: a :: r) pos) σ G false := ew_or (m := false) (n := false) h fun _ => hr
theorem ew_andT {r : List Expr} {n : Bool} (h : EvT X W e σ G true) (hr : EvW X W (.BoolOp .And (a :: r) pos) σ G n) : EvW X W (.BoolOp .And (e :: a :: r) pos) σ G n := by
  have := ew_and (m := true) (n := n) h fun _ => hr
  rw [Bool.true_and] at this
  exact this
theorem ev_andT {r : List Expr} {n : Bool} (h : Ev X W e σ G (Is X.K (.bool true))) (hr : Ev X W (.BoolOp .And (a :: r) pos) σ G (Is X.K (.bool n))) : Ev X W (.BoolOp .And (e :: a :: r) pos) σ G (Is X.K (.bool n)) := by
  have := ev_and (m := true) (n := n) h fun _ => hr
  rw [Bool.true_and] at this
  exact this
end
end K12
/-! K3: calls, built-ins, targets, iterables, comprehensions, statements over data. -/
namespace K12
open PySem PySem.Spec PyProof.Rows L2

/-! ### promises over data -/
/-- a def of n data arguments that changes nothing: dom ds d says that on ds it answers d -/
def SpD (K : PySem.W.Frag) (n : Nat) (dom : List PyData → PyData → Prop) : Sp := fun vs H Q _ => ∃ (W : Wd) (G : Hp) (ds : List PyData) (d : PyData), W.ok G H ∧ DpAll K G vs ds ∧ ds.length = n ∧ dom ds d ∧
  ∀ v G' H', Same G G' → W.ok G' H' → Dp K G' v d → Q v H'
abbrev CalD (P : Program) (w : World) (K : PySem.W.Frag) (mg : Str → Option Value) (base : Heap) (k : Nat) (x : Str) (n : Nat) (dom : List PyData → PyData → Prop) : Prop := C8.Cal P w K mg base k x (SpD K n dom) []
section
variable {X : Cx} {W : Wd} {e a b c : Expr} {es : List Expr} {σ : L2.St} {G G' H : Hp} {R R' : Rl} {d d' : PyData} {ds : List PyData} {v : V} {pos p : Pos} {x : Str} {k : Bool}
theorem ev_call {n j l : Nat} {dom : List PyData → PyData → Prop} (c : CalD X.prog X.w X.K X.mg X.base l x n dom) (hr : Room j X.A) (hk : l ≤ j) (ha : EvA X W (e :: es) σ G (fun G vs => DpAll X.K G vs ds)) (hd : dom ds d) (hn : ds.length = n := by rfl) (hg : Gl X x := by rfl)
    (hdb : (x == ("__debug__" : Str)) = false := by decide) (he : starEach (e :: es) X.env = (false, eval e X.env) :: starEach es X.env := by rfl) (hpl : (backTo pos (starEach es X.env)).any (·.1) = false := by rfl) :
    Ev X W (.Call (.Name x p) (e :: es) [] pos) σ G (Is X.K d) := fun G1 H Q s k1 q => useE (C8.pe_c c hr hk hg (pA _) hdb he hpl) <|
  ha G1 H _ s k1 fun vs G2 H2 s2 k2 r => ⟨W, G2, ds, d, k2, by rw [List.append_nil]; exact r, hn, hd, fun v G3 H3 s3 k3 r3 => q v G3 H3 (s2.trans s3) k3 r3⟩
/-- a built-in function of data -/
theorem ev_B {id : String} {r : List V → Hp → VK → Prop} (hc : CallR X (.builtin id) r) (hm : X.mg x = none) (hv : bootBuiltins x = some (.builtin id)) (ha : EvA X W (e :: es) σ G (fun G vs => DpAll X.K G vs ds))
    (h : ∀ vs G1 H (Q : VK), W.ok G1 H → DpAll X.K G1 vs ds → (∀ v G' H', Same G1 G' → W.ok G' H' → Dp X.K G' v d → Q v H') → r vs H Q) (hg : Gl X x := by rfl) (hn : x ≠ "__name__" := by decide) (hdb : (x == ("__debug__" : Str)) = false := by decide)
    (he : starEach (e :: es) X.env = (false, eval e X.env) :: starEach es X.env := by rfl) (hpl : (backTo pos (starEach es X.env)).any (·.1) = false := by rfl) : Ev X W (.Call (.Name x p) (e :: es) [] pos) σ G (Is X.K d) := fun G1 H Q s k1 q =>
  useE (pe_callB hc hg hm hv (pA _) hn hdb he hpl) <| ha G1 H _ s k1 fun vs G2 H2 s2 k2 rr => h vs G2 H2 Q k2 rr fun v G3 H3 s3 k3 r3 => q v G3 H3 (s2.trans s3) k3 r3
theorem ev_Ty {T : String} {r : List V → Hp → VK → Prop} (hc : CallR X (.type T) r) (hm : X.mg x = none) (hv : bootBuiltins x = some (.type T)) (ha : EvA X W (e :: es) σ G (fun G vs => DpAll X.K G vs ds))
    (h : ∀ vs G1 H (Q : VK), W.ok G1 H → DpAll X.K G1 vs ds → (∀ v G' H', Same G1 G' → W.ok G' H' → Dp X.K G' v d → Q v H') → r vs H Q) (hg : Gl X x := by rfl) (hn : x ≠ "__name__" := by decide) (hdb : (x == ("__debug__" : Str)) = false := by decide)
    (he : starEach (e :: es) X.env = (false, eval e X.env) :: starEach es X.env := by rfl) (hpl : (backTo pos (starEach es X.env)).any (·.1) = false := by rfl) : Ev X W (.Call (.Name x p) (e :: es) [] pos) σ G (Is X.K d) := fun G1 H Q s k1 q =>
  useE (pe_callTy hc hg hm hv (pA _) hn hdb he hpl) <| ha G1 H _ s k1 fun vs G2 H2 s2 k2 rr => h vs G2 H2 Q k2 rr fun v G3 H3 s3 k3 r3 => q v G3 H3 (s2.trans s3) k3 r3
theorem dpAll_one {K : PySem.W.Frag} {vs : List V} (h : DpAll K G vs [d]) : ∃ v, vs = [v] ∧ Dp K G v d := by
  cases h with | cons a t => cases t; exact ⟨_, rfl, a⟩
theorem dpAll_two {K : PySem.W.Frag} {vs : List V} (h : DpAll K G vs [d, d']) : ∃ v u, vs = [v, u] ∧ Dp K G v d ∧ Dp K G u d' := by
  cases h with | cons a t => cases t with | cons b t => cases t; exact ⟨_, _, rfl, a, b⟩
abbrev Pl (X : Cx) (e : Expr) (es : List Expr) : Prop := starEach (e :: es) X.env = (false, eval e X.env) :: starEach es X.env
theorem ea1 (h : Ev X W e σ G (Is X.K d)) (he : Pl X e [] := by rfl) : EvA X W [e] σ G (fun G vs => DpAll X.K G vs [d]) := ea_cons h ea_nil he
/-- len of a tuple, a list -/
theorem ev_lenT (hm : X.mg "len" = none) (h : Ev X W e σ G (Is X.K (.tuple ds))) (hg : Gl X "len" := by rfl) (he : Pl X e [] := by rfl) : Ev X W (.Call (.Name "len" p) [e] [] pos) σ G (Is X.K (.int ds.length)) :=
  ev_B call_len_seq hm PySem.boot_len (ea1 h he) (fun vs G1 H Q k r q => by
    obtain ⟨v, rfl, h1⟩ := dpAll_one r
    obtain ⟨a, xs, rfl, t, l⟩ := h1.tup_inv
    refine ⟨a, xs, rfl, .inr (sqT_same k.same t), ?_⟩
    rw [l.length]
    exact q _ G1 H (Same.refl _) k (.int _)) hg (he := he)
theorem ev_lenL (hm : X.mg "len" = none) (h : Ev X W e σ G (Is X.K (.list ds))) (hg : Gl X "len" := by rfl) (he : Pl X e [] := by rfl) : Ev X W (.Call (.Name "len" p) [e] [] pos) σ G (Is X.K (.int ds.length)) :=
  ev_B call_len_seq hm PySem.boot_len (ea1 h he) (fun vs G1 H Q k r q => by
    obtain ⟨v, rfl, h1⟩ := dpAll_one r
    obtain ⟨a, xs, rfl, t, l⟩ := h1.lst_inv
    refine ⟨a, xs, rfl, .inl (sqL_same k.same t), ?_⟩
    rw [l.length]
    exact q _ G1 H (Same.refl _) k (.int _)) hg (he := he)
theorem boot_abs : bootBuiltins "abs" = some (.builtin "abs") := by decide +kernel
theorem boot_all : bootBuiltins "all" = some (.builtin "all") := by decide +kernel
theorem boot_sum : bootBuiltins "sum" = some (.builtin "sum") := by decide +kernel
theorem boot_max : bootBuiltins "max" = some (.builtin "max") := by decide +kernel
theorem boot_isi : bootBuiltins "isinstance" = some (.builtin "isinstance") := by decide +kernel
theorem boot_intT : bootBuiltins "int" = some (.type "int") := by decide +kernel
theorem boot_boolT : bootBuiltins "bool" = some (.type "bool") := by decide +kernel
theorem boot_strT : bootBuiltins "str" = some (.type "str") := by decide +kernel
theorem boot_tupleT : bootBuiltins "tuple" = some (.type "tuple") := by decide +kernel
section
variable {i : Int}
theorem ev_abs (hm : X.mg "abs" = none) (h : Ev X W e σ G (Is X.K (.int i))) (hg : Gl X "abs" := by rfl) (he : Pl X e [] := by rfl) : Ev X W (.Call (.Name "abs" p) [e] [] pos) σ G (Is X.K (.int (i.natAbs : Int))) :=
  ev_B call_abs hm boot_abs (ea1 h he) (fun vs G1 H Q k r q => by
    obtain ⟨v, rfl, h1⟩ := dpAll_one r
    rw [h1.int_eq]
    refine ⟨i, rfl, ?_⟩
    have e : (if i < 0 then -i else i) = (i.natAbs : Int) := by split <;> omega
    rw [e]
    exact q _ G1 H (Same.refl _) k (.int _)) hg (he := he)
theorem ev_int1 (hm : X.mg "int" = none) (h : Ev X W e σ G (Is X.K (.int i))) (hg : Gl X "int" := by rfl) (he : Pl X e [] := by rfl) : Ev X W (.Call (.Name "int" p) [e] [] pos) σ G (Is X.K (.int i)) :=
  ev_Ty call_int1 hm boot_intT (ea1 h he) (fun vs G1 H Q k r q => by
    obtain ⟨v, rfl, h1⟩ := dpAll_one r
    rw [h1.int_eq]
    exact .inl ⟨i, rfl, q _ G1 H (Same.refl _) k (.int _)⟩) hg (he := he)
theorem ev_all {bs : List Bool} (hm : X.mg "all" = none) (hc : X.calm = true) (h : Ev X W e σ G (Is X.K (.list (bs.map .bool)))) (hg : Gl X "all" := by rfl) (he : Pl X e [] := by rfl) : Ev X W (.Call (.Name "all" p) [e] [] pos) σ G (Is X.K (.bool (bs.all id))) :=
  ev_B (cr_all hc) hm boot_all (ea1 h he) (fun vs G1 H Q k r q => by
    obtain ⟨v, rfl, h1⟩ := dpAll_one r
    obtain ⟨a, xs, rfl, t, l⟩ := h1.lst_inv
    rw [l.bools] at t
    exact ⟨a, bs, rfl, sqL_same k.same t, q _ G1 H (Same.refl _) k (.bl _)⟩) hg (he := he)
theorem ev_sum {ns : List Int} (hm : X.mg "sum" = none) (hc : X.calm = true) (h : Ev X W e σ G (Is X.K (.list (ns.map .int)))) (hg : Gl X "sum" := by rfl) (he : Pl X e [] := by rfl) : Ev X W (.Call (.Name "sum" p) [e] [] pos) σ G (Is X.K (.int ns.sum)) :=
  ev_B (cr_sum hc) hm boot_sum (ea1 h he) (fun vs G1 H Q k r q => by
    obtain ⟨v, rfl, h1⟩ := dpAll_one r
    obtain ⟨a, xs, rfl, t, l⟩ := h1.lst_inv
    rw [l.ints] at t
    exact ⟨a, ns, rfl, sqL_same k.same t, q _ G1 H (Same.refl _) k (.int _)⟩) hg (he := he)
theorem ev_max {ns : List Int} {m : Int} (hm : X.mg "max" = none) (hc : X.calm = true) (h : Ev X W e σ G (Is X.K (.list (ns.map .int)))) (h1 : m ∈ ns) (h2 : ∀ y ∈ ns, y ≤ m) (hg : Gl X "max" := by rfl) (he : Pl X e [] := by rfl) : Ev X W (.Call (.Name "max" p) [e] [] pos) σ G (Is X.K (.int m)) :=
  ev_B (cr_max hc) hm boot_max (ea1 h he) (fun vs G1 H Q k r q => by
    obtain ⟨v, rfl, h3⟩ := dpAll_one r
    obtain ⟨a, xs, rfl, t, l⟩ := h3.lst_inv
    rw [l.ints] at t
    refine ⟨a, ns, rfl, sqL_same k.same t, List.length_pos_of_mem h1, fun m' h4 h5 => ?_⟩
    have e : m' = m := Int.le_antisymm (h2 _ h4) (h5 _ h1)
    rw [e]
    exact q _ G1 H (Same.refl _) k (.int _)) hg (he := he)
end
/-- tuple(a list) -/
theorem ev_tupleL (hm : X.mg "tuple" = none) (h : Ev X W e σ G (Is X.K (.list ds))) (hg : Gl X "tuple" := by rfl) (he : Pl X e [] := by rfl) : Ev X W (.Call (.Name "tuple" p) [e] [] pos) σ G (Is X.K (.tuple ds)) :=
  ev_Ty call_tuple_of hm boot_tupleT (ea1 h he) (fun vs G1 H Q k r q => by
    obtain ⟨v, rfl, h1⟩ := dpAll_one r
    obtain ⟨a, xs, rfl, t, l⟩ := h1.lst_inv
    exact ⟨a, xs, rfl, .inl ⟨sqL_same k.same t, fun p hp => q _ _ _ (same_new (k.free hp)) (k.new hp) (.tup (SqT.of upd_same) (l.sm (same_new (k.free hp))))⟩⟩) hg (he := he)
/-- tuple(what makes a list, whatever list): for results that are told by a word -/
theorem ev_tupleS {P : List PyData → Prop} (hm : X.mg "tuple" = none) (h : Ev X W e σ G (fun G v => ∃ ds, P ds ∧ Dp X.K G v (.list ds))) (hg : Gl X "tuple" := by rfl) (he : Pl X e [] := by rfl) : Ev X W (.Call (.Name "tuple" p) [e] [] pos) σ G (fun G v => ∃ ds, P ds ∧ Dp X.K G v (.tuple ds)) := fun G1 H Q s k1 q =>
  useE (pe_callTy call_tuple_of hg hm boot_tupleT (pa_cons (pE e) pa_nil he) (he := he)) <| h G1 H _ s k1 fun v G2 H2 s2 k2 r => by
    obtain ⟨ds, pd, h1⟩ := r
    obtain ⟨a, xs, rfl, t, l⟩ := h1.lst_inv
    exact ⟨a, xs, rfl, .inl ⟨sqL_same k2.same t, fun p hp => q _ _ _ (s2.trans (same_new (k2.free hp))) (k2.new hp) ⟨ds, pd, .tup (SqT.of upd_same) (l.sm (same_new (k2.free hp)))⟩⟩⟩
/-- isinstance(e, T) -/
def tyName : PyData → String
  | .none => "NoneType"
  | .bool _ => "bool"
  | .int _ => "int"
  | .str _ => "str"
  | .list _ => "list"
  | .tuple _ => "tuple"
  | .dict _ => "dict"
theorem tyX_of {K : PySem.W.Frag} (h : Dp K G v d) (s : Same G H) : L2.TyX K H v (.type (tyName d)) := by
  cases h with
  | non => exact .base .non
  | bl b => exact .base (.bl b)
  | int i => exact .base (.int i)
  | str x => exact .base (.str x)
  | @lst a xs ds t l =>
    rcases sqL_same s t with (t | ⟨o, t⟩) | ⟨o, its, n, h1, h2, _⟩
    · exact .base (.lst t)
    · exact .base (.frz t)
    · exact .kList h1 h2
  | @tup a xs ds t l =>
    rcases sqT_same s t with (t | ⟨o, t⟩) | ⟨o, its, n, h1, h2, _⟩
    · exact .base (.tup t)
    · exact .fTuple t
    · exact .kTuple h1 h2
theorem ev_isi {T : Str} {p' : Pos} {n : String} (hm : X.mg "isinstance" = none) (hT : X.mg T = none) (hv : bootBuiltins T = some (.type n)) (hq : PySem.W.kitOne X.K (.type (tyName d)) (.type n) = some k) (h : Ev X W e σ G (Is X.K d)) (hg : Gl X "isinstance" := by rfl) (hgT : Gl X T := by rfl)
    (hn : T ≠ "__name__" := by decide) (hdb : (T == ("__debug__" : Str)) = false := by decide) (he : Pl X e [.Name T p'] := by rfl) : Ev X W (.Call (.Name "isinstance" p) [e, .Name T p'] [] pos) σ G (Is X.K (.bool k)) := fun G1 H Q s k1 q =>
  useE (pe_callB L2.call_isi hg hm boot_isi (pa_cons (pE e) (pa_cons (pe_bltn (v := .ty n) hgT hT hv rfl hn hdb) pa_nil) he) (he := he)) <| h G1 H _ s k1 fun v G2 H2 s2 k2 r =>
    ⟨v, .ty n, _, _, k, rfl, .ty n, tyX_of r k2.same, hq, q _ G2 H2 s2 k2 (.bl k)⟩

/-! ### targets -/
def wG (X : Cx) (tg : Expr) : TG := fun v σ H Q => ∀ (pins : List (Addr × Obj)) (s : Shared) (u : Value), Inv X pins σ H s → RelV v u → wpAny (model X.prog X.w) X.A (assign tg X.env u) (fun _ s' => ∃ σ' H', Inv X pins σ' H' s' ∧ Q σ' H') X.xe s
def wGs (X : Cx) (ts : List Expr) : TGs := fun vs σ H Q => ∀ (pins : List (Addr × Obj)) (s : Shared) (us : List Value), Inv X pins σ H s → Vals vs us → wpAny (model X.prog X.w) X.A (assignInOrder ((assignEach ts X.env).map (·.2)) us) (fun _ s' => ∃ σ' H', Inv X pins σ' H' s' ∧ Q σ' H') X.xe s
theorem pG (tg : Expr) : PG X tg (wG X tg) := ⟨fun pins s _ _ _ u _ I r h => h pins s u I r⟩
theorem pGs (ts : List Expr) : PGs X ts (wGs X ts) := ⟨fun pins s _ _ _ us _ I r h => h pins s us I r⟩
theorem useG {tg : Expr} {t : TG} {Q : L2.St → Hp → Prop} (p : PG X tg t) (h : t v σ H Q) : wG X tg v σ H Q := fun pins s u I r => p.run pins s σ H v u Q I r h
theorem useGs {ts : List Expr} {t : TGs} {vs : List V} {Q : L2.St → Hp → Prop} (p : PGs X ts t) (h : t vs σ H Q) : wGs X ts vs σ H Q := fun pins s us I r => p.run pins s σ H vs us Q I r h
theorem wg_nm (i : Nat) {Q : L2.St → Hp → Prop} (h : Q (σ.set i (some v)) H) (hN : X.N.Nodup) (hi : X.N[i]? = some x := by rfl) (hx : Loc X.env.scope x := by first | exact Or.inl rfl | exact Or.inr rfl) (hf : X.fn x = true ∨ X.env.scope.names.lookup x = some .local := by first | exact .inl rfl | exact .inr rfl | assumption) : wG X (.Name x pos) v σ H Q :=
  useG (pg_name hN hi hx hf) h
theorem wgs_nil {Q : L2.St → Hp → Prop} (h : Q σ H) : wGs X [] [] σ H Q := useGs pgs_nil ⟨rfl, h⟩
theorem wgs_cons {t : Expr} {ts : List Expr} {vs : List V} {Q : L2.St → Hp → Prop} (h : wG X t v σ H fun σ' H' => wGs X ts vs σ' H' Q) (hs : (assignEach (t :: ts) X.env).map (·.2) = assign t X.env :: (assignEach ts X.env).map (·.2) := by rfl) : wGs X (t :: ts) (v :: vs) σ H Q :=
  useGs (pgs_cons (pG t) (pGs ts) hs) ⟨v, vs, rfl, h⟩
/-- a, b, .. = a tuple of data -/
theorem wg_tup {ts : List Expr} {k1 : Nat} {Q : L2.St → Hp → Prop} (hc : X.calm = true) (hd : Dp X.K G v (.tuple ds)) (s : Same G H) (h : ∀ vs, DpAll X.K G vs ds → wGs X ts vs σ H Q) (hl : ds.length = ts.length := by rfl) (hn : (assignEach ts X.env).length = ts.length := by rfl)
    (hst : (assignEach ts X.env).findIdx? (·.1) = none := by rfl) : wG X (.Tuple ts k1 pos) v σ H Q := by
  obtain ⟨a, xs, rfl, t, l⟩ := hd.tup_inv
  exact useG (pg_tup hc (pGs ts) hn hst) ⟨a, xs, rfl, sqT_same s t, l.length.trans hl, h xs l⟩

/-! ### what is walked -/
/-- the iterator hands out these data, one after another -/
def ItD (K : PySem.W.Frag) (J : It) (G0 : Hp) (items : List PyData) : Prop := ∀ (W : Wd) (G H : Hp) (i : Nat), Same G0 G → W.ok G H →
  (∀ d, items[i]? = some d → J.go i H ∧ ∀ v H', J.yld i H v H' → ∃ G', Same G G' ∧ W.ok G' H' ∧ Dp K G' v d) ∧ (items.length ≤ i → J.stop i H)
theorem ItD.up {K : PySem.W.Frag} {J : It} {G0 G1 : Hp} {items : List PyData} (h : ItD K J G0 items) (s : Same G0 G1) : ItD K J G1 items := fun W G H i s1 => h W G H i (s.trans s1)
def EvI (X : Cx) (W : Wd) (tg iter : Expr) (σ : L2.St) (G : Hp) (items : List PyData) : Prop := ∀ (G1 H : Hp) (R : It → Hp → Prop), Same G G1 → W.ok G1 H → (∀ J G' H', Same G1 G' → W.ok G' H' → ItD X.K J G' items → R J H') → wI X tg iter σ H R
theorem itl_d {K : PySem.W.Frag} {a : Addr} {xs : List V} (t : SqL K G a xs) (l : DpAll K G xs ds) : ItD K (Itl K a) G ds := fun W G1 H i s k => by
  have tH := sqL_same k.same (sqL_same s t)
  refine ⟨fun d hd => ?_, fun hi => ⟨xs, tH, by rw [l.length]; exact hi⟩⟩
  obtain ⟨v, hv, dv⟩ := l.get hd
  refine ⟨⟨xs, v, tH, hv⟩, fun u H' ⟨e, y⟩ => ?_⟩
  subst e
  have eu := y xs tH
  rw [hv] at eu
  cases eu
  exact ⟨G1, Same.refl _, k, dv.sm s⟩
theorem itt_d {K : PySem.W.Frag} {a : Addr} {xs : List V} (t : SqT K G a xs) (l : DpAll K G xs ds) : ItD K (Itt K a) G ds := fun W G1 H i s k => by
  have tH := sqT_same k.same (sqT_same s t)
  refine ⟨fun d hd => ?_, fun hi => ⟨xs, tH, by rw [l.length]; exact hi⟩⟩
  obtain ⟨v, hv, dv⟩ := l.get hd
  refine ⟨⟨xs, v, tH, hv⟩, fun u H' ⟨e, y⟩ => ?_⟩
  subst e
  have eu := y xs tH
  rw [hv] at eu
  cases eu
  exact ⟨G1, Same.refl _, k, dv.sm s⟩
theorem ei_list {tg : Expr} (h : Ev X W e σ G (Is X.K (.list ds))) : EvI X W tg e σ G ds := fun G1 H R s k q => useI (pi_list (pE e)) <| h G1 H _ s k fun v G2 H2 s2 k2 r => by
  obtain ⟨a, xs, rfl, t, l⟩ := Dp.lst_inv r
  exact ⟨a, rfl, ⟨xs, sqL_same k2.same t⟩, q _ G2 H2 s2 k2 (itl_d t l)⟩
theorem ei_tup {tg : Expr} (h : Ev X W e σ G (Is X.K (.tuple ds))) : EvI X W tg e σ G ds := fun G1 H R s k q => useI (pi_tup (pE e)) <| h G1 H _ s k fun v G2 H2 s2 k2 r => by
  obtain ⟨a, xs, rfl, t, l⟩ := Dp.tup_inv r
  exact ⟨a, rfl, ⟨xs, sqT_same k2.same t⟩, q _ G2 H2 s2 k2 (itt_d t l)⟩
def ints0 (n : Nat) : List PyData := (List.range n).map fun i : Nat => PyData.int (i : Int)
theorem itr_d {K : PySem.W.Frag} {n : Nat} : ItD K (Itr 0 n) G (ints0 n) := fun W G1 H i s k => by
  have hl : (ints0 n).length = n := by unfold ints0; rw [List.length_map, List.length_range]
  refine ⟨fun d hd => ?_, fun hi => by rw [hl] at hi; exact hi⟩
  have hi : i < n := by rw [← hl]; exact (List.getElem?_eq_some_iff.mp hd).1
  unfold ints0 at hd
  rw [List.getElem?_map, List.getElem?_range hi] at hd
  cases hd
  refine ⟨hi, fun u H' ⟨e, y⟩ => ?_⟩
  subst e y
  rw [Int.zero_add]
  exact ⟨G1, Same.refl _, k, .int _⟩
theorem ei_range {tg : Expr} {n : Nat} (hm : X.mg "range" = none) (h : Ev X W e σ G (Is X.K (.int n))) (hn : n < 2 ^ 62) (hg : Gl X "range" := by rfl) (hs : starEach [e] X.env = [(false, eval e X.env)] := by rfl) : EvI X W tg (.Call (.Name "range" p) [e] [] pos) σ G (ints0 n) := fun G1 H R s k q =>
  useI (pi_range1 hg hm (pa_cons (pE e) pa_nil hs) hs) <| h G1 H _ s k fun v G2 H2 s2 k2 r => by
    rw [Dp.int_eq r]
    refine ⟨n, rfl, ?_, ?_, ?_⟩
    · have h0 : (0 : Int) ≤ 2 ^ 62 := by decide
      omega
    · have h1 : ((n : Nat) : Int) < ((2 ^ 62 : Nat) : Int) := by exact_mod_cast hn
      have e : ((2 ^ 62 : Nat) : Int) = 2 ^ 62 := by decide
      omega
    · rw [Int.toNat_natCast]
      exact q _ G2 H2 s2 k2 itr_d
/-- zip -/
def pairD (x : PyData × PyData) : PyData := .tuple [x.1, x.2]
theorem zip_get {as bs : List PyData} {i : Nat} (h : ((as.zip bs).map pairD)[i]? = some d) : ∃ x y, as[i]? = some x ∧ bs[i]? = some y ∧ d = .tuple [x, y] := by
  rw [List.getElem?_map] at h
  cases e : (as.zip bs)[i]? with
  | none => rw [e] at h; cases h
  | some z =>
    rw [e] at h
    cases h
    obtain ⟨h1, h2⟩ := List.getElem?_zip_eq_some.mp e
    exact ⟨z.1, z.2, h1, h2, rfl⟩
theorem itzT_d {K : PySem.W.Frag} {a b : Addr} {xs ys : List V} {as bs : List PyData} (t1 : SqT K G a xs) (l1 : DpAll K G xs as) (t2 : SqT K G b ys) (l2 : DpAll K G ys bs) : ItD K (RZ.ItzT K a b) G ((as.zip bs).map pairD) := fun W G1 H i s k => by
  have u1 := sqT_same k.same (sqT_same s t1)
  have u2 := sqT_same k.same (sqT_same s t2)
  refine ⟨fun d hd => ?_, fun hi => ⟨xs, ys, u1, u2, ?_⟩⟩
  · obtain ⟨x, y, hx, hy, rfl⟩ := zip_get hd
    obtain ⟨v, hv, dv⟩ := l1.get hx
    obtain ⟨w, hw, dw⟩ := l2.get hy
    refine ⟨⟨xs, ys, v, w, u1, u2, hv, hw⟩, fun u H' ⟨T, x', y', e, nT, eH, f1, f2⟩ => ?_⟩
    subst e eH
    have e1 := f1 xs u1
    have e2 := f2 ys u2
    rw [hv] at e1
    rw [hw] at e2
    cases e1
    cases e2
    exact ⟨_, same_new (k.free nT), k.new nT, .tup (SqT.of upd_same) (.cons ((dv.sm s).sm (same_new (k.free nT))) (.cons ((dw.sm s).sm (same_new (k.free nT))) .nil))⟩
  · rw [List.length_map, List.length_zip] at hi
    rw [l1.length, l2.length]
    omega
theorem itz_d {K : PySem.W.Frag} {a b : Addr} {xs ys : List V} {as bs : List PyData} (t1 : SqL K G a xs) (l1 : DpAll K G xs as) (t2 : SqL K G b ys) (l2 : DpAll K G ys bs) : ItD K (Itz K a b) G ((as.zip bs).map pairD) := fun W G1 H i s k => by
  have u1 := sqL_same k.same (sqL_same s t1)
  have u2 := sqL_same k.same (sqL_same s t2)
  refine ⟨fun d hd => ?_, fun hi => ⟨xs, ys, u1, u2, ?_⟩⟩
  · obtain ⟨x, y, hx, hy, rfl⟩ := zip_get hd
    obtain ⟨v, hv, dv⟩ := l1.get hx
    obtain ⟨w, hw, dw⟩ := l2.get hy
    refine ⟨⟨xs, ys, v, w, u1, u2, hv, hw⟩, fun u H' ⟨T, x', y', e, nT, eH, f1, f2⟩ => ?_⟩
    subst e eH
    have e1 := f1 xs u1
    have e2 := f2 ys u2
    rw [hv] at e1
    rw [hw] at e2
    cases e1
    cases e2
    exact ⟨_, same_new (k.free nT), k.new nT, .tup (SqT.of upd_same) (.cons ((dv.sm s).sm (same_new (k.free nT))) (.cons ((dw.sm s).sm (same_new (k.free nT))) .nil))⟩
  · rw [List.length_map, List.length_zip] at hi
    rw [l1.length, l2.length]
    omega
theorem ei_zipT {elts : List Expr} {kk : Nat} {tpos : Pos} {as bs : List PyData} (hm : X.mg "zip" = none) (ha : Ev X W a σ G (Is X.K (.tuple as))) (hb : Ev X W b σ G (Is X.K (.tuple bs))) (hg : Gl X "zip" := by rfl)
    (hs : Pl X a [b] := by rfl) (hs2 : Pl X b [] := by rfl) (hpl : (backTo pos (starEach [b] X.env)).any (·.1) = false := by rfl) : EvI X W (.Tuple elts kk tpos) (.Call (.Name "zip" p) [a, b] [] pos) σ G ((as.zip bs).map pairD) := fun G1 H R s k q =>
  useI (RZ.pi_zipA hg hm (pA [a, b]) hs hpl) <| (ea_cons ha (ea1 hb hs2) hs) G1 H _ s k fun vs G2 H2 s2 k2 r => by
    obtain ⟨x, y, rfl, h1, h2⟩ := dpAll_two r
    obtain ⟨a, xs, rfl, t1, l1⟩ := h1.tup_inv
    obtain ⟨b, ys, rfl, t2, l2⟩ := h2.tup_inv
    exact ⟨a, b, xs, ys, rfl, .inr ⟨sqT_same k2.same t1, sqT_same k2.same t2, q _ G2 H2 s2 k2 (itzT_d t1 l1 t2 l2)⟩⟩
theorem ei_zipL {elts : List Expr} {kk : Nat} {tpos : Pos} {as bs : List PyData} (hm : X.mg "zip" = none) (ha : Ev X W a σ G (Is X.K (.list as))) (hb : Ev X W b σ G (Is X.K (.list bs))) (hg : Gl X "zip" := by rfl)
    (hs : Pl X a [b] := by rfl) (hs2 : Pl X b [] := by rfl) (hpl : (backTo pos (starEach [b] X.env)).any (·.1) = false := by rfl) : EvI X W (.Tuple elts kk tpos) (.Call (.Name "zip" p) [a, b] [] pos) σ G ((as.zip bs).map pairD) := fun G1 H R s k q =>
  useI (RZ.pi_zipA hg hm (pA [a, b]) hs hpl) <| (ea_cons ha (ea1 hb hs2) hs) G1 H _ s k fun vs G2 H2 s2 k2 r => by
    obtain ⟨x, y, rfl, h1, h2⟩ := dpAll_two r
    obtain ⟨a, xs, rfl, t1, l1⟩ := h1.lst_inv
    obtain ⟨b, ys, rfl, t2, l2⟩ := h2.lst_inv
    exact ⟨a, b, xs, ys, rfl, .inl ⟨sqL_same k2.same t1, sqL_same k2.same t2, q _ G2 H2 s2 k2 (itz_d t1 l1 t2 l2)⟩⟩
end
end K12
/-! K4: comprehensions, statements. -/
namespace K12
open PySem PySem.Spec PyProof.Rows L2

theorem pd_append {α β : Type} {F : α → β → Prop} : ∀ {as cs : List α} {bs ds : List β}, Paired F as bs → Paired F cs ds → Paired F (as ++ cs) (bs ++ ds)
  | _, _, _, _, .nil, h => h
  | _, _, _, _, .cons a t, h => .cons a (pd_append t h)
theorem pd_snoc {α β : Type} {F : α → β → Prop} {as : List α} {bs : List β} {a : α} {b : β} (h : Paired F as bs) (r : F a b) : Paired F (as ++ [a]) (bs ++ [b]) := pd_append h (.cons r .nil)
theorem pd_len {α β : Type} {F : α → β → Prop} : ∀ {as : List α} {bs : List β}, Paired F as bs → as.length = bs.length
  | _, _, .nil => rfl
  | _, _, .cons _ t => by rw [List.length_cons, List.length_cons, pd_len t]
theorem pd_map {α β : Type} {f : α → β} : ∀ {as : List α} {bs : List β}, Paired (fun a b => b = f a) as bs → bs = as.map f
  | _, _, .nil => rfl
  | _, _, .cons a t => by rw [a, pd_map t]; rfl
theorem pd_imp {α β : Type} {F F' : α → β → Prop} : ∀ {as : List α} {bs : List β}, Paired F as bs → (∀ a b, a ∈ as → F a b → F' a b) → Paired F' as bs
  | _, _, .nil, _ => .nil
  | _, _, .cons a t, h => .cons (h _ _ List.mem_cons_self a) (pd_imp t fun x y m => h x y (List.mem_cons_of_mem _ m))
theorem take_snoc {α : Type} {l : List α} {i : Nat} {a : α} (h : l[i]? = some a) : l.take (i + 1) = l.take i ++ [a] := by
  rw [List.take_add_one, h]; rfl

/-- a list that stands by itself -/
def Lt (K : PySem.W.Frag) (ds : List PyData) : Rl := fun G v => ∃ l xs, v = .ref l ∧ G l = some (.lst xs) ∧ DpAll K G xs ds
def LtS (K : PySem.W.Frag) (P : List PyData → Prop) : Rl := fun G v => ∃ ds, P ds ∧ Lt K ds G v
theorem Lt.dp {K : PySem.W.Frag} {ds : List PyData} {G : Hp} {v : V} (h : Lt K ds G v) : Dp K G v (.list ds) := by
  obtain ⟨l, xs, rfl, h1, h2⟩ := h
  exact .lst (SqL.of h1) h2
theorem lt_mono {K : PySem.W.Frag} {ds : List PyData} : ∀ G G' v, Same G G' → Lt K ds G v → Lt K ds G' v := fun _ _ _ s ⟨l, xs, h1, h2, h3⟩ => ⟨l, xs, h1, s _ _ h2, h3.sm s⟩
theorem Ev.dp {X : Cx} {W : Wd} {e : Expr} {σ : L2.St} {G : Hp} {ds : List PyData} (h : Ev X W e σ G (Lt X.K ds)) : Ev X W e σ G (Is X.K (.list ds)) := h.imp fun _ _ r => r.dp

/-! ### comprehensions -/
theorem wipe_get {σ : L2.St} {i : Nat} : ∀ {vs : List Nat}, i ∈ vs → i < σ.length → (wipe σ vs)[i]? = some none
  | v :: vs, h, hl => by
    unfold wipe
    by_cases e : v = i
    · subst e
      exact List.getElem?_set_self (by rw [wipe_length]; exact hl)
    · rw [List.getElem?_set_ne e]
      rcases List.mem_cons.mp h with q | q
      · exact absurd q.symm e
      · exact wipe_get q hl
theorem wipe_ext {σ τ : L2.St} {vs : List Nat} (hl : σ.length = τ.length) (h : ∀ i, i ∉ vs → σ[i]? = τ[i]?) : wipe σ vs = wipe τ vs := by
  apply List.ext_getElem?
  intro i
  by_cases m : i ∈ vs
  · by_cases l : i < σ.length
    · rw [wipe_get m l, wipe_get m (hl ▸ l)]
    · rw [List.getElem?_eq_none (by rw [wipe_length]; omega), List.getElem?_eq_none (by rw [wipe_length]; omega)]
  · rw [wipe_out m, wipe_out m, h i m]
theorem wipe_set {σ : L2.St} {vs : List Nat} {i : Nat} {x : Option V} (m : i ∈ vs) : wipe (σ.set i x) vs = wipe σ vs :=
  wipe_ext (List.length_set ..) fun j h => List.getElem?_set_ne (fun e => h (by rw [← e]; exact m))
theorem wipe_wipe {σ : L2.St} {vs : List Nat} : wipe (wipe σ vs) vs = wipe σ vs := wipe_ext (wipe_length _ _) fun _ h => wipe_out h

abbrev Blk := ∀ (s0 : Shared) (H0 : Hp) (C : Addr) (cl : List (Str × Addr)) (fp : List Addr), Prop
section
variable {X : Cx} {W : Wd} {e a b c : Expr} {es : List Expr} {σ : L2.St} {G G' H : Hp} {R R' : Rl} {d d' : PyData} {ds : List PyData} {v : V} {pos p : Pos} {x : Str} {k : Bool}
abbrev bX (X : Cx) (scope : Scope) (s0 : Shared) (H0 : Hp) (C : Addr) (cl : List (Str × Addr)) (fp : List Addr) : Cx := X.blk s0 H0 scope (compEnvC scope cl C X.env) fp
/-- the readings of a block's parts, whatever block -/
def bG (X : Cx) (scope : Scope) (tg : Expr) : TG := fun v σ H Q => ∀ s0 H0 C cl fp, wG (bX X scope s0 H0 C cl fp) tg v σ H Q
def bE (X : Cx) (scope : Scope) (e : Expr) : TE := fun σ H Q => ∀ s0 H0 C cl fp, wE (bX X scope s0 H0 C cl fp) e σ H Q
def bT (X : Cx) (scope : Scope) (e : Expr) : TT := fun σ H Q => ∀ s0 H0 C cl fp, wT (bX X scope s0 H0 C cl fp) e σ H Q
def bI (X : Cx) (scope : Scope) (tg e : Expr) : TI := fun σ H Q => ∀ s0 H0 C cl fp, wI (bX X scope s0 H0 C cl fp) tg e σ H Q
theorem pbG {scope : Scope} {tg : Expr} (s0 : Shared) (H0 : Hp) (C : Addr) (cl : List (Str × Addr)) (fp : List Addr) : PG (bX X scope s0 H0 C cl fp) tg (bG X scope tg) := ⟨fun pins s _ _ _ u _ I r h => h s0 H0 C cl fp pins s u I r⟩
theorem pbE {scope : Scope} {e : Expr} (s0 : Shared) (H0 : Hp) (C : Addr) (cl : List (Str × Addr)) (fp : List Addr) : PE (bX X scope s0 H0 C cl fp) e (bE X scope e) := ⟨fun pins s _ _ _ I h => h s0 H0 C cl fp pins s I⟩
theorem pbT {scope : Scope} {e : Expr} (s0 : Shared) (H0 : Hp) (C : Addr) (cl : List (Str × Addr)) (fp : List Addr) : PT (bX X scope s0 H0 C cl fp) e (bT X scope e) := ⟨fun pins s _ _ _ I h => h s0 H0 C cl fp pins s I⟩
theorem pbI {scope : Scope} {tg e : Expr} (s0 : Shared) (H0 : Hp) (C : Addr) (cl : List (Str × Addr)) (fp : List Addr) : PI (bX X scope s0 H0 C cl fp) tg e (bI X scope tg e) := ⟨fun pins s _ _ _ I h => h s0 H0 C cl fp pins s I⟩

/-- how a target binds: B G v d σ2 -/
abbrev Bnd := Hp → V → PyData → L2.St → Prop
/-- the heart of a comprehension: the data are those of the list xs, by ei; items filtered by t, each element with P -/
theorem lc_heart {α : Type} {K : PySem.W.Frag} {J : It} {xs : List α} {ei : α → PyData} {D : Addr} {G1 H1 : Hp} {g : TG} {tt : TT} {te : TE} {vs : List Nat} {Q : VK} {t : α → Bool} {P : α → PyData → Prop} {B : Bnd}
    (hJ : ItD K J G1 (xs.map ei)) (hn : xs.length ≤ 1000000) (k1 : W.ok G1 H1) (hD : H1 D = none)
    (hg : ∀ (i : Nat) d v G' H' (Q : L2.St → Hp → Prop), (xs.map ei)[i]? = some d → Same G1 G' → Same G' H' → Dp K G' v d → (∀ σ2, B G' v d σ2 → Q σ2 H') → g v (wipe σ vs) H' Q)
    (hw : ∀ G' v d σ2, B G' v d σ2 → wipe σ2 vs = wipe σ vs)
    (ht : ∀ (i : Nat) x v σ2 G' H' acc (Q : Bool → Hp → Prop), xs[i]? = some x → Same G1 G' → (W.sep (.cell D (.lst acc))).ok G' H' → B G' v (ei x) σ2 → (∀ G2 H2, Same G' G2 → (W.sep (.cell D (.lst acc))).ok G2 H2 → Q (t x) H2) → tt σ2 H' Q)
    (he : ∀ (i : Nat) x v σ2 G' H' acc (Q : VK), xs[i]? = some x → t x = true → Same G1 G' → (W.sep (.cell D (.lst acc))).ok G' H' → B G' v (ei x) σ2 → (∀ u G2 H2, Same G' G2 → (W.sep (.cell D (.lst acc))).ok G2 H2 → Sm K (P x) G2 u → Q u H2) → te σ2 H' Q)
    (mono : ∀ G' G2 v d σ2, Same G' G2 → B G' v d σ2 → B G2 v d σ2)
    (q : ∀ es G' H', Same G1 G' → W.ok G' H' → Paired P (xs.filter t) es → Lt K es G' (.ref D) → Q (.ref D) H') :
    ∃ W : Nat → Nat → Hp → Prop, (∃ m, W 0 m (upd H1 D (.lst []))) ∧ ∀ i m H, W i m H →
      (J.stop i H ∧ Q (.ref D) H) ∨ (J.go i H ∧ ∃ Nx : Hp → Prop, (∀ H', Nx H' → ∃ m', m' < m ∧ W (i + 1) m' H') ∧ ∀ x H', J.yld i H x H' → g x (wipe σ vs) H' fun σ2 H2 => wipe σ2 vs = wipe σ vs ∧ tt σ2 H2 fun b H3 =>
        if b = true then te σ2 H3 fun y H4 => ∃ acc, H4 D = some (.lst acc) ∧ acc.length < sizeLine ∧ Nx (upd H4 D (.lst (acc ++ [y]))) else Nx H3) := by
  refine ⟨fun i m H => ∃ G2 acc es, Same G1 G2 ∧ (W.sep (.cell D (.lst acc))).ok G2 H ∧ DpAll K G2 acc es ∧ Paired P ((xs.take i).filter t) es ∧ i ≤ xs.length ∧ m = xs.length - i, ⟨xs.length, G1, [], [], Same.refl _, k1.newCell hD, .nil, .nil, Nat.zero_le _, rfl⟩, ?_⟩
  rintro i m H ⟨G2, acc, es, s2, k2, da, pr, hi, rfl⟩
  obtain ⟨go, stop⟩ := hJ _ G2 H i s2 k2
  by_cases hlt : i < xs.length
  · have hx : xs[i]? = some xs[i] := List.getElem?_eq_getElem hlt
    have hd : (xs.map ei)[i]? = some (ei xs[i]) := by rw [List.getElem?_map, hx]; rfl
    obtain ⟨g1, y1⟩ := go _ hd
    refine .inr ⟨g1, fun H' => ∃ G2 acc es, Same G1 G2 ∧ (W.sep (.cell D (.lst acc))).ok G2 H' ∧ DpAll K G2 acc es ∧ Paired P ((xs.take (i + 1)).filter t) es, fun H' ⟨G3, acc3, es3, a1, a2, a3, a4⟩ => ⟨xs.length - (i + 1), by omega, G3, acc3, es3, a1, a2, a3, a4, hlt, rfl⟩, fun v H' yv => ?_⟩
    obtain ⟨G3, s3, k3, dv⟩ := y1 v H' yv
    refine hg i _ v G3 H' _ hd (s2.trans s3) k3.same dv fun σ2 b2 => ⟨hw _ _ _ _ b2, ?_⟩
    refine ht i _ v σ2 G3 H' acc _ hx (s2.trans s3) k3 b2 fun G4 H4 s4 k4 => ?_
    have hlen : acc.length ≤ xs.length := by
      rw [da.length, ← pd_len pr]
      exact Nat.le_trans (List.length_filter_le _ _) (by rw [List.length_take]; exact Nat.min_le_right _ _)
    cases et : t xs[i] with
    | false =>
      refine iteF ⟨G4, acc, es, (s2.trans s3).trans s4, k4, da.sm (s3.trans s4), ?_⟩
      rw [take_snoc hx, List.filter_append, List.filter_cons_of_neg (by rw [et]; decide), List.filter_nil, List.append_nil]
      exact pr
    | true =>
      refine iteT (he i _ v σ2 G4 H4 acc _ hx et ((s2.trans s3).trans s4) k4 (mono _ _ _ _ _ s4 b2) fun u G5 H5 s5 k5 ⟨e5, p5, d5⟩ => ⟨acc, k5.cellAt, ?_, G5, acc ++ [u], es ++ [e5], ((s2.trans s3).trans s4).trans s5, k5.put, (da.sm ((s3.trans s4).trans s5)).snoc d5, ?_⟩)
      · rw [sizeLine_eq]; omega
      · rw [take_snoc hx, List.filter_append, List.filter_cons_of_pos et, List.filter_nil]
        exact pd_snoc pr p5
  · have e : i = xs.length := by omega
    subst e
    refine .inl ⟨stop (by rw [List.length_map]; exact Nat.le_refl _), ?_⟩
    rw [List.take_length] at pr
    have gD : G2 D = none := k2.out D (.inr rfl)
    exact q es _ H (s2.trans (same_new gD)) k2.give pr ⟨D, acc, rfl, upd_same, da.sm (same_new gD)⟩
structure TgOk (X : Cx) (scope : Scope) (tg : Expr) (σ : L2.St) (own : List (Str × Nat)) (G : Hp) (items : List PyData) (B : Bnd) : Prop where
  hg : ∀ (i : Nat) d v G' H' (Q : L2.St → Hp → Prop), items[i]? = some d → Same G G' → Same G' H' → Dp X.K G' v d → (∀ σ2, B G' v d σ2 → Q σ2 H') → ∀ s0 H0 C cl fp, wG (bX X scope s0 H0 C cl fp) tg v (wipe σ (own.map (·.2))) H' Q
  hw : ∀ G' v d σ2, B G' v d σ2 → wipe σ2 (own.map (·.2)) = wipe σ (own.map (·.2))
  mono : ∀ G' G2 v d σ2, Same G' G2 → B G' v d σ2 → B G2 v d σ2
/-- for x in .. -/
def B1 (K : PySem.W.Frag) (σ : L2.St) (vs : List Nat) (i : Nat) : Bnd := fun G v d σ2 => Dp K G v d ∧ σ2 = (wipe σ vs).set i (some v)
abbrev LocB (X : Cx) (scope : Scope) (x : Str) : Prop := ∀ s0 H0 C cl fp, Loc (bX X scope s0 H0 C cl fp).env.scope x ∧ ((bX X scope s0 H0 C cl fp).fn x = true ∨ (bX X scope s0 H0 C cl fp).env.scope.names.lookup x = some .local)
theorem tg1 {scope : Scope} {own : List (Str × Nat)} {items : List PyData} (i : Nat) (hN : X.N.Nodup) (hi : X.N[i]? = some x := by rfl) (hm : i ∈ own.map (·.2) := by decide)
    (hx : LocB X scope x := by intro _ _ _ _ _; first | exact ⟨Or.inl rfl, Or.inr rfl⟩ | exact ⟨Or.inr rfl, Or.inl rfl⟩) : TgOk X scope (.Name x pos) σ own G items (B1 X.K σ (own.map (·.2)) i) where
  hg := fun j d v G' H' Q h1 h2 h3 h4 h5 s0 H0 C cl fp => wg_nm i (h5 _ ⟨h4, rfl⟩) hN hi (hx s0 H0 C cl fp).1 (hx s0 H0 C cl fp).2
  hw := fun G' v d σ2 ⟨_, e⟩ => by subst e; rw [wipe_set hm, wipe_wipe]
  mono := fun G' G2 v d σ2 s ⟨h, e⟩ => ⟨h.sm s, e⟩
/-- for x, y in .. -/
def B2 (K : PySem.W.Frag) (σ : L2.St) (vs : List Nat) (i j : Nat) : Bnd := fun G v d σ2 => ∃ d1 d2 v1 v2, d = .tuple [d1, d2] ∧ Dp K G v1 d1 ∧ Dp K G v2 d2 ∧ σ2 = ((wipe σ vs).set i (some v1)).set j (some v2)
theorem tg2 {scope : Scope} {own : List (Str × Nat)} {items : List PyData} {y : Str} {p1 p2 : Pos} {k1 : Nat} (i j : Nat) (hc : X.calm = true) (hsh : ∀ d ∈ items, ∃ d1 d2, d = .tuple [d1, d2]) (hN : X.N.Nodup) (hi : X.N[i]? = some x := by rfl) (hj : X.N[j]? = some y := by rfl) (hm : i ∈ own.map (·.2) := by decide) (hm2 : j ∈ own.map (·.2) := by decide)
    (hx : LocB X scope x := by intro _ _ _ _ _; first | exact ⟨Or.inl rfl, Or.inr rfl⟩ | exact ⟨Or.inr rfl, Or.inl rfl⟩) (hy : LocB X scope y := by intro _ _ _ _ _; first | exact ⟨Or.inl rfl, Or.inr rfl⟩ | exact ⟨Or.inr rfl, Or.inl rfl⟩) :
    TgOk X scope (.Tuple [.Name x p1, .Name y p2] k1 pos) σ own G items (B2 X.K σ (own.map (·.2)) i j) where
  hg := fun l d v G' H' Q h1 h2 h3 h4 h5 s0 H0 C cl fp => by
    obtain ⟨d1, d2, rfl⟩ := hsh d (List.mem_of_getElem? h1)
    refine wg_tup hc h4 h3 (fun vs hv => ?_)
    obtain ⟨v1, v2, rfl, a1, a2⟩ := dpAll_two hv
    exact wgs_cons (wg_nm i (wgs_cons (wg_nm j (wgs_nil (h5 _ ⟨d1, d2, v1, v2, rfl, a1, a2, rfl⟩)) hN hj (hy s0 H0 C cl fp).1 (hy s0 H0 C cl fp).2)) hN hi (hx s0 H0 C cl fp).1 (hx s0 H0 C cl fp).2)
  hw := fun G' v d σ2 ⟨_, _, _, _, _, _, _, e⟩ => by subst e; rw [wipe_set hm2, wipe_set hm, wipe_wipe]
  mono := fun G' G2 v d σ2 s ⟨d1, d2, v1, v2, e, h1, h2, e2⟩ => ⟨d1, d2, v1, v2, e, h1.sm s, h2.sm s, e2⟩
/-- for x, y, z in .. -/
def B3 (K : PySem.W.Frag) (σ : L2.St) (vs : List Nat) (i j l : Nat) : Bnd := fun G v d σ2 => ∃ d1 d2 d3 v1 v2 v3, d = .tuple [d1, d2, d3] ∧ Dp K G v1 d1 ∧ Dp K G v2 d2 ∧ Dp K G v3 d3 ∧ σ2 = (((wipe σ vs).set i (some v1)).set j (some v2)).set l (some v3)
theorem dpAll_three {K : PySem.W.Frag} {vs : List V} {d1 d2 d3 : PyData} (h : DpAll K G vs [d1, d2, d3]) : ∃ v1 v2 v3, vs = [v1, v2, v3] ∧ Dp K G v1 d1 ∧ Dp K G v2 d2 ∧ Dp K G v3 d3 := by
  cases h with | cons a t => cases t with | cons b t => cases t with | cons c t => cases t; exact ⟨_, _, _, rfl, a, b, c⟩
theorem tg3 {scope : Scope} {own : List (Str × Nat)} {items : List PyData} {y z : Str} {p1 p2 p3 : Pos} {k1 : Nat} (i j l : Nat) (hc : X.calm = true) (hsh : ∀ d ∈ items, ∃ d1 d2 d3, d = .tuple [d1, d2, d3]) (hN : X.N.Nodup) (hi : X.N[i]? = some x := by rfl) (hj : X.N[j]? = some y := by rfl) (hl : X.N[l]? = some z := by rfl)
    (hm : i ∈ own.map (·.2) := by decide) (hm2 : j ∈ own.map (·.2) := by decide) (hm3 : l ∈ own.map (·.2) := by decide)
    (hx : LocB X scope x := by intro _ _ _ _ _; first | exact ⟨Or.inl rfl, Or.inr rfl⟩ | exact ⟨Or.inr rfl, Or.inl rfl⟩) (hy : LocB X scope y := by intro _ _ _ _ _; first | exact ⟨Or.inl rfl, Or.inr rfl⟩ | exact ⟨Or.inr rfl, Or.inl rfl⟩)
    (hz : LocB X scope z := by intro _ _ _ _ _; first | exact ⟨Or.inl rfl, Or.inr rfl⟩ | exact ⟨Or.inr rfl, Or.inl rfl⟩) :
    TgOk X scope (.Tuple [.Name x p1, .Name y p2, .Name z p3] k1 pos) σ own G items (B3 X.K σ (own.map (·.2)) i j l) where
  hg := fun l d v G' H' Q h1 h2 h3 h4 h5 s0 H0 C cl fp => by
    obtain ⟨d1, d2, d3, rfl⟩ := hsh d (List.mem_of_getElem? h1)
    refine wg_tup hc h4 h3 (fun vs hv => ?_)
    obtain ⟨v1, v2, v3, rfl, a1, a2, a3⟩ := dpAll_three hv
    exact wgs_cons (wg_nm i (wgs_cons (wg_nm j (wgs_cons (wg_nm _ (wgs_nil (h5 _ ⟨d1, d2, d3, v1, v2, v3, rfl, a1, a2, a3, rfl⟩)) hN hl (hz s0 H0 C cl fp).1 (hz s0 H0 C cl fp).2)) hN hj (hy s0 H0 C cl fp).1 (hy s0 H0 C cl fp).2)) hN hi (hx s0 H0 C cl fp).1 (hx s0 H0 C cl fp).2)
  hw := fun G' v d σ2 ⟨_, _, _, _, _, _, _, _, _, _, e⟩ => by subst e; rw [wipe_set hm3, wipe_set hm2, wipe_set hm, wipe_wipe]
  mono := fun G' G2 v d σ2 s ⟨d1, d2, d3, v1, v2, v3, e, h1, h2, h3, e2⟩ => ⟨d1, d2, d3, v1, v2, v3, e, h1.sm s, h2.sm s, h3.sm s, e2⟩
/-- the rule, for any target -/
theorem ev_lcB {α : Type} {elt tg iter : Expr} {scope : Scope} {own : List (Str × Nat)} {items : List PyData} {xs : List α} {ei : α → PyData} {P : α → PyData → Prop} {B : Bnd} (hc : X.calm = true) (hN : X.N.Nodup) (ok : BlkOk X.N X.env.scope scope own) (hi : EvI X W tg iter σ G items) (hx : items = xs.map ei) (hn : xs.length ≤ 1000000)
    (T : TgOk X scope tg σ own G items B)
    (he : ∀ (i : Nat) x v σ2 G' D acc, xs[i]? = some x → Same G G' → B G' v (ei x) σ2 → ∀ s0 H0 C cl fp, Ev (bX X scope s0 H0 C cl fp) (W.sep (.cell D (.lst acc))) elt σ2 G' (Sm X.K (P x))) (hs : ∀ x, foldedSetIterable iter X.env x = pure x := by intro _; rfl) :
    Ev X W (.ListComp elt [⟨tg, iter, [], 0⟩] scope pos) σ G (LtS X.K (Paired P xs)) := by
  subst hx
  exact fun G1 H Q s k1 q =>
    useE (pe_lc hc hN (pI tg iter) ok (fun s H C cl fp => pbG s H C cl fp) (fun _ _ _ _ _ => pts_nil) (fun s H C cl fp => pbE s H C cl fp) hs) <| hi G1 H _ s k1 fun J G2 H2 s2 k2 hJ D hD => by
      refine lc_heart (t := fun _ => true) (P := P) (B := B) hJ hn k2 hD (fun i d v G' H' Q h1 h2 h3 h4 h5 s0 H0 C cl fp => T.hg i d v G' H' Q h1 ((s.trans s2).trans h2) h3 h4 h5 s0 H0 C cl fp) T.hw
        (fun i d v σ2 G' H' acc Q h1 h2 h3 h4 h5 => h5 G' H' (Same.refl _) h3) (fun i d v σ2 G' H' acc Q h1 h2 h3 h4 h5 h6 s0 H0 C cl fp => he i d v σ2 G' D acc h1 ((s.trans s2).trans h3) h5 s0 H0 C cl fp G' H' Q (Same.refl _) h4 h6) T.mono
        (fun es G' H' s3 k3 pr dp => q _ G' H' (s2.trans s3) k3 ⟨es, ?_, dp⟩)
      rw [List.filter_eq_self.mpr (fun _ _ => rfl)] at pr
      exact pr
/-- y = [..], a statement of its own -/
theorem ws_setLcB {α : Type} {rest : List Stmt} {D0 : Ends} (i : Nat) {y : Str} {py spos : Pos} {elt tg iter : Expr} {scope : Scope} {own : List (Str × Nat)} {items : List PyData} {xs : List α} {ei : α → PyData} {P : α → PyData → Prop} {B : Bnd} {ifs : List Expr} {tt : TT} {t : α → Bool}
    (hc : X.calm = true) (hN : X.N.Nodup) (ok : BlkOk X.N X.env.scope scope own) (hi : EvI X W tg iter σ G items) (hx : items = xs.map ei) (hn : xs.length ≤ 1000000)
    (htt : ∀ s H C cl fp, PTs (bX X scope s H C cl fp) ifs tt)
    (T : TgOk X scope tg σ own G items B)
    (ht : ∀ (i : Nat) x v σ2 G' H' D acc (Q : Bool → Hp → Prop), xs[i]? = some x → Same G G' → (W.sep (.cell D (.lst acc))).ok G' H' → B G' v (ei x) σ2 → (∀ G2 H2, Same G' G2 → (W.sep (.cell D (.lst acc))).ok G2 H2 → Q (t x) H2) → tt σ2 H' Q)
    (he : ∀ (i : Nat) x v σ2 G' D acc, xs[i]? = some x → t x = true → Same G G' → B G' v (ei x) σ2 → ∀ s0 H0 C cl fp, Ev (bX X scope s0 H0 C cl fp) (W.sep (.cell D (.lst acc))) elt σ2 G' (Sm X.K (P x)))
    {G1 : Hp} (s : Same G G1) (k1 : W.ok G1 H) (q : ∀ v es G' H', Same G1 G' → W.ok G' H' → Paired P (xs.filter t) es → Lt X.K es G' v → wSs X rest D0 (σ.set i (some v)) H')
    (hy : X.N[i]? = some y := by rfl) (hyl : X.env.scope.names.lookup y = some .local := by rfl) (hsw : swapsWith (.ListComp elt [⟨tg, iter, ifs, 0⟩] scope pos) (some (.Name y py)) spos.line X.env = pure true := by exact sw_true rfl rfl rfl (by decide +kernel)) (hs : ∀ x, foldedSetIterable iter X.env x = pure x := by intro _; rfl) :
    wSs X (.Assign [.Name y py] (.ListComp elt [⟨tg, iter, ifs, 0⟩] scope pos) spos :: rest) D0 σ H := by
  subst hx
  exact useSs (pss_cons (ps_setLc hc hN hy hyl hsw (pI tg iter) ok (fun s H C cl fp => pbG s H C cl fp) htt (fun s H C cl fp => pbE s H C cl fp) hs) (pSs rest)) <| hi G1 H _ s k1 fun J G2 H2 s2 k2 hJ D hD => by
    refine lc_heart (t := t) (P := P) (B := B) (Q := fun v H' => wSs X rest D0 (σ.set i (some v)) H') hJ hn k2 hD (fun i d v G' H' Q h1 h2 h3 h4 h5 s0 H0 C cl fp => T.hg i d v G' H' Q h1 ((s.trans s2).trans h2) h3 h4 h5 s0 H0 C cl fp) T.hw
      (fun i d v σ2 G' H' acc Q h1 h2 h3 h4 h5 => ht i d v σ2 G' H' D acc Q h1 ((s.trans s2).trans h2) h3 h4 h5) (fun i d v σ2 G' H' acc Q h1 h2 h3 h4 h5 h6 s0 H0 C cl fp => he i d v σ2 G' D acc h1 h2 ((s.trans s2).trans h3) h5 s0 H0 C cl fp G' H' Q (Same.refl _) h4 h6) T.mono
      (fun es G' H' s3 k3 pr dp => q _ es G' H' (s2.trans s3) k3 pr dp)
/-- .. without a test -/
theorem ws_setLc {α : Type} {rest : List Stmt} {D0 : Ends} (i : Nat) {y : Str} {py spos : Pos} {elt tg iter : Expr} {scope : Scope} {own : List (Str × Nat)} {items : List PyData} {xs : List α} {ei : α → PyData} {P : α → PyData → Prop} {B : Bnd}
    (hc : X.calm = true) (hN : X.N.Nodup) (ok : BlkOk X.N X.env.scope scope own) (hi : EvI X W tg iter σ G items) (hx : items = xs.map ei) (hn : xs.length ≤ 1000000) (T : TgOk X scope tg σ own G items B)
    (he : ∀ (i : Nat) x v σ2 G' D acc, xs[i]? = some x → Same G G' → B G' v (ei x) σ2 → ∀ s0 H0 C cl fp, Ev (bX X scope s0 H0 C cl fp) (W.sep (.cell D (.lst acc))) elt σ2 G' (Sm X.K (P x)))
    {G1 : Hp} (s : Same G G1) (k1 : W.ok G1 H) (q : ∀ v es G' H', Same G1 G' → W.ok G' H' → Paired P xs es → Lt X.K es G' v → wSs X rest D0 (σ.set i (some v)) H')
    (hy : X.N[i]? = some y := by rfl) (hyl : X.env.scope.names.lookup y = some .local := by rfl) (hsw : swapsWith (.ListComp elt [⟨tg, iter, [], 0⟩] scope pos) (some (.Name y py)) spos.line X.env = pure true := by exact sw_true rfl rfl rfl (by decide +kernel)) (hs : ∀ x, foldedSetIterable iter X.env x = pure x := by intro _; rfl) :
    wSs X (.Assign [.Name y py] (.ListComp elt [⟨tg, iter, [], 0⟩] scope pos) spos :: rest) D0 σ H :=
  ws_setLcB i (t := fun _ => true) hc hN ok hi hx hn (fun _ _ _ _ _ => pts_nil) T (fun i d v σ2 G' H' D acc Q h1 h2 h3 h4 h5 => h5 G' H' (Same.refl _) h3) (fun i x v σ2 G' D acc h1 _ h2 h3 => he i x v σ2 G' D acc h1 h2 h3) s k1
    (fun v es G' H' s3 k3 pr l => q v es G' H' s3 k3 (by rw [List.filter_eq_self.mpr (fun _ _ => rfl)] at pr; exact pr) l) hy hyl hsw hs
/-- .. with one test -/
theorem ws_setLcIf {α : Type} {rest : List Stmt} {D0 : Ends} (i : Nat) {y : Str} {py spos : Pos} {elt tg iter tst : Expr} {scope : Scope} {own : List (Str × Nat)} {items : List PyData} {xs : List α} {ei : α → PyData} {P : α → PyData → Prop} {B : Bnd} {t : α → Bool}
    (hc : X.calm = true) (hN : X.N.Nodup) (ok : BlkOk X.N X.env.scope scope own) (hi : EvI X W tg iter σ G items) (hx : items = xs.map ei) (hn : xs.length ≤ 1000000) (T : TgOk X scope tg σ own G items B)
    (ht : ∀ (i : Nat) x v σ2 G' D acc, xs[i]? = some x → Same G G' → B G' v (ei x) σ2 → ∀ s0 H0 C cl fp, EvT (bX X scope s0 H0 C cl fp) (W.sep (.cell D (.lst acc))) tst σ2 G' (t x))
    (he : ∀ (i : Nat) x v σ2 G' D acc, xs[i]? = some x → t x = true → Same G G' → B G' v (ei x) σ2 → ∀ s0 H0 C cl fp, Ev (bX X scope s0 H0 C cl fp) (W.sep (.cell D (.lst acc))) elt σ2 G' (Sm X.K (P x)))
    {G1 : Hp} (s : Same G G1) (k1 : W.ok G1 H) (q : ∀ v es G' H', Same G1 G' → W.ok G' H' → Paired P (xs.filter t) es → Lt X.K es G' v → wSs X rest D0 (σ.set i (some v)) H')
    (hy : X.N[i]? = some y := by rfl) (hyl : X.env.scope.names.lookup y = some .local := by rfl) (hsw : swapsWith (.ListComp elt [⟨tg, iter, [tst], 0⟩] scope pos) (some (.Name y py)) spos.line X.env = pure true := by exact sw_true rfl rfl rfl (by decide +kernel)) (hs : ∀ x, foldedSetIterable iter X.env x = pure x := by intro _; rfl) :
    wSs X (.Assign [.Name y py] (.ListComp elt [⟨tg, iter, [tst], 0⟩] scope pos) spos :: rest) D0 σ H :=
  ws_setLcB i (t := t) hc hN ok hi hx hn (fun s H C cl fp => pts_one (pbT s H C cl fp)) T (fun i d v σ2 G' H' D acc Q h1 h2 h3 h4 h5 s0 H0 C cl fp => ht i d v σ2 G' D acc h1 h2 h4 s0 H0 C cl fp G' H' Q (Same.refl _) h3 h5) he s k1 q hy hyl hsw hs
/-- whose elements are told by a function -/
theorem ev_lcD {α : Type} {elt tg iter : Expr} {scope : Scope} {own : List (Str × Nat)} {items : List PyData} {xs : List α} {ei : α → PyData} {B : Bnd} (f : α → PyData) (hc : X.calm = true) (hN : X.N.Nodup) (ok : BlkOk X.N X.env.scope scope own) (hi : EvI X W tg iter σ G items) (hx : items = xs.map ei) (hn : xs.length ≤ 1000000)
    (T : TgOk X scope tg σ own G items B)
    (he : ∀ (i : Nat) x v σ2 G' D acc, xs[i]? = some x → Same G G' → B G' v (ei x) σ2 → ∀ s0 H0 C cl fp, Ev (bX X scope s0 H0 C cl fp) (W.sep (.cell D (.lst acc))) elt σ2 G' (Is X.K (f x))) (hs : ∀ x, foldedSetIterable iter X.env x = pure x := by intro _; rfl) :
    Ev X W (.ListComp elt [⟨tg, iter, [], 0⟩] scope pos) σ G (Lt X.K (xs.map f)) :=
  (ev_lcB (P := fun d e => e = f d) hc hN ok hi hx hn T (fun i d v σ2 G' D acc h1 h2 h3 s0 H0 C cl fp => (he i d v σ2 G' D acc h1 h2 h3 s0 H0 C cl fp).imp fun _ _ r => ⟨_, rfl, r⟩) hs).imp fun G v ⟨es, pr, l⟩ => by rw [← pd_map pr]; exact l

/-- the block of a comprehension within a comprehension -/
theorem blkIn {N : List Str} {sc scopeO scope : Scope} {own : List (Str × Nat)} {s0 : Shared} {H0 : Hp} {C : Addr} {cl : List (Str × Addr)} {fp : List Addr} (hN : X.N = N) (hs : X.env.scope = sc) (h : blkC N (relS scopeO sc) scope own = true) :
    BlkOk (bX X scopeO s0 H0 C cl fp).N (bX X scopeO s0 H0 C cl fp).env.scope scope own := by
  subst hN hs
  exact blkOk_by h
/-! ### slices of lists -/
def cutL {α : Type} (xs : List α) (lo hi : Option Int) : List α := (xs.drop (HT.sIx xs.length 0 lo)).take (HT.sIx xs.length xs.length hi - HT.sIx xs.length 0 lo)
def EvO (X : Cx) (W : Wd) (e : Option Expr) (σ : L2.St) (G : Hp) (o : Option Int) : Prop := ∃ t : TO, PO X e t ∧ ∀ (G1 H : Hp) (Q : Option Int → Hp → Prop), Same G G1 → W.ok G1 H → (∀ G' H', Same G1 G' → W.ok G' H' → Q o H') → t σ H Q
theorem eo_none : EvO X W none σ G none := ⟨_, po_none, fun G1 H Q _ k q => q G1 H (Same.refl _) k⟩
theorem eo_some {i : Int} (h : Ev X W e σ G (Is X.K (.int i))) : EvO X W (some e) σ G (some i) := ⟨_, po_some (pE e), fun G1 H Q s k q => h G1 H _ s k fun v G2 H2 s2 k2 r => ⟨i, Dp.int_eq r, q G2 H2 s2 k2⟩⟩
theorem ev_slL {lo hi : Option Expr} {l u : Option Int} {p2 : Pos} (h : Ev X W e σ G (Is X.K (.list ds))) (hl : EvO X W lo σ G l) (hu : EvO X W hi σ G u) : Ev X W (.Subscript e (.Slice lo hi none p2) pos) σ G (Lt X.K (cutL ds l u)) := by
  obtain ⟨tl, pl, hl⟩ := hl
  obtain ⟨tu, pu, hu⟩ := hu
  intro G1 H Q s k q
  refine useE (pe_slice sl_list (pE e) pl pu) (h G1 H _ s k fun v G2 H2 s2 k2 r => hl G2 H2 _ (s.trans s2) k2 fun G3 H3 s3 k3 => hu G3 H3 _ ((s.trans s2).trans s3) k3 fun G4 H4 s4 k4 => ?_)
  obtain ⟨a, xs, rfl, t, dl⟩ := (Dp.sm r (s3.trans s4)).lst_inv
  refine ⟨a, xs, rfl, sqL_same k4.same t, fun p hp => q _ _ _ (((s2.trans s3).trans s4).trans (same_new (k4.free hp))) (k4.new hp) ⟨p, _, rfl, upd_same, ?_⟩⟩
  have e : cutV xs l u = cutL xs l u := rfl
  rw [e]
  unfold cutL
  rw [dl.length]
  exact ((dl.drop _).take _).sm (same_new (k4.free hp))
theorem cutL_from1 {α : Type} (xs : List α) : cutL xs (some 1) none = xs.drop 1 := by
  unfold cutL
  rw [show HT.sIx xs.length 0 (some 1) = min 1 xs.length from HT.sIx_nat xs.length 0 1, HT.sIx_none]
  cases xs with
  | nil => rfl
  | cons x r =>
    rw [show min 1 (x :: r).length = 1 by rw [List.length_cons]; omega]
    show (List.take ((x :: r).length - 1) r) = r
    rw [List.length_cons, Nat.add_sub_cancel]
    exact List.take_length
theorem cutL_to {α : Type} (xs : List α) (n : Nat) (h : xs.length ≤ n) : cutL xs none (some (n : Int)) = xs := by
  unfold cutL
  rw [HT.sIx_none, show HT.sIx xs.length xs.length (some (n : Int)) = min n xs.length from HT.sIx_nat xs.length xs.length n, List.drop_zero, Nat.sub_zero, Nat.min_eq_right h]
  exact List.take_length

/-! ### statements -/
section
variable {rest body orelse : List Stmt} {D : Ends} {G1 : Hp}
theorem ws_nil (h : D.nx σ H) : wSs X [] D σ H := useSs pss_nil h
theorem ws_cons {st : Stmt} (h : wS X st { D with nx := wSs X rest D } σ H) : wSs X (st :: rest) D σ H := useSs (pss_cons (pS st) (pSs rest)) h
theorem ws_ret (h : wE X e σ H D.rt) : wSs X (.Return (some e) pos :: rest) D σ H := useSs (pss_cons (ps_ret (pE e)) (pSs rest)) h
theorem ws_retN (h : D.rt .non H) : wSs X (.Return none pos :: rest) D σ H := useSs (pss_cons ps_retN (pSs rest)) h
theorem ws_retE (he : Ev X W e σ G R) (s : Same G G1) (k1 : W.ok G1 H) (q : ∀ v G' H', Same G1 G' → W.ok G' H' → R G' v → D.rt v H') : wSs X (.Return (some e) pos :: rest) D σ H := ws_ret (he G1 H _ s k1 q)
theorem ws_set {p' : Pos} (i : Nat) (h : wE X e σ H fun v H' => wSs X rest D (σ.set i (some v)) H') (hN : X.N.Nodup) (hi : X.N[i]? = some x := by rfl) (hx : Loc X.env.scope x := by first | exact Or.inl rfl | exact Or.inr rfl) (hs : swapsWith e (some (.Name x p')) pos.line X.env = pure false := by rfl)
    (hf : X.fn x = true ∨ X.env.scope.names.lookup x = some .local := by first | exact .inl rfl | exact .inr rfl | assumption) : wSs X (.Assign [.Name x p'] e pos :: rest) D σ H := useSs (pss_cons (ps_set hN hi hx (pE e) hs hf) (pSs rest)) h
theorem ws_expr (h : wE X e σ H fun _ H' => wSs X rest D σ H') (hs : swapsWith e none pos.line X.env = pure false := by rfl) : wSs X (.Expr e pos :: rest) D σ H := useSs (pss_cons (ps_expr (pE e) hs) (pSs rest)) h
theorem ws_if (hc : EvT X W c σ G k) (s : Same G G1) (k1 : W.ok G1 H) (ht : k = true → ∀ G' H', Same G1 G' → W.ok G' H' → wSs X body { D with nx := wSs X rest D } σ H') (hf : k = false → ∀ G' H', Same G1 G' → W.ok G' H' → wSs X orelse { D with nx := wSs X rest D } σ H') :
    wSs X (.If c body orelse pos :: rest) D σ H := useSs (pss_cons (ps_if (pT c) (pSs body) (pSs orelse)) (pSs rest)) <| hc G1 H _ s k1 fun G2 H2 s2 k2 => by
  cases k with
  | true => exact iteT (ht rfl G2 H2 s2 k2)
  | false => exact iteF (hf rfl G2 H2 s2 k2)
/-- if c: .. without else, known not to be -/
theorem ws_ifF (hc : EvT X W c σ G false) (s : Same G G1) (k1 : W.ok G1 H) (h : ∀ G' H', Same G1 G' → W.ok G' H' → wSs X rest D σ H') : wSs X (.If c body [] pos :: rest) D σ H :=
  ws_if hc s k1 (fun z => nomatch z) fun _ G2 H2 s2 k2 => ws_nil (h G2 H2 s2 k2)
theorem ws_for {tg iter : Expr} {items : List PyData} (P : Nat → L2.St → Wd → Hp → Prop) (hi : EvI X W tg iter σ G items) (s : Same G G1) (k1 : W.ok G1 H) (h0 : ∀ G', Same G1 G' → P 0 σ W G')
    (hs : ∀ Gb, Same G1 Gb → ∀ (i : Nat) d σ1 W1 G2 G3 H3 v, items[i]? = some d → Same Gb G2 → P i σ1 W1 G2 → Same G2 G3 → W1.ok G3 H3 → Dp X.K G3 v d →
      wG X tg v σ1 H3 fun σ2 H4 => wSs X body { D with nx := fun σ' H' => ∃ W' G', Same Gb G' ∧ W'.ok G' H' ∧ P (i + 1) σ' W' G', ct := fun σ' H' => ∃ W' G', Same Gb G' ∧ W'.ok G' H' ∧ P (i + 1) σ' W' G', bk := wSs X rest D } σ2 H4)
    (hd : ∀ σ' W' G' H', Same G1 G' → W'.ok G' H' → P items.length σ' W' G' → wSs X rest D σ' H') (hp : PassesOwn (model X.prog X.w) X.A X.env X.xe) (hc : X.calm = true) (hf : ∀ x, foldedSetIterable iter X.env x = pure x := by intro _; rfl) :
    wSs X (.For tg iter body [] pos :: rest) D σ H := useSs (pss_cons (ps_for hp hc (pI tg iter) (pG tg) (pSs body) hf) (pSs rest)) <| hi G1 H _ s k1 fun J G2 H2 s2 k2 hJ => by
  refine ⟨fun i m σ' H' => ∃ W' G', Same G2 G' ∧ W'.ok G' H' ∧ P i σ' W' G' ∧ i ≤ items.length ∧ m = items.length - i, ⟨items.length, W, G2, Same.refl _, k2, h0 _ s2, Nat.zero_le _, rfl⟩, ?_⟩
  rintro i m σ1 H3 ⟨W1, G3, s3, k3, p, hl, rfl⟩
  obtain ⟨go, stop⟩ := hJ W1 G3 H3 i s3 k3
  by_cases hlt : i < items.length
  · have hdt : items[i]? = some items[i] := List.getElem?_eq_getElem hlt
    obtain ⟨g1, y1⟩ := go _ hdt
    refine .inr ⟨g1, fun σ' H' => ∃ W' G', Same G2 G' ∧ W'.ok G' H' ∧ P (i + 1) σ' W' G', fun σ' H' ⟨W', G', a1, a2, a3⟩ => ⟨items.length - (i + 1), by omega, W', G', a1, a2, a3, hlt, rfl⟩, fun v H' yv => ?_⟩
    obtain ⟨G4, s4, k4, dv⟩ := y1 v H' yv
    exact hs G2 s2 i _ σ1 W1 G3 G4 H' v hdt s3 p s4 k4 dv
  · have e : i = items.length := by omega
    subst e
    exact .inl ⟨stop (Nat.le_refl _), hd σ1 W1 G3 H3 (s2.trans s3) k3 p⟩
/-- while c: body, by a word with a measure -/
theorem ws_while (P : Nat → L2.St → Wd → Hp → Prop) (m0 : Nat) (k1 : W.ok G1 H) (h0 : P m0 σ W G1)
    (turn : ∀ m σ1 W1 G2 H2, Same G1 G2 → W1.ok G2 H2 → P m σ1 W1 G2 → ∃ b, EvT X W1 c σ1 G2 b ∧
      (b = true → ∀ G3 H3, Same G2 G3 → W1.ok G3 H3 → wSs X body { D with nx := fun σ' H' => ∃ m' W' G', m' < m ∧ Same G1 G' ∧ W'.ok G' H' ∧ P m' σ' W' G', ct := fun σ' H' => ∃ m' W' G', m' < m ∧ Same G1 G' ∧ W'.ok G' H' ∧ P m' σ' W' G', bk := wSs X rest D } σ1 H3) ∧
      (b = false → ∀ G3 H3, Same G2 G3 → W1.ok G3 H3 → wSs X rest D σ1 H3)) (hp : PassesOwn (model X.prog X.w) X.A X.env X.xe) :
    wSs X (.While c body [] pos :: rest) D σ H := useSs (pss_cons (ps_while hp (pT c) (pSs body)) (pSs rest)) <| by
  refine ⟨fun m σ' H' => ∃ W' G', Same G1 G' ∧ W'.ok G' H' ∧ P m σ' W' G', ⟨m0, W, G1, Same.refl _, k1, h0⟩, ?_⟩
  rintro m σ1 H2 ⟨W1, G2, s2, k2, p⟩
  obtain ⟨b, ev, ht, hf⟩ := turn m σ1 W1 G2 H2 s2 k2 p
  refine ev G2 H2 _ (Same.refl _) k2 fun G3 H3 s3 k3 => ?_
  cases b with
  | true => exact iteT ⟨fun σ' H' => ∃ m' W' G', m' < m ∧ Same G1 G' ∧ W'.ok G' H' ∧ P m' σ' W' G', fun σ' H' ⟨m', W', G', h1, h2, h3, h4⟩ => ⟨m', h1, W', G', h2, h3, h4⟩, ht rfl G3 H3 s3 k3⟩
  | false => exact iteF (hf rfl G3 H3 s3 k3)
/-- x, y = a, b -/
theorem ws_par {x y : Str} {px py pt : Pos} {kt k2 : Nat} {pt2 : Pos} {d1 d2 : PyData} (i j : Nat) (ha : Ev X W a σ G (Is X.K d1)) (hb : Ev X W b σ G (Is X.K d2)) (s : Same G G1) (k1 : W.ok G1 H)
    (q : ∀ v1 v2 G' H', Same G1 G' → W.ok G' H' → Dp X.K G' v1 d1 → Dp X.K G' v2 d2 → wSs X rest D ((σ.set i (some v1)).set j (some v2)) H')
    (hc : X.calm = true) (hN : X.N.Nodup) (hi : X.N[i]? = some x := by rfl) (hj : X.N[j]? = some y := by rfl) (hij : i ≠ j := by decide) (hx : X.env.scope.names.lookup x = some .local := by rfl) (hy : X.env.scope.names.lookup y = some .local := by rfl)
    (hw : swappedStores [.Tuple [.Name x px, .Name y py] kt pt] (.Tuple [a, b] k2 pt2) X.env = pure (some [x, y]) := by rfl)
    (hs : swapsWithSole [.Tuple [.Name x px, .Name y py] kt pt] (.Tuple [a, b] k2 pt2) pos.line X.env = pure false := by rfl) (he : Pl X a [b] := by rfl) (he2 : Pl X b [] := by rfl) :
    wSs X (.Assign [.Tuple [.Name x px, .Name y py] kt pt] (.Tuple [a, b] k2 pt2) pos :: rest) D σ H :=
  useSs (pss_cons (ps_par hc hN hi hj hij hx hy (pA [a, b]) hw hs) (pSs rest)) <| (ea_cons ha (ea1 hb he2) he) G1 H _ s k1 fun vs G2 H2 s2 k2 r => by
    obtain ⟨v1, v2, rfl, h1, h2⟩ := dpAll_two r
    exact ⟨v1, v2, rfl, q v1 v2 G2 H2 s2 k2 h1 h2⟩
/-- x = e, e data -/
theorem ws_setE {p' : Pos} (i : Nat) (he : Ev X W e σ G R) (s : Same G G1) (k1 : W.ok G1 H) (q : ∀ v G' H', Same G1 G' → W.ok G' H' → R G' v → wSs X rest D (σ.set i (some v)) H')
    (hN : X.N.Nodup) (hi : X.N[i]? = some x := by rfl) (hx : Loc X.env.scope x := by first | exact Or.inl rfl | exact Or.inr rfl) (hs : swapsWith e (some (.Name x p')) pos.line X.env = pure false := by rfl)
    (hf : X.fn x = true ∨ X.env.scope.names.lookup x = some .local := by first | exact .inl rfl | exact .inr rfl | assumption) : wSs X (.Assign [.Name x p'] e pos :: rest) D σ H := ws_set i (he G1 H _ s k1 q) hN hi hx hs hf
/-- a, b, .. = e, a tuple of data -/
theorem ws_tupE {ts : List Expr} {kt : Nat} {pt : Pos} (he : Ev X W e σ G (Is X.K (.tuple ds))) (s : Same G G1) (k1 : W.ok G1 H) (q : ∀ vs G' H', Same G1 G' → W.ok G' H' → DpAll X.K G' vs ds → wGs X ts vs σ H' (wSs X rest D))
    (hc : X.calm = true) (hl : ds.length = ts.length := by rfl) (hn : (assignEach ts X.env).length = ts.length := by rfl) (hst : (assignEach ts X.env).findIdx? (·.1) = none := by rfl)
    (hs : swapsWithSole [.Tuple ts kt pt] e pos.line X.env = pure false := by rfl) (hw : swappedStores [.Tuple ts kt pt] e X.env = pure none := by rfl) (h1 : (assignEach [.Tuple ts kt pt] X.env).map (·.2) = [assign (.Tuple ts kt pt) X.env] := by rfl) :
    wSs X (.Assign [.Tuple ts kt pt] e pos :: rest) D σ H := useSs (pss_cons (ps_asg (pE e) (pG _) hs hw h1) (pSs rest)) <| he G1 H _ s k1 fun v G2 H2 s2 k2 r => by
  obtain ⟨a, xs, rfl, t, l⟩ := Dp.tup_inv r
  exact wg_tup hc r k2.same (fun vs hv => q vs G2 H2 s2 k2 hv) hl hn hst
end
end
end K12
/-! KT: the text by places (printed by gen_text.py). -/
namespace K12
open PySem PySem.Spec PyProof.Rows L2
def topS (i : Nat) : Stmt := PySem.Challenge.pw_tellsless_k12_whole_led_by_own_sums.main.body.getD i (.Pass ⟨0, 0, 0, 0⟩)
abbrev s_BadHouse_init : Stmt := inClass (topS 2) 0
abbrev n_BadHouse_init : List Str := ["self", "place"]
theorem sc_BadHouse_init : FnScope n_BadHouse_init ["self", "place"] (defScope s_BadHouse_init) := ⟨rfl, rfl, rfl, by decide +kernel, rfl, by decide +kernel, by decide +kernel⟩
abbrev s_is_integer : Stmt := topS 7
abbrev n_is_integer : List Str := ["thing"]
theorem sc_is_integer : FnScope n_is_integer ["thing"] (defScope s_is_integer) := ⟨rfl, rfl, rfl, by decide +kernel, rfl, by decide +kernel, by decide +kernel⟩
abbrev s_is_within : Stmt := topS 8
abbrev n_is_within : List Str := ["thing", "least", "most"]
theorem sc_is_within : FnScope n_is_within ["thing", "least", "most"] (defScope s_is_within) := ⟨rfl, rfl, rfl, by decide +kernel, rfl, by decide +kernel, by decide +kernel⟩
abbrev s_is_sized : Stmt := topS 9
abbrev n_is_sized : List Str := ["thing", "least", "most"]
theorem sc_is_sized : FnScope n_is_sized ["thing", "least", "most"] (defScope s_is_sized) := ⟨rfl, rfl, rfl, by decide +kernel, rfl, by decide +kernel, by decide +kernel⟩
abbrev s_is_pair : Stmt := topS 10
abbrev n_is_pair : List Str := ["thing"]
theorem sc_is_pair : FnScope n_is_pair ["thing"] (defScope s_is_pair) := ⟨rfl, rfl, rfl, by decide +kernel, rfl, by decide +kernel, by decide +kernel⟩
abbrev s_is_triple : Stmt := topS 11
abbrev n_is_triple : List Str := ["thing"]
theorem sc_is_triple : FnScope n_is_triple ["thing"] (defScope s_is_triple) := ⟨rfl, rfl, rfl, by decide +kernel, rfl, by decide +kernel, by decide +kernel⟩
abbrev s_are_rising : Stmt := topS 12
abbrev n_are_rising : List Str := ["things", "one", "other"]
theorem sc_are_rising : FnScope n_are_rising ["things"] (defScope s_are_rising) := ⟨rfl, rfl, rfl, by decide +kernel, rfl, by decide +kernel, by decide +kernel⟩
abbrev s_divisor : Stmt := topS 16
abbrev n_divisor : List Str := ["one", "other"]
theorem sc_divisor : FnScope n_divisor ["one", "other"] (defScope s_divisor) := ⟨rfl, rfl, rfl, by decide +kernel, rfl, by decide +kernel, by decide +kernel⟩
abbrev s_lowest : Stmt := topS 17
abbrev n_lowest : List Str := ["top", "bottom", "common"]
theorem sc_lowest : FnScope n_lowest ["top", "bottom"] (defScope s_lowest) := ⟨rfl, rfl, rfl, by decide +kernel, rfl, by decide +kernel, by decide +kernel⟩
abbrev s_plus : Stmt := topS 18
abbrev n_plus : List Str := ["one", "other"]
theorem sc_plus : FnScope n_plus ["one", "other"] (defScope s_plus) := ⟨rfl, rfl, rfl, by decide +kernel, rfl, by decide +kernel, by decide +kernel⟩
abbrev s_times : Stmt := topS 19
abbrev n_times : List Str := ["one", "other"]
theorem sc_times : FnScope n_times ["one", "other"] (defScope s_times) := ⟨rfl, rfl, rfl, by decide +kernel, rfl, by decide +kernel, by decide +kernel⟩
abbrev s_total : Stmt := topS 20
abbrev n_total : List Str := ["fractions", "found", "one"]
theorem sc_total : FnScope n_total ["fractions"] (defScope s_total) := ⟨rfl, rfl, rfl, by decide +kernel, rfl, by decide +kernel, by decide +kernel⟩
abbrev s_is_fraction : Stmt := topS 21
abbrev n_is_fraction : List Str := ["thing"]
theorem sc_is_fraction : FnScope n_is_fraction ["thing"] (defScope s_is_fraction) := ⟨rfl, rfl, rfl, by decide +kernel, rfl, by decide +kernel, by decide +kernel⟩
abbrev s_is_chance : Stmt := topS 22
abbrev n_is_chance : List Str := ["thing"]
theorem sc_is_chance : FnScope n_is_chance ["thing"] (defScope s_is_chance) := ⟨rfl, rfl, rfl, by decide +kernel, rfl, by decide +kernel, by decide +kernel⟩
abbrev s_is_share : Stmt := topS 23
abbrev n_is_share : List Str := ["thing"]
theorem sc_is_share : FnScope n_is_share ["thing"] (defScope s_is_share) := ⟨rfl, rfl, rfl, by decide +kernel, rfl, by decide +kernel, by decide +kernel⟩
abbrev s_are_shares : Stmt := topS 24
abbrev n_are_shares : List Str := ["things", "one"]
theorem sc_are_shares : FnScope n_are_shares ["things"] (defScope s_are_shares) := ⟨rfl, rfl, rfl, by decide +kernel, rfl, by decide +kernel, by decide +kernel⟩
abbrev s_is_word : Stmt := topS 35
abbrev n_is_word : List Str := ["thing", "number"]
theorem sc_is_word : FnScope n_is_word ["thing"] (defScope s_is_word) := ⟨rfl, rfl, rfl, by decide +kernel, rfl, by decide +kernel, by decide +kernel⟩
abbrev s_is_answer : Stmt := topS 36
abbrev n_is_answer : List Str := ["worlds", "thing", "chance"]
theorem sc_is_answer : FnScope n_is_answer ["worlds", "thing"] (defScope s_is_answer) := ⟨rfl, rfl, rfl, by decide +kernel, rfl, by decide +kernel, by decide +kernel⟩
abbrev s_added_weights : Stmt := topS 37
abbrev n_added_weights : List Str := ["worlds", "question", "world", "answer"]
theorem sc_added_weights : FnScope n_added_weights ["worlds", "question"] (defScope s_added_weights) := ⟨rfl, rfl, rfl, by decide +kernel, rfl, by decide +kernel, by decide +kernel⟩
abbrev s_wrong_in_node : Stmt := topS 38
abbrev n_wrong_in_node : List Str := ["worlds", "node", "ahead", "place", "number", "question", "wrong"]
theorem sc_wrong_in_node : FnScope n_wrong_in_node ["worlds", "node", "ahead", "place"] (defScope s_wrong_in_node) := ⟨rfl, rfl, rfl, by decide +kernel, rfl, by decide +kernel, by decide +kernel⟩
abbrev s_wrong_in_question : Stmt := topS 39
abbrev n_wrong_in_question : List Str := ["worlds", "question", "ahead", "place", "number", "answer", "wrong"]
theorem sc_wrong_in_question : FnScope n_wrong_in_question ["worlds", "question", "ahead", "place"] (defScope s_wrong_in_question) := ⟨rfl, rfl, rfl, by decide +kernel, rfl, by decide +kernel, by decide +kernel⟩
abbrev s_count_answers : Stmt := topS 40
abbrev n_count_answers : List Str := ["node", "question", "answer"]
theorem sc_count_answers : FnScope n_count_answers ["node"] (defScope s_count_answers) := ⟨rfl, rfl, rfl, by decide +kernel, rfl, by decide +kernel, by decide +kernel⟩
abbrev s_most_rounds : Stmt := topS 41
abbrev n_most_rounds : List Str := ["node", "question", "answer"]
theorem sc_most_rounds : FnScope n_most_rounds ["node"] (defScope s_most_rounds) := ⟨rfl, rfl, rfl, by decide +kernel, rfl, by decide +kernel, by decide +kernel⟩
abbrev s_House_init : Stmt := inClass (topS 42) 0
abbrev n_House_init : List Str := ["self", "worlds", "tree", "wrong"]
theorem sc_House_init : FnScope n_House_init ["self", "worlds", "tree"] (defScope s_House_init) := ⟨rfl, rfl, rfl, by decide +kernel, rfl, by decide +kernel, by decide +kernel⟩
abbrev s_House_eq : Stmt := inClass (topS 42) 1
abbrev n_House_eq : List Str := ["self", "other"]
theorem sc_House_eq : FnScope n_House_eq ["self", "other"] (defScope s_House_eq) := ⟨rfl, rfl, rfl, by decide +kernel, rfl, by decide +kernel, by decide +kernel⟩
abbrev s_RawHouse_init : Stmt := inClass (topS 43) 0
abbrev n_RawHouse_init : List Str := ["self", "worlds", "tree"]
theorem sc_RawHouse_init : FnScope n_RawHouse_init ["self", "worlds", "tree"] (defScope s_RawHouse_init) := ⟨rfl, rfl, rfl, by decide +kernel, rfl, by decide +kernel, by decide +kernel⟩
abbrev s_made : Stmt := topS 44
abbrev n_made : List Str := ["worlds", "tree"]
theorem sc_made : FnScope n_made ["worlds", "tree"] (defScope s_made) := ⟨rfl, rfl, rfl, by decide +kernel, rfl, by decide +kernel, by decide +kernel⟩
abbrev s_check_alike : Stmt := topS 45
abbrev n_check_alike : List Str := ["one", "other"]
theorem sc_check_alike : FnScope n_check_alike ["one", "other"] (defScope s_check_alike) := ⟨rfl, rfl, rfl, by decide +kernel, rfl, by decide +kernel, by decide +kernel⟩
abbrev s_shape_of : Stmt := topS 46
abbrev n_shape_of : List Str := ["node", "question", "answer"]
theorem sc_shape_of : FnScope n_shape_of ["node"] (defScope s_shape_of) := ⟨rfl, rfl, rfl, by decide +kernel, rfl, by decide +kernel, by decide +kernel⟩
abbrev s_are_shaped : Stmt := topS 47
abbrev n_are_shaped : List Str := ["one", "other"]
theorem sc_are_shaped : FnScope n_are_shaped ["one", "other"] (defScope s_are_shaped) := ⟨rfl, rfl, rfl, by decide +kernel, rfl, by decide +kernel, by decide +kernel⟩
abbrev s_is_shaped : Stmt := topS 48
abbrev n_is_shaped : List Str := ["house", "other"]
theorem sc_is_shaped : FnScope n_is_shaped ["house", "other"] (defScope s_is_shaped) := ⟨rfl, rfl, rfl, by decide +kernel, rfl, by decide +kernel, by decide +kernel⟩
abbrev s_is_wait : Stmt := topS 50
abbrev n_is_wait : List Str := ["node", "goal", "thing", "question", "move"]
theorem sc_is_wait : FnScope n_is_wait ["node", "goal", "thing"] (defScope s_is_wait) := ⟨rfl, rfl, rfl, by decide +kernel, rfl, by decide +kernel, by decide +kernel⟩
abbrev s_is_move : Stmt := topS 51
abbrev n_is_move : List Str := ["node", "question", "thing", "word", "number", "rest", "answer", "move"]
theorem sc_is_move : FnScope n_is_move ["node", "question", "thing"] (defScope s_is_move) := ⟨rfl, rfl, rfl, by decide +kernel, rfl, by decide +kernel, by decide +kernel⟩
abbrev s_is_plan_of : Stmt := topS 52
abbrev n_is_plan_of : List Str := ["house", "other", "thing"]
theorem sc_is_plan_of : FnScope n_is_plan_of ["house", "other", "thing"] (defScope s_is_plan_of) := ⟨rfl, rfl, rfl, by decide +kernel, rfl, by decide +kernel, by decide +kernel⟩
abbrev s_is_between_of : Stmt := topS 53
abbrev n_is_between_of : List Str := ["house", "other", "thing", "item"]
theorem sc_is_between_of : FnScope n_is_between_of ["house", "other", "thing"] (defScope s_is_between_of) := ⟨rfl, rfl, rfl, by decide +kernel, rfl, by decide +kernel, by decide +kernel⟩
abbrev s_check_between : Stmt := topS 54
abbrev n_check_between : List Str := ["house", "other", "thing"]
theorem sc_check_between : FnScope n_check_between ["house", "other", "thing"] (defScope s_check_between) := ⟨rfl, rfl, rfl, by decide +kernel, rfl, by decide +kernel, by decide +kernel⟩
abbrev s_tells_of : Stmt := topS 55
abbrev n_tells_of : List Str := ["move", "share", "node", "weights", "found", "word", "number", "rest", "answer", "later"]
theorem sc_tells_of : FnScope n_tells_of ["move", "share", "node", "weights"] (defScope s_tells_of) := ⟨rfl, rfl, rfl, by decide +kernel, rfl, by decide +kernel, by decide +kernel⟩
abbrev s_weights_led : Stmt := topS 56
abbrev n_weights_led : List Str := ["worlds", "standings", "world", "one"]
theorem sc_weights_led : FnScope n_weights_led ["worlds", "standings"] (defScope s_weights_led) := ⟨rfl, rfl, rfl, by decide +kernel, rfl, by decide +kernel, by decide +kernel⟩
abbrev s_question_led : Stmt := topS 57
abbrev n_question_led : List Str := ["worlds", "question", "told", "found", "at", "answer", "standings", "number", "standing"]
theorem sc_question_led : FnScope n_question_led ["worlds", "question", "told"] (defScope s_question_led) := ⟨rfl, rfl, rfl, by decide +kernel, rfl, by decide +kernel, by decide +kernel⟩
abbrev s_node_led : Stmt := topS 58
abbrev n_node_led : List Str := ["worlds", "goal", "standings", "found", "number", "question", "told", "share", "wait", "node", "weights"]
theorem sc_node_led : FnScope n_node_led ["worlds", "goal", "standings"] (defScope s_node_led) := ⟨rfl, rfl, rfl, by decide +kernel, rfl, by decide +kernel, by decide +kernel⟩
abbrev s_led_by : Stmt := topS 59
abbrev n_led_by : List Str := ["house", "other", "between", "ahead", "standings", "share", "plan"]
theorem sc_led_by : FnScope n_led_by ["house", "other", "between"] (defScope s_led_by) := ⟨rfl, rfl, rfl, by decide +kernel, rfl, by decide +kernel, by decide +kernel⟩
abbrev s_led : Stmt := topS 60
abbrev n_led : List Str := ["house", "other", "between"]
theorem sc_led : FnScope n_led ["house", "other", "between"] (defScope s_led) := ⟨rfl, rfl, rfl, by decide +kernel, rfl, by decide +kernel, by decide +kernel⟩
abbrev s_is_between : Stmt := topS 61
abbrev n_is_between : List Str := ["house", "other", "thing"]
theorem sc_is_between : FnScope n_is_between ["house", "other", "thing"] (defScope s_is_between) := ⟨rfl, rfl, rfl, by decide +kernel, rfl, by decide +kernel, by decide +kernel⟩
abbrev s_law_bag : Stmt := topS 63
abbrev n_law_bag : List Str := ["_law_script", "_law_seed", "_law_cell", "_law_great", "_law_always"]
theorem sc_law_bag : FnScope n_law_bag ["_law_script"] (defScope s_law_bag) := ⟨rfl, rfl, rfl, by decide +kernel, rfl, by decide +kernel, by decide +kernel⟩
abbrev s_law_pick : Stmt := topS 64
abbrev n_law_pick : List Str := ["_law_bag_here", "_law_many", "_law_great", "_law_number", "_law_digit"]
theorem sc_law_pick : FnScope n_law_pick ["_law_bag_here", "_law_many"] (defScope s_law_pick) := ⟨rfl, rfl, rfl, by decide +kernel, rfl, by decide +kernel, by decide +kernel⟩
abbrev s_law_some : Stmt := topS 65
abbrev n_law_some : List Str := ["_law_bag_here", "_law_things"]
theorem sc_law_some : FnScope n_law_some ["_law_bag_here", "_law_things"] (defScope s_law_some) := ⟨rfl, rfl, rfl, by decide +kernel, rfl, by decide +kernel, by decide +kernel⟩
abbrev s_law_common : Stmt := topS 66
abbrev n_law_common : List Str := ["_law_one", "_law_other"]
theorem sc_law_common : FnScope n_law_common ["_law_one", "_law_other"] (defScope s_law_common) := ⟨rfl, rfl, rfl, by decide +kernel, rfl, by decide +kernel, by decide +kernel⟩
abbrev s_law_low : Stmt := topS 67
abbrev n_law_low : List Str := ["_law_top", "_law_bottom", "_law_common_here"]
theorem sc_law_low : FnScope n_law_low ["_law_top", "_law_bottom"] (defScope s_law_low) := ⟨rfl, rfl, rfl, by decide +kernel, rfl, by decide +kernel, by decide +kernel⟩
abbrev s_law_plus : Stmt := topS 68
abbrev n_law_plus : List Str := ["_law_one", "_law_other"]
theorem sc_law_plus : FnScope n_law_plus ["_law_one", "_law_other"] (defScope s_law_plus) := ⟨rfl, rfl, rfl, by decide +kernel, rfl, by decide +kernel, by decide +kernel⟩
abbrev s_law_times : Stmt := topS 69
abbrev n_law_times : List Str := ["_law_one", "_law_other"]
theorem sc_law_times : FnScope n_law_times ["_law_one", "_law_other"] (defScope s_law_times) := ⟨rfl, rfl, rfl, by decide +kernel, rfl, by decide +kernel, by decide +kernel⟩
abbrev s_law_shares : Stmt := topS 70
abbrev n_law_shares : List Str := ["_law_bag_here", "_law_many", "_law_least", "_law_parts", "_law_k", "_law_part"]
theorem sc_law_shares : FnScope n_law_shares ["_law_bag_here", "_law_many", "_law_least"] (defScope s_law_shares) := ⟨rfl, rfl, rfl, by decide +kernel, rfl, by decide +kernel, by decide +kernel⟩
abbrev s_law_question : Stmt := topS 71
abbrev n_law_question : List Str := ["_law_bag_here", "_law_worlds", "_law_ahead", "_law_levels", "_law_left", "_law_many", "_law_rows", "_law_found", "_law_k", "_law_word", "_law_weights", "_law_world"]
theorem sc_law_question : FnScope n_law_question ["_law_bag_here", "_law_worlds", "_law_ahead", "_law_levels", "_law_left"] (defScope s_law_question) := ⟨rfl, rfl, rfl, by decide +kernel, rfl, by decide +kernel, by decide +kernel⟩
abbrev s_law_node : Stmt := topS 72
abbrev n_law_node : List Str := ["_law_bag_here", "_law_worlds", "_law_ahead", "_law_levels", "_law_left", "_law_k"]
theorem sc_law_node : FnScope n_law_node ["_law_bag_here", "_law_worlds", "_law_ahead", "_law_levels", "_law_left"] (defScope s_law_node) := ⟨rfl, rfl, rfl, by decide +kernel, rfl, by decide +kernel, by decide +kernel⟩
abbrev s_law_tree : Stmt := topS 73
abbrev n_law_tree : List Str := ["_law_bag_here", "_law_worlds", "_law_levels", "_law_answers", "_law_some_here", "_law_ahead", "_law_left", "_law_k"]
theorem sc_law_tree : FnScope n_law_tree ["_law_bag_here", "_law_worlds", "_law_levels", "_law_answers"] (defScope s_law_tree) := ⟨rfl, rfl, rfl, by decide +kernel, rfl, by decide +kernel, by decide +kernel⟩
abbrev s_law_is : Stmt := topS 74
abbrev n_law_is : List Str := ["_law_found", "_law_due"]
theorem sc_law_is : FnScope n_law_is ["_law_found", "_law_due"] (defScope s_law_is) := ⟨rfl, rfl, rfl, by decide +kernel, rfl, by decide +kernel, by decide +kernel⟩
abbrev s_law_wait : Stmt := topS 75
abbrev n_law_wait : List Str := ["_law_bag_here", "_law_here", "_law_goal", "_law_left", "_law_question_here"]
theorem sc_law_wait : FnScope n_law_wait ["_law_bag_here", "_law_here", "_law_goal", "_law_left"] (defScope s_law_wait) := ⟨rfl, rfl, rfl, by decide +kernel, rfl, by decide +kernel, by decide +kernel⟩
abbrev s_law_move : Stmt := topS 76
abbrev n_law_move : List Str := ["_law_bag_here", "_law_here", "_law_question_here", "_law_left", "_law_a", "_law_q", "_law_word", "_law_weights", "_law_behind"]
theorem sc_law_move : FnScope n_law_move ["_law_bag_here", "_law_here", "_law_question_here", "_law_left"] (defScope s_law_move) := ⟨rfl, rfl, rfl, by decide +kernel, rfl, by decide +kernel, by decide +kernel⟩
abbrev s_law_between : Stmt := topS 77
abbrev n_law_between : List Str := ["_law_bag_here", "_law_one", "_law_other", "_law_plans", "_law_shares_here", "_law_share"]
theorem sc_law_between : FnScope n_law_between ["_law_bag_here", "_law_one", "_law_other", "_law_plans"] (defScope s_law_between) := ⟨rfl, rfl, rfl, by decide +kernel, rfl, by decide +kernel, by decide +kernel⟩
abbrev s_law_told : Stmt := topS 78
abbrev n_law_told : List Str := ["_law_move_here", "_law_worlds", "_law_here", "_law_weights", "_law_path", "_law_q", "_law_found", "_law_told_here", "_law_elder", "_law_number", "_law_later", "_law_k", "_law_word", "_law_there", "_law_behind"]
theorem sc_law_told : FnScope n_law_told ["_law_move_here", "_law_worlds", "_law_here", "_law_weights", "_law_path", "_law_q", "_law_found"] (defScope s_law_told) := ⟨rfl, rfl, rfl, by decide +kernel, rfl, by decide +kernel, by decide +kernel⟩
abbrev s_law_made_by : Stmt := topS 79
abbrev n_law_made_by : List Str := ["_law_worlds", "_law_tree_here", "_law_plan", "_law_found", "_law_number", "_law_move_here"]
theorem sc_law_made_by : FnScope n_law_made_by ["_law_worlds", "_law_tree_here", "_law_plan"] (defScope s_law_made_by) := ⟨rfl, rfl, rfl, by decide +kernel, rfl, by decide +kernel, by decide +kernel⟩
abbrev s_law_led : Stmt := topS 80
abbrev n_law_led : List Str := ["_law_worlds", "_law_tree_here", "_law_between_here", "_law_found", "_law_share", "_law_plan", "_law_path", "_law_weights", "_law_elder", "_law_k"]
theorem sc_law_led : FnScope n_law_led ["_law_worlds", "_law_tree_here", "_law_between_here"] (defScope s_law_led) := ⟨rfl, rfl, rfl, by decide +kernel, rfl, by decide +kernel, by decide +kernel⟩
abbrev s_law_shaped : Stmt := topS 81
abbrev n_law_shaped : List Str := ["_law_node_here", "_law_path", "_law_worlds", "_law_found", "_law_some_here", "_law_q", "_law_question_here", "_law_answers", "_law_a", "_law_here", "_law_word", "_law_weights", "_law_behind"]
theorem sc_law_shaped : FnScope n_law_shaped ["_law_node_here", "_law_path", "_law_worlds", "_law_found"] (defScope s_law_shaped) := ⟨rfl, rfl, rfl, by decide +kernel, rfl, by decide +kernel, by decide +kernel⟩
abbrev s_law_with_hopeless : Stmt := topS 82
abbrev n_law_with_hopeless : List Str := ["_law_bag_here", "_law_worlds", "_law_node_here", "_law_found", "_law_question_here", "_law_answers", "_law_nought", "_law_word", "_law_weights", "_law_behind"]
theorem sc_law_with_hopeless : FnScope n_law_with_hopeless ["_law_bag_here", "_law_worlds", "_law_node_here"] (defScope s_law_with_hopeless) := ⟨rfl, rfl, rfl, by decide +kernel, rfl, by decide +kernel, by decide +kernel⟩
abbrev s_law_two : Stmt := topS 83
abbrev n_law_two : List Str := ["_law_bag_here", "_law_levels", "_law_answers", "_law_worlds"]
theorem sc_law_two : FnScope n_law_two ["_law_bag_here", "_law_levels", "_law_answers"] (defScope s_law_two) := ⟨rfl, rfl, rfl, by decide +kernel, rfl, by decide +kernel, by decide +kernel⟩
abbrev s_law_flag : Stmt := topS 84
abbrev n_law_flag : List Str := ["_law_told_here", "_law_due"]
theorem sc_law_flag : FnScope n_law_flag ["_law_told_here", "_law_due"] (defScope s_law_flag) := ⟨rfl, rfl, rfl, by decide +kernel, rfl, by decide +kernel, by decide +kernel⟩
abbrev s_law : Stmt := topS 85
abbrev n_law : List Str := ["_law_script", "_law_bag_here", "_law_turn", "_law_one", "_law_between_here", "_law_due", "_law_told_here", "_law_worlds", "_law_other", "_law_house", "_law_second"]
theorem sc_law : FnScope n_law ["_law_script"] (defScope s_law) := ⟨rfl, rfl, rfl, by decide +kernel, rfl, by decide +kernel, by decide +kernel⟩
end K12
/-! K5: what the top has written; a def over data by its body. -/
namespace K12
open PySem PySem.Spec PyProof.Rows L2

/-- the def x of the text stands behind the top -/
structure At (K : PySem.W.Frag) (mg : Str → Option Value) (x : Str) (st : Stmt) (ps : List Str) : Prop where
  ex : ∃ (f : Addr) (fd : FuncData), L2.Fun K x x st f fd ∧ mg x = some (.ref f) ∧ Binds K fd ps []
/-- fractions -/
def encR (q : Rat) : PyData := .tuple [.int q.num, .int q.den]
/-- the top's other names -/
structure Txt (K : PySem.W.Frag) (mg : Str → Option Value) : Prop where
  isi : mg "isinstance" = none
  zint : mg "int" = none
  zbool : mg "bool" = none
  zstr : mg "str" = none
  ztuple : mg "tuple" = none
  len : mg "len" = none
  abs : mg "abs" = none
  sum : mg "sum" = none
  max : mg "max" = none
  all : mg "all" = none
  range : mg "range" = none
  zip : mg "zip" = none
  enum : mg "enumerate" = none
  repr : mg "repr" = none
  nought : GC K mg "NOUGHT" (encR 0)
  one : GC K mg "ONE" (encR 1)
  worlds : GC K mg "MOST_WORLDS" (.int 5)
  questions : GC K mg "MOST_QUESTIONS" (.int 5)
  answers : GC K mg "MOST_ANSWERS" (.int 12)
  numbers : GC K mg "MOST_NUMBERS" (.int 8)
  number : GC K mg "MOST_NUMBER" (.int 99)
  rounds : GC K mg "MOST_ROUNDS" (.int 8)
  inall : GC K mg "MOST_IN_ALL" (.int 1500)
  mrounds : GC K mg "MADE_ROUNDS" (.int 12)
  minall : GC K mg "MADE_IN_ALL" (.int 3000)
abbrev cx0 (P : Program) (w : World) (K : PySem.W.Frag) (mg : Str → Option Value) (base : Heap) (N : List Str) (x : Str) (st : Stmt) (f : Addr) (cdv : Value) (A : Around) (outer : List Env) (s : Shared) (H : Hp) (E : XK) : Cx :=
  (cxOf CX0 P w K mg base N x (defScope st) f cdv A outer s H E).nox
section
variable {P : Program} {w : World} {K : PySem.W.Frag} {mg : Str → Option Value} {base : Heap}
theorem cal_mk {x : Str} {st : Stmt} {N ps : List Str} {k : Nat} {sp : Sp} (A : At K mg x st ps) (S : FnScope N ps (defScope st)) (len : ∀ vs H Q E, sp vs H Q E → vs.length = ps.length)
    (hb : ∀ (f : Addr) (cdv : Value) (A : Around) (outer : List Env) (s : Shared) (H : Hp) (vs : List V) (Q : VK) (E : XK), Room k (A.deeper (envOfC x (defScope st) s.heap.objs.size f cdv)) → sp vs H Q E →
      wSs (cx0 P w K mg base N x st f cdv A outer s H E) (defBody st) { nx := fun _ H' => Q .non H', rt := Q } (start N vs) H) : C8.Cal P w K mg base (k + 1) x sp [] := by
  obtain ⟨f, fd, F, hm, b⟩ := A.ex
  exact ⟨f, fd, ps, [], F.ok S len (fun cdv A outer s H vs Q E hr h => ⟨_, pSs _, hb f cdv A outer s H vs Q E hr h⟩), hm, F.kp, b, .nil⟩
theorem calD_mk {x : Str} {st : Stmt} {N ps : List Str} {k n : Nat} {dom : List PyData → PyData → Prop} (A : At K mg x st ps) (S : FnScope N ps (defScope st)) (hl : ps.length = n)
    (hb : ∀ (f : Addr) (cdv : Value) (A : Around) (outer : List Env) (s : Shared) (H : Hp) (vs : List V) (Q : VK) (E : XK), Room k (A.deeper (envOfC x (defScope st) s.heap.objs.size f cdv)) →
      ∀ (W : Wd) (G : Hp) (ds : List PyData) (d : PyData), W.ok G H → DpAll K G vs ds → dom ds d → (∀ v G' H', Same G G' → W.ok G' H' → Dp K G' v d → Q v H') →
      wSs (cx0 P w K mg base N x st f cdv A outer s H E) (defBody st) { nx := fun _ H' => Q .non H', rt := Q } (start N vs) H) : CalD P w K mg base (k + 1) x n dom :=
  cal_mk A S (fun vs H Q E ⟨W, G, ds, d, _, h, hn, _⟩ => by rw [h.length, hn, hl]) fun f cdv A outer s H vs Q E hr ⟨W, G, ds, d, h1, h2, _, h4, h5⟩ => hb f cdv A outer s H vs Q E hr W G ds d h1 h2 h4 h5
end
end K12
/-! D1: checks. -/
namespace K12
open PySem PySem.Spec PyProof.Rows L2
section
variable {P : Program} {w : World} {K : PySem.W.Frag} {mg : Str → Option Value} {base : Heap}
def isIntD : PyData → Bool
  | .int _ => true
  | _ => false
def is_int : PyData → Bool
  | .int _ => true
  | .bool _ => true
  | _ => false
theorem kit_int : ∀ d : PyData, kitB (tyName d) "int" = some (is_int d)
  | .none => (by decide +kernel : kitB "NoneType" "int" = some false)
  | .bool _ => (by decide +kernel : kitB "bool" "int" = some true)
  | .int _ => (by decide +kernel : kitB "int" "int" = some true)
  | .str _ => (by decide +kernel : kitB "str" "int" = some false)
  | .list _ => (by decide +kernel : kitB "list" "int" = some false)
  | .tuple _ => (by decide +kernel : kitB "tuple" "int" = some false)
  | .dict _ => (by decide +kernel : kitB "dict" "int" = some false)
def is_bool : PyData → Bool
  | .bool _ => true
  | _ => false
theorem kit_bool : ∀ d : PyData, kitB (tyName d) "bool" = some (is_bool d)
  | .none => (by decide +kernel : kitB "NoneType" "bool" = some false)
  | .bool _ => (by decide +kernel : kitB "bool" "bool" = some true)
  | .int _ => (by decide +kernel : kitB "int" "bool" = some false)
  | .str _ => (by decide +kernel : kitB "str" "bool" = some false)
  | .list _ => (by decide +kernel : kitB "list" "bool" = some false)
  | .tuple _ => (by decide +kernel : kitB "tuple" "bool" = some false)
  | .dict _ => (by decide +kernel : kitB "dict" "bool" = some false)
def is_tuple : PyData → Bool
  | .tuple _ => true
  | _ => false
theorem kit_tuple : ∀ d : PyData, kitB (tyName d) "tuple" = some (is_tuple d)
  | .none => (by decide +kernel : kitB "NoneType" "tuple" = some false)
  | .bool _ => (by decide +kernel : kitB "bool" "tuple" = some false)
  | .int _ => (by decide +kernel : kitB "int" "tuple" = some false)
  | .str _ => (by decide +kernel : kitB "str" "tuple" = some false)
  | .list _ => (by decide +kernel : kitB "list" "tuple" = some false)
  | .tuple _ => (by decide +kernel : kitB "tuple" "tuple" = some true)
  | .dict _ => (by decide +kernel : kitB "dict" "tuple" = some false)
def is_str : PyData → Bool
  | .str _ => true
  | _ => false
theorem kit_str : ∀ d : PyData, kitB (tyName d) "str" = some (is_str d)
  | .none => (by decide +kernel : kitB "NoneType" "str" = some false)
  | .bool _ => (by decide +kernel : kitB "bool" "str" = some false)
  | .int _ => (by decide +kernel : kitB "int" "str" = some false)
  | .str _ => (by decide +kernel : kitB "str" "str" = some true)
  | .list _ => (by decide +kernel : kitB "list" "str" = some false)
  | .tuple _ => (by decide +kernel : kitB "tuple" "str" = some false)
  | .dict _ => (by decide +kernel : kitB "dict" "str" = some false)
def dmInt (ds : List PyData) (d : PyData) : Prop := ∃ x, ds = [x] ∧ d = .bool (isIntD x)
theorem c_is_integer (A : At K mg "is_integer" s_is_integer ["thing"]) (T : Txt K mg) : CalD P w K mg base 1 "is_integer" 1 dmInt := by
  refine calD_mk A sc_is_integer rfl fun f cdv A outer s H vs Q E hr W G ds d k hd hdom q => ?_
  obtain ⟨x, rfl, rfl⟩ := hdom
  obtain ⟨v, rfl, h1⟩ := dpAll_one hd
  refine ws_retE (((ev_and (ev_isi T.isi T.zint boot_intT (kit_ty (kit_int x)) (ev_nm 0 rfl h1)) fun _ => ev_and1 (ev_not (ev_isi T.isi T.zbool boot_boolT (kit_ty (kit_bool x)) (ev_nm 0 rfl h1))))).eq ?_) (Same.refl _) k q
  cases x <;> rfl

def withinD (a b : Int) : PyData → Bool
  | .int i => decide (a ≤ i) && decide (i ≤ b)
  | _ => false
def dmWithin (ds : List PyData) (d : PyData) : Prop := ∃ x a b, ds = [x, .int a, .int b] ∧ d = .bool (withinD a b x)
theorem c_is_within (A : At K mg "is_within" s_is_within ["thing", "least", "most"]) (T : Txt K mg) (c1 : CalD P w K mg base 1 "is_integer" 1 dmInt) :
    CalD P w K mg base 2 "is_within" 3 dmWithin := by
  refine calD_mk A sc_is_within rfl fun f cdv A outer s H vs Q E hr W G ds d k hd hdom q => ?_
  obtain ⟨x, a, b, rfl, rfl⟩ := hdom
  obtain ⟨v1, v2, v3, rfl, h1, h2, h3⟩ := dpAll_three hd
  by_cases hx : ∃ i, x = .int i
  · obtain ⟨i, rfl⟩ := hx
    exact ws_retE (ev_and (ev_call c1 hr (by decide) (ea1 (ev_nm 0 rfl h1)) ⟨_, rfl, rfl⟩) fun _ => ev_and1 (ev_chain (ev_nm 1 rfl h2) (ev_nm 0 rfl h1) (ev_nm 2 rfl h3))) (Same.refl _) k q
  · have e : isIntD x = false := by cases x <;> first | rfl | exact absurd ⟨_, rfl⟩ hx
    have e2 : withinD a b x = false := by cases x <;> first | rfl | exact absurd ⟨_, rfl⟩ hx
    rw [e2] at q
    exact ws_retE (ev_and (m := false) (n := false) (ev_call c1 hr (by decide) (ea1 (ev_nm 0 rfl h1)) ⟨_, rfl, by rw [e]⟩) fun h => nomatch h) (Same.refl _) k q
def lenD : PyData → Nat
  | .tuple l => l.length
  | _ => 0
def sizedD (a b : Int) (x : PyData) : Bool := is_tuple x && (decide (a ≤ lenD x) && decide (lenD x ≤ b))
def dmSized (ds : List PyData) (d : PyData) : Prop := ∃ x a b, ds = [x, .int a, .int b] ∧ d = .bool (sizedD a b x)
theorem is_tuple_of {x : PyData} (h : is_tuple x = true) : ∃ l, x = .tuple l := by cases x <;> first | exact ⟨_, rfl⟩ | cases h
theorem c_is_sized (A : At K mg "is_sized" s_is_sized ["thing", "least", "most"]) (T : Txt K mg) : CalD P w K mg base 1 "is_sized" 3 dmSized := by
  refine calD_mk A sc_is_sized rfl fun f cdv A outer s H vs Q E hr W G ds d k hd hdom q => ?_
  obtain ⟨x, a, b, rfl, rfl⟩ := hdom
  obtain ⟨v1, v2, v3, rfl, h1, h2, h3⟩ := dpAll_three hd
  refine ws_retE (ev_and (ev_isi T.isi T.ztuple boot_tupleT (kit_ty (kit_tuple x)) (ev_nm 0 rfl h1)) fun hx => ?_) (Same.refl _) k q
  obtain ⟨l, rfl⟩ := is_tuple_of hx
  exact ev_and1 (ev_chain (ev_nm 1 rfl h2) (ev_lenT T.len (ev_nm 0 rfl h1)) (ev_nm 2 rfl h3))
def dmPair (ds : List PyData) (d : PyData) : Prop := ∃ x, ds = [x] ∧ d = .bool (is_tuple x && decide ((lenD x : Int) = 2))
theorem c_is_pair (A : At K mg "is_pair" s_is_pair ["thing"]) (T : Txt K mg) : CalD P w K mg base 1 "is_pair" 1 dmPair := by
  refine calD_mk A sc_is_pair rfl fun f cdv A outer s H vs Q E hr W G ds d k hd hdom q => ?_
  obtain ⟨x, rfl, rfl⟩ := hdom
  obtain ⟨v1, rfl, h1⟩ := dpAll_one hd
  refine ws_retE (ev_and (ev_isi T.isi T.ztuple boot_tupleT (kit_ty (kit_tuple x)) (ev_nm 0 rfl h1)) fun hx => ?_) (Same.refl _) k q
  obtain ⟨l, rfl⟩ := is_tuple_of hx
  exact ev_and1 (ev_cmp (ev_lenT T.len (ev_nm 0 rfl h1)) ev_int)
def dmTriple (ds : List PyData) (d : PyData) : Prop := ∃ x, ds = [x] ∧ d = .bool (is_tuple x && decide ((lenD x : Int) = 3))
theorem c_is_triple (A : At K mg "is_triple" s_is_triple ["thing"]) (T : Txt K mg) : CalD P w K mg base 1 "is_triple" 1 dmTriple := by
  refine calD_mk A sc_is_triple rfl fun f cdv A outer s H vs Q E hr W G ds d k hd hdom q => ?_
  obtain ⟨x, rfl, rfl⟩ := hdom
  obtain ⟨v1, rfl, h1⟩ := dpAll_one hd
  refine ws_retE (ev_and (ev_isi T.isi T.ztuple boot_tupleT (kit_ty (kit_tuple x)) (ev_nm 0 rfl h1)) fun hx => ?_) (Same.refl _) k q
  obtain ⟨l, rfl⟩ := is_tuple_of hx
  exact ev_and1 (ev_cmp (ev_lenT T.len (ev_nm 0 rfl h1)) ev_int)
/-- words -/
def encW (w : List Int) : PyData := .tuple (w.map .int)
def risingW (ws : List (List Int)) : Bool := (ws.zip (ws.drop 1)).all fun p => HT.lexLt p.1 p.2
theorem zip_maps {α : Type} {f : α → PyData} : ∀ (as bs : List α), ((as.map f).zip (bs.map f)).map pairD = (as.zip bs).map fun p => .tuple [f p.1, f p.2]
  | [], _ => rfl
  | _ :: _, [] => rfl
  | a :: as, b :: bs => by
    show pairD (f a, f b) :: _ = PyData.tuple [f a, f b] :: _
    exact congrArg _ (zip_maps as bs)
def dmRising (ds : List PyData) (d : PyData) : Prop := ∃ ws : List (List Int), ws.length ≤ 1000 ∧ ds = [.list (ws.map encW)] ∧ d = .bool (risingW ws)
theorem c_are_rising (A : At K mg "are_rising" s_are_rising ["things"]) (T : Txt K mg) : CalD P w K mg base 1 "are_rising" 1 dmRising := by
  refine calD_mk A sc_are_rising rfl fun f cdv A outer s H vs Q E hr W G ds d k hd hdom q => ?_
  obtain ⟨ws, hl, rfl, rfl⟩ := hdom
  obtain ⟨v1, rfl, h1⟩ := dpAll_one hd
  refine ws_retE (Ev.eq (ev_all (bs := (ws.zip (ws.drop 1)).map fun p => HT.lexLt p.1 p.2) T.all rfl (Ev.eq (Ev.dp (ev_lcD (own := [("one", 1), ("other", 2)]) (xs := ws.zip (ws.drop 1)) (ei := fun p => .tuple [encW p.1, encW p.2]) (fun p => .bool (HT.lexLt p.1 p.2)) rfl sc_are_rising.nd
    (blkOk_by (N := n_are_rising) (sc := defScope s_are_rising) (by decide +kernel)) (ei_zipL T.zip (ev_nm 0 rfl h1) (ev_slL (ev_nm 0 rfl h1) (eo_some ev_int) eo_none).dp) ?_ ?_ (tg2 1 2 rfl ?_ sc_are_rising.nd) ?_)) ?_)) ?_) (Same.refl _) k q
  · rw [cutL_from1, ← List.map_drop]
    exact zip_maps ws (ws.drop 1)
  · rw [List.length_zip]; omega
  · intro d hd
    obtain ⟨p, _, rfl⟩ := List.mem_map.mp hd
    exact ⟨_, _, rfl⟩
  · rintro i x v σ2 G' D acc hx s1 ⟨d1, d2, v1, v2, e, a1, a2, rfl⟩ s0 H0 C cl fp
    cases e
    exact ev_ltT hr.units0 (ev_nm 1 rfl a1) (ev_nm 2 rfl a2)
  · rw [List.map_map]; rfl
  · rw [List.all_map]; rfl
end
end K12
/-! D2: numbers. -/
namespace K12
open PySem PySem.Spec PyProof.Rows L2
section
variable {P : Program} {w : World} {K : PySem.W.Frag} {mg : Str → Option Value} {base : Heap}
def dmDivisor (ds : List PyData) (d : PyData) : Prop := ∃ a b : Int, ds = [.int a, .int b] ∧ d = .int (Int.gcd a b)
theorem c_divisor (A : At K mg "divisor" s_divisor ["one", "other"]) (T : Txt K mg) : CalD P w K mg base 1 "divisor" 2 dmDivisor := by
  refine calD_mk A sc_divisor rfl fun f cdv A outer s H vs Q E hr W G ds d k hd hdom q => ?_
  obtain ⟨a, b, rfl, rfl⟩ := hdom
  obtain ⟨v1, v2, rfl, h1, h2⟩ := dpAll_two hd
  refine ws_par 0 1 (ev_abs T.abs (ev_nm 0 rfl h1)) (ev_abs T.abs (ev_nm 1 rfl h2)) (Same.refl _) k (fun v3 v4 G1 H1 s1 k1 h3 h4 => ?_) rfl sc_divisor.nd
  refine ws_while (fun m σ W' G' => W' = W ∧ ∃ x y : Nat, m = y ∧ Nat.gcd x y = Int.gcd a b ∧ σ = [some (.int x), some (.int y)]) b.natAbs k1 ⟨rfl, a.natAbs, b.natAbs, rfl, rfl, by rw [h3.int_eq, h4.int_eq]; rfl⟩ (fun m σ1 W1 G2 H2 s2 k2 ⟨eW, x, y, em, eg, es⟩ => ?_) PassesOwn.never
  subst eW em es
  refine ⟨_, et_cmp (ev_nm 1 rfl (.int _)) ev_int, fun hb G3 H3 s3 k3 => ?_, fun hb G3 H3 s3 k3 => ?_⟩
  · have hy : 0 < m := by
      rcases Nat.eq_zero_or_pos m with e | e
      · subst e; cases hb
      · exact e
    refine ws_par 0 1 (ev_nm 1 rfl (.int _)) (ev_mod (ev_nm 0 rfl (.int _)) (ev_nm 1 rfl (.int _)) (by omega)) (Same.refl _) k3 (fun v5 v6 G4 H4 s4 k4 h5 h6 => ws_nil ?_) rfl sc_divisor.nd
    refine ⟨x % m, _, G4, Nat.mod_lt _ hy, (s2.trans s3).trans s4, k4, rfl, m, x % m, rfl, ?_, ?_⟩
    · rw [← eg, Nat.gcd_comm m (x % m), ← Nat.gcd_rec m x, Nat.gcd_comm]
    · rw [h5.int_eq, h6.int_eq]; rfl
  · have hy : m = 0 := by
      have h : (!decide ((m : Int) = 0)) = false := hb
      simp at h
      exact h
    subst hy
    rw [Nat.gcd_zero_right] at eg
    refine ws_retE ((ev_nm 0 rfl (.int _)).eq ?_) (Same.refl _) k3 (fun v G4 H4 s4 k4 r => q v G4 H4 (((s1.trans s2).trans s3).trans s4) k4 r)
    rw [eg]

def Sq (q : Rat) : Prop := q.num.natAbs < 2 ^ 1000 ∧ q.den < 2 ^ 1000
def dmLowest (ds : List PyData) (d : PyData) : Prop := ∃ (t : Int) (b : Nat), 0 < b ∧ b < 2 ^ 3000 ∧ ds = [.int t, .int b] ∧ d = encR (mkRat t b)
theorem lowest_eq (t : Int) (b : Nat) (hb : 0 < b) : encR (mkRat t b) = .tuple [.int (t / (Int.gcd t b : Int)), .int ((b : Int) / (Int.gcd t b : Int))] := by
  unfold encR
  rw [Rat.num_mkRat, Rat.den_mkRat, if_neg (Nat.ne_of_gt hb), if_neg (Nat.ne_of_gt hb)]
  have e : b.gcd t.natAbs = Int.gcd t b := by unfold Int.gcd; rw [Nat.gcd_comm]; rfl
  rw [e]
  rfl
theorem c_lowest (A : At K mg "lowest" s_lowest ["top", "bottom"]) (T : Txt K mg) (c1 : CalD P w K mg base 1 "divisor" 2 dmDivisor) : CalD P w K mg base 2 "lowest" 2 dmLowest := by
  refine calD_mk A sc_lowest rfl fun f cdv A outer s H vs Q E hr W G ds d k hd hdom q => ?_
  obtain ⟨t, b, hb, hb2, rfl, rfl⟩ := hdom
  obtain ⟨v1, v2, rfl, h1, h2⟩ := dpAll_two hd
  have hg : 0 < Int.gcd t b := Nat.gcd_pos_of_pos_right _ (by simpa using hb)
  have hg2 : Int.gcd t b < 2 ^ 3000 := Nat.lt_of_le_of_lt (Nat.le_of_dvd hb (by have h := Nat.gcd_dvd_right t.natAbs (b : Int).natAbs; exact h)) hb2
  refine ws_setE 2 (ev_if (k := true) ((et_cmp (ev_nm 1 rfl h2) ev_int).eq (by simp [cmpI]; omega)) (fun _ => ev_call c1 hr (by decide) (ea_cons (ev_nm 0 rfl h1) (ea1 (ev_nm 1 rfl h2))) ⟨_, _, rfl, rfl⟩) (fun z => nomatch z)) (Same.refl _) k (fun v3 G1 H1 s1 k1 h3 => ?_) sc_lowest.nd
  have hc : CDivW t (Int.gcd t b : Int) := wide_div (b := 3000) (by omega) (by simpa using hg2) (by decide) (by decide)
  have hc2 : CDivW (b : Int) (Int.gcd t b : Int) := wide_div (b := 3000) (by omega) (by simpa using hg2) (by decide) (by decide)
  exact ws_retE ((ev_tup (ea_cons (ev_fdivW (ev_nm 0 rfl (h1.sm s1)) (ev_nm 2 rfl h3) hc) (ea1 (ev_fdivW (ev_nm 1 rfl (h2.sm s1)) (ev_nm 2 rfl h3) hc2)))).eq (lowest_eq t b hb).symm) (Same.refl _) k1 (fun v G4 H4 s4 k4 r => q v G4 H4 (s1.trans s4) k4 r)
theorem sq_mul {a b : Int} (ha : a.natAbs < 2 ^ 1000) (hb : b.natAbs < 2 ^ 1000) : CMulW a b := wide_mul ha hb (by decide) (by decide) (by decide)
theorem den_lt {a b : Nat} (ha : a < 2 ^ 1000) (hb : b < 2 ^ 1000) : a * b < 2 ^ 3000 := by
  have h : a * b < 2 ^ 1000 * 2 ^ 1000 := Nat.mul_lt_mul'' ha hb
  exact Nat.lt_of_lt_of_le h (by rw [← Nat.pow_add]; exact Nat.pow_le_pow_right (by decide) (by decide))
def dmPlus (ds : List PyData) (d : PyData) : Prop := ∃ a b : Rat, Sq a ∧ Sq b ∧ ds = [encR a, encR b] ∧ d = encR (a + b)
def dmTimes (ds : List PyData) (d : PyData) : Prop := ∃ a b : Rat, Sq a ∧ Sq b ∧ ds = [encR a, encR b] ∧ d = encR (a * b)
theorem c_plus (A : At K mg "plus" s_plus ["one", "other"]) (T : Txt K mg) (c1 : CalD P w K mg base 2 "lowest" 2 dmLowest) : CalD P w K mg base 3 "plus" 2 dmPlus := by
  refine calD_mk A sc_plus rfl fun f cdv A outer s H vs Q E hr W G ds d k hd hdom q => ?_
  obtain ⟨a, b, ha, hb, rfl, rfl⟩ := hdom
  obtain ⟨v1, v2, rfl, h1, h2⟩ := dpAll_two hd
  rw [Rat.add_def'] at q
  refine ws_retE (ev_call c1 hr (by decide) (ea_cons (ev_add (ev_mulW (ev_ix (j := 0) (ev_nm 0 rfl h1) ev_int rfl) (ev_ix (j := 1) (ev_nm 1 rfl h2) ev_int rfl) (sq_mul ha.1 (by simpa using hb.2))) (ev_mulW (ev_ix (j := 0) (ev_nm 1 rfl h2) ev_int rfl) (ev_ix (j := 1) (ev_nm 0 rfl h1) ev_int rfl) (sq_mul hb.1 (by simpa using ha.2))))
    (ea1 (ev_mulW (ev_ix (j := 1) (ev_nm 0 rfl h1) ev_int rfl) (ev_ix (j := 1) (ev_nm 1 rfl h2) ev_int rfl) (sq_mul (by simpa using ha.2) (by simpa using hb.2)))))
    ⟨_, a.den * b.den, Nat.mul_pos a.den_pos b.den_pos, den_lt ha.2 hb.2, by rw [Int.natCast_mul], rfl⟩) (Same.refl _) k q
theorem c_times (A : At K mg "times" s_times ["one", "other"]) (T : Txt K mg) (c1 : CalD P w K mg base 2 "lowest" 2 dmLowest) : CalD P w K mg base 3 "times" 2 dmTimes := by
  refine calD_mk A sc_times rfl fun f cdv A outer s H vs Q E hr W G ds d k hd hdom q => ?_
  obtain ⟨a, b, ha, hb, rfl, rfl⟩ := hdom
  obtain ⟨v1, v2, rfl, h1, h2⟩ := dpAll_two hd
  rw [Rat.mul_def'] at q
  refine ws_retE (ev_call c1 hr (by decide) (ea_cons (ev_mulW (ev_ix (j := 0) (ev_nm 0 rfl h1) ev_int rfl) (ev_ix (j := 0) (ev_nm 1 rfl h2) ev_int rfl) (sq_mul ha.1 hb.1))
    (ea1 (ev_mulW (ev_ix (j := 1) (ev_nm 0 rfl h1) ev_int rfl) (ev_ix (j := 1) (ev_nm 1 rfl h2) ev_int rfl) (sq_mul (by simpa using ha.2) (by simpa using hb.2)))))
    ⟨_, a.den * b.den, Nat.mul_pos a.den_pos b.den_pos, den_lt ha.2 hb.2, by rw [Int.natCast_mul], rfl⟩) (Same.refl _) k q
def sumR : List Rat → Rat
  | [] => 0
  | q :: r => q + sumR r
theorem sumR_append : ∀ as bs : List Rat, sumR (as ++ bs) = sumR as + sumR bs
  | [], bs => by show sumR bs = 0 + sumR bs; rw [Rat.zero_add]
  | a :: as, bs => by show a + sumR (as ++ bs) = a + sumR as + sumR bs; rw [sumR_append as bs, Rat.add_assoc]
theorem sumR_take {l : List Rat} {i : Nat} {a : Rat} (h : l[i]? = some a) : sumR (l.take (i + 1)) = sumR (l.take i) + a := by
  rw [take_snoc h, sumR_append]
  show _ + (a + 0) = _
  rw [Rat.add_zero]
/-- fractions that can be added up -/
def Adds (qs : List Rat) : Prop := qs.length ≤ 1000000 ∧ (∀ q ∈ qs, Sq q) ∧ ∀ i, Sq (sumR (qs.take i))
def dmTotal (ds : List PyData) (d : PyData) : Prop := ∃ qs : List Rat, Adds qs ∧ ds = [.list (qs.map encR)] ∧ d = encR (sumR qs)
theorem c_total (A : At K mg "total" s_total ["fractions"]) (T : Txt K mg) (c1 : CalD P w K mg base 3 "plus" 2 dmPlus) : CalD P w K mg base 4 "total" 1 dmTotal := by
  refine calD_mk A sc_total rfl fun f cdv A outer s H vs Q E hr W G ds d k hd hdom q => ?_
  obtain ⟨qs, ⟨_, ha, hs⟩, rfl, rfl⟩ := hdom
  obtain ⟨v1, rfl, h1⟩ := dpAll_one hd
  refine ws_setE 1 (ev_gc T.nought) (Same.refl _) k (fun v2 G1 H1 s1 k1 h2 => ?_) sc_total.nd
  refine ws_for (fun i σ W' G' => W' = W ∧ ∃ u y, σ = [some v1, some u, y] ∧ Dp K G' u (encR (sumR (qs.take i)))) (ei_list (ev_nm 0 rfl (h1.sm s1))) (Same.refl _) k1 (fun G2 s2 => ⟨rfl, v2, none, rfl, h2.sm s2⟩)
    (fun Gb sb i d σ1 W1 G2 G3 H3 v hi s2 ⟨eW, u, y, es, hu⟩ s3 k3 hv => ?_) (fun σ1 W1 G2 H2 s2 k2 ⟨eW, u, y, es, hu⟩ => ?_) PassesOwn.never rfl
  · subst eW es
    rw [List.getElem?_map] at hi
    cases e : qs[i]? with
    | none => rw [e] at hi; cases hi
    | some a =>
      rw [e] at hi
      cases hi
      refine wg_nm 2 ?_ sc_total.nd
      refine ws_setE 1 (ev_call c1 hr (by decide) (ea_cons (ev_nm 1 rfl (hu.sm s3)) (ea1 (ev_nm 2 rfl hv))) ⟨_, a, hs i, ha a (List.mem_of_getElem? e), rfl, rfl⟩) (Same.refl _) k3 (fun v5 G5 H5 s5 k5 h5 => ws_nil ?_) sc_total.nd
      refine ⟨_, G5, (s2.trans s3).trans s5, k5, rfl, v5, _, rfl, ?_⟩
      rw [sumR_take e]
      exact h5
  · subst eW es
    rw [List.length_map, List.take_length] at hu
    exact ws_retE (ev_nm 1 rfl hu) (Same.refl _) k2 (fun v G4 H4 s4 k4 r => q v G4 H4 ((s1.trans s2).trans s4) k4 r)
end
end K12
/-! M1: trees, moves, what a go-between makes; no program in sight. -/
namespace K12
open PySem

/-! ### trees -/
inductive Nd where
  | mk (qs : List (List (List Int × List Rat × Nd)))
abbrev An := List Int × List Rat × Nd
def Nd.qs : Nd → List (List An)
  | .mk q => q
section
variable {β : Type}
mutual
def fold (f : List (List (List Int × List Rat × β)) → β) : Nd → β
  | .mk qs => f (foldQs f qs)
def foldQs (f : List (List (List Int × List Rat × β)) → β) : List (List (List Int × List Rat × Nd)) → List (List (List Int × List Rat × β))
  | [] => []
  | q :: r => foldAs f q :: foldQs f r
def foldAs (f : List (List (List Int × List Rat × β)) → β) : List (List Int × List Rat × Nd) → List (List Int × List Rat × β)
  | [] => []
  | (w, ws, n) :: r => (w, ws, fold f n) :: foldAs f r
end
theorem foldAs_eq (f) : ∀ q, foldAs (β := β) f q = q.map fun a => (a.1, a.2.1, fold f a.2.2)
  | [] => rfl
  | (w, ws, n) :: r => by rw [foldAs, foldAs_eq f r]; rfl
theorem foldQs_eq (f) : ∀ q, foldQs (β := β) f q = q.map (·.map fun a => (a.1, a.2.1, fold f a.2.2))
  | [] => rfl
  | q :: r => by rw [foldQs, foldQs_eq f r, foldAs_eq]; rfl
theorem fold_eq (f qs) : fold (β := β) f (.mk qs) = f (qs.map (·.map fun a => (a.1, a.2.1, fold f a.2.2))) := by rw [fold, foldQs_eq]
end
/-- as data -/
def encWs (ws : List Rat) : PyData := .tuple (ws.map encR)
def encN : Nd → PyData := fold fun qs => .tuple (qs.map fun q => .tuple (q.map fun a => .tuple [encW a.1, encWs a.2.1, a.2.2]))
def encA (a : An) : PyData := .tuple [encW a.1, encWs a.2.1, encN a.2.2]
def encQ (q : List An) : PyData := .tuple (q.map encA)
theorem encN_eq (nd : Nd) : encN nd = .tuple (nd.qs.map encQ) := by
  obtain ⟨qs⟩ := nd
  unfold encN
  rw [fold_eq, List.map_map]
  congr 1
  apply List.map_congr_left
  intro q _
  show PyData.tuple _ = PyData.tuple _
  rw [List.map_map]
  rfl
/-- how many answers there are -/
def cnt : Nd → Nat := fold fun qs => ((qs.map fun q => (q.map fun a => 1 + a.2.2).sum)).sum
theorem cnt_eq (nd : Nd) : cnt nd = (nd.qs.map fun q => (q.map fun a => 1 + cnt a.2.2).sum).sum := by
  obtain ⟨qs⟩ := nd
  unfold cnt
  rw [fold_eq, List.map_map]
  congr 1
  apply List.map_congr_left
  intro q _
  show (List.map _ (List.map _ q)).sum = _
  rw [List.map_map]
  rfl
/-- the most answers on a way -/
def listMax (l : List Nat) : Nat := l.foldl Nat.max 0
def deep : Nd → Nat := fold fun qs => listMax (qs.flatMap fun q => q.map fun a => 1 + a.2.2)
theorem deep_eq (nd : Nd) : deep nd = listMax (nd.qs.flatMap fun q => q.map fun a => 1 + deep a.2.2) := by
  obtain ⟨qs⟩ := nd
  unfold deep
  rw [fold_eq]
  congr 1
  rw [List.flatMap_map]
  show _ = List.flatMap _ qs
  congr 1
  funext q
  rw [List.map_map]
  rfl
/-- without weights -/
def shp : Nd → PyData := fold fun qs => .tuple (qs.map fun q => .tuple (q.map fun a => .tuple [encW a.1, a.2.2]))
theorem shp_eq (nd : Nd) : shp nd = .tuple (nd.qs.map fun q => .tuple (q.map fun a => .tuple [encW a.1, shp a.2.2])) := by
  obtain ⟨qs⟩ := nd
  unfold shp
  rw [fold_eq, List.map_map]
  congr 1
  apply List.map_congr_left
  intro q _
  show PyData.tuple _ = PyData.tuple _
  rw [List.map_map]
  rfl

/-! ### weights -/
/-- D: what every bottom divides -/
def Rg (D : Nat) (x : Rat) : Prop := 0 ≤ x ∧ x ≤ 1 ∧ x.den ∣ D
def at0 (ws : List Rat) (k : Nat) : Rat := ws.getD k 0
def colsum (W : Nat) (q : List An) : List Rat := (List.range W).map fun k => sumR (q.map fun a => at0 a.2.1 k)
def WordsOk (ws : List (List Int)) : Prop := (∀ w ∈ ws, w.length ≤ 8 ∧ ∀ x ∈ w, 0 ≤ x ∧ x ≤ 99) ∧ risingW ws = true
/-- a right tree of at most n rounds, at most A answers a question -/
def Val (A W D : Nat) : Nat → List Rat → Nd → Prop
  | 0, _, nd => nd.qs = []
  | n + 1, ah, nd => nd.qs.length ≤ 2 ∧ ∀ q ∈ nd.qs, 1 ≤ q.length ∧ q.length ≤ A ∧ WordsOk (q.map (·.1)) ∧ (∀ a ∈ q, a.2.1.length = W ∧ ∀ x ∈ a.2.1, Rg D x) ∧ colsum W q = ah ∧ ∀ a ∈ q, Val A W D n a.2.1 a.2.2
/-- its form alone -/
def Shp (A : Nat) : Nat → Nd → Prop
  | 0, nd => nd.qs = []
  | n + 1, nd => nd.qs.length ≤ 2 ∧ ∀ q ∈ nd.qs, 1 ≤ q.length ∧ q.length ≤ A ∧ ∀ a ∈ q, Shp A n a.2.2
theorem Val.shp {A W D : Nat} : ∀ {n : Nat} {ah : List Rat} {nd : Nd}, Val A W D n ah nd → Shp A n nd
  | 0, _, _, h => h
  | n + 1, _, _, ⟨h1, h2⟩ => ⟨h1, fun q hq => ⟨(h2 q hq).1, (h2 q hq).2.1, fun a ha => Val.shp ((h2 q hq).2.2.2.2.2 a ha)⟩⟩

/-! ### moves -/
inductive Mv where
  | mk (ask : Bool) (k : Nat) (rest : List Mv)
mutual
def encM : Mv → PyData
  | .mk a k rest => .tuple [.str (if a = true then "ask" else "tell"), .int k, .tuple (encMs rest)]
def encMs : List Mv → List PyData
  | [] => []
  | m :: r => encM m :: encMs r
end
theorem encMs_eq : ∀ l, encMs l = l.map encM
  | [] => rfl
  | m :: r => by rw [encMs, encMs_eq r]; rfl
theorem encM_eq (a : Bool) (k : Nat) (rest : List Mv) : encM (.mk a k rest) = .tuple [.str (if a = true then "ask" else "tell"), .int k, .tuple (rest.map encM)] := by rw [encM, encMs_eq]
def encWait (l : List Mv) : PyData := .tuple (l.map encM)
/-- a right move of depth m, the holder at nd, behind the question q -/
def MvOk : Nat → Nd → List An → Mv → Prop
  | 0, _, _, _ => False
  | m + 1, nd, q, .mk false k rest => ∃ a, q[k]? = some a ∧ rest.length = a.2.2.qs.length ∧ ∀ (i : Nat) (mv : Mv) (q' : List An), rest[i]? = some mv → a.2.2.qs[i]? = some q' → MvOk m nd q' mv
  | m + 1, nd, q, .mk true k rest => ∃ p, nd.qs[k]? = some p ∧ rest.length = p.length ∧ ∀ (i : Nat) (mv : Mv) (a : An), rest[i]? = some mv → p[i]? = some a → MvOk m a.2.2 q mv
def WaitOk (m : Nat) (nd goal : Nd) (wait : List Mv) : Prop := wait.length = goal.qs.length ∧ ∀ (i : Nat) (mv : Mv) (q : List An), wait[i]? = some mv → goal.qs[i]? = some q → MvOk m nd q mv
/-- all that a move comes to: the answer, the wait behind it, where the holder stands, the weights there -/
structure Tl where
  a : Nat
  wait : List Mv
  node : Nd
  ws : List Rat
mutual
def tells : Mv → Nd → List Rat → List Tl
  | .mk false k rest, nd, ws => [⟨k, rest, nd, ws⟩]
  | .mk true k rest, nd, _ => tellsL rest (nd.qs.getD k [])
def tellsL : List Mv → List An → List Tl
  | mv :: r, a :: as => tells mv a.2.2 a.2.1 ++ tellsL r as
  | _, _ => []
end
/-- a standing -/
structure Sg where
  share : Rat
  wait : List Mv
  node : Nd
  ws : List Rat
def encS (s : Sg) : PyData := .tuple [encR s.share, encWait s.wait, encN s.node, encWs s.ws]
def noMv : Mv := .mk true 0 []
def told (i : Nat) (S : List Sg) : List (Nat × Sg) := S.flatMap fun s => (tells (s.wait.getD i noMv) s.node s.ws).map fun t => (t.a, ⟨s.share, t.wait, t.node, t.ws⟩)
def pick (a : Nat) (T : List (Nat × Sg)) : List Sg := (T.filter fun t => decide (t.1 = a)).map (·.2)
def wsLed (W : Nat) (S : List Sg) : List Rat := (List.range W).map fun k => sumR (S.map fun s => s.share * at0 s.ws k)
mutual
def ledN (W : Nat) : Nd → List Sg → Nd
  | .mk qs, S => .mk (ledQs W qs 0 S)
def ledQs (W : Nat) : List (List (List Int × List Rat × Nd)) → Nat → List Sg → List (List An)
  | [], _, _ => []
  | q :: r, i, S => ledAs W q 0 (told i S) :: ledQs W r (i + 1) S
def ledAs (W : Nat) : List (List Int × List Rat × Nd) → Nat → List (Nat × Sg) → List An
  | [], _, _ => []
  | (w, _, n) :: r, a, T => (w, wsLed W (pick a T), ledN W n (pick a T)) :: ledAs W r (a + 1) T
end
def ones (W : Nat) : List Rat := List.replicate W 1
def zeros (W : Nat) : List Rat := List.replicate W 0
/-- a go-between: plans with their shares -/
abbrev Btw := List (Rat × List Mv)
def startS (W : Nat) (tree : Nd) (b : Btw) : List Sg := b.map fun p => ⟨p.1, p.2, tree, ones W⟩
def encB (b : Btw) : PyData := .tuple (b.map fun p => .tuple [encR p.1, encWait p.2])
def ledBy (W : Nat) (one other : Nd) (b : Btw) : Nd := ledN W other (startS W one b)
end K12
/-! D3: fractions, words, answers judged. -/
namespace K12
open PySem PySem.Spec PyProof.Rows L2
section
variable {P : Program} {w : World} {K : PySem.W.Frag} {mg : Str → Option Value} {base : Heap}
def dmFrac (ds : List PyData) (d : PyData) : Prop := ∃ q : Rat, ds = [encR q] ∧ d = .bool true
theorem c_is_fraction (A : At K mg "is_fraction" s_is_fraction ["thing"]) (T : Txt K mg) (c1 : CalD P w K mg base 1 "is_pair" 1 dmPair) (c2 : CalD P w K mg base 1 "is_integer" 1 dmInt) (c3 : CalD P w K mg base 1 "divisor" 2 dmDivisor) : CalD P w K mg base 2 "is_fraction" 1 dmFrac := by
  refine calD_mk A sc_is_fraction rfl fun f cdv A outer s H vs Q E hr W G ds d k hd hdom q => ?_
  obtain ⟨x, rfl, rfl⟩ := hdom
  obtain ⟨v1, rfl, h1⟩ := dpAll_one hd
  refine ws_ifF (et_of (ew_orF (et_nT (ev_call c1 hr (by decide) (ea1 (ev_nm 0 rfl h1)) ⟨_, rfl, rfl⟩)) (ew_orF (et_nT (ev_call c2 hr (by decide) (ea1 (ev_ix (j := 0) (ev_nm 0 rfl h1) ev_int rfl)) ⟨_, rfl, rfl⟩))
    (ew_or1 (et_nT (ev_call c2 hr (by decide) (ea1 (ev_ix (j := 1) (ev_nm 0 rfl h1) ev_int rfl)) ⟨_, rfl, rfl⟩)))))) (Same.refl _) k fun G1 H1 s1 k1 => ?_
  refine ws_retE ((ev_and (ev_cmp (ev_ix (j := 1) (ev_nm 0 rfl (h1.sm s1)) ev_int rfl) ev_int) fun _ => ev_and1 (ev_cmp (ev_call c3 hr (by decide) (ea_cons (ev_ix (j := 0) (ev_nm 0 rfl (h1.sm s1)) ev_int rfl) (ea1 (ev_ix (j := 1) (ev_nm 0 rfl (h1.sm s1)) ev_int rfl))) ⟨_, _, rfl, rfl⟩) ev_int)).eq ?_) (Same.refl _) k1 (fun v G4 H4 s4 k4 r => q v G4 H4 (s1.trans s4) k4 r)
  have e1 : Int.gcd x.num (x.den : Int) = 1 := x.reduced
  have e2 := x.den_pos
  rw [e1]
  simp [cmpI]
  omega
def dmChance (ds : List PyData) (d : PyData) : Prop := ∃ q : Rat, 0 ≤ q ∧ q ≤ 1 ∧ ds = [encR q] ∧ d = .bool true
def dmShare (ds : List PyData) (d : PyData) : Prop := ∃ q : Rat, 0 < q ∧ q ≤ 1 ∧ ds = [encR q] ∧ d = .bool true
theorem rat_le1 {q : Rat} (h : q ≤ 1) : q.num ≤ q.den := by
  have := (Rat.le_iff q 1).mp h
  simpa using this
theorem c_is_chance (A : At K mg "is_chance" s_is_chance ["thing"]) (T : Txt K mg) (c1 : CalD P w K mg base 2 "is_fraction" 1 dmFrac) : CalD P w K mg base 3 "is_chance" 1 dmChance := by
  refine calD_mk A sc_is_chance rfl fun f cdv A outer s H vs Q E hr W G ds d k hd hdom q => ?_
  obtain ⟨x, h0, h2, rfl, rfl⟩ := hdom
  obtain ⟨v1, rfl, h1⟩ := dpAll_one hd
  refine ws_retE ((ev_and (ev_call c1 hr (by decide) (ea1 (ev_nm 0 rfl h1)) ⟨_, rfl, rfl⟩) fun _ => ev_and1 (ev_chain ev_int (ev_ix (j := 0) (ev_nm 0 rfl h1) ev_int rfl) (ev_ix (j := 1) (ev_nm 0 rfl h1) ev_int rfl))).eq ?_) (Same.refl _) k q
  have e1 := Rat.num_nonneg.mpr h0
  have e2 := rat_le1 h2
  show PyData.bool (true && (decide ((0 : Int) ≤ x.num) && decide (x.num ≤ x.den))) = _
  rw [decide_eq_true e1, decide_eq_true e2]
  rfl
theorem c_is_share (A : At K mg "is_share" s_is_share ["thing"]) (T : Txt K mg) (c1 : CalD P w K mg base 2 "is_fraction" 1 dmFrac) : CalD P w K mg base 3 "is_share" 1 dmShare := by
  refine calD_mk A sc_is_share rfl fun f cdv A outer s H vs Q E hr W G ds d k hd hdom q => ?_
  obtain ⟨x, h0, h2, rfl, rfl⟩ := hdom
  obtain ⟨v1, rfl, h1⟩ := dpAll_one hd
  refine ws_retE ((ev_and (ev_call c1 hr (by decide) (ea1 (ev_nm 0 rfl h1)) ⟨_, rfl, rfl⟩) fun _ => ev_and1 (ev_chain ev_int (ev_ix (j := 0) (ev_nm 0 rfl h1) ev_int rfl) (ev_ix (j := 1) (ev_nm 0 rfl h1) ev_int rfl))).eq ?_) (Same.refl _) k q
  have e1 : 0 < x.num := by
    have := (Rat.lt_iff 0 x).mp h0
    simpa using this
  have e2 := rat_le1 h2
  simp [cmpI]
  omega
/-- equal data -/
theorem eqv_encR (a b : Rat) : PyData.eqv (encR a) (encR b) = decide (a = b) := by
  unfold encR
  simp only [PyData.eqv, PyData.eqvAll, Bool.and_true]
  by_cases h : a = b
  · subst h; simp
  · rw [decide_eq_false h]
    simp only [Bool.and_eq_false_iff, beq_eq_false_iff_ne]
    by_cases h1 : a.num = b.num
    · exact .inr fun h2 => h (Rat.ext h1 (by exact_mod_cast h2))
    · exact .inl h1
theorem shaped_encR (a : Rat) : SeqAt.shaped (encR a) = true := by
  unfold encR SeqAt.shaped
  simp [PyData.canLay0, PyData.canLayAll0, PyData.depth, PyData.depthAll]
def dmShares (ds : List PyData) (d : PyData) : Prop := ∃ qs : List Rat, Adds qs ∧ (∀ q ∈ qs, 0 < q ∧ q ≤ 1) ∧ sumR qs = 1 ∧ ds = [.list (qs.map encR)] ∧ d = .bool true
theorem c_are_shares (A : At K mg "are_shares" s_are_shares ["things"]) (T : Txt K mg) (c1 : CalD P w K mg base 3 "is_share" 1 dmShare) (c2 : CalD P w K mg base 4 "total" 1 dmTotal) : CalD P w K mg base 5 "are_shares" 1 dmShares := by
  refine calD_mk A sc_are_shares rfl fun f cdv A outer s H vs Q E hr W G ds d k hd hdom q => ?_
  obtain ⟨qs, ha, hs, h1, rfl, rfl⟩ := hdom
  obtain ⟨v1, rfl, hv⟩ := dpAll_one hd
  refine ws_retE ((ev_and (ev_all (bs := qs.map fun _ => true) T.all rfl (Ev.eq (Ev.dp (ev_lcD (own := [("one", 1)]) (xs := qs) (ei := encR) (fun _ => .bool true) rfl sc_are_shares.nd (blkOk_by (N := n_are_shares) (sc := defScope s_are_shares) (by decide +kernel)) (ei_list (ev_nm 0 rfl hv)) rfl ha.1 (tg1 1 sc_are_shares.nd) ?_)) (by rw [List.map_map]; rfl)))
    fun _ => ev_and1 (ev_eqD hr.units (ev_call c2 hr (by decide) (ea1 (ev_nm 0 rfl hv)) ⟨_, ha, rfl, rfl⟩) (ev_gc T.one) (shaped_encR _) (shaped_encR _))).eq ?_) (Same.refl _) k q
  · rintro i x v σ2 G' D acc hx s1 ⟨a1, rfl⟩ s0 H0 C cl fp
    exact ev_call c1 hr (by decide) (ea1 (ev_nm 1 rfl a1)) ⟨x, (hs x (List.mem_of_getElem? hx)).1, (hs x (List.mem_of_getElem? hx)).2, rfl, rfl⟩
  · rw [eqv_encR, h1]
    simp
def dmWord (ds : List PyData) (d : PyData) : Prop := ∃ w : List Int, w.length ≤ 8 ∧ (∀ x ∈ w, 0 ≤ x ∧ x ≤ 99) ∧ ds = [encW w] ∧ d = .bool true
theorem c_is_word (A : At K mg "is_word" s_is_word ["thing"]) (T : Txt K mg) (c1 : CalD P w K mg base 1 "is_sized" 3 dmSized) (c2 : CalD P w K mg base 2 "is_within" 3 dmWithin) : CalD P w K mg base 3 "is_word" 1 dmWord := by
  refine calD_mk A sc_is_word rfl fun f cdv A outer s H vs Q E hr W G ds d k hd hdom q => ?_
  obtain ⟨x, hl, hx, rfl, rfl⟩ := hdom
  obtain ⟨v1, rfl, hv⟩ := dpAll_one hd
  refine ws_retE ((ev_and (ev_call c1 hr (by decide) (ea_cons (ev_nm 0 rfl hv) (ea_cons ev_int (ea1 (ev_gc T.numbers)))) ⟨_, _, _, rfl, rfl⟩) fun _ => ev_and1 (ev_all (bs := x.map fun _ => true) T.all rfl (Ev.eq (Ev.dp (ev_lcD (own := [("number", 1)]) (xs := x) (ei := .int) (fun _ => .bool true) rfl sc_is_word.nd (blkOk_by (N := n_is_word) (sc := defScope s_is_word) (by decide +kernel)) (ei_tup (ev_nm 0 rfl hv)) rfl (by omega) (tg1 1 sc_is_word.nd) ?_)) (by rw [List.map_map]; rfl)))).eq ?_) (Same.refl _) k q
  · rintro i y v σ2 G' D acc hy s1 ⟨a1, rfl⟩ s0 H0 C cl fp
    refine Ev.eq (ev_call c2 hr (by decide) (ea_cons (ev_nm 1 rfl a1) (ea_cons ev_int (ea1 (ev_gc T.number)))) ⟨_, _, _, rfl, rfl⟩) ?_
    have := hx y (List.mem_of_getElem? hy)
    simp [withinD]
    exact this
  · simp [sizedD, is_tuple, encW, lenD]
    omega
def dmAnswer (ds : List PyData) (d : PyData) : Prop := ∃ (W : Nat) (a : List Int) (ws : List Rat) (x : PyData), a.length ≤ 8 ∧ (∀ x ∈ a, 0 ≤ x ∧ x ≤ 99) ∧ ws.length = W ∧ W ≤ 5 ∧ (∀ q ∈ ws, 0 ≤ q ∧ q ≤ 1) ∧ ds = [.int W, .tuple [encW a, encWs ws, x]] ∧ d = .bool true
theorem c_is_answer (A : At K mg "is_answer" s_is_answer ["worlds", "thing"]) (T : Txt K mg) (c1 : CalD P w K mg base 1 "is_triple" 1 dmTriple) (c2 : CalD P w K mg base 3 "is_word" 1 dmWord) (c3 : CalD P w K mg base 1 "is_sized" 3 dmSized) (c4 : CalD P w K mg base 3 "is_chance" 1 dmChance) : CalD P w K mg base 4 "is_answer" 2 dmAnswer := by
  refine calD_mk A sc_is_answer rfl fun f cdv A outer s H vs Q E hr W G ds d k hd hdom q => ?_
  obtain ⟨n, a, ws, x, g1, g2, rfl, g4, g5, rfl, rfl⟩ := hdom
  obtain ⟨v1, v2, rfl, h1, h2⟩ := dpAll_two hd
  refine ws_ifF (et_of (ew_orF (et_nT (ev_call c1 hr (by decide) (ea1 (ev_nm 1 rfl h2)) ⟨_, rfl, rfl⟩)) (ew_orF (et_nT (ev_call c2 hr (by decide) (ea1 (ev_ix (j := 0) (ev_nm 1 rfl h2) ev_int rfl)) ⟨a, g1, g2, rfl, rfl⟩))
    (ew_or1 (et_nT (ev_call c3 hr (by decide) (ea_cons (ev_ix (j := 1) (ev_nm 1 rfl h2) ev_int rfl) (ea_cons (ev_nm 0 rfl h1) (ea1 (ev_nm 0 rfl h1)))) ⟨_, _, _, rfl, by simp [sizedD, is_tuple, encWs, lenD]⟩)))))) (Same.refl _) k fun G1 H1 s1 k1 => ?_
  refine ws_retE ((ev_all (bs := ws.map fun _ => true) T.all rfl (Ev.eq (Ev.dp (ev_lcD (own := [("chance", 2)]) (xs := ws) (ei := encR) (fun _ => .bool true) rfl sc_is_answer.nd (blkOk_by (N := n_is_answer) (sc := defScope s_is_answer) (by decide +kernel)) (ei_tup (ev_ix (j := 1) (ev_nm 1 rfl (h2.sm s1)) ev_int rfl)) rfl (by omega) (tg1 2 sc_is_answer.nd) ?_)) (by rw [List.map_map]; rfl))).eq ?_) (Same.refl _) k1 (fun v G4 H4 s4 k4 r => q v G4 H4 (s1.trans s4) k4 r)
  · rintro i y v σ2 G' D acc hy s1 ⟨a1, rfl⟩ s0 H0 C cl fp
    exact ev_call c4 hr (by decide) (ea1 (ev_nm 2 rfl a1)) ⟨y, (g5 y (List.mem_of_getElem? hy)).1, (g5 y (List.mem_of_getElem? hy)).2, rfl, rfl⟩
  · simp
end
end K12
/-! K6: what the hand layer lacks: enumerate of a tuple .. -/
namespace PySem
open Sem (wp)
open AutoSeq1 (wpAny_loadPart')
theorem meets_enumerate_newT (l : Addr) (items : Array Value) (n : Nat) (dct : Option Addr) (sl : Array (Option Value)) :
    Meets (Builtin.«enumerate.__new__» ⟨[.type "enumerate", .ref l], []⟩) (fun _ R s => s.heap.get? l = some { cls := .type "tuple", dict := dct, data := .seq items n, slots := sl } ∧
      R (.ok (.ret (.ref (s.heap.push { cls := .type "tuple_iterator", data := .fields #[.ref l, .int 0 0] }).objs.size)))
        { s with heap := (s.heap.push { cls := .type "tuple_iterator", data := .fields #[.ref l, .int 0 0] }).push { cls := .type "enumerate", data := .fields #[.none, .bool false, .ref s.heap.objs.size, rawInt 0, .none, .none] } }) :=
  .of_wp fun prog w A R s h => by
    obtain ⟨hp, g, d, tk, os⟩ := s; obtain ⟨hl, h⟩ := h
    have hsub := sub_enumerate
    have hL : Heap.IsTuple (Shared.heap ⟨hp, g, d, tk, os⟩) l items := ⟨_, hl, rfl, n, rfl⟩
    wp_walk using wpAny_loadPart' hl
    refine wpAny_stack_any fun st => wpAny_pure ?_
    split
    · rename_i c _ _ _ _ _
      cases (c == Value.type "enumerate")
      · wp_walk using wpAny_loadPart' hl, wpAny_pyIter_tuple hL
        exact ⟨_, rfl, h⟩
      · wp_walk using wpAny_loadPart' hl, wpAny_pyIter_tuple hL
        exact ⟨_, rfl, h⟩
    · wp_walk using wpAny_loadPart' hl, wpAny_pyIter_tuple hL
      exact ⟨_, rfl, h⟩
theorem call_enumerate_tuple {prog : Program} {w : World} {A : Around} {E : Value → Shared → Prop} {s : Shared} {l : Addr} {items : Array Value} {Q : Value → Shared → Prop} (hL : s.heap.IsTuple l items)
    (h : ∀ h', IsEnum h' (s.heap.objs.size + 1) s.heap.objs.size 0 .none → h'.IsTupleIter s.heap.objs.size l 0 → h'.objs.size = s.heap.objs.size + 2 →
      (∀ b o, s.heap.get? b = some o → h'.get? b = some o) → Q (.ref (s.heap.objs.size + 1)) { s with heap := h' }) :
    wpAny (model prog w) A (call (.type "enumerate") [.ref l]) Q E s := by
  obtain ⟨⟨c, dct, dt, sl⟩, hl, hc, n, hd⟩ := hL
  replace hc : c = .type "tuple" := hc
  replace hd : dt = .seq items n := hd
  subst hc hd
  refine callType_new F.called_enumerate (by decide) (F.typeCall_enumerate_1 _) (F.newCall_enumerate_1 _) (fun obj => F.args_object_init_2 obj _) F.entry_enumerate_new
    (meets_enumerate_newT l items n dct sl) ⟨hl, ?_⟩
  have hz : (s.heap.push { cls := .type "tuple_iterator", data := .fields #[.ref l, .int 0 0] }).objs.size = s.heap.objs.size + 1 := Heap.size_push ..
  show _ ∧ _
  rw [hz]
  have he : IsEnum ((s.heap.push { cls := .type "tuple_iterator", data := .fields #[.ref l, .int 0 0] }).push
      { cls := .type "enumerate", data := .fields #[.none, .bool false, .ref s.heap.objs.size, rawInt 0, .none, .none] }) (s.heap.objs.size + 1) s.heap.objs.size 0 .none := by
    have := Heap.get?_push_size (s.heap.push { cls := .type "tuple_iterator", data := .fields #[.ref l, .int 0 0] })
      (o := { cls := .type "enumerate", data := .fields #[.none, .bool false, .ref s.heap.objs.size, rawInt 0, .none, .none] }) rfl
    rw [hz] at this; exact this
  refine ⟨⟨_, he, rfl⟩, h _ he ⟨_, Heap.get?_push_of_some _ (Heap.get?_push_size _ rfl), rfl, rfl⟩ (by rw [Heap.size_push, hz]) fun b o x => Heap.get?_push_of_some _ (Heap.get?_push_of_some _ x)⟩
end PySem
namespace K12
open PySem PySem.Spec PyProof.Rows L2
/-- the tuple at a, each item in a new pair with its number -/
def ItnT (K : PySem.W.Frag) (a : Addr) : It :=
  ⟨fun i H => ∃ (xs : List V) (x : V), SqT K H a xs ∧ xs[i]? = some x, fun i H v H' => ∃ T x, v = .ref T ∧ H T = none ∧ H' = upd H T (.tup [.int (i : Nat), x]) ∧ ∀ xs, SqT K H a xs → xs[i]? = some x, fun i H => ∃ xs : List V, SqT K H a xs ∧ xs.length ≤ i⟩
theorem turn_enumT {P : Program} {w : World} {K : PySem.W.Frag} {elts : List Expr} {kk : Nat} {tpos : Pos} (a e it : Addr) :
    Turn P w K (.Tuple elts kk tpos) (ItnT K a) [e, it] e (fun i h => (∃ old, IsEnum h e it ((i : Nat) : Int) old) ∧ h.IsTupleIter it a i ∧ e ≠ it ∧ a ≠ it) where
  mem := by simp
  obj := fun i h st b hb => by
    obtain ⟨⟨old, he⟩, ⟨o, ho, hc, hd⟩, _⟩ := st
    have e' : b = e ∨ b = it := by simpa using hb
    rcases e' with z | z
    · rw [z]; exact ⟨_, he, fun v q => nomatch q⟩
    · rw [z]; exact ⟨o, ho, fun v q => by rw [hd] at q; cases q⟩
  keep := fun i h h' st k => let ⟨⟨old, he⟩, hi, hne⟩ := st; ⟨⟨old, k e (by simp) _ he⟩, hi.at fun o q => k it (by simp) o q, hne⟩
  item := by
    intro X hP hw hK hc i pins s σ H E I hf st hg
    subst hP hw hK
    obtain ⟨⟨old, he⟩, hit, hne, hna⟩ := st
    obtain ⟨xs, x, hq, hx⟩ := hg
    obtain ⟨its, rv, p, hz⟩ := I.tuple hq
    obtain ⟨u, hu, ru⟩ := rv.get hx
    have hel : e < s.heap.objs.size := Heap.lt_size he
    have hil : it < s.heap.objs.size := by obtain ⟨_, q, _⟩ := hit; exact Heap.lt_size q
    have p' : s.heap.IsTuple a its.toArray := p
    have hae : a ≠ e := fun z => by
      obtain ⟨o1, g1, c1, _⟩ := p'
      rw [z] at g1
      have he' : s.heap.get? e = some _ := he
      rw [he'] at g1
      cases g1
      exact absurd (Value.type.inj c1) (by decide)
    have hlen := rv.length
    have hxi := (List.getElem?_eq_some_iff.mp hx).1
    have D := Draws.tuple (prog := X.prog) (w := X.w) (A := X.A.in1) (I.ok.hd hc) it a hna its.toArray
    refine wpAny_pyNext_enum_itemD D he ⟨hit, p'⟩ (by simp; omega) hne (by simp; exact ⟨hne, hae.symm⟩) fun y h' tk hy ho hit' hT hsz hk => ?_
    have ey : y = u := by
      have : its.toArray[i]? = some y := hy
      rw [show its.toArray[i]? = its[i]? by simp, hu] at this
      cases this
      rfl
    subst ey
    refine ⟨_, rfl, wpAny_letOwnedTupleGo_enum (s := { s with heap := h', toks := tk + 1 }) ho fun h'' he' sb => ?_⟩
    have hT2 : h''.get? s.heap.objs.size = some { cls := .type "tuple", data := .seq #[.int i tk, y] } := (sb.2 _ (Nat.ne_of_gt hel)).trans hT
    have new : ObjOk X.prog X.w (upd H s.heap.objs.size (.tup [.int (i : Nat), x])) h'' s.heap.objs.size (.tup [.int (i : Nat), x]) :=
      ⟨by show 2 ≤ sizeLine; decide, [.int i tk, y], .cons ⟨_, rfl⟩ (.cons ru .nil), ⟨_, hT2, rfl, _, rfl⟩⟩
    have I1 : Inv X pins σ (upd H s.heap.objs.size (.tup [.int (i : Nat), x])) { s with heap := h'', toks := tk + 1 } :=
      I.turnedNew (ch := [e, it]) (fun b ob hb q => (sb.2 b (fun z => hb (by simp [z]))).trans (hk b ob (fun z => hb (by simp [z])) (fun z => hb (by simp [z])) q)) hf (Nat.le_refl _) new
    refine ⟨.ref s.heap.objs.size, _, I1, rfl, ⟨_, x, rfl, I.hok.fresh (Nat.le_refl _), rfl, fun ys hy => by rw [I.tuple_inj hy hq]; exact hx⟩, ⟨⟨y, ?_⟩, hit'.1.at fun o q => (sb.2 it (Ne.symm hne)).trans q, hne, hna⟩, fun b hb => ?_⟩
    · have e1 : ((i + 1 : Nat) : Int) = (i : Int) + 1 := by omega
      rw [e1]; exact he'
    · have hb' : b < s.heap.objs.size := by
        have e' : b = e ∨ b = it := by simpa using hb
        rcases e' with z | z
        · rw [z]; exact hel
        · rw [z]; exact hil
      rw [upd_ne (Nat.ne_of_lt hb')]
      exact (hf b hb).1
  done := by
    intro X hP hw hK hc i pins s σ H E I hf st hg
    subst hP hw hK
    obtain ⟨⟨old, he⟩, hit, hne, hna⟩ := st
    obtain ⟨xs, hq, hx⟩ := hg
    obtain ⟨its, rv, p, hz⟩ := I.tuple hq
    obtain ⟨f0, f1, f2, f3, f4, f5⟩ := hf it (by simp)
    have hl := rv.length
    have p' : s.heap.IsTuple a its.toArray := p
    have hT : s.TypeIs (.ref e) "enumerate" := ⟨_, he, rfl⟩
    unfold pyNext
    refine wpAny_bind (wpAny_attempt (wpAny_callSpecial?_slot (name := Str.ofString "__next__") hT F.slot_enumerate_next
      (wpAny_call_entry F.slot_enumerate_next hT F.entry_enumerate_next ?_ (F.args_enumerate_next_1 _))))
    show wpAny _ _ (field (.ref e) 2 >>= _) _ _ _
    refine wpAny_bind (wpAny_field he rfl (x := .ref it) rfl ?_)
    refine wpAny_bind (wpAny_nextOf_tuple_end (A := X.A.in1) (I.ok.hd hc) hit p' (by simp; omega) fun h' x he' hx' => ?_)
    obtain ⟨o, ho, hc'⟩ := hx'
    refine wpAny_bind (wpAny_isInstance (T := "StopIteration") (b := true) ⟨o, ho, hc'⟩ isSubtype_stop ?_)
    exact wpAny_pure ⟨rfl, I.turned (t' := s.toks) (fun b o hb q => he' b o hb q) f0 f1 f3 f4 f5⟩
  self := fun A i s Q E st h => let ⟨⟨_, he⟩, _⟩ := st; wpAny_pyIter_enum he h
def iEnumT (K : PySem.W.Frag) (ta : TA) : TI := fun σ H R => ta σ H fun vs H1 => ∃ a xs, vs = [.ref a] ∧ SqT K H1 a xs ∧ R (ItnT K a) H1
theorem pi_enumT {X : Cx} {e : Expr} {ta : TA} {p pos tpos : Pos} {elts : List Expr} {kk : Nat} (hg : Gl X "enumerate") (hm : X.mg "enumerate" = none) (ha : PA X [e] ta) (hs : starEach [e] X.env = [(false, eval e X.env)] := by rfl) :
    PI X (.Tuple elts kk tpos) (.Call (.Name "enumerate" p) [e] [] pos) (iEnumT X.K ta) := by
  refine ⟨fun pins s σ H R I h => ?_⟩
  refine Call_ (ld_blt I hg hm boot_enumerate (PyProof.Rows.callWith_type1 (thn (ha.run pos pins s σ H _ I h) fun us s1 ⟨vs, H1, I1, r1, q1⟩ => ?_) hs rfl))
  obtain ⟨a, xs, ex, hq, q⟩ := q1
  subst ex
  cases r1 with
  | cons r rr =>
    cases rr
    cases r
    obtain ⟨its, rv, p', hz⟩ := I1.tuple hq
    have pt : s1.heap.IsTuple a its.toArray := p'
    have la : a < s1.heap.objs.size := by obtain ⟨_, q, _⟩ := pt; exact Heap.lt_size q
    refine call_enumerate_tuple pt fun h' he hit hsz hk => wpAny_pyIter_enum he ?_
    have I2 : Inv X pins σ H1 { s1 with heap := h' } := I1.kept (t' := s1.toks) hk
    refine ⟨s1.heap.objs.size + 1, [s1.heap.objs.size + 1, s1.heap.objs.size], _, _, H1, rfl, I2, turn_enumT a (s1.heap.objs.size + 1) s1.heap.objs.size, ⟨⟨.none, he⟩, hit, Nat.succ_ne_self _, Nat.ne_of_lt la⟩, fun b hb => ?_, q⟩
    have e' : b = s1.heap.objs.size + 1 ∨ b = s1.heap.objs.size := by simpa using hb
    have hle : s1.heap.objs.size ≤ b := by
      rcases e' with z | z
      · rw [z]; exact Nat.le_add_right _ _
      · rw [z]; exact Nat.le_refl _
    exact I1.fpOk hle (I1.hok.fresh hle)
/-- the numbers with the items -/
def numbered : Nat → List PyData → List PyData
  | _, [] => []
  | n, d :: r => .tuple [.int (n : Int), d] :: numbered (n + 1) r
theorem numbered_get : ∀ (l : List PyData) (n i : Nat), (numbered n l)[i]? = l[i]?.map fun d => .tuple [.int ((n + i : Nat) : Int), d]
  | [], _, _ => rfl
  | d :: r, n, 0 => rfl
  | d :: r, n, i + 1 => by
    show (numbered (n + 1) r)[i]? = r[i]?.map _
    rw [numbered_get r (n + 1) i, show n + 1 + i = n + (i + 1) by omega]
theorem numbered_length : ∀ (l : List PyData) (n : Nat), (numbered n l).length = l.length
  | [], _ => rfl
  | d :: r, n => by show _ + 1 = _ + 1; rw [numbered_length r]
section
variable {X : Cx} {W : Wd} {e a b c : Expr} {es : List Expr} {σ : L2.St} {G G' H : Hp} {R R' : Rl} {d d' : PyData} {ds : List PyData} {v : V} {pos p : Pos} {x : Str} {k : Bool}
theorem itn_d {K : PySem.W.Frag} {a : Addr} {xs : List V} (t : SqT K G a xs) (l : DpAll K G xs ds) : ItD K (ItnT K a) G (numbered 0 ds) := fun W G1 H i s k => by
  have tH := sqT_same k.same (sqT_same s t)
  refine ⟨fun d hd => ?_, fun hi => ⟨xs, tH, by rw [l.length, ← numbered_length ds 0]; exact hi⟩⟩
  rw [numbered_get, Nat.zero_add] at hd
  cases e : ds[i]? with
  | none => rw [e] at hd; cases hd
  | some y =>
    rw [e] at hd
    cases hd
    obtain ⟨v, hv, dv⟩ := l.get e
    refine ⟨⟨xs, v, tH, hv⟩, fun u H' ⟨T, x', eu, nT, eH, f1⟩ => ?_⟩
    subst eu eH
    have e1 := f1 xs tH
    rw [hv] at e1
    cases e1
    exact ⟨_, same_new (k.free nT), k.new nT, .tup (SqT.of upd_same) (.cons (.int _) (.cons ((dv.sm s).sm (same_new (k.free nT))) .nil))⟩
theorem ei_enum {elts : List Expr} {kk : Nat} {tpos : Pos} (hm : X.mg "enumerate" = none) (h : Ev X W e σ G (Is X.K (.tuple ds))) (hg : Gl X "enumerate" := by rfl) (he : Pl X e [] := by rfl) : EvI X W (.Tuple elts kk tpos) (.Call (.Name "enumerate" p) [e] [] pos) σ G (numbered 0 ds) := fun G1 H R s k q =>
  useI (pi_enumT hg hm (pA [e]) he) <| (ea1 h he) G1 H _ s k fun vs G2 H2 s2 k2 r => by
    obtain ⟨x, rfl, h1⟩ := dpAll_one r
    obtain ⟨a, xs, rfl, t1, l1⟩ := h1.tup_inv
    exact ⟨a, xs, rfl, sqT_same k2.same t1, q _ G2 H2 s2 k2 (itn_d t1 l1)⟩
end
end K12
/-! K7: tuple * int, lists that are ours, two clauses, fields. -/
namespace K12
open PySem PySem.Spec PyProof.Rows L2
/-! ### tuple * int -/
theorem tuple_mul1 (l : Addr) (items : Array Value) (n : Nat) (sl : Array (Option Value)) (u : Tok) (dd : Option Addr) :
    Meets (Builtin.«tuple.__mul__» ⟨[.ref l, .int 1 u], []⟩) (fun _ R s => s.heap.get? l = some { cls := .type "tuple", dict := dd, data := .seq items n, slots := sl } ∧
      R (.ok (.ret (Value.ref l))) s) :=
  .of_wp fun prog w A R s h => by
    obtain ⟨hp, g, d, tk, os⟩ := s
    obtain ⟨hl, h⟩ := h
    have f1 := AutoSeq1.idx_int
    wp_walk using wpAny_loadPart' hl
    exact ⟨_, rfl, h⟩
def rRep1 (K : PySem.W.Frag) : R2 := fun x y H Q => ∃ l xs, x = .ref l ∧ y = .int 1 ∧ SqT K H l xs ∧ Q (.ref l) H
theorem op_rep1 {X : Cx} : OpR X (binaryOp .Mult) (rRep1 X.K) := by
  intro pins s σ H x y v u Q I rx ry h
  obtain ⟨l, xs, rfl, rfl, hT, q⟩ := h
  cases rx
  obtain ⟨t, rfl⟩ := ry
  obtain ⟨its, r, ⟨⟨cls, dd, data, sl⟩, ho, hc, n, hd⟩, hs⟩ := I.tuple hT
  simp only at hc hd
  subst hc hd
  exact wpAny_binaryOp_repeat_ref (T := "tuple") (U := "int") (by decide) ⟨_, ho, rfl⟩ (fun s' => typeIs_int s' 1 t) noFill_tuple_mul F.fills_int_mul F.slot_int_rmul repeat_tuple F.slot_int_index.lookup
    (call_meets F.slot_int_rmul (typeIs_int s 1 t) F.entry_int_rmul (F.args_int_rmul_2 _ _) (int_rmul_tuple 1 t l its.toArray n dd sl)
      ⟨ho, rfl, ⟨_, ho, rfl⟩, call_meets F.slot_tuple_mul ⟨_, ho, rfl⟩ F.entry_tuple_mul (F.args_tuple_mul_2 _ _) (tuple_mul1 l its.toArray n sl t dd) ⟨ho, .ref l, H, I, rfl, q⟩⟩)
/-! ### worlds alike, worlds within worlds -/
structure Wd.Eqv (W U : Wd) : Prop where
  S : ∀ a, W.S a ↔ U.S a
  J : ∀ H, W.J H ↔ U.J H
theorem Wd.Eqv.refl (W : Wd) : W.Eqv W := ⟨fun _ => Iff.rfl, fun _ => Iff.rfl⟩
theorem Wd.Eqv.symm {W U : Wd} (h : W.Eqv U) : U.Eqv W := ⟨fun a => (h.S a).symm, fun H => (h.J H).symm⟩
theorem Wd.Eqv.trans {W U Z : Wd} (h : W.Eqv U) (h2 : U.Eqv Z) : W.Eqv Z := ⟨fun a => (h.S a).trans (h2.S a), fun H => (h.J H).trans (h2.J H)⟩
theorem Wd.Eqv.ok {W U : Wd} (h : W.Eqv U) {G H : Hp} (k : W.ok G H) : U.ok G H := ⟨k.same, fun a s => k.out a ((h.S a).mpr s), (h.J H).mp k.j⟩
theorem Wd.Eqv.sep {W U : Wd} (h : W.Eqv U) (Z : Wd) : (W.sep Z).Eqv (U.sep Z) where
  S := fun a => or_congr (h.S a) Iff.rfl
  J := fun H => and_congr (h.J H) (and_congr Iff.rfl ⟨fun k a s => k a ((h.S a).mpr s), fun k a s => k a ((h.S a).mp s)⟩)
theorem Wd.Eqv.swap (U V Z : Wd) : ((U.sep V).sep Z).Eqv ((U.sep Z).sep V) where
  S := fun a => by show (_ ∨ _) ∨ _ ↔ (_ ∨ _) ∨ _; exact or_right_comm
  J := fun H => by
    refine ⟨fun ⟨⟨j1, j2, j3⟩, j4, j5⟩ => ⟨⟨j1, j4, fun a x y => j5 a (.inl x) y⟩, j2, fun a x y => ?_⟩, fun ⟨⟨j1, j2, j3⟩, j4, j5⟩ => ⟨⟨j1, j4, fun a x y => j5 a (.inl x) y⟩, j2, fun a x y => ?_⟩⟩
    all_goals rcases x with x | x
    all_goals first | exact j3 a x y | exact j5 a (.inr y) x
/-- V is a part of W -/
def Has (W V : Wd) : Prop := ∃ U : Wd, W.Eqv (U.sep V)
theorem Has.self (U V : Wd) : Has (U.sep V) V := ⟨U, .refl _⟩
theorem Has.sep {W V : Wd} (h : Has W V) (Z : Wd) : Has (W.sep Z) V := by
  obtain ⟨U, e⟩ := h
  exact ⟨U.sep Z, (e.sep Z).trans (.swap U V Z)⟩
theorem Has.j {W V : Wd} (h : Has W V) {G H : Hp} (k : W.ok G H) : V.J H := by
  obtain ⟨U, e⟩ := h
  exact (e.ok k).j.2.1
section
variable {X : Cx} {W : Wd} {e a b c : Expr} {es : List Expr} {σ : L2.St} {G G' H : Hp} {R R' : Rl} {d d' : PyData} {ds : List PyData} {v : V} {pos p p2 spos : Pos} {x : Str} {k : Bool}
theorem ev_rep {n : Nat} (ha : Ev X W a σ G (Is X.K (.tuple [d]))) (hb : Ev X W b σ G (Is X.K (.int n))) (h1 : 1 ≤ n) (h2 : n ≤ 1000) : Ev X W (.BinOp a .Mult b pos) σ G (Is X.K (.tuple (List.replicate n d))) := by
  by_cases e : n = 1
  · subst e
    exact ev_bin (t := fun _ _ _ => True) (pe_op op_rep1 (pE a) (pE b)) ha hb is_mono fun x y G1 H Q s k h1 h2 q => by
      obtain ⟨a, xs, rfl, t1, k1⟩ := Dp.tup_inv h1
      exact ⟨a, xs, rfl, h2.int_eq, sqT_same k.same t1, q _ G1 H (Same.refl _) k h1⟩
  · exact ev_bin (t := fun _ _ _ => True) (pe_op op_repT (pE a) (pE b)) ha hb is_mono fun x y G1 H Q s k h3 h4 q => by
      obtain ⟨a, xs, rfl, t1, k1⟩ := Dp.tup_inv h3
      obtain ⟨v, rfl, dv⟩ := dpAll_one k1
      refine ⟨a, n, [v], rfl, h4.int_eq, sqT_same k.same t1, by simp, by omega, by omega, by simp, fun p hp => q _ _ _ (same_new (k.free hp)) (k.new hp) (.tup (SqT.of upd_same) ?_)⟩
      rw [Int.toNat_natCast]
      have : ∀ m : Nat, DpAll X.K (upd G1 p (.tup (List.replicate n [v]).flatten)) (List.replicate m [v]).flatten (List.replicate m d) := fun m => by
        induction m with
        | zero => exact .nil
        | succ m ih => rw [List.replicate_succ, List.replicate_succ, List.flatten_cons]; exact .cons (dv.sm (same_new (k.free hp))) ih
      exact this n
/-! ### lists that are ours: read, append, extend, put -/
theorem has_cell {l : Addr} {o : HO} (h : Has W (.cell l o)) {G H : Hp} (k : W.ok G H) : H l = some o := h.j k
theorem ev_ixO {l : Addr} {vs : List V} {j : Nat} (ha : Ev X W a σ G (Rf (.ref l))) (hw : Has W (.cell l (.lst vs))) (hb : Ev X W b σ G (Is X.K (.int j))) (hj : vs[j]? = some v) (hp : PlainIx b := by intro _ _; rfl) : Ev X W (.Subscript a b pos) σ G (Rf v) :=
  ev_bin (t := fun _ _ _ => True) (pe_ix ix_list (pE a) (pE b) hp) ha hb rf_mono fun x y G1 H Q s k h1 h2 q => by
    cases (show x = .ref l from h1)
    exact ⟨l, vs, j, v, rfl, h2.int_eq, SqL.of (has_cell hw k), atI_nat hj, q v G1 H (Same.refl _) k rfl⟩
theorem ev_ixLast {l : Addr} {vs : List V} (ha : Ev X W a σ G (Rf (.ref l))) (hw : Has W (.cell l (.lst vs))) (hb : Ev X W b σ G (Is X.K (.int (-1)))) (hj : vs.getLast? = some v) (hp : PlainIx b := by intro _ _; rfl) : Ev X W (.Subscript a b pos) σ G (Rf v) :=
  ev_bin (t := fun _ _ _ => True) (pe_ix ix_list (pE a) (pE b) hp) ha hb rf_mono fun x y G1 H Q s k h1 h2 q => by
    cases (show x = .ref l from h1)
    refine ⟨l, vs, -1, v, rfl, h2.int_eq, SqL.of (has_cell hw k), ?_, q v G1 H (Same.refl _) k rfl⟩
    obtain ⟨us, rfl⟩ := List.getLast?_eq_some_iff.mp hj
    exact atI_last us v
/-- from a reference to what it is -/
theorem Ev.of {d : PyData} (h : Ev X W e σ G (Rf v)) (hd : Dp X.K G v d) : Ev X W e σ G (Is X.K d) := fun G1 H Q s k q => h G1 H _ s k fun u G2 H2 s2 k2 r => by
  cases (show u = v from r)
  exact q v G2 H2 s2 k2 (hd.sm (s.trans s2))
section
variable {rest : List Stmt} {D : Ends} {G1 : Hp} {l : Addr} {vs us : List V}
theorem ev_lenO (hm : X.mg "len" = none) (hw : Has W (.cell l (.lst vs))) (h : Ev X W e σ G (Rf (.ref l))) (hg : Gl X "len" := by rfl) (he : Pl X e [] := by rfl) : Ev X W (.Call (.Name "len" p) [e] [] pos) σ G (Is X.K (.int vs.length)) := fun G1 H Q s k q =>
  useE (pe_callB call_len_seq hg hm PySem.boot_len (pa_cons (pE e) pa_nil he) (he := he)) <| h G1 H _ s k fun v G2 H2 s2 k2 r => by
    cases (show v = .ref l from r)
    exact ⟨l, vs, rfl, .inl (SqL.of (has_cell hw k2)), q _ G2 H2 s2 k2 (.int _)⟩
/-- xs.append(e) -/
theorem ws_append {W0 : Wd} {y : Str} (i : Nat) (hσ : σ[i]? = some (some (.ref l))) (hw : W.Eqv (W0.sep (.cell l (.lst vs)))) (he : Ev X W e σ G R) (hl : vs.length < 1000000) (s : Same G G1) (k1 : W.ok G1 H)
    (q : ∀ v G' H', Same G1 G' → (W0.sep (.cell l (.lst (vs ++ [v])))).ok G' H' → R G' v → wSs X rest D σ H') (hN : X.N[i]? = some y := by rfl) (hv : Vis X.env.scope y := by first | exact Or.inl rfl | exact Or.inr (Or.inl rfl) | exact Or.inr (Or.inr rfl))
    (h1 : (y == ("__debug__" : Str)) = false := by decide) (h2 : (y == ("__classdict__" : Str)) = false := by decide) (hp : Pl X e [] := by rfl) (hbase : attributeBase (.Name y p) "append" X.env (eval (.Name y p) X.env) = eval (.Name y p) X.env := by rfl)
    (hfew : ((backTo pos (starEach [e] X.env)).all (fun x => !x.1) && (backToKw pos (keywordEach [] X.env)).all (fun x => x.1.isSome) && decide ([e].length + ([] : List Keyword).length + (if ([] : List Keyword).isEmpty then 0 else 1) < 30)) = true := by rfl)
    (hline : (p2.endLine == pos.line) = true := by rfl) (hsw : swapsWith (.Call (.Attribute (.Name y p) "append" p2) [e] [] pos) none spos.line X.env = pure false := by rfl) :
    wSs X (.Expr (.Call (.Attribute (.Name y p) "append" p2) [e] [] pos) spos :: rest) D σ H :=
  ws_expr (useE (pe_bm PySem.F.plainAttrs_list PySem.F.slot_list_append PySem.F.type_list_append mt_append (pE (.Name y p)) (pa_cons (pE e) pa_nil hp) hbase hfew hline hp) <|
    ev_rf i hσ hN hv h1 h2 G1 H _ s k1 fun u G2 H2 s2 k2 r => by
      cases (show u = .ref l from r)
      refine ⟨.inl ⟨rfl, vs, SqL.of (hw.ok k2).cellAt⟩, he G2 H2 _ (s.trans s2) k2 fun v G3 H3 s3 k3 r3 => ?_⟩
      exact ⟨l, vs, v, rfl, rfl, (hw.ok k3).cellAt, by rw [sizeLine_eq]; omega, q v G3 _ (s2.trans s3) (hw.ok k3).put r3⟩) hsw
/-- xs.extend(a list that stands by itself) -/
theorem ws_extend {W0 : Wd} {y : Str} {P : List PyData → Prop} (i : Nat) (hσ : σ[i]? = some (some (.ref l))) (hw : W.Eqv (W0.sep (.cell l (.lst vs)))) (he : Ev X W e σ G (LtS X.K P)) (hl : ∀ es, P es → vs.length + es.length ≤ 1000000) (s : Same G G1) (k1 : W.ok G1 H)
    (q : ∀ us es G' H', Same G1 G' → (W0.sep (.cell l (.lst (vs ++ us)))).ok G' H' → P es → DpAll X.K G' us es → wSs X rest D σ H') (hN : X.N[i]? = some y := by rfl) (hv : Vis X.env.scope y := by first | exact Or.inl rfl | exact Or.inr (Or.inl rfl) | exact Or.inr (Or.inr rfl))
    (h1 : (y == ("__debug__" : Str)) = false := by decide) (h2 : (y == ("__classdict__" : Str)) = false := by decide) (hp : Pl X e [] := by rfl) (hbase : attributeBase (.Name y p) "extend" X.env (eval (.Name y p) X.env) = eval (.Name y p) X.env := by rfl)
    (hfew : ((backTo pos (starEach [e] X.env)).all (fun x => !x.1) && (backToKw pos (keywordEach [] X.env)).all (fun x => x.1.isSome) && decide ([e].length + ([] : List Keyword).length + (if ([] : List Keyword).isEmpty then 0 else 1) < 30)) = true := by rfl)
    (hline : (p2.endLine == pos.line) = true := by rfl) (hsw : swapsWith (.Call (.Attribute (.Name y p) "extend" p2) [e] [] pos) none spos.line X.env = pure false := by rfl) :
    wSs X (.Expr (.Call (.Attribute (.Name y p) "extend" p2) [e] [] pos) spos :: rest) D σ H :=
  ws_expr (useE (pe_bm PySem.F.plainAttrs_list PySem.F.slot_list_extend PySem.F.type_list_extend mt_extend (pE (.Name y p)) (pa_cons (pE e) pa_nil hp) hbase hfew hline hp) <|
    ev_rf i hσ hN hv h1 h2 G1 H _ s k1 fun u G2 H2 s2 k2 r => by
      cases (show u = .ref l from r)
      refine ⟨.inl ⟨rfl, vs, SqL.of (hw.ok k2).cellAt⟩, he G2 H2 _ (s.trans s2) k2 fun v G3 H3 s3 k3 r3 => ?_⟩
      obtain ⟨es, pe, b, us, rfl, hb, du⟩ := r3
      exact ⟨l, b, vs, us, rfl, rfl, (hw.ok k3).cellAt, k3.same _ _ hb, by rw [sizeLine_eq, du.length]; exact Nat.le_trans (hl es pe) (by decide), q us es G3 _ (s2.trans s3) (hw.ok k3).put pe du⟩) hsw
theorem ixN_nt {n j : Nat} (hj : j < n) : ixN n (j : Int) = some j := by
  unfold ixN
  rw [if_pos (by omega), if_pos (by omega)]
  simp
/-- xs[j] = e -/
theorem ws_putIx {W0 : Wd} {o ix : Expr} {j : Nat} (he : Ev X W e σ G R) (ho : ∀ G, Ev X W o σ G (Rf (.ref l))) (hi : ∀ G, Ev X W ix σ G (Is X.K (.int j))) (hw : W.Eqv (W0.sep (.cell l (.lst vs)))) (hj : j < vs.length) (s : Same G G1) (k1 : W.ok G1 H)
    (q : ∀ v G' H', Same G1 G' → (W0.sep (.cell l (.lst (vs.set j v)))).ok G' H' → R G' v → wSs X rest D σ H') (m : ∀ G G' v, Same G G' → R G v → R G' v)
    (ha : ∀ v, assign (.Subscript o ix p) X.env v = (do
      let ov ← holding [v] (eval o X.env)
      let iv ← holding [v, ov] (eval ix X.env)
      standAt p
      holding [v, ov, iv] (setItem ov iv v)
      release [v, ov, iv] []) := by intro _; rfl)
    (hs : swapsWithSole [.Subscript o ix p] e spos.line X.env = pure false := by rfl) (hws : swappedStores [.Subscript o ix p] e X.env = pure none := by rfl) (h1 : (assignEach [.Subscript o ix p] X.env).map (·.2) = [assign (.Subscript o ix p) X.env] := by rfl) :
    wSs X (.Assign [.Subscript o ix p] e spos :: rest) D σ H :=
  useSs (pss_cons (ps_asg (pE e) (pg_sub (pE o) (pE ix) set_list ha) hs hws h1) (pSs rest)) <| he G1 H _ s k1 fun v G2 H2 s2 k2 r2 => ho G2 G2 H2 _ (Same.refl _) k2 fun u G3 H3 s3 k3 r3 => hi G3 G3 H3 _ (Same.refl _) k3 fun w G4 H4 s4 k4 r4 => by
    cases (show u = .ref l from r3)
    refine ⟨l, vs, j, j, rfl, Dp.int_eq r4, (hw.ok k4).cellAt, ixN_nt hj, q v G4 _ ((s2.trans s3).trans s4) (hw.ok k4).put (m _ _ _ (s3.trans s4) r2)⟩
def tGetL : V → V → Hp → VK → Prop := fun o i H Q => ∃ p xs j v, o = .ref p ∧ i = .int ((j : Nat) : Int) ∧ H p = some (.lst xs) ∧ xs[j]? = some v ∧ Q v H
theorem get_listG : PGet X tGetL := by
  intro pins s σ H o i ov iv Q I ro ri h
  obtain ⟨q, xs, j, z, rfl, rfl, hq, he, h⟩ := h
  cases ro
  obtain ⟨t, rfl⟩ := ri
  obtain ⟨its, r, pl, hz⟩ := I.list (SqL.of hq)
  obtain ⟨w, ew, rw'⟩ := r.get he
  have hl := r.length
  have hn := line63
  have hj := (List.getElem?_eq_some_iff.mp he).1
  exact wpAny_getItem_list pl.isList (by omega) (by omega) (by rw [Int.toNat_natCast]; simpa using ew) ⟨z, H, I, rw', h⟩
/-- xs[j] += e, xs[j] -= e -/
theorem ws_augIx {W0 : Wd} {o ix : Expr} {op : Operator} {g : Int → Int → Int} {i0 : Int} {j : Nat} {c : Int} (hop : PIp X op (ipI g)) (ho : Ev X W o σ G (Rf (.ref l))) (hi : Ev X W ix σ G (Is X.K (.int j))) (he : Ev X W e σ G (Is X.K (.int c))) (hw : W.Eqv (W0.sep (.cell l (.lst vs)))) (hj : vs[j]? = some (.int i0)) (s : Same G G1) (k1 : W.ok G1 H)
    (q : ∀ G' H', Same G1 G' → (W0.sep (.cell l (.lst (vs.set j (.int (g i0 c)))))).ok G' H' → wSs X rest D σ H')
    (ha : ∀ ov iv new, augStore ix ov iv new = (do holding [new, ov, iv] (setItem ov iv new); release [new, ov, iv] []; pure .next) := by intros; rfl) :
    wSs X (.AugAssign (.Subscript o ix p) op e spos :: rest) D σ H :=
  useSs (pss_cons (ps_augS (pE o) (pE ix) get_listG (pE e) hop set_list ha) (pSs rest)) <| ho G1 H _ s k1 fun u G2 H2 s2 k2 r2 => hi G2 H2 _ (s.trans s2) k2 fun w G3 H3 s3 k3 r3 => by
    cases (show u = .ref l from r2)
    have e3 := Dp.int_eq r3
    subst e3
    refine ⟨l, vs, j, .int i0, rfl, rfl, (hw.ok k3).cellAt, hj, he G3 H3 _ ((s.trans s2).trans s3) k3 fun y G4 H4 s4 k4 r4 => ?_⟩
    exact ⟨i0, c, rfl, Dp.int_eq r4, l, vs, j, j, rfl, rfl, (hw.ok k4).cellAt, ixN_nt (List.getElem?_eq_some_iff.mp hj).1, q G4 _ ((s2.trans s3).trans s4) (hw.ok k4).put⟩
/-- xs.pop(0) -/
theorem ws_pop0 {W0 : Wd} {y : Str} {v0 : V} {j0 : Nat} {cp : Pos} (i : Nat) (hσ : σ[i]? = some (some (.ref l))) (hw : W.Eqv (W0.sep (.cell l (.lst (v0 :: vs))))) (k1 : W.ok G1 H)
    (q : ∀ G' H', Same G1 G' → (W0.sep (.cell l (.lst vs))).ok G' H' → wSs X rest D σ H') (hN : X.N[i]? = some y := by rfl) (hv : Vis X.env.scope y := by first | exact Or.inl rfl | exact Or.inr (Or.inl rfl) | exact Or.inr (Or.inr rfl))
    (h1 : (y == ("__debug__" : Str)) = false := by decide) (h2 : (y == ("__classdict__" : Str)) = false := by decide) (hp : Pl X (.Constant (.int 0) j0 cp) [] := by rfl) (hbase : attributeBase (.Name y p) "pop" X.env (eval (.Name y p) X.env) = eval (.Name y p) X.env := by rfl)
    (hfew : ((backTo pos (starEach [.Constant (.int 0) j0 cp] X.env)).all (fun x => !x.1) && (backToKw pos (keywordEach [] X.env)).all (fun x => x.1.isSome) && decide ([Expr.Constant (.int 0) j0 cp].length + ([] : List Keyword).length + (if ([] : List Keyword).isEmpty then 0 else 1) < 30)) = true := by rfl)
    (hline : (p2.endLine == pos.line) = true := by rfl) (hsw : swapsWith (.Call (.Attribute (.Name y p) "pop" p2) [.Constant (.int 0) j0 cp] [] pos) none spos.line X.env = pure false := by rfl) :
    wSs X (.Expr (.Call (.Attribute (.Name y p) "pop" p2) [.Constant (.int 0) j0 cp] [] pos) spos :: rest) D σ H :=
  ws_expr (useE (pe_bm PySem.F.plainAttrs_list PySem.F.slot_list_pop PySem.F.type_list_pop mt_popAt (pE (.Name y p)) (pa_cons (pE _) pa_nil hp) hbase hfew hline hp) <|
    ev_rf i hσ hN hv h1 h2 G1 H _ (Same.refl _) k1 fun u G2 H2 s2 k2 r => by
      cases (show u = .ref l from r)
      refine ⟨.inl ⟨rfl, _, SqL.of (hw.ok k2).cellAt⟩, ev_int G2 H2 _ (Same.refl _) k2 fun v G3 H3 s3 k3 r3 => ?_⟩
      refine ⟨l, v0 :: vs, 0, 0, v0, rfl, by rw [Dp.int_eq r3], (hw.ok k3).cellAt, by decide, by decide, by simp [seqIndex?], rfl, q G3 _ (s2.trans s3) (hw.ok k3).put⟩) hsw
/-- y = [..], ours -/
theorem ws_own {y : Str} {py : Pos} (i : Nat) (h : EvA X W es σ G (fun G vs => DpAll X.K G vs ds)) (hl : ds.length ≤ 1000) (s : Same G G1) (k1 : W.ok G1 H)
    (q : ∀ l vs G' H', Same G1 G' → (W.sep (.cell l (.lst vs))).ok G' H' → DpAll X.K G' vs ds → wSs X rest D (σ.set i (some (.ref l))) H') (hN : X.N.Nodup) (hi : X.N[i]? = some y := by rfl) (hx : Loc X.env.scope y := by first | exact Or.inl rfl | exact Or.inr rfl)
    (hs : swapsWith (.List es pos) (some (.Name y py)) spos.line X.env = pure false := by rfl) (hf : X.fn y = true ∨ X.env.scope.names.lookup y = some .local := by first | exact .inl rfl | exact .inr rfl | assumption) : wSs X (.Assign [.Name y py] (.List es pos) spos :: rest) D σ H :=
  ws_set i (ev_own h hl s k1 q) hN hi hx hs hf
end
/-- tuple(a list that is ours), which then is known -/
theorem ev_tupO {W0 : Wd} {l : Addr} {vs : List V} {P : PyData → Prop} (hm : X.mg "tuple" = none) (h : Ev X W e σ G (Rf (.ref l))) (hw : Has W (.cell l (.lst vs))) (hd : DpAll X.K G vs ds) (hg : Gl X "tuple" := by rfl) (he : Pl X e [] := by rfl) : Ev X W (.Call (.Name "tuple" p) [e] [] pos) σ G (Is X.K (.tuple ds)) := fun G1 H Q s k1 q =>
  useE (pe_callTy call_tuple_of hg hm boot_tupleT (pa_cons (pE e) pa_nil he) (he := he)) <| h G1 H _ s k1 fun v G2 H2 s2 k2 r => by
    cases (show v = .ref l from r)
    exact ⟨l, vs, rfl, .inl ⟨SqL.of (has_cell hw k2), fun p hp => q _ _ _ (s2.trans (same_new (k2.free hp))) (k2.new hp) (.tup (SqT.of upd_same) ((hd.sm (s.trans s2)).sm (same_new (k2.free hp))))⟩⟩
/-- list + list, each standing by itself -/
theorem ev_catL {as bs : List PyData} (ha : Ev X W a σ G (Lt X.K as)) (hb : Ev X W b σ G (Lt X.K bs)) (hl : as.length + bs.length ≤ 1000000) : Ev X W (.BinOp a .Add b pos) σ G (Lt X.K (as ++ bs)) :=
  ev_bin (t := fun _ _ _ => True) (pe_op op_cat (pE a) (pE b)) ha hb lt_mono fun x y G1 H Q s k h1 h2 q => by
    obtain ⟨l1, xs, rfl, e1, d1⟩ := h1
    obtain ⟨l2, ys, rfl, e2, d2⟩ := h2
    refine ⟨l1, l2, xs, ys, rfl, rfl, k.same _ _ e1, k.same _ _ e2, by rw [sizeLine_eq, d1.length, d2.length]; exact Nat.le_trans hl (by decide), fun p hp => q _ _ _ (same_new (k.free hp)) (k.new hp) ⟨p, _, rfl, upd_same, (d1.append d2).sm (same_new (k.free hp))⟩⟩
theorem ev_lstT (h : EvA X W es σ G (fun G vs => DpAll X.K G vs ds)) (hl : ds.length ≤ 1000 := by exact Nat.le_of_ble_eq_true rfl) : Ev X W (.List es pos) σ G (Lt X.K ds) := fun G1 H Q s k q => useE (pe_lst (pA es)) <|
  h G1 H _ s k fun vs G2 H2 s2 k2 r => ⟨by rw [DpAll.length r]; exact Nat.le_of_lt (small1000 hl), fun p hp => q _ _ _ (s2.trans (same_new (k2.free hp))) (k2.new hp) ⟨p, _, rfl, upd_same, DpAll.sm r (same_new (k2.free hp))⟩⟩
/-! ### fields -/
def HasF (f : Str) (C : Addr) (v : V) : Rl := fun G u => ∃ a dx fs, u = .ref a ∧ G a = some (.ins C dx fs) ∧ fs.lookup f = some v
theorem ev_fld {f : Str} {C : Addr} (cl : Cls X.K C) (na : NoAttr X.K C f) (h : Ev X W e σ G (HasF f C v)) (hb : attributeBase e f X.env (eval e X.env) = eval e X.env := by rfl) : Ev X W (.Attribute e f pos) σ G (Rf v) := fun G1 H Q s k q =>
  useE (pe_fld (pE e) hb) <| h G1 H _ s k fun u G2 H2 s2 k2 r => by
    obtain ⟨a, dx, fs, rfl, e1, e2⟩ := r
    exact ⟨a, C, dx, fs, v, rfl, k2.same _ _ e1, cl, na, e2, q v G2 H2 s2 k2 rfl⟩
/-- e.f = value, the instance is ours -/
theorem ws_fld {rest : List Stmt} {D : Ends} {G1 : Hp} {W0 : Wd} {o : Expr} {f : Str} {a dx C : Addr} {fs : List (Str × V)} {pos' : Pos} (cl : Cls X.K C) (na : NoAttr X.K C f) (he : Ev X W e σ G R) (ho : ∀ G, Ev X W o σ G (Rf (.ref a))) (hw : W.Eqv (W0.sep (.cell a (.ins C dx fs)))) (hl : fs.length < 1000) (s : Same G G1) (k1 : W.ok G1 H)
    (q : ∀ v G' H', Same G1 G' → (W0.sep (.cell a (.ins C dx (putF f v fs)))).ok G' H' → R G' v → wSs X rest D σ H') (m : ∀ G G' v, Same G G' → R G v → R G' v)
    (hs : swapsWith e (some (.Attribute o f pos')) spos.line X.env = pure false := by rfl) : wSs X (.Assign [.Attribute o f pos'] e spos :: rest) D σ H :=
  useSs (pss_cons (ps_fld (pE o) (pE e) hs) (pSs rest)) <| he G1 H _ s k1 fun v G2 H2 s2 k2 r2 => ho G2 G2 H2 _ (Same.refl _) k2 fun u G3 H3 s3 k3 r3 => by
    cases (show u = .ref a from r3)
    exact ⟨a, C, dx, fs, rfl, (hw.ok k3).cellAt, cl, na, hl, q v G3 _ (s2.trans s3) (hw.ok k3).put (m _ _ _ s3 r2)⟩
end
end K12
/-! K8: two clauses. -/
namespace K12
open PySem PySem.Spec PyProof.Rows L2
section
variable {X : Cx} {W : Wd} {e a b c : Expr} {es : List Expr} {σ : L2.St} {G G' H : Hp} {R R' : Rl} {d d' : PyData} {ds : List PyData} {v : V} {pos p : Pos} {x y : Str} {k : Bool}
theorem flatMap_take {α β : Type} {l : List α} {i : Nat} {a : α} (f : α → List β) (h : l[i]? = some a) : (l.take (i + 1)).flatMap f = (l.take i).flatMap f ++ f a := by
  rw [take_snoc h, List.flatMap_append]
  simp
theorem ev_lc2 {α β : Type} {elt iter iter1 : Expr} {scope : Scope} {own : List (Str × Nat)} {xs : List α} {ei : α → PyData} {ys : α → List β} {ej : β → PyData} {f : β → PyData} {p1 p2 : Pos} (i j : Nat) (hc : X.calm = true) (hN : X.N.Nodup) (ok : BlkOk X.N X.env.scope scope own) (hi : EvI X W (.Name x p1) iter σ G (xs.map ei))
    (hn : (xs.flatMap ys).length ≤ 1000000)
    (hi1 : ∀ x v σ2 G', x ∈ xs → Same G G' → Dp X.K G' v (ei x) → σ2 = (wipe σ (own.map (·.2))).set i (some v) → ∀ D acc s0 H0 C cl fp, EvI (bX X scope s0 H0 C cl fp) (W.sep (.cell D (.lst acc))) (.Name y p2) iter1 σ2 G' ((ys x).map ej))
    (he : ∀ x y v u σ2 G', x ∈ xs → y ∈ ys x → Same G G' → Dp X.K G' v (ei x) → Dp X.K G' u (ej y) → σ2 = (wipe ((wipe σ (own.map (·.2))).set i (some v)) [j]).set j (some u) → ∀ D acc s0 H0 C cl fp, Ev (bX X scope s0 H0 C cl fp) (W.sep (.cell D (.lst acc))) elt σ2 G' (Is X.K (f y)))
    (hx1 : X.N[i]? = some x := by rfl) (hy1 : X.N[j]? = some y := by rfl) (hm : i ∈ own.map (·.2) := by decide) (hm2 : j ∈ own.map (·.2) := by decide)
    (hx : LocB X scope x := by intro _ _ _ _ _; first | exact ⟨Or.inl rfl, Or.inr rfl⟩ | exact ⟨Or.inr rfl, Or.inl rfl⟩) (hy : LocB X scope y := by intro _ _ _ _ _; first | exact ⟨Or.inl rfl, Or.inr rfl⟩ | exact ⟨Or.inr rfl, Or.inl rfl⟩)
    (hs : ∀ x, foldedSetIterable iter X.env x = pure x := by intro _; rfl) (hs1 : ∀ env x, foldedSetIterable iter1 env x = pure x := by intro _ _; rfl) :
    Ev X W (.ListComp elt [⟨.Name x p1, iter, [], 0⟩, ⟨.Name y p2, iter1, [], 0⟩] scope pos) σ G (Lt X.K (xs.flatMap fun x => (ys x).map f)) := fun G0 H Q s k q => by
  refine useE (pe_lc2 (vs1 := [j]) hc hN (pI (.Name x p1) iter) ok (fun z hz => by rw [List.mem_singleton.mp hz]; exact hm2) (fun s H C cl fp => pbG s H C cl fp) (fun _ _ _ _ _ => pts_nil) (fun s H C cl fp => pbI s H C cl fp) (fun s H C cl fp => pbG s H C cl fp) (fun _ _ _ _ _ => pts_nil) (fun s H C cl fp => pbE s H C cl fp) hs hs1) ?_
  refine hi G0 H _ s k fun J G1 H1 sA k1 hJ D hD => ?_
  have hlen : ∀ i, ((xs.take i).flatMap ys).length ≤ (xs.flatMap ys).length := fun i => by
    conv => rhs; rw [← List.take_append_drop i xs, List.flatMap_append, List.length_append]
    omega
  refine ⟨fun i m H => ∃ G2 acc, Same G1 G2 ∧ (W.sep (.cell D (.lst acc))).ok G2 H ∧ DpAll X.K G2 acc ((xs.take i).flatMap fun x => (ys x).map f) ∧ i ≤ xs.length ∧ m = xs.length - i, ⟨xs.length, G1, [], Same.refl _, k1.newCell hD, .nil, Nat.zero_le _, rfl⟩, ?_⟩
  rintro n m H2 ⟨G2, acc, s2, k2, da, hi', rfl⟩
  obtain ⟨go, stop⟩ := hJ _ G2 H2 n s2 k2
  by_cases hlt : n < xs.length
  · have hxx : xs[n]? = some xs[n] := List.getElem?_eq_getElem hlt
    have hd : (xs.map ei)[n]? = some (ei xs[n]) := by rw [List.getElem?_map, hxx]; rfl
    have hmem := List.mem_of_getElem? hxx
    obtain ⟨g1, y1⟩ := go _ hd
    refine .inr ⟨g1, fun H' => ∃ G2 acc, Same G1 G2 ∧ (W.sep (.cell D (.lst acc))).ok G2 H' ∧ DpAll X.K G2 acc ((xs.take (n + 1)).flatMap fun x => (ys x).map f), fun H' ⟨G3, acc3, a1, a2, a3⟩ => ⟨xs.length - (n + 1), by omega, G3, acc3, a1, a2, a3, hlt, rfl⟩, fun v H' yv => ?_⟩
    obtain ⟨G3, s3, k3, dv⟩ := y1 v H' yv
    intro s0 H0 C cl fp
    refine wg_nm i ⟨by rw [wipe_set hm, wipe_wipe], ?_⟩ hN hx1 (hx s0 H0 C cl fp).1 (hx s0 H0 C cl fp).2
    intro s0 H0 C cl fp
    refine hi1 xs[n] v _ G3 hmem (((s.trans sA).trans s2).trans s3) dv rfl D acc s0 H0 C cl fp G3 H' _ (Same.refl _) k3 fun J1 G4 H4 s4 k4 hJ1 => ?_
    refine ⟨fun j m H => ∃ G5 acc, Same G4 G5 ∧ (W.sep (.cell D (.lst acc))).ok G5 H ∧ DpAll X.K G5 acc (((xs.take n).flatMap fun x => (ys x).map f) ++ ((ys xs[n]).take j).map f) ∧ j ≤ (ys xs[n]).length ∧ m = (ys xs[n]).length - j, ⟨(ys xs[n]).length, G4, acc, Same.refl _, k4, by rw [List.take_zero, List.map_nil, List.append_nil]; exact da.sm (s3.trans s4), Nat.zero_le _, rfl⟩, ?_⟩
    rintro j' m5 H5 ⟨G5, acc5, s5, k5, da5, hj5, rfl⟩
    obtain ⟨go1, stop1⟩ := hJ1 _ G5 H5 j' s5 k5
    by_cases hlt1 : j' < (ys xs[n]).length
    · have hyy : (ys xs[n])[j']? = some (ys xs[n])[j'] := List.getElem?_eq_getElem hlt1
      have hd1 : ((ys xs[n]).map ej)[j']? = some (ej (ys xs[n])[j']) := by rw [List.getElem?_map, hyy]; rfl
      have hmem1 := List.mem_of_getElem? hyy
      obtain ⟨g2, y2⟩ := go1 _ hd1
      refine .inr ⟨g2, fun H' => ∃ G5 acc, Same G4 G5 ∧ (W.sep (.cell D (.lst acc))).ok G5 H' ∧ DpAll X.K G5 acc (((xs.take n).flatMap fun x => (ys x).map f) ++ ((ys xs[n]).take (j' + 1)).map f), fun H' ⟨G6, acc6, a1, a2, a3⟩ => ⟨(ys xs[n]).length - (j' + 1), by omega, G6, acc6, a1, a2, a3, hlt1, rfl⟩, fun u H6 yu => ?_⟩
      obtain ⟨G6, s6, k6, du⟩ := y2 u H6 yu
      intro s0 H0 C cl fp
      refine wg_nm j ⟨by rw [wipe_set (List.mem_singleton.mpr rfl), wipe_wipe], ?_⟩ hN hy1 (hy s0 H0 C cl fp).1 (hy s0 H0 C cl fp).2
      intro s0 H0 C cl fp
      refine he xs[n] (ys xs[n])[j'] v u _ G6 hmem hmem1 ((((((s.trans sA).trans s2).trans s3).trans s4).trans s5).trans s6) (dv.sm ((s4.trans s5).trans s6)) du rfl D acc5 s0 H0 C cl fp G6 H6 _ (Same.refl _) k6 fun z G7 H7 s7 k7 dz => ?_
      refine ⟨acc5, k7.cellAt, ?_, G7, acc5 ++ [z], (s5.trans s6).trans s7, k7.put, ?_⟩
      · rw [sizeLine_eq, da5.length, List.length_append, List.length_map, List.length_take]
        have h1 := hlen (n + 1)
        rw [flatMap_take ys hxx, List.length_append] at h1
        have h2 : ((xs.take n).flatMap fun x => (ys x).map f).length = ((xs.take n).flatMap ys).length := by
          simp [List.length_flatMap]
        rw [h2]
        omega
      · rw [take_snoc hyy, List.map_append, ← List.append_assoc]
        exact (da5.sm (s6.trans s7)).snoc dz
    · have e : j' = (ys xs[n]).length := by omega
      subst e
      refine .inl ⟨stop1 (by rw [List.length_map]; exact Nat.le_refl _), G5, acc5, ((s2.trans s3).trans s4).trans s5, k5, ?_⟩
      rw [List.take_length] at da5
      rw [flatMap_take (fun x => (ys x).map f) hxx]
      exact da5
  · have e : n = xs.length := by omega
    subst e
    refine .inl ⟨stop (by rw [List.length_map]; exact Nat.le_refl _), ?_⟩
    rw [List.take_length] at da
    have gD : G2 D = none := k2.out D (.inr rfl)
    exact q _ _ H2 ((sA.trans s2).trans (same_new gD)) k2.give ⟨D, acc, rfl, upd_same, da.sm (same_new gD)⟩
end
end K12
/-! M2: fractions over a common bottom. -/
namespace K12
open PySem
/-- every bottom divides D: as a fraction over D -/
theorem over_iff {D : Nat} (hD : 0 < D) (x : Rat) : x.den ∣ D ↔ ∃ n : Int, x = mkRat n D := by
  constructor
  · rintro ⟨c, e⟩
    have hc : c ≠ 0 := by rintro rfl; omega
    refine ⟨x.num * c, ?_⟩
    conv => lhs; rw [← Rat.mkRat_self x]
    rw [e, Rat.mkRat_mul_right hc]
  · rintro ⟨n, rfl⟩
    rw [Rat.den_mkRat, if_neg (by omega)]
    exact Nat.div_dvd_of_dvd (Nat.gcd_dvd_left _ _)
theorem over_add {D : Nat} (hD : 0 < D) {a b : Rat} (ha : a.den ∣ D) (hb : b.den ∣ D) : (a + b).den ∣ D := by
  obtain ⟨n, rfl⟩ := (over_iff hD a).mp ha
  obtain ⟨m, rfl⟩ := (over_iff hD b).mp hb
  refine (over_iff hD _).mpr ⟨n + m, ?_⟩
  rw [Rat.mkRat_add_mkRat _ _ (by omega) (by omega), ← Int.add_mul, Rat.mkRat_mul_right (by omega)]
theorem over_mul {D E : Nat} (hD : 0 < D) (hE : 0 < E) {a b : Rat} (ha : a.den ∣ D) (hb : b.den ∣ E) : (a * b).den ∣ D * E := by
  obtain ⟨n, rfl⟩ := (over_iff hD a).mp ha
  obtain ⟨m, rfl⟩ := (over_iff hE b).mp hb
  exact (over_iff (Nat.mul_pos hD hE) _).mpr ⟨n * m, Rat.mkRat_mul_mkRat _ _ _ _⟩
theorem over_zero {D : Nat} : (0 : Rat).den ∣ D := Nat.one_dvd D
theorem over_one {D : Nat} : (1 : Rat).den ∣ D := Nat.one_dvd D
/-- a fraction from nought to L over D is small -/
theorem sq_of {D L : Nat} (hD : 0 < D) {x : Rat} (h0 : 0 ≤ x) (h1 : x ≤ (L : Rat)) (hd : x.den ∣ D) (hL : L * D < 2 ^ 1000) (hD2 : D < 2 ^ 1000) : Sq x := by
  have hle := Nat.le_of_dvd hD hd
  refine ⟨?_, by omega⟩
  have e0 := Rat.num_nonneg.mpr h0
  have e1 := (Rat.le_iff x (L : Rat)).mp h1
  have e2 : x.num ≤ (L : Int) * x.den := by simpa using e1
  have e3 : x.num.natAbs ≤ L * x.den := by
    have : (x.num.natAbs : Int) ≤ ((L * x.den : Nat) : Int) := by rw [Int.natAbs_of_nonneg e0, Int.natCast_mul]; exact e2
    exact_mod_cast this
  have e4 : L * x.den ≤ L * D := Nat.mul_le_mul_left L hle
  omega
theorem sumR_nonneg : ∀ {l : List Rat}, (∀ q ∈ l, 0 ≤ q) → 0 ≤ sumR l
  | [], _ => Rat.le_refl
  | q :: r, h => by
    have h1 := h q List.mem_cons_self
    have h2 := sumR_nonneg (l := r) fun x hx => h x (List.mem_cons_of_mem _ hx)
    show 0 ≤ q + sumR r
    grind
theorem sumR_le : ∀ {l : List Rat}, (∀ q ∈ l, q ≤ 1) → sumR l ≤ (l.length : Rat)
  | [], _ => Rat.le_refl
  | q :: r, h => by
    have h1 := h q List.mem_cons_self
    have h2 := sumR_le (l := r) fun x hx => h x (List.mem_cons_of_mem _ hx)
    show q + sumR r ≤ ((r.length + 1 : Nat) : Rat)
    have e : ((r.length + 1 : Nat) : Rat) = (r.length : Rat) + 1 := by simp
    rw [e]
    grind
theorem sumR_over {D : Nat} (hD : 0 < D) : ∀ {l : List Rat}, (∀ q ∈ l, q.den ∣ D) → (sumR l).den ∣ D
  | [], _ => over_zero
  | q :: r, h => over_add hD (h q List.mem_cons_self) (sumR_over hD fun x hx => h x (List.mem_cons_of_mem _ hx))
/-- bottoms that may stand -/
def Bot (D : Nat) : Prop := 0 < D ∧ D < 2 ^ 900
theorem natLe {n m : Nat} (h : n ≤ m) : (n : Rat) ≤ (m : Rat) := by exact_mod_cast h
theorem sq_rg {D : Nat} (hD : Bot D) {x : Rat} (h : Rg D x) : Sq x :=
  sq_of (L := 1) hD.1 h.1 (by simpa using h.2.1) h.2.2 (by have := hD.2; have e : 2 ^ 900 < 2 ^ 1000 := by decide
                                                           omega) (by have := hD.2; have e : 2 ^ 900 < 2 ^ 1000 := by decide
                                                                      omega)
theorem sq_part {D : Nat} (hD : Bot D) {qs : List Rat} (hl : qs.length ≤ 1000000) (h : ∀ q ∈ qs, Rg D q) : Sq (sumR qs) := by
  refine sq_of (L := 1000000) hD.1 (sumR_nonneg fun q hq => (h q hq).1) (Rat.le_trans (sumR_le fun q hq => (h q hq).2.1) (natLe hl)) (sumR_over hD.1 fun q hq => (h q hq).2.2) ?_ ?_
  · have := hD.2
    have e : 1000000 * 2 ^ 900 < 2 ^ 1000 := by decide
    omega
  · have := hD.2
    have e : 2 ^ 900 < 2 ^ 1000 := by decide
    omega
theorem adds_of {D : Nat} (hD : Bot D) {qs : List Rat} (hl : qs.length ≤ 1000000) (h : ∀ q ∈ qs, Rg D q) : Adds qs :=
  ⟨hl, fun q hq => sq_rg hD (h q hq), fun i => sq_part hD (by rw [List.length_take]; omega) fun q hq => h q (List.mem_of_mem_take hq)⟩
theorem rg_zero {D : Nat} : Rg D 0 := ⟨Rat.le_refl, by decide, over_zero⟩
theorem rg_one {D : Nat} : Rg D 1 := ⟨by decide, Rat.le_refl, over_one⟩
theorem at0_rg {D k : Nat} {ws : List Rat} (h : ∀ x ∈ ws, Rg D x) : Rg D (at0 ws k) := by
  unfold at0
  rw [List.getD_eq_getElem?_getD]
  cases e : ws[k]? with
  | none => exact rg_zero
  | some y => exact h y (List.mem_of_getElem? e)
theorem col_rg {D k : Nat} {q : List An} (h : ∀ a ∈ q, ∀ x ∈ a.2.1, Rg D x) : ∀ x ∈ q.map (fun a => at0 a.2.1 k), Rg D x := by
  intro x hx
  obtain ⟨a, ha, rfl⟩ := List.mem_map.mp hx
  exact at0_rg (h a ha)
/-! ### equal data -/
theorem eqv_encRs : ∀ (as bs : List Rat), PyData.eqvAll (as.map encR) (bs.map encR) = decide (as = bs)
  | [], [] => rfl
  | [], _ :: _ => rfl
  | _ :: _, [] => rfl
  | a :: as, b :: bs => by
    show (PyData.eqv (encR a) (encR b) && PyData.eqvAll (as.map encR) (bs.map encR)) = _
    rw [eqv_encR, eqv_encRs as bs]
    by_cases h1 : a = b
    · by_cases h2 : as = bs
      · subst h1 h2; simp
      · simp [h1, h2]
    · simp [h1]
theorem eqv_encWs (as bs : List Rat) : PyData.eqv (encWs as) (encWs bs) = decide (as = bs) := eqv_encRs as bs
theorem canLay_encRs : ∀ as : List Rat, PyData.canLayAll0 (as.map encR) = true
  | [] => rfl
  | a :: as => by
    show (PyData.canLay0 (encR a) && PyData.canLayAll0 (as.map encR)) = true
    rw [canLay_encRs as]
    rfl
theorem depth_encRs : ∀ as : List Rat, PyData.depthAll (as.map encR) ≤ 2
  | [] => by decide
  | a :: as => by
    have := depth_encRs as
    have e : PyData.depth (encR a) ≤ 2 := by
      unfold encR
      simp [PyData.depth, PyData.depthAll]
    show PyData.depthAll (encR a :: as.map encR) ≤ 2
    simp only [PyData.depthAll]
    omega
theorem shaped_encWs (as : List Rat) : SeqAt.shaped (encWs as) = true := by
  unfold SeqAt.shaped encWs
  have h1 := canLay_encRs as
  have h2 := depth_encRs as
  rw [PyData.canLay0, PyData.depth, h1, Bool.true_and]
  exact decide_eq_true (by omega)
end K12
/-! D4: houses. -/
namespace K12
open PySem PySem.Spec PyProof.Rows L2
section
variable {P : Program} {w : World} {K : PySem.W.Frag} {mg : Str → Option Value} {base : Heap}
theorem encWs_get {ws : List Rat} {k : Nat} (h : k < ws.length) : (ws.map encR)[k]? = some (encR (at0 ws k)) := by
  rw [List.getElem?_map, List.getElem?_eq_getElem h]
  unfold at0
  rw [List.getD_eq_getElem?_getD, List.getElem?_eq_getElem h]
  rfl
def dmAdded (ds : List PyData) (d : PyData) : Prop := ∃ (W : Nat) (q : List An), W ≤ 5 ∧ q.length ≤ 1000 ∧ (∀ a ∈ q, a.2.1.length = W) ∧ (∀ k, k < W → Adds (q.map fun a => at0 a.2.1 k)) ∧ ds = [.int W, encQ q] ∧ d = encWs (colsum W q)
theorem c_added (A : At K mg "added_weights" s_added_weights ["worlds", "question"]) (T : Txt K mg) (c1 : CalD P w K mg base 4 "total" 1 dmTotal) : CalD P w K mg base 5 "added_weights" 2 dmAdded := by
  refine calD_mk A sc_added_weights rfl fun f cdv A outer s H vs Q E hr W G ds d k hd hdom q => ?_
  obtain ⟨n, qs, hn, hq, hl, ha, rfl, rfl⟩ := hdom
  obtain ⟨v1, v2, rfl, h1, h2⟩ := dpAll_two hd
  refine ws_retE (Ev.eq (ev_tupleL T.ztuple (Ev.dp (ev_lcD (own := [("world", 2)]) (xs := List.range n) (ei := fun i : Nat => PyData.int (i : Int)) (fun k => encR (sumR (qs.map fun a => at0 a.2.1 k))) rfl sc_added_weights.nd (blkOk_by (N := n_added_weights) (sc := defScope s_added_weights) (by decide +kernel))
    (ei_range T.range (ev_nm 0 rfl h1) (by omega)) rfl (by rw [List.length_range]; omega) (tg1 2 sc_added_weights.nd) ?_))) ?_) (Same.refl _) k q
  · rintro i x v σ2 G' D acc hx s1 ⟨a1, rfl⟩ s0 H0 C cl fp
    have hx' : x < n := by
      have := List.mem_of_getElem? hx
      simpa using this
    refine ev_call c1 hr (by decide) (ea1 (Ev.eq (Ev.dp (ev_lcD (own := [("answer", 3)]) (xs := qs) (ei := encA) (fun a => encR (at0 a.2.1 x)) rfl sc_added_weights.nd (blkIn (N := n_added_weights) (sc := defScope s_added_weights) rfl rfl (by decide +kernel)) (ei_tup (ev_nm 1 rfl (h2.sm s1))) rfl (by omega) (tg1 3 sc_added_weights.nd) ?_)) ?_)) ⟨_, ha x hx', rfl, rfl⟩
    · rintro i2 y v2 σ3 G2 D2 acc2 hy s2 ⟨a2, rfl⟩ s02 H02 C2 cl2 fp2
      refine ev_ix (j := x) (ev_ix (j := 1) (ev_nm 3 rfl a2) ev_int rfl) (ev_nm 2 rfl (a1.sm s2)) ?_
      exact encWs_get (by rw [hl y (List.mem_of_getElem? hy)]; exact hx')
    · rw [List.map_map]; rfl
  · unfold encWs colsum
    rw [List.map_map]; rfl

/-! ### what is wrong with a tree: nothing -/
def encP (pl : List Int) : PyData := .tuple (pl.map .int)
def dmWrongN (n : Nat) (ds : List PyData) (d : PyData) : Prop := ∃ (A W D : Nat) (ah : List Rat) (nd : Nd) (pl : List Int), Bot D ∧ A ≤ 12 ∧ W ≤ 5 ∧ Val A W D n ah nd ∧ pl.length + 2 * n ≤ 16 ∧ ds = [.int W, encN nd, encWs ah, encP pl] ∧ d = .none
def QOk (A W D n : Nat) (ah : List Rat) (q : List An) : Prop := 1 ≤ q.length ∧ q.length ≤ A ∧ WordsOk (q.map (·.1)) ∧ (∀ a ∈ q, a.2.1.length = W ∧ ∀ x ∈ a.2.1, Rg D x) ∧ colsum W q = ah ∧ ∀ a ∈ q, Val A W D n a.2.1 a.2.2
def dmWrongQ (n : Nat) (ds : List PyData) (d : PyData) : Prop := ∃ (A W D : Nat) (ah : List Rat) (q : List An) (pl : List Int), Bot D ∧ A ≤ 12 ∧ W ≤ 5 ∧ QOk A W D n ah q ∧ pl.length + 2 * n + 1 ≤ 16 ∧ ds = [.int W, encQ q, encWs ah, encP pl] ∧ d = .none
theorem numbered_map {α : Type} {f : α → PyData} {l : List α} {i : Nat} {d : PyData} (h : (numbered 0 (l.map f))[i]? = some d) : ∃ x, l[i]? = some x ∧ d = .tuple [.int (i : Int), f x] := by
  rw [numbered_get, List.getElem?_map, Nat.zero_add] at h
  cases e : l[i]? with
  | none => rw [e] at h; cases h
  | some x => rw [e] at h; cases h; exact ⟨x, rfl, rfl⟩
theorem encP_snoc (pl : List Int) (i : Int) : PyData.tuple (pl.map .int ++ [.int i]) = encP (pl ++ [i]) := by unfold encP; rw [List.map_append]; rfl
theorem c_wrongN {n k1 : Nat} (A : At K mg "wrong_in_node" s_wrong_in_node ["worlds", "node", "ahead", "place"]) (T : Txt K mg) (hk : 1 ≤ k1) (c1 : CalD P w K mg base 1 "is_sized" 3 dmSized)
    (c2 : ∀ m, n = m + 1 → CalD P w K mg base k1 "wrong_in_question" 4 (dmWrongQ m)) : CalD P w K mg base (k1 + 1) "wrong_in_node" 4 (dmWrongN n) := by
  refine calD_mk A sc_wrong_in_node rfl fun f cdv A outer s H vs Q E hr W G ds d k hd hdom q => ?_
  obtain ⟨A0, W0, D, ah, nd, pl, hD, hA, hW, hv, hp, rfl, rfl⟩ := hdom
  rw [encN_eq] at hd
  obtain ⟨v1, v2, v3, v4, rfl, h1, h2, h3, h4⟩ : ∃ v1 v2 v3 v4, vs = [v1, v2, v3, v4] ∧ Dp K G v1 (.int W0) ∧ Dp K G v2 (.tuple (nd.qs.map encQ)) ∧ Dp K G v3 (encWs ah) ∧ Dp K G v4 (encP pl) := by
    cases hd with | cons a t => cases t with | cons b t => cases t with | cons c t => cases t with | cons e t => cases t; exact ⟨_, _, _, _, rfl, a, b, c, e⟩
  have hlen : nd.qs.length ≤ 5 ∧ (n = 0 → nd.qs.length = 0) := by
    cases n with
    | zero => exact ⟨by rw [show nd.qs = [] from hv]; exact Nat.zero_le _, fun _ => by rw [show nd.qs = [] from hv]; rfl⟩
    | succ n => exact ⟨by have := hv.1; omega, fun z => nomatch z⟩
  refine ws_ifF (et_of (ew_orF (et_nT (Ev.eq (ev_call c1 hr hk (ea_cons (ev_nm 1 rfl h2) (ea_cons ev_int (ea1 (ev_gc T.questions)))) ⟨_, _, _, rfl, rfl⟩) ?_)) (ew_or1 (EvT.eq (et_of (ew_and (et_cmp (ev_lenT T.len (ev_nm 3 rfl h4)) (ev_mul ev_int (ev_gc T.rounds) (.inl ⟨by decide, by decide⟩))) fun _ => ew_and1 (et_cmp (ev_lenT T.len (ev_nm 1 rfl h2)) ev_int))) ?_)))) (Same.refl _) k fun G1 H1 s1 k1 => ?_
  · simp [sizedD, is_tuple, lenD]
    omega
  · simp [cmpI]
    intro e
    have : n = 0 := by omega
    have := hlen.2 this
    simpa using this
  · refine ws_for (fun i σ W' G' => W' = W ∧ ∃ a b c, σ = [some v1, some v2, some v3, some v4, a, b, c]) (ei_enum T.enum (ev_nm 1 rfl (h2.sm s1))) (Same.refl _) k1 (fun G2 s2 => ⟨rfl, none, none, none, rfl⟩)
      (fun Gb sb i d σ1 W1 G2 G3 H3 v hi s2 ⟨eW, x1, x2, x3, es⟩ s3 k3 hv3 => ?_) (fun σ1 W1 G2 H2 s2 k2 ⟨eW, x1, x2, x3, es⟩ => ?_) PassesOwn.never rfl
    · subst eW es
      obtain ⟨qq, hq, rfl⟩ := numbered_map hi
      refine wg_tup rfl hv3 k3.same (fun us hus => ?_)
      obtain ⟨u1, u2, rfl, b1, b2⟩ := dpAll_two hus
      refine wgs_cons (wg_nm 4 (wgs_cons (wg_nm 5 (wgs_nil ?_) sc_wrong_in_node.nd)) sc_wrong_in_node.nd)
      have sg : Same G G3 := (((s1.trans sb).trans s2).trans s3)
      cases n with
      | zero => rw [show nd.qs = [] from hv] at hq; cases hq
      | succ n =>
        have hm := List.mem_of_getElem? hq
        refine ws_setE 6 (ev_call (c2 n rfl) hr (Nat.le_refl _) (ea_cons (ev_nm 0 rfl (h1.sm sg)) (ea_cons (ev_nm 5 rfl b2) (ea_cons (ev_nm 2 rfl (h3.sm sg)) (ea1 (ev_cat (ev_nm 3 rfl (h4.sm sg)) (ev_tup (ea1 (ev_nm 4 rfl b1))) (by simp; omega)))))) ⟨A0, W0, D, ah, qq, pl ++ [(i : Int)], hD, hA, hW, hv.2 qq hm, by simp; omega, by rw [encP_snoc], rfl⟩) (Same.refl _) k3 (fun v5 G5 H5 s5 k5 h5 => ?_) sc_wrong_in_node.nd
        refine ws_ifF (et_notN (ev_nm 6 rfl h5)) (Same.refl _) k5 fun G6 H6 s6 k6 => ws_nil ⟨_, G6, ((s2.trans s3).trans s5).trans s6, k6, rfl, _, _, _, rfl⟩
    · subst eW es
      exact ws_retE ev_non (Same.refl _) k2 (fun v G4 H4 s4 k4 r => q v G4 H4 ((s1.trans s2).trans s4) k4 r)

theorem c_wrongQ {n k1 : Nat} (A : At K mg "wrong_in_question" s_wrong_in_question ["worlds", "question", "ahead", "place"]) (T : Txt K mg) (hk : 5 ≤ k1) (c1 : CalD P w K mg base 1 "is_sized" 3 dmSized)
    (c2 : CalD P w K mg base 4 "is_answer" 2 dmAnswer) (c3 : CalD P w K mg base 1 "are_rising" 1 dmRising) (c4 : CalD P w K mg base 5 "added_weights" 2 dmAdded)
    (c5 : CalD P w K mg base k1 "wrong_in_node" 4 (dmWrongN n)) : CalD P w K mg base (k1 + 1) "wrong_in_question" 4 (dmWrongQ n) := by
  refine calD_mk A sc_wrong_in_question rfl fun f cdv A outer s H vs Q E hr W G ds d k hd hdom q => ?_
  obtain ⟨A0, W0, D, ah, qs, pl, hD, hA, hW, ⟨g1, g2, g3, g4, g5, g6⟩, hp, rfl, rfl⟩ := hdom
  obtain ⟨v1, v2, v3, v4, rfl, h1, h2, h3, h4⟩ : ∃ v1 v2 v3 v4, vs = [v1, v2, v3, v4] ∧ Dp K G v1 (.int W0) ∧ Dp K G v2 (encQ qs) ∧ Dp K G v3 (encWs ah) ∧ Dp K G v4 (encP pl) := by
    cases hd with | cons a t => cases t with | cons b t => cases t with | cons c t => cases t with | cons e t => cases t; exact ⟨_, _, _, _, rfl, a, b, c, e⟩
  refine ws_ifF (et_nT (Ev.eq (ev_call c1 hr (by omega) (ea_cons (ev_nm 1 rfl h2) (ea_cons ev_int (ea1 (ev_gc T.answers)))) ⟨_, _, _, rfl, rfl⟩) ?_)) (Same.refl _) k fun G1 H1 s1 k1 => ?_
  · simp [sizedD, is_tuple, lenD, encQ]
    omega
  refine ws_for (fun i σ W' G' => W' = W ∧ ∃ a b c, σ = [some v1, some v2, some v3, some v4, a, b, c]) (ei_enum (ds := qs.map encA) T.enum (ev_nm 1 rfl (h2.sm s1))) (Same.refl _) k1 (fun G2 s2 => ⟨rfl, none, none, none, rfl⟩)
      (fun Gb sb i d σ1 W1 G2 G3 H3 v hi s2 ⟨eW, x1, x2, x3, es⟩ s3 k3 hv3 => ?_) (fun σ1 W1 G2 H2 s2 k2 ⟨eW, x1, x2, x3, es⟩ => ?_) PassesOwn.never rfl
  · subst eW es
    obtain ⟨qq, hq, rfl⟩ := numbered_map hi
    refine wg_tup rfl hv3 k3.same (fun us hus => ?_)
    obtain ⟨u1, u2, rfl, b1, b2⟩ := dpAll_two hus
    refine wgs_cons (wg_nm 4 (wgs_cons (wg_nm 5 (wgs_nil ?_) sc_wrong_in_question.nd)) sc_wrong_in_question.nd)
    have sg : Same G G3 := (((s1.trans sb).trans s2).trans s3)
    have hm := List.mem_of_getElem? hq
    have hw := g3.1 qq.1 (List.mem_map_of_mem hm)
    refine ws_ifF (et_nT (ev_call c2 hr (by omega) (ea_cons (ev_nm 0 rfl (h1.sm sg)) (ea1 (ev_nm 5 rfl b2))) ⟨W0, qq.1, qq.2.1, encN qq.2.2, hw.1, hw.2, (g4 qq hm).1, hW, fun x hx => ⟨((g4 qq hm).2 x hx).1, ((g4 qq hm).2 x hx).2.1⟩, rfl, rfl⟩)) (Same.refl _) k3 fun G6 H6 s6 k6 => ws_nil ⟨_, G6, (s2.trans s3).trans s6, k6, rfl, _, _, _, rfl⟩
  · subst eW es
    have sg : Same G G2 := s1.trans s2
    have hcol : ∀ k, k < W0 → Adds (qs.map fun a => at0 a.2.1 k) := fun k _ => adds_of hD (by rw [List.length_map]; omega) (col_rg fun a ha => (g4 a ha).2)
    refine ws_ifF (et_of (ew_orF (et_nT (Ev.eq (ev_call c3 hr (by omega) (ea1 (Ev.eq (Ev.dp (ev_lcD (own := [("answer", 5)]) (xs := qs) (ei := encA) (fun a => encW a.1) rfl sc_wrong_in_question.nd (blkOk_by (N := n_wrong_in_question) (sc := defScope s_wrong_in_question) (by decide +kernel))
      (ei_tup (ev_nm 1 rfl (h2.sm sg))) rfl (by omega) (tg1 5 sc_wrong_in_question.nd) ?_)) (show PyData.list (qs.map fun a => encW a.1) = .list ((qs.map (·.1)).map encW) by rw [List.map_map]; rfl))) ⟨qs.map (·.1), by rw [List.length_map]; omega, rfl, rfl⟩) (by rw [g3.2])))
      (ew_or1 (EvT.eq (et_neD hr.units (ev_call c4 hr (by omega) (ea_cons (ev_nm 0 rfl (h1.sm sg)) (ea1 (ev_nm 1 rfl (h2.sm sg)))) ⟨W0, qs, hW, by omega, fun a ha => (g4 a ha).1, hcol, rfl, rfl⟩) (ev_nm 2 rfl (h3.sm sg)) (shaped_encWs _) (shaped_encWs _)) (by rw [eqv_encWs, g5]; simp))))) (Same.refl _) k2 fun G3 H3 s3 k3 => ?_
    · rintro i x v σ2 G' D acc hx s1 ⟨a1, rfl⟩ s0 H0 C cl fp
      exact ev_ix (j := 0) (ev_nm 5 rfl a1) ev_int rfl
    refine ws_for (fun i σ W' G' => W' = W1 ∧ ∃ a b c, σ = [some v1, some v2, some v3, some v4, a, b, c]) (ei_enum (ds := qs.map encA) T.enum (ev_nm 1 rfl (h2.sm (sg.trans s3)))) (Same.refl _) k3 (fun G2 s2 => ⟨rfl, _, _, _, rfl⟩)
      (fun Gb sb i d σ1 W1 G4 G5 H5 v hi s4 ⟨eW, x1, x2, x3, es⟩ s5 k5 hv3 => ?_) (fun σ1 W1 G4 H4 s4 k4 ⟨eW, x1, x2, x3, es⟩ => ?_) PassesOwn.never rfl
    · subst eW es
      obtain ⟨qq, hq, rfl⟩ := numbered_map hi
      refine wg_tup rfl hv3 k5.same (fun us hus => ?_)
      obtain ⟨u1, u2, rfl, b1, b2⟩ := dpAll_two hus
      refine wgs_cons (wg_nm 4 (wgs_cons (wg_nm 5 (wgs_nil ?_) sc_wrong_in_question.nd)) sc_wrong_in_question.nd)
      have sg2 : Same G G5 := (((sg.trans s3).trans sb).trans s4).trans s5
      have hm := List.mem_of_getElem? hq
      refine ws_setE 6 (ev_call c5 hr (Nat.le_refl _) (ea_cons (ev_nm 0 rfl (h1.sm sg2)) (ea_cons (ev_ix (j := 2) (ev_nm 5 rfl b2) ev_int rfl) (ea_cons (ev_ix (j := 1) (ev_nm 5 rfl b2) ev_int rfl) (ea1 (ev_cat (ev_nm 3 rfl (h4.sm sg2)) (ev_tup (ea1 (ev_nm 4 rfl b1))) (by simp; omega))))))
        ⟨A0, W0, D, qq.2.1, qq.2.2, pl ++ [(i : Int)], hD, hA, hW, g6 qq hm, by simp; omega, by rw [encP_snoc], rfl⟩) (Same.refl _) k5 (fun v5 G6 H6 s6 k6 h5 => ?_) sc_wrong_in_question.nd
      exact ws_ifF (et_notN (ev_nm 6 rfl h5)) (Same.refl _) k6 fun G7 H7 s7 k7 => ws_nil ⟨_, G7, ((s4.trans s5).trans s6).trans s7, k7, rfl, _, _, _, rfl⟩
    · subst eW es
      exact ws_retE ev_non (Same.refl _) k4 (fun v G7 H7 s7 k7 r => q v G7 H7 (((sg.trans s3).trans s4).trans s7) k7 r)
/-! ### how many answers, how many rounds -/
def dmCount (n : Nat) (ds : List PyData) (d : PyData) : Prop := ∃ (A : Nat) (nd : Nd), A ≤ 12 ∧ Shp A n nd ∧ ds = [encN nd] ∧ d = .int (cnt nd : Int)
theorem sum_flat {α : Type} (f : α → Nat) : ∀ l : List (List α), ((l.flatMap fun x => x.map fun a => (f a : Int)).sum : Int) = (((l.map fun x => (x.map f).sum).sum : Nat) : Int)
  | [] => rfl
  | x :: r => by
    rw [List.flatMap_cons, List.map_cons, List.sum_append, sum_flat f r, List.sum_cons, Int.natCast_add]
    congr 1
    induction x with
    | nil => rfl
    | cons a t ih => rw [List.map_cons, List.map_cons, List.sum_cons, List.sum_cons, ih, Int.natCast_add]
theorem flat_len {A n : Nat} {nd : Nd} (h : Shp A n nd) (hA : A ≤ 12) : (nd.qs.flatMap fun q => q).length ≤ 1000 := by
  cases n with
  | zero => rw [show nd.qs = [] from h]; simp
  | succ n =>
    have h1 := h.1
    have h2 : ∀ q ∈ nd.qs, q.length ≤ 12 := fun q hq => Nat.le_trans (h.2 q hq).2.1 hA
    have : ∀ l : List (List An), (∀ q ∈ l, q.length ≤ 12) → (l.flatMap fun q => q).length ≤ 12 * l.length := fun l => by
      induction l with
      | nil => intro _; simp
      | cons q r ih =>
        intro hl
        rw [List.flatMap_cons, List.length_append, List.length_cons]
        have a1 := hl q List.mem_cons_self
        have a2 := ih fun x hx => hl x (List.mem_cons_of_mem _ hx)
        omega
    have := this _ h2
    omega
theorem flat_ints (f : An → Nat) : ∀ l : List (List An), (l.flatMap fun x => x.map fun a => PyData.int (f a : Int)) = (l.flatMap fun x => x.map fun a => (f a : Int)).map PyData.int
  | [] => rfl
  | q :: r => by rw [List.flatMap_cons, List.flatMap_cons, List.map_append, flat_ints f r, List.map_map]; rfl
theorem flat_len2 {β : Type} (f : An → β) : ∀ l : List (List An), (l.flatMap fun x => x.map f).length = (l.flatMap fun q => q).length
  | [] => rfl
  | q :: r => by rw [List.flatMap_cons, List.flatMap_cons, List.length_append, List.length_append, flat_len2 f r, List.length_map]
theorem shp_sub {A n : Nat} {nd : Nd} (h : Shp A n nd) {q : List An} (hq : q ∈ nd.qs) {a : An} (ha : a ∈ q) : ∃ m, n = m + 1 ∧ Shp A m a.2.2 := by
  cases n with
  | zero => rw [show nd.qs = [] from h] at hq; cases hq
  | succ m => exact ⟨m, rfl, (h.2 q hq).2.2 a ha⟩
theorem c_count {n k1 : Nat} (A : At K mg "count_answers" s_count_answers ["node"]) (T : Txt K mg) (c2 : ∀ m, n = m + 1 → CalD P w K mg base k1 "count_answers" 1 (dmCount m)) : CalD P w K mg base (k1 + 1) "count_answers" 1 (dmCount n) := by
  refine calD_mk A sc_count_answers rfl fun f cdv A outer s H vs Q E hr W G ds d k hd hdom q => ?_
  obtain ⟨A0, nd, hA, hS, rfl, rfl⟩ := hdom
  rw [encN_eq] at hd
  obtain ⟨v1, rfl, h1⟩ := dpAll_one hd
  refine ws_retE (Ev.eq (ev_sum (ns := nd.qs.flatMap fun q => q.map fun a => ((1 + cnt a.2.2 : Nat) : Int)) T.sum rfl (Ev.eq (Ev.dp (ev_lc2 (own := [("question", 1), ("answer", 2)]) (xs := nd.qs) (ei := encQ) (ys := fun q => q) (ej := encA) (f := fun a => .int ((1 + cnt a.2.2 : Nat) : Int)) 1 2 rfl sc_count_answers.nd
    (blkOk_by (N := n_count_answers) (sc := defScope s_count_answers) (by decide +kernel)) (ei_tup (ev_nm 0 rfl h1)) (Nat.le_trans (flat_len hS hA) (by decide)) ?_ ?_)) ?_)) ?_) (Same.refl _) k q
  · rintro x v σ2 G' hx s1 dv rfl D acc s0 H0 C cl fp
    exact ei_tup (ev_nm 1 rfl dv)
  · rintro x y v u σ2 G' hx hy s1 dv du rfl D acc s0 H0 C cl fp
    obtain ⟨m, hm, hS'⟩ := shp_sub hS hx hy
    exact Ev.eq (ev_add ev_int (ev_call (c2 m hm) hr (Nat.le_refl _) (ea1 (ev_ix (j := 2) (ev_nm 2 rfl du) ev_int rfl)) ⟨A0, y.2.2, hA, hS', rfl, rfl⟩)) (by rw [Int.natCast_add]; rfl)
  · exact congrArg PyData.list (flat_ints _ _)
  · rw [sum_flat (fun a : An => 1 + cnt a.2.2), cnt_eq]
def dmRounds (n : Nat) (ds : List PyData) (d : PyData) : Prop := ∃ (A : Nat) (nd : Nd), A ≤ 12 ∧ Shp A n nd ∧ ds = [encN nd] ∧ d = .int (deep nd : Int)
theorem listMax_le : ∀ (l : List Nat) (m : Nat), m ≤ l.foldl Nat.max m ∧ (∀ x ∈ l, x ≤ l.foldl Nat.max m) ∧ (l.foldl Nat.max m = m ∨ l.foldl Nat.max m ∈ l)
  | [], m => ⟨Nat.le_refl _, (fun x hx => nomatch hx), .inl rfl⟩
  | a :: r, m => by
    obtain ⟨h1, h2, h3⟩ := listMax_le r (Nat.max m a)
    have e1 : m ≤ Nat.max m a := Nat.le_max_left _ _
    have e2 : a ≤ Nat.max m a := Nat.le_max_right _ _
    refine ⟨Nat.le_trans e1 h1, fun x hx => ?_, ?_⟩
    · rcases List.mem_cons.mp hx with rfl | hx
      · exact Nat.le_trans e2 h1
      · exact h2 x hx
    · show r.foldl Nat.max (Nat.max m a) = m ∨ r.foldl Nat.max (Nat.max m a) ∈ a :: r
      rcases h3 with h3 | h3
      · rcases Nat.le_total m a with hh | hh
        · refine .inr ?_
          rw [h3, show Nat.max m a = a from Nat.max_eq_right hh]
          exact List.mem_cons_self
        · refine .inl ?_
          rw [h3, show Nat.max m a = m from Nat.max_eq_left hh]
      · exact .inr (List.mem_cons_of_mem _ h3)
theorem c_rounds {n k1 : Nat} (A : At K mg "most_rounds" s_most_rounds ["node"]) (T : Txt K mg) (c2 : ∀ m, n = m + 1 → CalD P w K mg base k1 "most_rounds" 1 (dmRounds m)) : CalD P w K mg base (k1 + 1) "most_rounds" 1 (dmRounds n) := by
  refine calD_mk A sc_most_rounds rfl fun f cdv A outer s H vs Q E hr W G ds d k hd hdom q => ?_
  obtain ⟨A0, nd, hA, hS, rfl, rfl⟩ := hdom
  rw [encN_eq] at hd
  obtain ⟨v1, rfl, h1⟩ := dpAll_one hd
  obtain ⟨m1, m2, m3⟩ := listMax_le (nd.qs.flatMap fun q => q.map fun a => 1 + deep a.2.2) 0
  refine ws_retE (ev_max (ns := 0 :: (nd.qs.flatMap fun q => q.map fun a => ((1 + deep a.2.2 : Nat) : Int))) T.max rfl (Ev.eq (Ev.dp (ev_catL (ev_lstT (ea1 ev_int)) (ev_lc2 (own := [("question", 1), ("answer", 2)]) (xs := nd.qs) (ei := encQ) (ys := fun q => q) (ej := encA) (f := fun a => .int ((1 + deep a.2.2 : Nat) : Int)) 1 2 rfl sc_most_rounds.nd
    (blkOk_by (N := n_most_rounds) (sc := defScope s_most_rounds) (by decide +kernel)) (ei_tup (ev_nm 0 rfl h1)) (Nat.le_trans (flat_len hS hA) (by decide)) ?_ ?_) ?_)) ?_) ?_ ?_) (Same.refl _) k q
  · rintro x v σ2 G' hx s1 dv rfl D acc s0 H0 C cl fp
    exact ei_tup (ev_nm 1 rfl dv)
  · rintro x y v u σ2 G' hx hy s1 dv du rfl D acc s0 H0 C cl fp
    obtain ⟨m, hm, hS'⟩ := shp_sub hS hx hy
    exact Ev.eq (ev_add ev_int (ev_call (c2 m hm) hr (Nat.le_refl _) (ea1 (ev_ix (j := 2) (ev_nm 2 rfl du) ev_int rfl)) ⟨A0, y.2.2, hA, hS', rfl, rfl⟩)) (by rw [Int.natCast_add]; rfl)
  · have := flat_len hS hA
    rw [flat_len2]
    show 1 + _ ≤ _
    omega
  · exact congrArg (fun l => PyData.list (.int 0 :: l)) (flat_ints _ _)
  · rw [deep_eq]
    rcases m3 with m3 | m3
    · unfold listMax
      rw [m3]
      exact List.mem_cons_self
    · refine List.mem_cons_of_mem _ ?_
      obtain ⟨q, hq, hm⟩ := List.mem_flatMap.mp m3
      obtain ⟨a, ha, e⟩ := List.mem_map.mp hm
      refine List.mem_flatMap.mpr ⟨q, hq, List.mem_map.mpr ⟨a, ha, ?_⟩⟩
      unfold listMax
      rw [e]
  · intro y hy
    rw [deep_eq]
    rcases List.mem_cons.mp hy with rfl | hy
    · exact Int.natCast_nonneg _
    · obtain ⟨q, hq, hm⟩ := List.mem_flatMap.mp hy
      obtain ⟨a, ha, rfl⟩ := List.mem_map.mp hm
      have := m2 (1 + deep a.2.2) (List.mem_flatMap.mpr ⟨q, hq, List.mem_map.mpr ⟨a, ha, rfl⟩⟩)
      unfold listMax
      exact_mod_cast this
/-! ### shapes -/
def dmShape (n : Nat) (ds : List PyData) (d : PyData) : Prop := ∃ (A : Nat) (nd : Nd), A ≤ 12 ∧ Shp A n nd ∧ ds = [encN nd] ∧ d = shp nd
theorem c_shape {n k1 : Nat} (A : At K mg "shape_of" s_shape_of ["node"]) (T : Txt K mg) (c2 : ∀ m, n = m + 1 → CalD P w K mg base k1 "shape_of" 1 (dmShape m)) : CalD P w K mg base (k1 + 1) "shape_of" 1 (dmShape n) := by
  refine calD_mk A sc_shape_of rfl fun f cdv A outer s H vs Q E hr W G ds d k hd hdom q => ?_
  obtain ⟨A0, nd, hA, hS, rfl, rfl⟩ := hdom
  rw [encN_eq] at hd
  obtain ⟨v1, rfl, h1⟩ := dpAll_one hd
  have hl : nd.qs.length ≤ 2 ∧ ∀ q ∈ nd.qs, q.length ≤ 12 := by
    cases n with
    | zero => rw [show nd.qs = [] from hS]; exact ⟨Nat.zero_le _, fun q hq => by cases hq⟩
    | succ n => exact ⟨hS.1, fun q hq => Nat.le_trans (hS.2 q hq).2.1 hA⟩
  refine ws_retE (Ev.eq (ev_tupleL T.ztuple (Ev.dp (ev_lcD (own := [("question", 1)]) (xs := nd.qs) (ei := encQ) (fun q => .tuple (q.map fun a => .tuple [encW a.1, shp a.2.2])) rfl sc_shape_of.nd
    (blkOk_by (N := n_shape_of) (sc := defScope s_shape_of) (by decide +kernel)) (ei_tup (ev_nm 0 rfl h1)) rfl (by omega) (tg1 1 sc_shape_of.nd) ?_))) (shp_eq nd).symm) (Same.refl _) k q
  rintro i x v σ2 G' D acc hx s1 ⟨a1, rfl⟩ s0 H0 C cl fp
  have hx' := List.mem_of_getElem? hx
  refine ev_tupleL T.ztuple (Ev.dp (ev_lcD (own := [("answer", 2)]) (xs := x) (ei := encA) (fun a => .tuple [encW a.1, shp a.2.2]) rfl sc_shape_of.nd
    (blkIn (N := n_shape_of) (sc := defScope s_shape_of) rfl rfl (by decide +kernel)) (ei_tup (ev_nm 1 rfl a1)) rfl (by have := hl.2 x hx'; omega) (tg1 2 sc_shape_of.nd) ?_))
  rintro i2 y v2 σ3 G2 D2 acc2 hy s2 ⟨a2, rfl⟩ s02 H02 C2 cl2 fp2
  obtain ⟨m, hm, hS'⟩ := shp_sub hS hx' (List.mem_of_getElem? hy)
  exact ev_tup (ea_cons (ev_ix (j := 0) (ev_nm 2 rfl a2) ev_int rfl) (ea1 (ev_call (c2 m hm) hr (Nat.le_refl _) (ea1 (ev_ix (j := 2) (ev_nm 2 rfl a2) ev_int rfl)) ⟨A0, y.2.2, hA, hS', rfl, rfl⟩)))
end
end K12
/-! K9: promises of any result, the class House, its own ==. -/
namespace PySem.W
open PySem PyProof.Rows
section
variable {prog : Program} {w : World} {A : Around} {E : Value → Shared → Prop} {s : Shared} {K : Frag} {x y C D L f : Addr} {h₀ : Heap} {m : Str → Option Value} {ox oy : Obj} {od oe : Option Obj}
/-- == with the subclass at the right: its own == is asked first -/
theorem cmp_KR {Q : Value → Shared → Prop} (hu : A.units < cLine) (F : Fr h₀ L s.heap m) (X₀ : K.In h₀) (I : InstAt s.heap x ox C od) (J : InstAt s.heap y oy D oe) (hne : D ≠ C) (hn : subIn K (.ref D) (.ref C) = some true)
    (hs : findIn K (.ref D) "__eq__" = some (some (.ref f))) (hf : isFn K (.ref f) = true)
    (h : wpAny (model prog w) A (call (.ref f) [.ref y, .ref x]) (CmpBack Q) E s) : wpAny (model prog w) A (richCompare .Eq (.ref x) (.ref y)) Q E s := by
  have X := X₀.keeps F.keep
  have one : wpAny (model prog w) A (tryCompare (.ref y) "__eq__" (.ref x)) (fun r s' => ∃ v, r = some v ∧ Q v s') E s := by
    unfold tryCompare
    refine wpAny_bind (ifBound_K X J hs hf (wpAny_mono h (fun v s' hv => ?_) fun _ _ e => e))
    cases v <;> first | exact hv.elim | exact wpAny_pure ⟨_, rfl, hv⟩
  unfold richCompare
  simp only [oneThing_ref]
  refine wpAny_holding (wpAny_bind (wpAny_cRoomFor hu ?_))
  refine wpAny_bind (I.type.here (wpAny_bind (J.type.here ?_)))
  split
  · refine wpAny_bind ((looks_subIn X hn).here ?_)
    simp only [if_true]
    refine wpAny_bind (wpAny_mono one (fun r s' z => ?_) fun _ _ e => e)
    obtain ⟨v, rfl, hq⟩ := z
    exact wpAny_bind (wpAny_rule (wpAny_pure hq))
  · rename_i q
    exact absurd (by simpa [bne] using fun e : C = D => hne e.symm) q
end
end PySem.W
namespace K12
open PySem PySem.Spec PyProof.Rows L2
/-- == by the own __eq__ of the class of the left, or of the right if that comes first -/
def rOwnEq (K : PySem.W.Frag) (f : Addr) (sp : Sp) : R2 := fun x y H Q => ∃ a b B B' dx dy fs gs, x = .ref a ∧ y = .ref b ∧ H a = some (.ins B dx fs) ∧ H b = some (.ins B' dy gs) ∧
  ((PySem.W.notFirst K B (.ref B') = true ∧ PySem.W.findIn K (.ref B) "__eq__" = some (some (.ref f)) ∧ sp [x, y] H (fun v H' => ∃ r, v = .bl r ∧ Q v H') E0) ∨
   (PySem.W.subIn K (.ref B') (.ref B) = some true ∧ B' ≠ B ∧ PySem.W.findIn K (.ref B') "__eq__" = some (some (.ref f)) ∧ sp [y, x] H (fun v H' => ∃ r, v = .bl r ∧ Q v H') E0))
theorem op_ownEq {X : Cx} {n : Nat} {f : Addr} {fd : FuncData} {ps : List Str} {sp : Sp} (F : FnOk X.prog X.w X.K X.mg X.base CX0 n f fd ps sp) (hf : PySem.W.isFn X.K (.ref f) = true) (hb : Binds X.K fd ps []) (hr : Room n X.A) : OpR X (compareOp .Eq) (rOwnEq X.K f sp) := by
  intro pins s σ H x y v u Q I rx ry h
  obtain ⟨a, b, B, B', dx, dy, fs, gs, rfl, rfl, ha, hb', hq⟩ := h
  cases rx
  cases ry
  obtain ⟨mA, J, _⟩ := ins_get I.hok ha
  obtain ⟨mB, J', _⟩ := ins_get I.hok hb'
  obtain ⟨od, J, _⟩ := J.look
  obtain ⟨od', J', _⟩ := J'.look
  obtain ⟨m, hF⟩ := I.fr
  show wpAny (model X.prog X.w) X.A (richCompare .Eq (.ref a) (.ref b)) (EP X pins σ Q) X.xe s
  have run : ∀ (x y : Addr), sp [.ref x, .ref y] H (fun v H' => ∃ r, v = .bl r ∧ Q v H') E0 → wpAny (model X.prog X.w) X.A (call (.ref f) [.ref x, .ref y]) (PySem.W.CmpBack (EP X pins σ Q)) X.xe s := fun x y hsp => by
    have hl := F.len _ _ _ _ hsp
    have r2 : Vals [V.ref x, V.ref y] [Value.ref x, Value.ref y] := .cons rfl (.cons rfl .nil)
    refine wpAny_call (codeAny_mono (F.run X.A X.stack s H ⟨[.ref x, .ref y], []⟩ [.ref x, .ref y] [.ref x, .ref y] _ E0 hr I.env0 (by
      have := hb s [.ref x, .ref y] I.kIn (by simpa using hl)
      simpa using this) r2 hsp) fun r s' hq => ?_)
    cases r with
    | error e => exact pass0 pins σ H s e s' I hq
    | ok fl =>
      cases fl with
      | ret w =>
        obtain ⟨z, H', I', rz, ⟨r, ez, ex⟩⟩ := I.after hq
        subst ez
        cases rz
        exact ⟨.bl r, H', I', rfl, ex⟩
      | next => exact False.elim hq
      | brk => exact False.elim hq
      | cont => exact False.elim hq
  rcases hq with ⟨h1, h2, h3⟩ | ⟨h1, h2, h3, h4⟩
  · exact PySem.W.cmp_K (op := .Eq) (tb := .ref B') hr.units0 hF I.ok.mod.kin J J'.type h1 h2 hf (run a b h3)
  · exact PySem.W.cmp_KR hr.units0 hF I.ok.mod.kin J J' h2 h1 h3 hf (run b a h4)

/-! ### promises of any result -/
def SpG (pre : Hp → List V → Rl → Prop) : Sp := fun vs H Q _ => ∃ (W : Wd) (G : Hp) (R : Rl), W.ok G H ∧ pre G vs R ∧ ∀ v G' H', Same G G' → W.ok G' H' → R G' v → Q v H'
section
variable {X : Cx} {W : Wd} {e a b c : Expr} {es : List Expr} {σ : L2.St} {G G' H : Hp} {R R' : Rl} {d d' : PyData} {ds : List PyData} {v : V} {pos p : Pos} {x : Str} {k : Bool}
theorem ev_callG {j l : Nat} {pre : Hp → List V → Rl → Prop} {Rs : Hp → List V → Prop} (c : C8.Cal X.prog X.w X.K X.mg X.base l x (SpG pre) []) (hr : Room j X.A) (hk : l ≤ j) (ha : EvA X W (e :: es) σ G Rs) (hd : ∀ G' vs, Same G G' → Rs G' vs → pre G' vs R) (hg : Gl X x := by rfl)
    (hdb : (x == ("__debug__" : Str)) = false := by decide) (he : starEach (e :: es) X.env = (false, eval e X.env) :: starEach es X.env := by rfl) (hpl : (backTo pos (starEach es X.env)).any (·.1) = false := by rfl) :
    Ev X W (.Call (.Name x p) (e :: es) [] pos) σ G R := fun G1 H Q s k1 q => useE (C8.pe_c c hr hk hg (pA _) hdb he hpl) <|
  ha G1 H _ s k1 fun vs G2 H2 s2 k2 r => ⟨W, G2, R, k2, by rw [List.append_nil]; exact hd G2 vs (s.trans s2) r, fun v G3 H3 s3 k3 r3 => q v G3 H3 (s2.trans s3) k3 r3⟩
/-- any value, at hand -/
def Rv (v : V) : Hp → List V → Prop := fun _ vs => vs = [v]
theorem ea_any1 (h : Ev X W e σ G R) (hs : Pl X e [] := by rfl) : EvA X W [e] σ G (fun G vs => ∃ v, vs = [v] ∧ R G v) := fun G1 H Q s k q => useA (pa_cons (pE e) pa_nil hs) <| h G1 H _ s k fun x G2 H2 s2 k2 r => q [x] G2 H2 s2 k2 ⟨x, rfl, r⟩
end
section
variable {P : Program} {w : World} {K : PySem.W.Frag} {mg : Str → Option Value} {base : Heap}
theorem calG_mk {x : Str} {st : Stmt} {N ps : List Str} {k : Nat} {pre : Hp → List V → Rl → Prop} (A : At K mg x st ps) (S : FnScope N ps (defScope st)) (hl : ∀ G vs R, pre G vs R → vs.length = ps.length)
    (hb : ∀ (f : Addr) (cdv : Value) (A : Around) (outer : List Env) (s : Shared) (H : Hp) (vs : List V) (Q : VK) (E : XK), Room k (A.deeper (envOfC x (defScope st) s.heap.objs.size f cdv)) →
      ∀ (W : Wd) (G : Hp) (R : Rl), W.ok G H → pre G vs R → (∀ v G' H', Same G G' → W.ok G' H' → R G' v → Q v H') →
      wSs (cx0 P w K mg base N x st f cdv A outer s H E) (defBody st) { nx := fun _ H' => Q .non H', rt := Q } (start N vs) H) : C8.Cal P w K mg base (k + 1) x (SpG pre) [] :=
  cal_mk A S (fun vs H Q E ⟨W, G, R, _, h, _⟩ => hl _ _ _ h) fun f cdv A outer s H vs Q E hr ⟨W, G, R, h1, h2, h3⟩ => hb f cdv A outer s H vs Q E hr W G R h1 h2 h3
/-- a method by its body -/
theorem fn_mk {x qual : Str} {st : Stmt} {N ps : List Str} {k : Nat} {sp : Sp} {f : Addr} {fd : FuncData} (F : L2.Fun K x qual st f fd) (S : FnScope N ps (defScope st)) (len : ∀ vs H Q E, sp vs H Q E → vs.length = ps.length)
    (hb : ∀ (cdv : Value) (A : Around) (outer : List Env) (s : Shared) (H : Hp) (vs : List V) (Q : VK) (E : XK), Room k (A.deeper (envOfC qual (defScope st) s.heap.objs.size f cdv)) → sp vs H Q E →
      wSs (cx0 P w K mg base N qual st f cdv A outer s H E) (defBody st) { nx := fun _ H' => Q .non H', rt := Q } (start N vs) H) : FnOk P w K mg base CX0 (k + 1) f fd ps sp :=
  F.ok S len fun cdv A outer s H vs Q E hr h => ⟨_, pSs _, hb cdv A outer s H vs Q E hr h⟩
/-! ### the class House and its like -/
structure HC (K : PySem.W.Frag) (mg : Str → Option Value) (C R : Addr) : Prop where
  cl : ∀ B, B = C ∨ B = R → Cls K B
  nw : ∀ B, B = C ∨ B = R → NoAttr K B "worlds"
  nt : ∀ B, B = C ∨ B = R → NoAttr K B "tree"
  mgC : mg "House" = some (.ref C)
  mgR : mg "RawHouse" = some (.ref R)
  init : ∃ f fd, Mk K C f ∧ L2.Fun K "__init__" "House.__init__" s_House_init f fd ∧ Binds K fd ["self", "worlds", "tree"] []
  initR : ∃ f fd, Mk K R f ∧ L2.Fun K "__init__" "RawHouse.__init__" s_RawHouse_init f fd ∧ Binds K fd ["self", "worlds", "tree"] []
  eq : ∃ f fd, (∀ B, B = C ∨ B = R → PySem.W.findIn K (.ref B) "__eq__" = some (some (.ref f))) ∧ PySem.W.isFn K (.ref f) = true ∧ L2.Fun K "__eq__" "House.__eq__" s_House_eq f fd ∧ Binds K fd ["self", "other"] []
  isi : ∀ B, B = C ∨ B = R → ∀ (H : Hp) (a dx : Addr) (fs : List (Str × V)), H a = some (.ins B dx fs) → L2.TyX K H (.ref a) (.ref B)
  kit : ∀ B, B = C ∨ B = R → PySem.W.kitOne K (.ref B) (.ref C) = some true
  sub : PySem.W.subIn K (.ref R) (.ref C) = some true
  nf : PySem.W.notFirst K R (.ref C) = true
  ne : R ≠ C
/-- a house of a class -/
def HouB (K : PySem.W.Frag) (B : Addr) (n : Nat) (nd : Nd) : Rl := fun G u => ∃ a dx vt, u = .ref a ∧ G a = some (.ins B dx [("worlds", .int n), ("tree", vt)]) ∧ Dp K G vt (encN nd)
def Hou (K : PySem.W.Frag) (C R : Addr) (n : Nat) (nd : Nd) : Rl := fun G u => ∃ B, (B = C ∨ B = R) ∧ HouB K B n nd G u
theorem houB_mono {B : Addr} {n : Nat} {nd : Nd} : ∀ G G' v, Same G G' → HouB K B n nd G v → HouB K B n nd G' v := fun _ _ _ s ⟨a, dx, vt, e, h, d⟩ => ⟨a, dx, vt, e, s _ _ h, d.sm s⟩
theorem hou_mono {C R : Addr} {n : Nat} {nd : Nd} : ∀ G G' v, Same G G' → Hou K C R n nd G v → Hou K C R n nd G' v := fun _ _ _ s ⟨B, hB, h⟩ => ⟨B, hB, houB_mono _ _ _ s h⟩
end
section
variable {X : Cx} {W : Wd} {e a b c : Expr} {es : List Expr} {σ : L2.St} {G G' H : Hp} {R R' : Rl} {d d' : PyData} {ds : List PyData} {v : V} {pos p : Pos} {x : Str} {k : Bool}
theorem ev_R (i : Nat) (h : σ[i]? = some (some v)) (hd : ∀ G', Same G G' → R G' v) (hN : X.N[i]? = some x := by rfl) (hv : Vis X.env.scope x := by first | exact Or.inl rfl | exact Or.inr (Or.inl rfl) | exact Or.inr (Or.inr rfl))
    (h1 : (x == ("__debug__" : Str)) = false := by decide) (h2 : (x == ("__classdict__" : Str)) = false := by decide) : Ev X W (.Name x pos) σ G R :=
  ev_pure (pe_var hN hv h1 h2) fun G1 H Q s1 s2 q => ⟨v, h, q v (hd _ s1)⟩
theorem ev_worlds {C B : Addr} {n : Nat} {nd : Nd} (hc : HC X.K X.mg C B) (h : Ev X W e σ G (Hou X.K C B n nd)) (hb : attributeBase e "worlds" X.env (eval e X.env) = eval e X.env := by rfl) : Ev X W (.Attribute e "worlds" pos) σ G (Is X.K (.int n)) := fun G1 H Q s k q =>
  useE (pe_fld (pE e) hb) <| h G1 H _ s k fun u G2 H2 s2 k2 r => by
    obtain ⟨B, hB, a, dx, vt, rfl, e1, e2⟩ := r
    exact ⟨a, B, dx, _, .int n, rfl, k2.same _ _ e1, hc.cl B hB, hc.nw B hB, rfl, q _ G2 H2 s2 k2 (.int _)⟩
theorem ev_tree {C B : Addr} {n : Nat} {nd : Nd} (hc : HC X.K X.mg C B) (h : Ev X W e σ G (Hou X.K C B n nd)) (hb : attributeBase e "tree" X.env (eval e X.env) = eval e X.env := by rfl) : Ev X W (.Attribute e "tree" pos) σ G (Is X.K (encN nd)) := fun G1 H Q s k q =>
  useE (pe_fld (pE e) hb) <| h G1 H _ s k fun u G2 H2 s2 k2 r => by
    obtain ⟨B, hB, a, dx, vt, rfl, e1, e2⟩ := r
    exact ⟨a, B, dx, _, vt, rfl, k2.same _ _ e1, hc.cl B hB, hc.nt B hB, rfl, q _ G2 H2 s2 k2 e2⟩
theorem ev_isHouse {C B : Addr} {n : Nat} {nd : Nd} {p' : Pos} (hm : X.mg "isinstance" = none) (hc : HC X.K X.mg C B) (h : Ev X W e σ G (Hou X.K C B n nd)) (hg : Gl X "isinstance" := by rfl) (hgT : Gl X "House" := by rfl) (he : Pl X e [.Name "House" p'] := by rfl) :
    Ev X W (.Call (.Name "isinstance" p) [e, .Name "House" p'] [] pos) σ G (Is X.K (.bool true)) := fun G1 H Q s k1 q =>
  useE (pe_callB L2.call_isi hg hm boot_isi (pa_cons (pE e) (pa_cons (pe_glob (v := .ref C) hgT hc.mgC rfl) pa_nil) he) (he := he)) <| h G1 H _ s k1 fun v G2 H2 s2 k2 r => by
    obtain ⟨B, hB, a, dx, vt, rfl, e1, e2⟩ := r
    exact ⟨.ref a, .ref C, _, _, true, rfl, .own C, hc.isi B hB _ _ _ _ (k2.same _ _ e1), hc.kit B hB, q _ G2 H2 s2 k2 (.bl true)⟩
/-- making one: what its __init__ promises -/
def spInit (K : PySem.W.Frag) (B : Addr) (ok : Nat → Nd → Prop) : Sp := fun vs H Q _ => ∃ (W : Wd) (G : Hp) (x dx : Addr) (vt : V) (n : Nat) (nd : Nd), vs = [.ref x, .int n, vt] ∧ (W.sep (.cell x (.ins B dx []))).ok G H ∧ Dp K G vt (encN nd) ∧ ok n nd ∧
  ∀ G' H', Same G G' → (W.sep (.cell x (.ins B dx [("worlds", .int n), ("tree", vt)]))).ok G' H' → Q .non H'
theorem ev_make {B : Addr} {n k j : Nat} {nd : Nd} {f : Addr} {fd : FuncData} {ok : Nat → Nd → Prop} (M : Mk X.K B f) (F : FnOk X.prog X.w X.K X.mg X.base CX0 k f fd ["self", "worlds", "tree"] (spInit X.K B ok)) (hb : Binds X.K fd ["self", "worlds", "tree"] []) (hm : X.mg x = some (.ref B)) (hr : Room j X.A) (hk : k + 1 ≤ j)
    (ha : Ev X W a σ G (Is X.K (.int n))) (hb2 : Ev X W b σ G (Is X.K (encN nd))) (ho : ok n nd) (hg : Gl X x := by rfl) (hdb : (x == ("__debug__" : Str)) = false := by decide) (he : Pl X a [b] := by rfl) (he2 : Pl X b [] := by rfl) (hpl : (backTo pos (starEach [b] X.env)).any (·.1) = false := by rfl) :
    Ev X W (.Call (.Name x p) [a, b] [] pos) σ G (HouB X.K B n nd) := fun G1 H Q s k1 q =>
  useE (pe_make M F (hr.mono hk) hg hm hb .nil pass0 (pA [a, b]) hdb he hpl) <| (ea_cons ha (ea1 hb2 he2) he) G1 H _ s k1 fun vs G2 H2 s2 k2 r z dz nz ndz hne => by
    obtain ⟨v1, v2, rfl, h1, h2⟩ := dpAll_two r
    rw [h1.int_eq]
    have k3 := k2.new (o := .own z) ndz
    have nz3 : upd H2 dz (.own z) z = none := by rw [upd_ne (Ne.symm hne)]; exact nz
    have k4 := k3.newCell (o := .ins B dz []) nz3
    have s3 : Same G2 (upd G2 dz (.own z)) := same_new (k2.free ndz)
    refine ⟨W, upd G2 dz (.own z), z, dz, v2, n, nd, rfl, k4, h2.sm s3, ho, fun G' H' s5 k5 => ⟨rfl, ?_⟩⟩
    have gz : G' z = none := k5.out z (.inr rfl)
    exact q _ _ H' ((s2.trans s3).trans (s5.trans (same_new gz))) k5.give ⟨z, dz, v2, rfl, upd_same, (h2.sm s3).sm (s5.trans (same_new gz))⟩
end
end K12
/-! D5: houses made, compared. -/
namespace K12
open PySem PySem.Spec PyProof.Rows L2
section
variable {P : Program} {w : World} {K : PySem.W.Frag} {mg : Str → Option Value} {base : Heap} {C R : Addr}
theorem encWs_ones (n : Nat) : PyData.tuple (List.replicate n (encR 1)) = encWs (ones n) := by
  unfold encWs ones
  rw [List.map_replicate]
theorem encWs_zeros (n : Nat) : PyData.tuple (List.replicate n (encR 0)) = encWs (zeros n) := by
  unfold encWs zeros
  rw [List.map_replicate]
/-- what a right house is: n worlds, the tree nd -/
def HouseOk (n : Nat) (nd : Nd) : Prop := 1 ≤ n ∧ n ≤ 5 ∧ ∃ A D m : Nat, Bot D ∧ A ≤ 12 ∧ m ≤ 8 ∧ Val A n D m (ones n) nd ∧ cnt nd ≤ 1500
theorem f_init (hc : HC K mg C R) (T : Txt K mg) (c1 : CalD P w K mg base 2 "is_within" 3 dmWithin) (c2 : ∀ n, n ≤ 8 → CalD P w K mg base 30 "wrong_in_node" 4 (dmWrongN n)) (c3 : ∀ n, n ≤ 8 → CalD P w K mg base 30 "count_answers" 1 (dmCount n))
    {f : Addr} {fd : FuncData} (F : L2.Fun K "__init__" "House.__init__" s_House_init f fd) : FnOk P w K mg base CX0 31 f fd ["self", "worlds", "tree"] (spInit K C HouseOk) := by
  refine fn_mk F sc_House_init (fun vs H Q E ⟨_, _, _, _, _, _, _, h, _⟩ => by rw [h]; rfl) fun cdv A outer s H vs Q E hr ⟨W, G, x, dx, vt, n, nd, e, k, hv, ⟨h1, h5, A0, D, m, hD, hA, hm, hV, hcnt⟩, q⟩ => ?_
  subst e
  refine ws_ifF (et_nT (Ev.eq (ev_call c1 hr (by decide) (ea_cons (ev_nm 1 rfl (.int n)) (ea_cons ev_int (ea1 (ev_gc T.worlds)))) ⟨_, _, _, rfl, rfl⟩) ?_)) (Same.refl _) k fun G1 H1 s1 k1 => ?_
  · simp [withinD]; omega
  refine ws_setE 3 (ev_call (c2 m hm) hr (by decide) (ea_cons (ev_nm 1 rfl (.int n)) (ea_cons (ev_nm 2 rfl (hv.sm s1)) (ea_cons (Ev.eq (ev_rep (ev_tup (ea1 (ev_gc T.one))) (ev_nm 1 rfl (.int n)) h1 (by omega)) (encWs_ones n)) (ea1 (ev_tup ea_nil)))))
    ⟨A0, n, D, ones n, nd, [], hD, hA, h5, hV, by simp; omega, rfl, rfl⟩) (Same.refl _) k1 (fun v2 G2 H2 s2 k2 h2 => ?_) sc_House_init.nd
  refine ws_ifF (et_notN (ev_nm 3 rfl h2)) (Same.refl _) k2 fun G3 H3 s3 k3 => ?_
  have sg : Same G G3 := (s1.trans s2).trans s3
  refine ws_ifF (EvT.eq (et_cmp (ev_call (c3 m hm) hr (by decide) (ea1 (ev_nm 2 rfl (hv.sm sg))) ⟨A0, nd, hA, hV.shp, rfl, rfl⟩) (ev_gc T.inall)) ?_) (Same.refl _) k3 fun G4 H4 s4 k4 => ?_
  · simp [cmpI]; omega
  refine ws_fld (hc.cl C (.inl rfl)) (hc.nw C (.inl rfl)) (ev_rf (v := .int n) 1 rfl) (fun G => ev_rf 0 rfl) (.refl _) (by decide) (Same.refl _) k4 (fun v5 G5 H5 s5 k5 h5 => ?_) rf_mono
  refine ws_fld (hc.cl C (.inl rfl)) (hc.nt C (.inl rfl)) (ev_rf (v := vt) 2 rfl) (fun G => ev_rf 0 rfl) (.refl _) (by show (1 : Nat) < 1000; decide) (Same.refl _) k5 (fun v6 G6 H6 s6 k6 h6 => ws_nil ?_) rf_mono
  cases (show v5 = _ from h5)
  cases (show v6 = _ from h6)
  exact q G6 H6 (((sg.trans s4).trans s5).trans s6) k6
theorem f_initR (hc : HC K mg C R) {f : Addr} {fd : FuncData} (F : L2.Fun K "__init__" "RawHouse.__init__" s_RawHouse_init f fd) : FnOk P w K mg base CX0 1 f fd ["self", "worlds", "tree"] (spInit K R fun _ _ => True) := by
  refine fn_mk F sc_RawHouse_init (fun vs H Q E ⟨_, _, _, _, _, _, _, h, _⟩ => by rw [h]; rfl) fun cdv A outer s H vs Q E hr ⟨W, G, x, dx, vt, n, nd, e, k, hv, _, q⟩ => ?_
  subst e
  refine ws_fld (hc.cl R (.inr rfl)) (hc.nw R (.inr rfl)) (ev_rf (v := .int n) 1 rfl) (fun G => ev_rf 0 rfl) (.refl _) (by decide) (Same.refl _) k (fun v5 G5 H5 s5 k5 h5 => ?_) rf_mono
  refine ws_fld (hc.cl R (.inr rfl)) (hc.nt R (.inr rfl)) (ev_rf (v := vt) 2 rfl) (fun G => ev_rf 0 rfl) (.refl _) (by show (1 : Nat) < 1000; decide) (Same.refl _) k5 (fun v6 G6 H6 s6 k6 h6 => ws_nil ?_) rf_mono
  cases (show v5 = _ from h5)
  cases (show v6 = _ from h6)
  exact q G6 H6 (s5.trans s6) k6
/-- two houses of as many worlds -/
def preTwo (K : PySem.W.Frag) (C R : Addr) (out : Nat → Nd → Nd → Rl → Prop) : Hp → List V → Rl → Prop := fun G vs Z => ∃ a b n nd nd', vs = [a, b] ∧ Hou K C R n nd G a ∧ Hou K C R n nd' G b ∧ out n nd nd' Z
def outEq (K : PySem.W.Frag) : Nat → Nd → Nd → Rl → Prop := fun _ a b Z => SeqAt.shaped (encN a) = true ∧ SeqAt.shaped (encN b) = true ∧ Z = Is K (.bool (PyData.eqv (encN a) (encN b)))
theorem f_eq (hc : HC K mg C R) (T : Txt K mg) {f : Addr} {fd : FuncData} (F : L2.Fun K "__eq__" "House.__eq__" s_House_eq f fd) : FnOk P w K mg base CX0 2 f fd ["self", "other"] (SpG (preTwo K C R (outEq K))) := by
  refine fn_mk F sc_House_eq (fun vs H Q E ⟨_, _, _, _, ⟨_, _, _, _, _, h, _⟩, _⟩ => by rw [h]; rfl) fun cdv A outer s H vs Q E hr ⟨W, G, Z, k, ⟨a, b, n, nd, nd', e, h1, h2, z1, z2, eZ⟩, q⟩ => ?_
  subst e eZ
  have oa : ∀ G', Same G G' → Hou K C R n nd G' a := fun G' s => hou_mono _ _ _ s h1
  have ob : ∀ G', Same G G' → Hou K C R n nd' G' b := fun G' s => hou_mono _ _ _ s h2
  refine ws_retE (ev_andT (ev_isHouse T.isi hc (ev_R 1 rfl ob)) (ev_andT (Ev.eq (ev_cmp (ev_worlds hc (ev_R 0 rfl oa)) (ev_worlds hc (ev_R 1 rfl ob))) ?_) (ev_and1 (ev_eqD hr.units (ev_tree hc (ev_R 0 rfl oa)) (ev_tree hc (ev_R 1 rfl ob)) z1 z2)))) (Same.refl _) k q
  simp [cmpI]
/-- house == other -/
theorem ev_eqH {X : Cx} {W : Wd} {σ : L2.St} {G : Hp} {a b : Expr} {pos : Pos} {B B' : Addr} {n j : Nat} {nd nd' : Nd} (hc : HC X.K X.mg C R) {f : Addr} {fd : FuncData} (F : FnOk X.prog X.w X.K X.mg X.base CX0 2 f fd ["self", "other"] (SpG (preTwo X.K C R (outEq X.K))))
    (hf : ∀ B, B = C ∨ B = R → PySem.W.findIn X.K (.ref B) "__eq__" = some (some (.ref f))) (hi : PySem.W.isFn X.K (.ref f) = true) (hb : Binds X.K fd ["self", "other"] []) (hr : Room j X.A) (hk : 2 ≤ j)
    (hB : B = C ∨ B = R) (hB' : B' = C ∨ B' = R) (ha : Ev X W a σ G (HouB X.K B n nd)) (hb2 : Ev X W b σ G (HouB X.K B' n nd')) (z1 : SeqAt.shaped (encN nd) = true) (z2 : SeqAt.shaped (encN nd') = true) (hs : PyData.eqv (encN nd) (encN nd') = PyData.eqv (encN nd') (encN nd)) :
    Ev X W (.Compare a [.Eq] [b] pos) σ G (Is X.K (.bool (PyData.eqv (encN nd) (encN nd')))) :=
  ev_bin (t := fun _ _ _ => True) (pe_cmpR (op_ownEq F hi hb (hr.mono hk)) (pE a) (pE b) (nomark b)) ha hb2 houB_mono fun x y G1 H Q s k h1 h2 q => by
    have fin : ∀ v G' H', Same G1 G' → W.ok G' H' → Is X.K (.bool (PyData.eqv (encN nd) (encN nd'))) G' v → ∃ r, v = .bl r ∧ Q v H' := fun v G' H' s' k' r => ⟨_, Dp.bl_eq r, q v G' H' s' k' r⟩
    have g1 : Hou X.K C R n nd G1 x := ⟨B, hB, h1⟩
    have g2 : Hou X.K C R n nd' G1 y := ⟨B', hB', h2⟩
    obtain ⟨a1, dx, vt, rfl, e1, d1⟩ := id h1
    obtain ⟨b1, dy, vt', rfl, e2, d2⟩ := id h2
    refine ⟨a1, b1, B, B', dx, dy, _, _, rfl, rfl, k.same _ _ e1, k.same _ _ e2, ?_⟩
    have core : SpG (preTwo X.K C R (outEq X.K)) [V.ref a1, V.ref b1] H (fun v H' => ∃ r, v = V.bl r ∧ Q v H') E0 := ⟨W, G1, _, k, ⟨_, _, n, nd, nd', rfl, g1, g2, z1, z2, rfl⟩, fin⟩
    rcases hB with rfl | rfl
    · rcases hB' with rfl | rfl
      · exact .inl ⟨by simp [PySem.W.notFirst], hf _ (by first | exact .inl rfl | exact .inr rfl), core⟩
      · refine .inr ⟨hc.sub, hc.ne, hf _ (.inr rfl), W, G1, _, k, ⟨_, _, n, nd', nd, rfl, g2, g1, z2, z1, rfl⟩, fun v G' H' s' k' r => fin v G' H' s' k' ?_⟩
        rw [hs]
        exact r
    · rcases hB' with rfl | rfl
      · exact .inl ⟨hc.nf, hf _ (.inr rfl), core⟩
      · exact .inl ⟨by simp [PySem.W.notFirst], hf _ (by first | exact .inl rfl | exact .inr rfl), core⟩
def outNone (K : PySem.W.Frag) : Nat → Nd → Nd → Rl → Prop := fun _ _ _ Z => Z = Is K .none
theorem c_alike (A : At K mg "check_alike" s_check_alike ["one", "other"]) (hc : HC K mg C R) : C8.Cal P w K mg base 1 "check_alike" (SpG (preTwo K C R (outNone K))) [] := by
  refine calG_mk A sc_check_alike (fun G vs Z ⟨_, _, _, _, _, h, _⟩ => by rw [h]; rfl) fun f cdv A outer s H vs Q E hr W G Z k ⟨a, b, n, nd, nd', e, h1, h2, eZ⟩ q => ?_
  subst e eZ
  have oa : ∀ G', Same G G' → Hou K C R n nd G' a := fun G' s => hou_mono _ _ _ s h1
  have ob : ∀ G', Same G G' → Hou K C R n nd' G' b := fun G' s => hou_mono _ _ _ s h2
  exact ws_ifF (EvT.eq (et_cmp (ev_worlds hc (ev_R 0 rfl oa)) (ev_worlds hc (ev_R 1 rfl ob))) (by simp [cmpI])) (Same.refl _) k fun G1 H1 s1 k1 => ws_nil (q _ G1 H1 s1 k1 .non)
def outShaped (K : PySem.W.Frag) : Nat → Nd → Nd → Rl → Prop := fun _ a b Z => (∃ A m, A ≤ 12 ∧ m ≤ 8 ∧ Shp A m a) ∧ (∃ A m, A ≤ 12 ∧ m ≤ 8 ∧ Shp A m b) ∧ SeqAt.shaped (shp a) = true ∧ SeqAt.shaped (shp b) = true ∧ Z = Is K (.bool (PyData.eqv (shp a) (shp b)))
theorem c_are_shaped (A : At K mg "are_shaped" s_are_shaped ["one", "other"]) (hc : HC K mg C R) (c1 : ∀ n, n ≤ 8 → CalD P w K mg base 30 "shape_of" 1 (dmShape n)) : C8.Cal P w K mg base 31 "are_shaped" (SpG (preTwo K C R (outShaped K))) [] := by
  refine calG_mk A sc_are_shaped (fun G vs Z ⟨_, _, _, _, _, h, _⟩ => by rw [h]; rfl) fun f cdv A outer s H vs Q E hr W G Z k ⟨a, b, n, nd, nd', e, h1, h2, ⟨A1, m1, a1, a2, a3⟩, ⟨A2, m2, b1, b2, b3⟩, z1, z2, eZ⟩ q => ?_
  subst e eZ
  have oa : ∀ G', Same G G' → Hou K C R n nd G' a := fun G' s => hou_mono _ _ _ s h1
  have ob : ∀ G', Same G G' → Hou K C R n nd' G' b := fun G' s => hou_mono _ _ _ s h2
  refine ws_retE (ev_andT (Ev.eq (ev_cmp (ev_worlds hc (ev_R 0 rfl oa)) (ev_worlds hc (ev_R 1 rfl ob))) (by simp [cmpI])) (ev_and1 (ev_eqD hr.units (ev_call (c1 m1 a2) hr (by decide) (ea1 (ev_tree hc (ev_R 0 rfl oa))) ⟨A1, nd, a1, a3, rfl, rfl⟩) (ev_call (c1 m2 b2) hr (by decide) (ea1 (ev_tree hc (ev_R 1 rfl ob))) ⟨A2, nd', b1, b3, rfl, rfl⟩) z1 z2))) (Same.refl _) k q
theorem hou_two (K : PySem.W.Frag) {X : Cx} {W : Wd} {σ : L2.St} {G : Hp} {a b : Expr} {R1 R2 : Rl} (h1 : Ev X W a σ G R1) (m : ∀ G G' v, Same G G' → R1 G v → R1 G' v) (h2 : Ev X W b σ G R2) (he : Pl X a [b] := by rfl) (he2 : Pl X b [] := by rfl) : EvA X W [a, b] σ G (fun G vs => ∃ x y, vs = [x, y] ∧ R1 G x ∧ R2 G y) := fun G1 H Q s k q =>
  (ea_any h1 m (ea_any1 h2 he2) he) G1 H _ s k fun vs G2 H2 s2 k2 r => by
    obtain ⟨v, r, rfl, r1, ⟨u, rfl, r2⟩⟩ := r
    exact q _ G2 H2 s2 k2 ⟨v, u, rfl, r1, r2⟩
theorem c_is_shaped (A : At K mg "is_shaped" s_is_shaped ["house", "other"]) (hc : HC K mg C R) (c1 : C8.Cal P w K mg base 31 "are_shaped" (SpG (preTwo K C R (outShaped K))) []) : C8.Cal P w K mg base 32 "is_shaped" (SpG (preTwo K C R (outShaped K))) [] := by
  refine calG_mk A sc_is_shaped (fun G vs Z ⟨_, _, _, _, _, h, _⟩ => by rw [h]; rfl) fun f cdv A outer s H vs Q E hr W G Z k ⟨a, b, n, nd, nd', e, h1, h2, o⟩ q => ?_
  subst e
  have oa : ∀ G', Same G G' → Hou K C R n nd G' a := fun G' s => hou_mono _ _ _ s h1
  have ob : ∀ G', Same G G' → Hou K C R n nd' G' b := fun G' s => hou_mono _ _ _ s h2
  exact ws_retE (ev_callG c1 hr (by decide) (hou_two K (ev_R 0 rfl oa) hou_mono (ev_R 1 rfl ob)) fun G' vs s ⟨x, y, e, r1, r2⟩ => ⟨x, y, n, nd, nd', e, r1, r2, o⟩) (Same.refl _) k q
/-- made(worlds, tree) -/
def preMade (K : PySem.W.Frag) (R : Addr) : Hp → List V → Rl → Prop := fun G vs Z => ∃ vt n nd, vs = [.int ((n : Nat) : Int), vt] ∧ Dp K G vt (encN nd) ∧ (∃ A m, A ≤ 12 ∧ m ≤ 8 ∧ Shp A m nd) ∧ deep nd ≤ 12 ∧ cnt nd ≤ 3000 ∧ Z = HouB K R n nd
theorem c_made (A : At K mg "made" s_made ["worlds", "tree"]) (hc : HC K mg C R) (T : Txt K mg) (c1 : ∀ n, n ≤ 8 → CalD P w K mg base 30 "most_rounds" 1 (dmRounds n)) (c2 : ∀ n, n ≤ 8 → CalD P w K mg base 30 "count_answers" 1 (dmCount n)) : C8.Cal P w K mg base 31 "made" (SpG (preMade K R)) [] := by
  refine calG_mk A sc_made (fun G vs Z ⟨_, _, _, h, _⟩ => by rw [h]; rfl) fun f cdv A outer s H vs Q E hr W G Z k ⟨vt, n, nd, e, h1, ⟨A1, m1, a1, a2, a3⟩, hd, hcn, eZ⟩ q => ?_
  subst e eZ
  obtain ⟨fi, fdi, M, Fi, bi⟩ := hc.initR
  refine ws_ifF (et_of (ew_orF (EvT.eq (et_cmp (ev_call (c1 m1 a2) hr (by decide) (ea1 (ev_nm 1 rfl h1)) ⟨A1, nd, a1, a3, rfl, rfl⟩) (ev_gc T.mrounds)) ?_) (ew_or1 (EvT.eq (et_cmp (ev_call (c2 m1 a2) hr (by decide) (ea1 (ev_nm 1 rfl h1)) ⟨A1, nd, a1, a3, rfl, rfl⟩) (ev_gc T.minall)) ?_)))) (Same.refl _) k fun G1 H1 s1 k1 => ?_
  · simp [cmpI]; omega
  · simp [cmpI]; omega
  exact ws_retE (ev_make M (f_initR hc Fi) bi hc.mgR hr (by decide) (ev_nm 0 rfl (.int _)) (ev_nm 1 rfl (h1.sm s1)) trivial) (Same.refl _) k1 (fun v G4 H4 s4 k4 r => q v G4 H4 (s1.trans s4) k4 r)
end
end K12
/-! D6: plans judged. -/
namespace K12
open PySem PySem.Spec PyProof.Rows L2
theorem zip_map2 {α β : Type} {f : α → PyData} {g : β → PyData} : ∀ (as : List α) (bs : List β), ((as.map f).zip (bs.map g)).map pairD = (as.zip bs).map fun p => .tuple [f p.1, g p.2]
  | [], _ => rfl
  | _ :: _, [] => rfl
  | a :: as, b :: bs => by
    show pairD (f a, g b) :: _ = PyData.tuple [f a, g b] :: _
    exact congrArg _ (zip_map2 as bs)
theorem zip_at {α β : Type} {as : List α} {bs : List β} {i : Nat} {p : α × β} (h : (as.zip bs)[i]? = some p) : as[i]? = some p.1 ∧ bs[i]? = some p.2 := List.getElem?_zip_eq_some.mp h
theorem shp_len {A n : Nat} {nd : Nd} (h : Shp A n nd) : nd.qs.length ≤ 2 := by
  cases n with
  | zero => rw [show nd.qs = [] from h]; exact Nat.zero_le _
  | succ n => exact h.1
section
variable {P : Program} {w : World} {K : PySem.W.Frag} {mg : Str → Option Value} {base : Heap} {C R : Addr}
/-- the parts of a question -/
def QShp (n : Nat) (q : List An) : Prop := q.length ≤ 12 ∧ ∀ a ∈ q, Shp 12 n a.2.2
theorem shp_q {n : Nat} {nd : Nd} (h : Shp 12 n nd) {q : List An} (hq : q ∈ nd.qs) : ∃ m, QShp m q := by
  cases n with
  | zero => rw [show nd.qs = [] from h] at hq; cases hq
  | succ n => exact ⟨n, (h.2 q hq).2.1, (h.2 q hq).2.2⟩
def dmMove (m : Nat) (ds : List PyData) (d : PyData) : Prop := ∃ (n n' : Nat) (nd : Nd) (q : List An) (mv : Mv), Shp 12 n nd ∧ QShp n' q ∧ MvOk m nd q mv ∧ ds = [encN nd, encQ q, encM mv] ∧ d = .bool true
def dmWait (m : Nat) (ds : List PyData) (d : PyData) : Prop := ∃ (n n' : Nat) (nd goal : Nd) (wait : List Mv), Shp 12 n nd ∧ Shp 12 n' goal ∧ WaitOk m nd goal wait ∧ ds = [encN nd, encN goal, encWait wait] ∧ d = .bool true
theorem all_true {α : Type} (l : List α) : (l.map fun _ => true).all id = true := by rw [List.all_map]; simp
theorem c_wait {m k1 : Nat} (A : At K mg "is_wait" s_is_wait ["node", "goal", "thing"]) (T : Txt K mg) (hk : 1 ≤ k1) (c1 : CalD P w K mg base 1 "is_sized" 3 dmSized) (c2 : CalD P w K mg base k1 "is_move" 3 (dmMove m)) : CalD P w K mg base (k1 + 1) "is_wait" 3 (dmWait m) := by
  refine calD_mk A sc_is_wait rfl fun f cdv A outer s H vs Q E hr W G ds d k hd hdom q => ?_
  obtain ⟨n, n', nd, goal, wait, h1, h2, ⟨h3, h4⟩, rfl, rfl⟩ := hdom
  obtain ⟨v1, v2, v3, rfl, d1, d2, d3⟩ := dpAll_three hd
  rw [encN_eq goal] at d2
  have hl := shp_len h2
  refine ws_ifF (et_nT (Ev.eq (ev_call c1 hr hk (ea_cons (ev_nm 2 rfl d3) (ea_cons (ev_lenT T.len (ev_nm 1 rfl d2)) (ea1 (ev_lenT T.len (ev_nm 1 rfl d2))))) ⟨_, _, _, rfl, rfl⟩) ?_)) (Same.refl _) k fun G1 H1 s1 k1 => ?_
  · simp [sizedD, is_tuple, lenD, encWait]; omega
  refine ws_retE (Ev.eq (ev_all (bs := (goal.qs.zip wait).map fun _ => true) T.all rfl (Ev.eq (Ev.dp (ev_lcD (own := [("question", 3), ("move", 4)]) (xs := goal.qs.zip wait) (ei := fun p => .tuple [encQ p.1, encM p.2]) (fun _ => .bool true) rfl sc_is_wait.nd
    (blkOk_by (N := n_is_wait) (sc := defScope s_is_wait) (by decide +kernel)) (ei_zipT T.zip (ev_nm 1 rfl (d2.sm s1)) (ev_nm 2 rfl (d3.sm s1))) (zip_map2 _ _) (by rw [List.length_zip]; omega) (tg2 3 4 rfl ?_ sc_is_wait.nd) ?_)) (by rw [List.map_map]; rfl))) (by rw [all_true])) (Same.refl _) k1 (fun v G4 H4 s4 k4 r => q v G4 H4 (s1.trans s4) k4 r)
  · intro d hd
    rw [zip_map2] at hd
    obtain ⟨p, _, rfl⟩ := List.mem_map.mp hd
    exact ⟨_, _, rfl⟩
  · rintro i x v σ2 G' D acc hx s2 ⟨e1, e2, u1, u2, e, a1, a2, rfl⟩ s0 H0 C cl fp
    cases e
    obtain ⟨z1, z2⟩ := zip_at hx
    obtain ⟨m', hq⟩ := shp_q h2 (List.mem_of_getElem? z1)
    exact ev_call c2 hr (Nat.le_refl _) (ea_cons (ev_nm 0 rfl ((d1.sm s1).sm s2)) (ea_cons (ev_nm 3 rfl a1) (ea1 (ev_nm 4 rfl a2)))) ⟨n, m', nd, x.1, x.2, h1, hq, h4 i x.2 x.1 z2 z1, rfl, rfl⟩
theorem c_move {m k1 : Nat} (A : At K mg "is_move" s_is_move ["node", "question", "thing"]) (T : Txt K mg) (hk : 2 ≤ k1) (c1 : CalD P w K mg base 1 "is_triple" 1 dmTriple) (c2 : CalD P w K mg base 2 "is_within" 3 dmWithin) (c3 : CalD P w K mg base 1 "is_sized" 3 dmSized)
    (c4 : ∀ m', m = m' + 1 → CalD P w K mg base k1 "is_wait" 3 (dmWait m') ∧ CalD P w K mg base k1 "is_move" 3 (dmMove m')) : CalD P w K mg base (k1 + 1) "is_move" 3 (dmMove m) := by
  refine calD_mk A sc_is_move rfl fun f cdv A outer s H vs Q E hr W G ds d k hd hdom q => ?_
  obtain ⟨n, n', nd, qq, mv, h1, h2, h3, rfl, rfl⟩ := hdom
  obtain ⟨v1, v2, v3, rfl, d1, d2, d3⟩ := dpAll_three hd
  obtain ⟨ask, kk, rest⟩ := mv
  rw [encM_eq] at d3
  cases m with
  | zero => exact False.elim h3
  | succ m =>
    obtain ⟨c5, c6⟩ := c4 m rfl
    refine ws_ifF (et_of (ew_orF (et_nT (ev_call c1 hr (by omega) (ea1 (ev_nm 2 rfl d3)) ⟨_, rfl, rfl⟩)) (ew_or1 (et_nT (ev_isi (k := true) T.isi T.zstr boot_strT (kit_ty (kit_str (.str _))) (ev_ix (j := 0) (ev_nm 2 rfl d3) ev_int rfl)))))) (Same.refl _) k fun G1 H1 s1 k1 => ?_
    refine ws_tupE (ev_nm 2 rfl (d3.sm s1)) (Same.refl _) k1 (fun us G2 H2 s2 k2 hus => ?_) rfl
    obtain ⟨u1, u2, u3, rfl, b1, b2, b3⟩ := dpAll_three hus
    refine wgs_cons (wg_nm 3 (wgs_cons (wg_nm 4 (wgs_cons (wg_nm 5 (wgs_nil ?_) sc_is_move.nd)) sc_is_move.nd)) sc_is_move.nd)
    have sg : Same G G2 := s1.trans s2
    cases ask with
    | false =>
      obtain ⟨a, ha, hl, hm⟩ := h3
      have hmem := List.mem_of_getElem? ha
      have hlt := (List.getElem?_eq_some_iff.mp ha).1
      refine ws_if (k := true) (EvT.eq (et_str (ev_nm 3 rfl b1) ev_str) (by decide)) (Same.refl _) k2 (fun _ G3 H3 s3 k3 => ?_) (fun z => nomatch z)
      have sg3 : Same G G3 := sg.trans s3
      refine ws_retE (ev_andT (Ev.eq (ev_call c2 hr (by omega) (ea_cons (ev_nm 4 rfl (b2.sm s3)) (ea_cons ev_int (ea1 (ev_sub (ev_lenT (ds := qq.map encA) T.len (ev_nm 1 rfl (d2.sm sg3))) ev_int)))) ⟨_, _, _, rfl, rfl⟩) ?_) (ev_and1 (ev_call c5 hr (Nat.le_refl _) (ea_cons (ev_nm 0 rfl (d1.sm sg3)) (ea_cons (ev_ix (j := 2) (ev_ix (j := kk) (ev_nm 1 rfl (d2.sm sg3)) (ev_nm 4 rfl (b2.sm s3)) (by rw [List.getElem?_map, ha]; rfl)) ev_int rfl) (ea1 (ev_nm 5 rfl (b3.sm s3)))))
        ⟨n, n', nd, a.2.2, rest, h1, h2.2 a hmem, ⟨hl, fun i mv q' e1 e2 => hm i mv q' e1 e2⟩, rfl, rfl⟩))) (Same.refl _) k3 (fun v G4 H4 s4 k4 r => q v G4 H4 (sg3.trans s4) k4 r)
      simp [withinD]
      omega
    | true =>
      obtain ⟨p, hp, hl, hm⟩ := h3
      have hmem := List.mem_of_getElem? hp
      have hlt := (List.getElem?_eq_some_iff.mp hp).1
      obtain ⟨m1, hq1⟩ := shp_q h1 hmem
      rw [encN_eq] at d1
      have gp : (nd.qs.map encQ)[kk]? = some (encQ p) := by rw [List.getElem?_map, hp]; rfl
      refine ws_ifF (EvT.eq (et_str (ev_nm 3 rfl b1) ev_str) (by decide)) (Same.refl _) k2 fun G3 H3 s3 k3 => ?_
      have sg3 : Same G G3 := sg.trans s3
      refine ws_ifF (et_of (ew_orF (EvT.eq (et_strN (ev_nm 3 rfl (b1.sm s3)) ev_str) (by decide)) (ew_or1 (et_nT (Ev.eq (ev_call c2 hr (by omega) (ea_cons (ev_nm 4 rfl (b2.sm s3)) (ea_cons ev_int (ea1 (ev_sub (ev_lenT T.len (ev_nm 0 rfl (d1.sm sg3))) ev_int)))) ⟨_, _, _, rfl, rfl⟩) ?_))))) (Same.refl _) k3 fun G4 H4 s4 k4 => ?_
      · simp [withinD]; omega
      have sg4 : Same G G4 := sg3.trans s4
      have b24 := b2.sm (s3.trans s4)
      have b34 := b3.sm (s3.trans s4)
      refine ws_ifF (et_nT (Ev.eq (ev_call c3 hr (by omega) (ea_cons (ev_nm 5 rfl b34) (ea_cons (ev_lenT (ds := p.map encA) T.len (ev_ix (j := kk) (ev_nm 0 rfl (d1.sm sg4)) (ev_nm 4 rfl b24) gp)) (ea1 (ev_lenT (ds := p.map encA) T.len (ev_ix (j := kk) (ev_nm 0 rfl (d1.sm sg4)) (ev_nm 4 rfl b24) gp))))) ⟨_, _, _, rfl, rfl⟩) ?_)) (Same.refl _) k4 fun G5 H5 s5 k5 => ?_
      · simp [sizedD, is_tuple, lenD]; omega
      have sg5 : Same G G5 := sg4.trans s5
      refine ws_retE (Ev.eq (ev_all (bs := (p.zip rest).map fun _ => true) T.all rfl (Ev.eq (Ev.dp (ev_lcD (own := [("answer", 6), ("move", 7)]) (xs := p.zip rest) (ei := fun p => .tuple [encA p.1, encM p.2]) (fun _ => .bool true) rfl sc_is_move.nd
        (blkOk_by (N := n_is_move) (sc := defScope s_is_move) (by decide +kernel)) (ei_zipT (as := p.map encA) (bs := rest.map encM) T.zip (ev_ix (j := kk) (ev_nm 0 rfl (d1.sm sg5)) (ev_nm 4 rfl (b24.sm s5)) gp) (ev_nm 5 rfl (b34.sm s5))) (zip_map2 _ _) (by rw [List.length_zip]; have := hq1.1; omega) (tg2 6 7 rfl ?_ sc_is_move.nd) ?_)) (by rw [List.map_map]; rfl))) (by rw [all_true])) (Same.refl _) k5 (fun v G6 H6 s6 k6 r => q v G6 H6 (sg5.trans s6) k6 r)
      · intro d hd
        rw [zip_map2] at hd
        obtain ⟨p, _, rfl⟩ := List.mem_map.mp hd
        exact ⟨_, _, rfl⟩
      · rintro i x v σ2 G' D acc hx s2 ⟨e1, e2, u1, u2, e, a1, a2, rfl⟩ s0 H0 C cl fp
        cases e
        obtain ⟨z1, z2⟩ := zip_at hx
        exact ev_call c6 hr (Nat.le_refl _) (ea_cons (ev_ix (j := 2) (ev_nm 6 rfl a1) ev_int rfl) (ea_cons (ev_nm 1 rfl ((d2.sm sg5).sm s2)) (ea1 (ev_nm 7 rfl a2)))) ⟨m1, n', x.1.2.2, qq, x.2, hq1.2 x.1 (List.mem_of_getElem? z1), h2, hm i x.2 x.1 z2 z1, rfl, rfl⟩
/-- house, other, a plan -/
def preHHT (K : PySem.W.Frag) (C R : Addr) (out : Nat → Nd → Nd → PyData → Rl → Prop) : Hp → List V → Rl → Prop := fun G vs Z => ∃ a b t n nd nd' d, vs = [a, b, t] ∧ Hou K C R n nd G a ∧ Hou K C R n nd' G b ∧ Dp K G t d ∧ out n nd nd' d Z
theorem hou_three {X : Cx} {W : Wd} {σ : L2.St} {G : Hp} {a b c : Expr} {R1 R2 R3 : Rl} (h1 : Ev X W a σ G R1) (m : ∀ G G' v, Same G G' → R1 G v → R1 G' v) (h2 : Ev X W b σ G R2) (m2 : ∀ G G' v, Same G G' → R2 G v → R2 G' v) (h3 : Ev X W c σ G R3) (he : Pl X a [b, c] := by rfl) (he2 : Pl X b [c] := by rfl) (he3 : Pl X c [] := by rfl) : EvA X W [a, b, c] σ G (fun G vs => ∃ x y z, vs = [x, y, z] ∧ R1 G x ∧ R2 G y ∧ R3 G z) := fun G1 H Q s k q =>
  (ea_any h1 m (ea_any h2 m2 (ea_any1 h3 he3) he2) he) G1 H _ s k fun vs G2 H2 s2 k2 r => by
    obtain ⟨v, r, rfl, r1, ⟨u, r', rfl, r2, ⟨t, rfl, r3⟩⟩⟩ := r
    exact q _ G2 H2 s2 k2 ⟨v, u, t, rfl, r1, r2, r3⟩
def outPlan (K : PySem.W.Frag) : Nat → Nd → Nd → PyData → Rl → Prop := fun _ nd nd' d Z => ∃ n n' wait, Shp 12 n nd ∧ Shp 12 n' nd' ∧ WaitOk 12 nd nd' wait ∧ d = encWait wait ∧ Z = Is K (.bool true)
theorem c_is_plan (A : At K mg "is_plan_of" s_is_plan_of ["house", "other", "thing"]) (hc : HC K mg C R) (c1 : CalD P w K mg base 40 "is_wait" 3 (dmWait 12)) : C8.Cal P w K mg base 41 "is_plan_of" (SpG (preHHT K C R (outPlan K))) [] := by
  refine calG_mk A sc_is_plan_of (fun G vs Z ⟨_, _, _, _, _, _, _, h, _⟩ => by rw [h]; rfl) fun f cdv A outer s H vs Q E hr W G Z k ⟨a, b, t, n, nd, nd', d, e, h1, h2, h3, ⟨m, m', wait, g1, g2, g3, ed, eZ⟩⟩ q => ?_
  subst e eZ ed
  have oa : ∀ G', Same G G' → Hou K C R n nd G' a := fun G' s => hou_mono _ _ _ s h1
  have ob : ∀ G', Same G G' → Hou K C R n nd' G' b := fun G' s => hou_mono _ _ _ s h2
  exact ws_retE (ev_call c1 hr (Nat.le_refl _) (ea_cons (ev_tree hc (ev_R 0 rfl oa)) (ea_cons (ev_tree hc (ev_R 1 rfl ob)) (ea1 (ev_nm 2 rfl h3)))) ⟨m, m', nd, nd', wait, g1, g2, g3, rfl, rfl⟩) (Same.refl _) k q
/-- a right go-between -/
def BtwOk (nd nd' : Nd) (b : Btw) : Prop := 1 ≤ b.length ∧ b.length ≤ 1000 ∧ Adds (b.map (·.1)) ∧ (∀ p ∈ b, 0 < p.1 ∧ p.1 ≤ 1) ∧ sumR (b.map (·.1)) = 1 ∧ ∀ p ∈ b, WaitOk 12 nd nd' p.2
def encBi (p : Rat × List Mv) : PyData := .tuple [encR p.1, encWait p.2]
theorem encB_eq (b : Btw) : encB b = .tuple (b.map encBi) := rfl
def outBtw (K : PySem.W.Frag) (Z0 : Rl) : Nat → Nd → Nd → PyData → Rl → Prop := fun _ nd nd' d Z => ∃ n n' b, Shp 12 n nd ∧ Shp 12 n' nd' ∧ BtwOk nd nd' b ∧ d = encB b ∧ Z = Z0
theorem c_is_btw (A : At K mg "is_between_of" s_is_between_of ["house", "other", "thing"]) (hc : HC K mg C R) (T : Txt K mg) (c1 : CalD P w K mg base 1 "is_pair" 1 dmPair) (c2 : CalD P w K mg base 5 "are_shares" 1 dmShares) (c3 : C8.Cal P w K mg base 41 "is_plan_of" (SpG (preHHT K C R (outPlan K))) []) :
    C8.Cal P w K mg base 42 "is_between_of" (SpG (preHHT K C R (outBtw K (Is K (.bool true))))) [] := by
  refine calG_mk A sc_is_between_of (fun G vs Z ⟨_, _, _, _, _, _, _, h, _⟩ => by rw [h]; rfl) fun f cdv A outer s H vs Q E hr W G Z k ⟨a, b, t, n, nd, nd', d, e, h1, h2, h3, ⟨m, m', bb, g1, g2, ⟨g3, g4, g5, g6, g7, g8⟩, ed, eZ⟩⟩ q => ?_
  subst e eZ ed
  have oa : ∀ G', Same G G' → Hou K C R n nd G' a := fun G' s => hou_mono _ _ _ s h1
  have ob : ∀ G', Same G G' → Hou K C R n nd' G' b := fun G' s => hou_mono _ _ _ s h2
  rw [encB_eq] at h3
  refine ws_ifF (et_of (ew_orF (et_nT (ev_isi (k := true) T.isi T.ztuple boot_tupleT (kit_ty (kit_tuple (.tuple _))) (ev_nm 2 rfl h3))) (ew_orF (EvT.eq (et_cmp (ev_lenT T.len (ev_nm 2 rfl h3)) ev_int) ?_) (ew_or1 (et_nT (Ev.eq (ev_all (bs := bb.map fun _ => true) T.all rfl (Ev.eq (Ev.dp (ev_lcD (own := [("item", 3)]) (xs := bb) (ei := encBi) (fun _ => .bool true) rfl sc_is_between_of.nd
    (blkOk_by (N := n_is_between_of) (sc := defScope s_is_between_of) (by decide +kernel)) (ei_tup (ev_nm 2 rfl h3)) rfl (by omega) (tg1 3 sc_is_between_of.nd) ?_)) (by rw [List.map_map]; rfl))) (by rw [all_true]))))))) (Same.refl _) k fun G1 H1 s1 k1 => ?_
  · simp [cmpI]
    intro e
    rw [e] at g3
    exact absurd g3 (by decide)
  · rintro i x v σ2 G' D acc hx s1 ⟨a1, rfl⟩ s0 H0 C cl fp
    exact ev_call c1 hr (by decide) (ea1 (ev_nm 3 rfl a1)) ⟨_, rfl, rfl⟩
  refine ws_retE (ev_andT (ev_call c2 hr (by decide) (ea1 (Ev.eq (Ev.dp (ev_lcD (own := [("item", 3)]) (xs := bb) (ei := encBi) (fun p => encR p.1) rfl sc_is_between_of.nd
    (blkOk_by (N := n_is_between_of) (sc := defScope s_is_between_of) (by decide +kernel)) (ei_tup (ev_nm 2 rfl (h3.sm s1))) rfl (by omega) (tg1 3 sc_is_between_of.nd) ?_)) ?_)) ⟨bb.map (·.1), g5, ?_, g7, rfl, rfl⟩)
    (ev_and1 (Ev.eq (ev_all (bs := bb.map fun _ => true) T.all rfl (Ev.eq (Ev.dp (ev_lcD (own := [("item", 3)]) (xs := bb) (ei := encBi) (fun _ => .bool true) rfl sc_is_between_of.nd
      (blkOk_by (N := n_is_between_of) (sc := defScope s_is_between_of) (by decide +kernel)) (ei_tup (ev_nm 2 rfl (h3.sm s1))) rfl (by omega) (tg1 3 sc_is_between_of.nd) ?_)) (by rw [List.map_map]; rfl))) (by rw [all_true])))) (Same.refl _) k1 (fun v G4 H4 s4 k4 r => q v G4 H4 (s1.trans s4) k4 r)
  · rintro i x v σ2 G' D acc hx s1 ⟨a1, rfl⟩ s0 H0 C cl fp
    exact ev_ix (j := 0) (ev_nm 3 rfl a1) ev_int rfl
  · rw [List.map_map]; rfl
  · intro q hq
    obtain ⟨p, hp, rfl⟩ := List.mem_map.mp hq
    exact g6 p hp
  · rintro i x v σ2 G' D acc hx s2 ⟨a1, rfl⟩ s0 H0 C0 cl fp
    exact ev_callG c3 hr (by decide) (hou_three (ev_R 0 rfl (fun G' s => oa G' ((s1.trans s2).trans s))) hou_mono (ev_R 1 rfl (fun G' s => ob G' ((s1.trans s2).trans s))) hou_mono (ev_ix (j := 1) (ev_nm 3 rfl a1) ev_int rfl))
      fun G' vs s ⟨y1, y2, y3, e, r1, r2, r3⟩ => ⟨y1, y2, y3, n, nd, nd', _, e, r1, r2, r3, m, m', x.2, g1, g2, g8 x (List.mem_of_getElem? hx), rfl, rfl⟩
theorem c_check_btw (A : At K mg "check_between" s_check_between ["house", "other", "thing"]) (hc : HC K mg C R) (T : Txt K mg) (c1 : C8.Cal P w K mg base 42 "is_between_of" (SpG (preHHT K C R (outBtw K (Is K (.bool true))))) []) :
    C8.Cal P w K mg base 43 "check_between" (SpG (preHHT K C R (outBtw K (Is K .none)))) [] := by
  refine calG_mk A sc_check_between (fun G vs Z ⟨_, _, _, _, _, _, _, h, _⟩ => by rw [h]; rfl) fun f cdv A outer s H vs Q E hr W G Z k ⟨a, b, t, n, nd, nd', d, e, h1, h2, h3, ⟨m, m', bb, g1, g2, g3, ed, eZ⟩⟩ q => ?_
  subst e eZ ed
  have oa : ∀ G', Same G G' → Hou K C R n nd G' a := fun G' s => hou_mono _ _ _ s h1
  have ob : ∀ G', Same G G' → Hou K C R n nd' G' b := fun G' s => hou_mono _ _ _ s h2
  exact ws_ifF (et_nT (ev_callG c1 hr (by decide) (hou_three (ev_R 0 rfl oa) hou_mono (ev_R 1 rfl ob) hou_mono (ev_nm 2 rfl h3)) fun G' vs s ⟨y1, y2, y3, e, r1, r2, r3⟩ => ⟨y1, y2, y3, n, nd, nd', _, e, r1, r2, r3, m, m', bb, g1, g2, g3, rfl, rfl⟩)) (Same.refl _) k fun G1 H1 s1 k1 => ws_nil (q _ G1 H1 s1 k1 .non)
end
end K12
/-! M3: how much there is to tell. -/
namespace K12
open PySem
theorem foldMax_le : ∀ (l : List Nat) (m : Nat), m ≤ l.foldl Nat.max m ∧ (∀ x ∈ l, x ≤ l.foldl Nat.max m)
  | [], m => ⟨Nat.le_refl _, (fun x hx => nomatch hx)⟩
  | a :: r, m => by
    obtain ⟨h1, h2⟩ := foldMax_le r (Nat.max m a)
    refine ⟨Nat.le_trans (Nat.le_max_left _ _) h1, fun x hx => ?_⟩
    rcases List.mem_cons.mp hx with rfl | hx
    · exact Nat.le_trans (Nat.le_max_right _ _) h1
    · exact h2 x hx
theorem foldMax_lub : ∀ (l : List Nat) (m b : Nat), m ≤ b → (∀ x ∈ l, x ≤ b) → l.foldl Nat.max m ≤ b
  | [], _, _, h, _ => h
  | a :: r, m, b, h, h2 => foldMax_lub r _ b (Nat.max_le.mpr ⟨h, h2 a List.mem_cons_self⟩) fun x hx => h2 x (List.mem_cons_of_mem _ hx)
def pot : Nd → Nat := fold fun qs => (qs.map fun q => (q.map (·.2.2)).sum).foldl Nat.max 1
theorem pot_eq (nd : Nd) : pot nd = (nd.qs.map fun q => (q.map fun a => pot a.2.2).sum).foldl Nat.max 1 := by
  obtain ⟨qs⟩ := nd
  unfold pot
  rw [fold_eq, List.map_map]
  congr 1
  apply List.map_congr_left
  intro q _
  show (List.map _ (List.map _ q)).sum = _
  rw [List.map_map]
  rfl
theorem pot_pos (nd : Nd) : 1 ≤ pot nd := by rw [pot_eq]; exact (foldMax_le _ _).1
theorem pot_q {nd : Nd} {q : List An} (h : q ∈ nd.qs) : (q.map fun a => pot a.2.2).sum ≤ pot nd := by
  rw [pot_eq]
  exact (foldMax_le _ _).2 _ (List.mem_map_of_mem (f := fun q : List An => (q.map fun a => pot a.2.2).sum) h)
def Good (D W : Nat) (ws : List Rat) : Prop := ws.length = W ∧ ∀ x ∈ ws, Rg D x
def Wts (D W : Nat) : Nd → Prop := fold fun qs => ∀ q ∈ qs, ∀ a ∈ q, Good D W a.2.1 ∧ a.2.2
theorem wts_iff (D W : Nat) (nd : Nd) : Wts D W nd ↔ ∀ q ∈ nd.qs, ∀ a ∈ q, Good D W a.2.1 ∧ Wts D W a.2.2 := by
  obtain ⟨qs⟩ := nd
  unfold Wts
  rw [fold_eq]
  constructor
  · intro h q hq a ha
    exact h _ (List.mem_map_of_mem hq) _ (List.mem_map_of_mem (f := fun a : An => (a.1, a.2.1, fold _ a.2.2)) ha)
  · intro h q hq a ha
    obtain ⟨q', hq', rfl⟩ := List.mem_map.mp hq
    obtain ⟨a', ha', rfl⟩ := List.mem_map.mp ha
    exact h q' hq' a' ha'
theorem Val.wts {A W D : Nat} : ∀ {n : Nat} {ah : List Rat} {nd : Nd}, Val A W D n ah nd → Wts D W nd
  | 0, _, nd, h => (wts_iff D W nd).mpr fun q hq => by rw [show nd.qs = [] from h] at hq; cases hq
  | n + 1, _, nd, ⟨_, h2⟩ => (wts_iff D W nd).mpr fun q hq a ha => ⟨(h2 q hq).2.2.2.1 a ha, Val.wts ((h2 q hq).2.2.2.2.2 a ha)⟩
/-! ### what a move tells -/
mutual
theorem tells_pot : ∀ (mv : Mv) (nd : Nd) (ws : List Rat), ((tells mv nd ws).map fun t => pot t.node).sum ≤ pot nd
  | .mk false k rest, nd, ws => by rw [tells]; simp
  | .mk true k rest, nd, ws => by
    rw [tells]
    refine Nat.le_trans (tellsL_pot rest _) ?_
    rw [List.getD_eq_getElem?_getD]
    cases e : nd.qs[k]? with
    | none => exact Nat.zero_le _
    | some q => exact pot_q (List.mem_of_getElem? e)
theorem tellsL_pot : ∀ (rest : List Mv) (q : List An), ((tellsL rest q).map fun t => pot t.node).sum ≤ (q.map fun a => pot a.2.2).sum
  | [], q => by rw [tellsL]; exact Nat.zero_le _; intro _ _ _ _ h; cases h
  | mv :: r, [] => by rw [tellsL]; exact Nat.zero_le _; intro _ _ _ _ _ h; cases h
  | mv :: r, a :: as => by
    rw [tellsL, List.map_append, List.sum_append, List.map_cons, List.sum_cons]
    exact Nat.add_le_add (tells_pot mv a.2.2 a.2.1) (tellsL_pot r as)
end
theorem len_le_pot {α : Type} (f : α → Nd) : ∀ l : List α, l.length ≤ (l.map fun t => pot (f t)).sum
  | [] => Nat.zero_le _
  | a :: r => by
    have := pot_pos (f a)
    have := len_le_pot f r
    rw [List.length_cons, List.map_cons, List.sum_cons]
    omega
theorem tells_len (mv : Mv) (nd : Nd) (ws : List Rat) : (tells mv nd ws).length ≤ pot nd := Nat.le_trans (len_le_pot (·.node) _) (tells_pot mv nd ws)
/-- what is right about what is told -/
structure TlOk (D W m : Nat) (q : List An) (t : Tl) : Prop where
  wait : ∃ a, q[t.a]? = some a ∧ ∃ m', m' ≤ m ∧ WaitOk m' t.node a.2.2 t.wait
  shp : ∃ n, Shp 12 n t.node
  wts : Wts D W t.node
  ws : Good D W t.ws
theorem MvOk.up : ∀ {m m' : Nat} {nd : Nd} {q : List An} {mv : Mv}, m ≤ m' → MvOk m nd q mv → MvOk m' nd q mv
  | 0, _, _, _, _, _, h => h.elim
  | m + 1, 0, _, _, _, hl, _ => by omega
  | m + 1, m' + 1, nd, q, .mk false k rest, hl, ⟨a, h1, h2, h3⟩ => ⟨a, h1, h2, fun i mv q' e1 e2 => MvOk.up (by omega) (h3 i mv q' e1 e2)⟩
  | m + 1, m' + 1, nd, q, .mk true k rest, hl, ⟨p, h1, h2, h3⟩ => ⟨p, h1, h2, fun i mv a e1 e2 => MvOk.up (by omega) (h3 i mv a e1 e2)⟩
theorem WaitOk.up {m m' : Nat} {nd goal : Nd} {w : List Mv} (hl : m ≤ m') (h : WaitOk m nd goal w) : WaitOk m' nd goal w := ⟨h.1, fun i mv q e1 e2 => (h.2 i mv q e1 e2).up hl⟩
theorem shp_anyq {n : Nat} {nd : Nd} (h : Shp 12 n nd) {q : List An} (hq : q ∈ nd.qs) {a : An} (ha : a ∈ q) : ∃ n, Shp 12 n a.2.2 := by
  cases n with
  | zero => rw [show nd.qs = [] from h] at hq; cases hq
  | succ n => exact ⟨n, (h.2 q hq).2.2 a ha⟩
theorem tellsL_nil_left (q : List An) : tellsL [] q = [] := by rw [tellsL]; intro _ _ _ _ h; cases h
theorem tellsL_mem : ∀ {rest : List Mv} {q : List An} {t : Tl}, t ∈ tellsL rest q → ∃ (i : Nat) (mv : Mv) (a : An), rest[i]? = some mv ∧ q[i]? = some a ∧ t ∈ tells mv a.2.2 a.2.1
  | [], q, t, h => by rw [tellsL_nil_left] at h; cases h
  | mv :: r, [], t, h => by rw [tellsL] at h; cases h; intro _ _ _ _ _ h; cases h
  | mv :: r, a :: as, t, h => by
    rw [tellsL] at h
    rcases List.mem_append.mp h with h | h
    · exact ⟨0, mv, a, rfl, rfl, h⟩
    · obtain ⟨i, mv', a', e1, e2, h'⟩ := tellsL_mem h
      exact ⟨i + 1, mv', a', e1, e2, h'⟩
theorem tells_ok {D W : Nat} : ∀ {m : Nat} {mv : Mv} {nd : Nd} {q : List An} {ws : List Rat}, MvOk m nd q mv → (∃ n, Shp 12 n nd) → Wts D W nd → Good D W ws → ∀ t ∈ tells mv nd ws, TlOk D W m q t
  | 0, _, _, _, _, h, _, _, _ => h.elim
  | m + 1, .mk false k rest, nd, q, ws, ⟨a, h1, h2, h3⟩, hs, hw, hg => by
    intro t ht
    rw [tells] at ht
    cases List.mem_singleton.mp ht
    exact ⟨⟨a, h1, m, Nat.le_succ m, h2, fun i mv q' e1 e2 => h3 i mv q' e1 e2⟩, hs, hw, hg⟩
  | m + 1, .mk true k rest, nd, q, ws, ⟨p, h1, h2, h3⟩, ⟨n, hs⟩, hw, hg => by
    intro t ht
    rw [tells] at ht
    have e : nd.qs.getD k [] = p := by rw [List.getD_eq_getElem?_getD, h1]; rfl
    rw [e] at ht
    obtain ⟨i, mv', a, e1, e2, h'⟩ := tellsL_mem ht
    have hp := List.mem_of_getElem? h1
    have ha := List.mem_of_getElem? e2
    have hwa := (wts_iff D W nd).mp hw p hp a ha
    obtain ⟨⟨b, hb, m', hm', hwt⟩, z2, z3, z4⟩ := tells_ok (h3 i mv' a e1 e2) (shp_anyq hs hp ha) hwa.2 hwa.1 t h'
    exact ⟨⟨b, hb, m', Nat.le_succ_of_le hm', hwt⟩, z2, z3, z4⟩
/-! ### standings -/
def potS (S : List Sg) : Nat := (S.map fun s => pot s.node).sum
structure SgOk (E D W : Nat) (goal : Nd) (s : Sg) : Prop where
  share : Rg E s.share
  ws : Good D W s.ws
  wts : Wts D W s.node
  shp : ∃ n, Shp 12 n s.node
  wait : ∃ m, m ≤ 12 ∧ WaitOk m s.node goal s.wait
theorem potS_append (S T : List Sg) : potS (S ++ T) = potS S + potS T := by unfold potS; rw [List.map_append, List.sum_append]
theorem told_pot (i : Nat) : ∀ S : List Sg, ((told i S).map fun t => pot t.2.node).sum ≤ potS S
  | [] => Nat.le_refl _
  | s :: r => by
    have h1 := told_pot i r
    have h2 := tells_pot (s.wait.getD i noMv) s.node s.ws
    unfold told at h1 ⊢
    rw [List.flatMap_cons, List.map_append, List.sum_append, List.map_map]
    show _ + _ ≤ pot s.node + potS r
    exact Nat.add_le_add h2 h1
theorem told_mem {i : Nat} {S : List Sg} {x : Nat × Sg} (h : x ∈ told i S) : ∃ s ∈ S, ∃ t ∈ tells (s.wait.getD i noMv) s.node s.ws, x = (t.a, ⟨s.share, t.wait, t.node, t.ws⟩) := by
  unfold told at h
  obtain ⟨s, hs, h⟩ := List.mem_flatMap.mp h
  obtain ⟨t, ht, rfl⟩ := List.mem_map.mp h
  exact ⟨s, hs, t, ht, rfl⟩
/-- what is told of a question, right -/
def TdOk (E D W : Nat) (q : List An) (T : List (Nat × Sg)) : Prop := ∀ x ∈ T, ∃ a, q[x.1]? = some a ∧ SgOk E D W a.2.2 x.2
theorem told_ok {E D W : Nat} {goal : Nd} {S : List Sg} (h : ∀ s ∈ S, SgOk E D W goal s) {i : Nat} {q : List An} (hq : goal.qs[i]? = some q) : TdOk E D W q (told i S) := by
  intro x hx
  obtain ⟨s, hs, t, ht, rfl⟩ := told_mem hx
  obtain ⟨h1, h2, h3, h4, ⟨m, hm, h5, h6⟩⟩ := h s hs
  have hlt : i < s.wait.length := by rw [h5]; exact (List.getElem?_eq_some_iff.mp hq).1
  have hmv : s.wait[i]? = some (s.wait.getD i noMv) := by rw [List.getD_eq_getElem?_getD, List.getElem?_eq_getElem hlt]; rfl
  obtain ⟨⟨a, ha, m', hm', hwt⟩, z2, z3, z4⟩ := tells_ok (h6 i _ q hmv hq) h4 h3 h2 t ht
  exact ⟨a, ha, h1, z4, z3, z2, m', by omega, hwt⟩
theorem pick_mem {a : Nat} {T : List (Nat × Sg)} {s : Sg} (h : s ∈ pick a T) : (a, s) ∈ T := by
  unfold pick at h
  obtain ⟨x, hx, rfl⟩ := List.mem_map.mp h
  obtain ⟨h1, h2⟩ := List.mem_filter.mp hx
  have : x.1 = a := by simpa using h2
  subst this
  exact h1
theorem pick_ok {E D W : Nat} {q : List An} {T : List (Nat × Sg)} (h : TdOk E D W q T) {i : Nat} {a : An} (ha : q[i]? = some a) : ∀ s ∈ pick i T, SgOk E D W a.2.2 s := by
  intro s hs
  obtain ⟨b, hb, h'⟩ := h _ (pick_mem hs)
  have hb' : q[i]? = some b := hb
  rw [ha] at hb'
  cases hb'
  exact h'
theorem sum_filter_le {α : Type} (f : α → Nat) (p : α → Bool) : ∀ l : List α, ((l.filter p).map f).sum ≤ (l.map f).sum
  | [] => Nat.le_refl _
  | a :: r => by
    have := sum_filter_le f p r
    rw [List.filter_cons]
    split
    · rw [List.map_cons, List.map_cons, List.sum_cons, List.sum_cons]; omega
    · rw [List.map_cons, List.sum_cons]; omega
theorem pick_pot (a : Nat) (T : List (Nat × Sg)) : potS (pick a T) ≤ (T.map fun t => pot t.2.node).sum := by
  unfold potS pick
  rw [List.map_map]
  exact sum_filter_le (fun t : Nat × Sg => pot t.2.node) _ T
theorem rg_mul {E D : Nat} (hE : 0 < E) (hD : 0 < D) {a b : Rat} (ha : Rg E a) (hb : Rg D b) : Rg (E * D) (a * b) := by
  refine ⟨Rat.mul_nonneg ha.1 hb.1, ?_, over_mul hE hD ha.2.2 hb.2.2⟩
  have h1 := Rat.mul_le_mul_of_nonneg_left hb.2.1 ha.1
  have h2 := ha.2.1
  rw [Rat.mul_one] at h1
  exact Rat.le_trans h1 h2
theorem ledAs_eq (W : Nat) : ∀ (q : List An) (a : Nat) (T : List (Nat × Sg)), ledAs W q a T = (q.zipIdx a).map fun x => (x.1.1, wsLed W (pick x.2 T), ledN W x.1.2.2 (pick x.2 T))
  | [], _, _ => rfl
  | (w, u, n) :: r, a, T => by rw [ledAs, ledAs_eq W r (a + 1) T]; rfl
theorem ledAs_get {W : Nat} {q : List An} {a : Nat} {T : List (Nat × Sg)} {i : Nat} {x : An} (h : q[i]? = some x) : (ledAs W q a T)[i]? = some (x.1, wsLed W (pick (a + i) T), ledN W x.2.2 (pick (a + i) T)) := by
  rw [ledAs_eq, List.getElem?_map, List.getElem?_zipIdx, h]
  rfl
theorem ledAs_len (W : Nat) (q : List An) (a : Nat) (T : List (Nat × Sg)) : (ledAs W q a T).length = q.length := by rw [ledAs_eq, List.length_map, List.length_zipIdx]
theorem ledQs_eq (W : Nat) : ∀ (qs : List (List An)) (a : Nat) (S : List Sg), ledQs W qs a S = (qs.zipIdx a).map fun x => ledAs W x.1 0 (told x.2 S)
  | [], _, _ => rfl
  | q :: r, a, S => by rw [ledQs, ledQs_eq W r (a + 1) S]; rfl
theorem ledQs_get {W : Nat} {qs : List (List An)} {a : Nat} {S : List Sg} {i : Nat} {x : List An} (h : qs[i]? = some x) : (ledQs W qs a S)[i]? = some (ledAs W x 0 (told (a + i) S)) := by
  rw [ledQs_eq, List.getElem?_map, List.getElem?_zipIdx, h]
  rfl
theorem ledQs_len (W : Nat) (qs : List (List An)) (a : Nat) (S : List Sg) : (ledQs W qs a S).length = qs.length := by rw [ledQs_eq, List.length_map, List.length_zipIdx]
theorem ledN_qs (W : Nat) (nd : Nd) (S : List Sg) : (ledN W nd S).qs = ledQs W nd.qs 0 S := by obtain ⟨qs⟩ := nd; rw [ledN]; rfl
end K12
/-! D7: what a go-between makes. -/
namespace K12
open PySem PySem.Spec PyProof.Rows L2
theorem Cal_mono {P : Program} {w : World} {K : PySem.W.Frag} {mg : Str → Option Value} {base : Heap} {k k' : Nat} {x : Str} {sp : Sp} {dvs : List V} (c : C8.Cal P w K mg base k x sp dvs) (h : k ≤ k') : C8.Cal P w K mg base k' x sp dvs := by
  obtain ⟨f, fd, ps, ds, F, a, b, c, d⟩ := c.ex
  exact ⟨f, fd, ps, ds, F.mono h, a, b, c, d⟩
theorem tellsL_eq : ∀ (rest : List Mv) (q : List An), tellsL rest q = (q.zip rest).flatMap fun p => tells p.2 p.1.2.2 p.1.2.1
  | [], q => by rw [tellsL_nil_left, List.zip_nil_right]; rfl
  | mv :: r, [] => by rw [tellsL]; rfl; intro _ _ _ _ _ h; cases h
  | mv :: r, a :: as => by
    rw [tellsL, tellsL_eq r as]
    show _ = List.flatMap _ ((a, mv) :: as.zip r)
    rw [List.flatMap_cons]
def encT (share : Rat) (t : Tl) : PyData := .tuple [.int t.a, encS ⟨share, t.wait, t.node, t.ws⟩]
def encTS (t : Nat × Sg) : PyData := .tuple [.int t.1, encS t.2]
theorem mem_le_sum : ∀ {l : List Nat} {x : Nat}, x ∈ l → x ≤ l.sum
  | a :: r, x, h => by
    rw [List.sum_cons]
    rcases List.mem_cons.mp h with rfl | h
    · omega
    · have := mem_le_sum h; omega
theorem flat_take_le {α β : Type} (f : α → List β) (l : List α) (i : Nat) : ((l.take i).flatMap f).length ≤ (l.flatMap f).length := by
  conv => rhs; rw [← List.take_append_drop i l, List.flatMap_append, List.length_append]
  omega
section
variable {P : Program} {w : World} {K : PySem.W.Frag} {mg : Str → Option Value} {base : Heap} {C R : Addr}
def preTells (K : PySem.W.Frag) (m : Nat) : Hp → List V → Rl → Prop := fun G vs Z => ∃ mv nd q ws share n a b c d, vs = [a, b, c, d] ∧ Dp K G a (encM mv) ∧ Dp K G b (encR share) ∧ Dp K G c (encN nd) ∧ Dp K G d (encWs ws) ∧ MvOk m nd q mv ∧ Shp 12 n nd ∧ (tells mv nd ws).length ≤ 1000000 ∧ Z = Lt K ((tells mv nd ws).map (encT share))
theorem dpAll_four {K : PySem.W.Frag} {G : Hp} {vs : List V} {d1 d2 d3 d4 : PyData} (h : DpAll K G vs [d1, d2, d3, d4]) : ∃ v1 v2 v3 v4, vs = [v1, v2, v3, v4] ∧ Dp K G v1 d1 ∧ Dp K G v2 d2 ∧ Dp K G v3 d3 ∧ Dp K G v4 d4 := by
  cases h with | cons a t => cases t with | cons b t => cases t with | cons c t => cases t with | cons e t => cases t; exact ⟨_, _, _, _, rfl, a, b, c, e⟩
theorem ea_data {X : Cx} {W : Wd} {σ : L2.St} {G : Hp} {es : List Expr} {ds : List PyData} (h : EvA X W es σ G (fun G vs => DpAll X.K G vs ds)) : EvA X W es σ G (fun G vs => DpAll X.K G vs ds) := h
theorem c_tells {m k1 : Nat} (A : At K mg "tells_of" s_tells_of ["move", "share", "node", "weights"]) (T : Txt K mg)
    (c1 : ∀ m', m = m' + 1 → C8.Cal P w K mg base k1 "tells_of" (SpG (preTells K m')) []) : C8.Cal P w K mg base (k1 + 1) "tells_of" (SpG (preTells K m)) [] := by
  refine calG_mk A sc_tells_of (fun G vs Z ⟨_, _, _, _, _, _, _, _, _, _, h, _⟩ => by rw [h]; rfl) fun f cdv A outer s H vs Q E hr W G Z k ⟨mv, nd, q, ws, share, n, a, b, c, d, e, h1, h2, h3, h4, h5, h6, h7, eZ⟩ qq => ?_
  subst e eZ
  cases m with
  | zero => exact False.elim h5
  | succ m =>
  have c2 := c1 m rfl
  obtain ⟨ask, kk, rest⟩ := mv
  rw [encM_eq] at h1
  refine ws_tupE (ev_nm 0 rfl h1) (Same.refl _) k (fun us G2 H2 s2 k2 hus => ?_) rfl
  obtain ⟨u1, u2, u3, rfl, b1, b2, b3⟩ := dpAll_three hus
  refine wgs_cons (wg_nm 5 (wgs_cons (wg_nm 6 (wgs_cons (wg_nm 7 (wgs_nil ?_) sc_tells_of.nd)) sc_tells_of.nd)) sc_tells_of.nd)
  cases ask with
  | false =>
    refine ws_if (k := true) (EvT.eq (et_str (ev_nm 5 rfl b1) ev_str) (by decide)) (Same.refl _) k2 (fun _ G3 H3 s3 k3 => ?_) (fun z => nomatch z)
    have sg3 : Same G G3 := s2.trans s3
    refine ws_retE (ev_lstT (ea1 (ev_tup (ea_cons (ev_nm 6 rfl (b2.sm s3)) (ea1 (ev_tup (ea_cons (ev_nm 1 rfl (h2.sm sg3)) (ea_cons (ev_nm 7 rfl (b3.sm s3)) (ea_cons (ev_nm 2 rfl (h3.sm sg3)) (ea1 (ev_nm 3 rfl (h4.sm sg3)))))))))))) (Same.refl _) k3 (fun v G4 H4 s4 k4 r => qq v G4 H4 (sg3.trans s4) k4 ?_)
    rw [tells]
    exact r
  | true =>
    refine ws_ifF (EvT.eq (et_str (ev_nm 5 rfl b1) ev_str) (by decide)) (Same.refl _) k2 fun G3 H3 s3 k3 => ?_
    have sg3 : Same G G3 := s2.trans s3
    obtain ⟨p, hp, hl, hm⟩ := h5
    have hmem := List.mem_of_getElem? hp
    rw [encN_eq] at h3
    have gp : (nd.qs.map encQ)[kk]? = some (encQ p) := by rw [List.getElem?_map, hp]; rfl
    have et : tells (.mk true kk rest) nd ws = (p.zip rest).flatMap fun x => tells x.2 x.1.2.2 x.1.2.1 := by
      rw [tells, List.getD_eq_getElem?_getD, hp]
      exact tellsL_eq rest p
    rw [et] at h7 qq
    refine ws_own 4 ea_nil (by decide) (Same.refl _) k3 (fun l us G4 H4 s4 k4 hd4 => ?_) sc_tells_of.nd
    cases hd4
    refine ws_for (fun i σ W' G' => ∃ vs x y, W' = W.sep (.cell l (.lst vs)) ∧ σ = [some a, some b, some c, some d, some (.ref l), some u1, some u2, some u3, x, y] ∧ DpAll K G' vs ((((p.zip rest).take i).flatMap fun x => tells x.2 x.1.2.2 x.1.2.1).map (encT share)))
      (ei_zipT (as := p.map encA) (bs := rest.map encM) T.zip (ev_ix (j := kk) (ev_nm 2 rfl (h3.sm (sg3.trans s4))) (ev_nm 6 rfl (b2.sm (s3.trans s4))) gp) (ev_nm 7 rfl (b3.sm (s3.trans s4)))) (Same.refl _) k4 (fun G2 s2 => ⟨[], none, none, rfl, rfl, .nil⟩)
      (fun Gb sb i d0 σ1 W1 G5 G6 H6 v hi s5 ⟨acc, x, y, eW, es, dacc⟩ s6 k6 hv => ?_) (fun σ1 W1 G5 H5 s5 k5 ⟨acc, x, y, eW, es, dacc⟩ => ?_) PassesOwn.never rfl
    · subst eW es
      rw [zip_map2, List.getElem?_map] at hi
      cases ez : (p.zip rest)[i]? with
      | none => rw [ez] at hi; cases hi
      | some z =>
        rw [ez] at hi
        cases hi
        obtain ⟨z1, z2⟩ := zip_at ez
        obtain ⟨n', hn'⟩ := shp_anyq h6 hmem (List.mem_of_getElem? z1)
        have sg6 : Same G G6 := ((((sg3.trans s4).trans sb).trans s5).trans s6)
        have hlen : ((((p.zip rest).take i).flatMap fun x => tells x.2 x.1.2.2 x.1.2.1).length + (tells z.2 z.1.2.2 z.1.2.1).length) ≤ 1000000 := by
          have := flat_take_le (fun x : An × Mv => tells x.2 x.1.2.2 x.1.2.1) (p.zip rest) (i + 1)
          rw [flatMap_take _ ez, List.length_append] at this
          omega
        refine wg_tup rfl hv k6.same (fun vs2 hvs2 => ?_)
        obtain ⟨w1, w2, rfl, e1, e2⟩ := dpAll_two hvs2
        refine wgs_cons (wg_nm 8 (wgs_cons (wg_nm 9 (wgs_nil ?_) sc_tells_of.nd)) sc_tells_of.nd)
        refine ws_extend (P := fun es => es = (tells z.2 z.1.2.2 z.1.2.1).map (encT share)) 4 rfl (.refl _)
          (Ev.imp (ev_callG (R := Lt K ((tells z.2 z.1.2.2 z.1.2.1).map (encT share))) c2 hr (Nat.le_refl _) (ea_cons (ev_nm 9 rfl e2) (ea_cons (ev_nm 1 rfl (h2.sm sg6)) (ea_cons (ev_ix (j := 2) (ev_nm 8 rfl e1) ev_int rfl) (ea1 (ev_ix (j := 1) (ev_nm 8 rfl e1) ev_int rfl))))) fun G' vs s r => ?_) fun _ _ r => ⟨_, rfl, r⟩) (fun es e => ?_) (Same.refl _) k6 (fun us es G7 H7 s7 k7 pe du => ws_nil ?_)
        · obtain ⟨x1, x2, x3, x4, rfl, y1, y2, y3, y4⟩ := dpAll_four r
          exact ⟨z.2, z.1.2.2, q, z.1.2.1, share, n', x1, x2, x3, x4, rfl, y1, y2, y3, y4, hm i z.2 z.1 z2 z1, hn', by omega, rfl⟩
        · subst e
          rw [dacc.length, List.length_map, List.length_map]
          exact hlen
        · subst pe
          refine ⟨_, G7, (s5.trans s6).trans s7, k7, _, _, _, rfl, rfl, ?_⟩
          rw [flatMap_take _ ez, List.map_append]
          exact (dacc.sm (s6.trans s7)).append du
    · subst eW es
      rw [List.length_map, ← List.length_map (f := pairD), zip_map2, List.length_map, List.take_length] at dacc
      have gl : G5 l = none := k5.out l (.inr rfl)
      refine ws_retE (ev_rf (v := .ref l) 4 rfl) (Same.refl _) k5 fun v G6 H6 s6 k6 r => ?_
      cases (show v = .ref l from r)
      have gl6 : G6 l = none := k6.out l (.inr rfl)
      exact qq (.ref l) _ H6 ((((sg3.trans s4).trans s5).trans s6).trans (same_new gl6)) k6.give ⟨l, acc, rfl, upd_same, (dacc.sm s6).sm (same_new gl6)⟩
/-! ### weights -/
def dmWts (ds : List PyData) (d : PyData) : Prop := ∃ (W : Nat) (E D : Nat) (S : List Sg), W ≤ 5 ∧ Bot E ∧ Bot D ∧ Bot (E * D) ∧ S.length ≤ 1000000 ∧ (∀ s ∈ S, Rg E s.share ∧ Good D W s.ws) ∧ ds = [.int W, .list (S.map encS)] ∧ d = encWs (wsLed W S)
theorem c_weights (A : At K mg "weights_led" s_weights_led ["worlds", "standings"]) (T : Txt K mg) (c1 : CalD P w K mg base 4 "total" 1 dmTotal) (c2 : CalD P w K mg base 3 "times" 2 dmTimes) : CalD P w K mg base 5 "weights_led" 2 dmWts := by
  refine calD_mk A sc_weights_led rfl fun f cdv A outer s H vs Q E hr W G ds d k hd hdom q => ?_
  obtain ⟨n, E0, D, S, hn, hE, hD, hED, hl, hS, rfl, rfl⟩ := hdom
  obtain ⟨v1, v2, rfl, h1, h2⟩ := dpAll_two hd
  refine ws_retE (Ev.eq (ev_tupleL T.ztuple (Ev.dp (ev_lcD (own := [("world", 2)]) (xs := List.range n) (ei := fun i : Nat => PyData.int (i : Int)) (fun k => encR (sumR (S.map fun s => s.share * at0 s.ws k))) rfl sc_weights_led.nd (blkOk_by (N := n_weights_led) (sc := defScope s_weights_led) (by decide +kernel))
    (ei_range T.range (ev_nm 0 rfl h1) (by omega)) rfl (by rw [List.length_range]; omega) (tg1 2 sc_weights_led.nd) ?_))) ?_) (Same.refl _) k q
  · rintro i x v σ2 G' D' acc hx s1 ⟨a1, rfl⟩ s0 H0 C cl fp
    have hx' : x < n := by
      have := List.mem_of_getElem? hx
      simpa using this
    refine ev_call c1 hr (by decide) (ea1 (Ev.eq (Ev.dp (ev_lcD (own := [("one", 3)]) (xs := S) (ei := encS) (fun s => encR (s.share * at0 s.ws x)) rfl sc_weights_led.nd (blkIn (N := n_weights_led) (sc := defScope s_weights_led) rfl rfl (by decide +kernel)) (ei_list (ev_nm 1 rfl (h2.sm s1))) rfl hl (tg1 3 sc_weights_led.nd) ?_)) ?_)) ⟨S.map fun s => s.share * at0 s.ws x, adds_of hED (by rw [List.length_map]; exact hl) ?_, rfl, rfl⟩
    · rintro i2 y v2 σ3 G2 D2 acc2 hy s2 ⟨a2, rfl⟩ s02 H02 C2 cl2 fp2
      obtain ⟨g1, g2, g3⟩ := hS y (List.mem_of_getElem? hy)
      exact ev_call c2 hr (by decide) (ea_cons (ev_ix (j := 0) (ev_nm 3 rfl a2) ev_int rfl) (ea1 (ev_ix (j := x) (ev_ix (j := 3) (ev_nm 3 rfl a2) ev_int rfl) (ev_nm 2 rfl (a1.sm s2)) (encWs_get (by rw [g2]; exact hx'))))) ⟨y.share, at0 y.ws x, sq_rg hE g1, sq_rg hD (at0_rg g3), rfl, rfl⟩
    · rw [List.map_map]; rfl
    · intro z hz
      obtain ⟨y, hy, rfl⟩ := List.mem_map.mp hz
      obtain ⟨g1, g2, g3⟩ := hS y hy
      exact rg_mul hE.1 hD.1 g1 (at0_rg g3)
  · unfold encWs wsLed
    rw [List.map_map]; rfl
/-! ### questions and nodes -/
def LedDom (W E D : Nat) : Prop := W ≤ 5 ∧ Bot E ∧ Bot D ∧ Bot (E * D)
def dmQuestion (n : Nat) (ds : List PyData) (d : PyData) : Prop := ∃ (W E D : Nat) (q : List An) (T : List (Nat × Sg)), LedDom W E D ∧ QShp n q ∧ TdOk E D W q T ∧ (T.map fun t => pot t.2.node).sum ≤ 1000000 ∧ ds = [.int W, encQ q, .list (T.map encTS)] ∧ d = encQ (ledAs W q 0 T)
def dmNode (n : Nat) (ds : List PyData) (d : PyData) : Prop := ∃ (W E D : Nat) (goal : Nd) (S : List Sg), LedDom W E D ∧ Shp 12 n goal ∧ (∀ s ∈ S, SgOk E D W goal s) ∧ potS S ≤ 1000000 ∧ ds = [.int W, encN goal, .list (S.map encS)] ∧ d = encN (ledN W goal S)
theorem c_question {n k1 : Nat} (A : At K mg "question_led" s_question_led ["worlds", "question", "told"]) (T : Txt K mg) (hk : 5 ≤ k1) (c1 : CalD P w K mg base 5 "weights_led" 2 dmWts) (c2 : CalD P w K mg base k1 "node_led" 3 (dmNode n)) : CalD P w K mg base (k1 + 1) "question_led" 3 (dmQuestion n) := by
  refine calD_mk A sc_question_led rfl fun f cdv A outer s H vs Q E hr W G ds d k hd hdom q => ?_
  obtain ⟨n0, E0, D, qq, TT, ⟨g1, g2, g3, g4⟩, hq, hT, hp, rfl, rfl⟩ := hdom
  obtain ⟨v1, v2, v3, rfl, h1, h2, h3⟩ := dpAll_three hd
  have hTl : TT.length ≤ 1000000 := Nat.le_trans (len_le_pot (fun t : Nat × Sg => t.2.node) TT) hp
  refine ws_own 3 ea_nil (by decide) (Same.refl _) k (fun l us G1 H1 s1 k1 hd4 => ?_) sc_question_led.nd
  cases hd4
  refine ws_for (fun i σ W' G' => ∃ vs a b c d e, W' = W.sep (.cell l (.lst vs)) ∧ σ = [some v1, some v2, some v3, some (.ref l), a, b, c, d, e] ∧ DpAll K G' vs (((ledAs n0 qq 0 TT).take i).map encA))
    (ei_enum (ds := qq.map encA) T.enum (ev_nm 1 rfl (h2.sm s1))) (Same.refl _) k1 (fun G2 s2 => ⟨[], none, none, none, none, none, rfl, rfl, .nil⟩)
    (fun Gb sb i d σ1 W1 G2 G3 H3 v hi s2 ⟨acc, x1, x2, x3, x4, x5, eW, es, dacc⟩ s3 k3 hv3 => ?_) (fun σ1 W1 G2 H2 s2 k2 ⟨acc, x1, x2, x3, x4, x5, eW, es, dacc⟩ => ?_) PassesOwn.never rfl
  · subst eW es
    obtain ⟨an, ha, rfl⟩ := numbered_map hi
    have hmem := List.mem_of_getElem? ha
    have hlt := (List.getElem?_eq_some_iff.mp ha).1
    refine wg_tup rfl hv3 k3.same (fun us hus => ?_)
    obtain ⟨u1, u2, rfl, b1, b2⟩ := dpAll_two hus
    refine wgs_cons (wg_nm 4 (wgs_cons (wg_nm 5 (wgs_nil ?_) sc_question_led.nd)) sc_question_led.nd)
    have sg : Same G G3 := ((s1.trans sb).trans s2).trans s3
    refine ws_setLcIf (own := [("number", 7), ("standing", 8)]) (xs := TT) (ei := encTS) (P := fun x e => e = encS x.2) (t := fun x => decide (x.1 = i)) 6 rfl sc_question_led.nd (blkOk_by (N := n_question_led) (sc := defScope s_question_led) (by decide +kernel)) (ei_list (ev_nm 2 rfl (h3.sm sg))) rfl hTl (tg2 7 8 rfl ?_ sc_question_led.nd) ?_ ?_ (Same.refl _) k3 (fun v es G4 H4 s4 k4 pr hl4 => ?_)
    · intro d hd
      obtain ⟨p, _, rfl⟩ := List.mem_map.mp hd
      exact ⟨_, _, rfl⟩
    · rintro i' x v σ2 G' D' acc' hx s4 ⟨e1, e2, w1, w2, e, a1, a2, rfl⟩ s0 H0 C cl fp
      cases e
      exact EvT.eq (et_cmp (ev_nm 7 rfl a1) (ev_nm 4 rfl (b1.sm s4))) (by show decide ((x.1 : Int) = (i : Int)) = decide (x.1 = i); exact decide_eq_decide.mpr Int.ofNat_inj)
    · rintro i' x v σ2 G' D' acc' hx ht s4 ⟨e1, e2, w1, w2, e, a1, a2, rfl⟩ s0 H0 C cl fp
      cases e
      exact Ev.sm (ev_nm 8 rfl a2) rfl
    · have ees : es = (pick i TT).map encS := by
        have h0 : Paired (fun (a : Sg) b => b = encS a) ((TT.filter fun x => decide (x.1 = i)).map (·.2)) es := by
          have : ∀ {as : List (Nat × Sg)} {bs : List PyData}, Paired (fun (x : Nat × Sg) e => e = encS x.2) as bs → Paired (fun (a : Sg) b => b = encS a) (as.map (·.2)) bs := fun h => by
            induction h with
            | nil => exact .nil
            | cons a t ih => exact .cons a ih
          exact this pr
        exact pd_map h0
      subst ees
      have dst : Dp K G4 v (.list ((pick i TT).map encS)) := hl4.dp
      have sg4 : Same G G4 := sg.trans s4
      have pok := pick_ok hT ha
      have ppot : potS (pick i TT) ≤ 1000000 := Nat.le_trans (pick_pot i TT) hp
      have plen : (pick i TT).length ≤ 1000000 := Nat.le_trans (len_le_pot (fun s : Sg => s.node) _) ppot
      refine ws_append 3 rfl (.refl _) (ev_tup (ea_cons (ev_ix (j := 0) (ev_nm 5 rfl (b2.sm s4)) ev_int rfl) (ea_cons (ev_call c1 hr hk (ea_cons (ev_nm 0 rfl (h1.sm sg4)) (ea1 (ev_nm 6 rfl dst))) ⟨n0, E0, D, pick i TT, g1, g2, g3, g4, plen, fun s hs => ⟨(pok s hs).share, (pok s hs).ws⟩, rfl, rfl⟩)
        (ea1 (ev_call c2 hr (Nat.le_refl _) (ea_cons (ev_nm 0 rfl (h1.sm sg4)) (ea_cons (ev_ix (j := 2) (ev_nm 5 rfl (b2.sm s4)) ev_int rfl) (ea1 (ev_nm 6 rfl dst)))) ⟨n0, E0, D, an.2.2, pick i TT, ⟨g1, g2, g3, g4⟩, hq.2 an hmem, pok, ppot, rfl, rfl⟩))))) ?_ (Same.refl _) k4 (fun v5 G5 H5 s5 k5 h5 => ws_nil ?_)
      · rw [dacc.length, List.length_map, List.length_take]
        have := hq.1
        omega
      · refine ⟨_, G5, ((s2.trans s3).trans s4).trans s5, k5, _, _, _, _, _, _, rfl, rfl, ?_⟩
        have e1 : (ledAs n0 qq 0 TT)[i]? = some (an.1, wsLed n0 (pick i TT), ledN n0 an.2.2 (pick i TT)) := by
          have := ledAs_get (W := n0) (a := 0) (T := TT) ha
          rw [Nat.zero_add] at this
          exact this
        rw [take_snoc e1, List.map_append]
        exact (dacc.sm ((s3.trans s4).trans s5)).snoc h5
  · subst eW es
    have e2 : (numbered 0 (qq.map encA)).length = (ledAs n0 qq 0 TT).length := by rw [numbered_length, List.length_map, ledAs_len]
    rw [e2, List.take_length] at dacc
    exact ws_retE (ev_tupO (W0 := W) T.ztuple (ev_rf 3 rfl) (Has.self _ _) dacc (P := fun _ => True)) (Same.refl _) k2 (fun v G4 H4 s4 k4 r => q v G4 H4 ((s1.trans s2).trans s4) k4.left r)
theorem c_node {n k1 : Nat} (A : At K mg "node_led" s_node_led ["worlds", "goal", "standings"]) (T : Txt K mg) (hk : 13 ≤ k1) (c1 : C8.Cal P w K mg base 13 "tells_of" (SpG (preTells K 12)) []) (c2 : ∀ m, n = m + 1 → CalD P w K mg base k1 "question_led" 3 (dmQuestion m)) : CalD P w K mg base (k1 + 1) "node_led" 3 (dmNode n) := by
  refine calD_mk A sc_node_led rfl fun f cdv A outer s H vs Q E hr W G ds d k hd hdom q => ?_
  obtain ⟨n0, E0, D, goal, S, ⟨g1, g2, g3, g4⟩, hg, hS, hp, rfl, rfl⟩ := hdom
  rw [encN_eq goal] at hd
  obtain ⟨v1, v2, v3, rfl, h1, h2, h3⟩ := dpAll_three hd
  have hSl : S.length ≤ 1000000 := Nat.le_trans (len_le_pot (fun s : Sg => s.node) S) hp
  refine ws_own 3 ea_nil (by decide) (Same.refl _) k (fun l us G1 H1 s1 k1 hd4 => ?_) sc_node_led.nd
  cases hd4
  refine ws_for (fun i σ W' G' => ∃ vs a b c d e f g, W' = W.sep (.cell l (.lst vs)) ∧ σ = [some v1, some v2, some v3, some (.ref l), a, b, c, d, e, f, g] ∧ DpAll K G' vs (((ledQs n0 goal.qs 0 S).take i).map encQ))
    (ei_enum T.enum (ev_nm 1 rfl (h2.sm s1))) (Same.refl _) k1 (fun G2 s2 => ⟨[], none, none, none, none, none, none, none, rfl, rfl, .nil⟩)
    (fun Gb sb i d σ1 W1 G2 G3 H3 v hi s2 ⟨acc, x1, x2, x3, x4, x5, x6, x7, eW, es, dacc⟩ s3 k3 hv3 => ?_) (fun σ1 W1 G2 H2 s2 k2 ⟨acc, x1, x2, x3, x4, x5, x6, x7, eW, es, dacc⟩ => ?_) PassesOwn.never rfl
  · subst eW es
    obtain ⟨qq, ha, rfl⟩ := numbered_map hi
    have hmem := List.mem_of_getElem? ha
    have hlt := (List.getElem?_eq_some_iff.mp ha).1
    refine wg_tup rfl hv3 k3.same (fun us hus => ?_)
    obtain ⟨u1, u2, rfl, b1, b2⟩ := dpAll_two hus
    refine wgs_cons (wg_nm 4 (wgs_cons (wg_nm 5 (wgs_nil ?_) sc_node_led.nd)) sc_node_led.nd)
    have sg : Same G G3 := ((s1.trans sb).trans s2).trans s3
    have htold : ((told i S).map encTS) = S.flatMap fun s => (tells (s.wait.getD i noMv) s.node s.ws).map (encT s.share) := by
      unfold told
      rw [List.map_flatMap]
      congr 1
      funext s
      rw [List.map_map]
      rfl
    have tlen : (told i S).length ≤ 1000000 := Nat.le_trans (len_le_pot (fun t : Nat × Sg => t.2.node) _) (Nat.le_trans (told_pot i S) hp)
    have flen : (S.flatMap fun s => (tells (s.wait.getD i noMv) s.node s.ws).map (encT s.share)).length ≤ 1000000 := by rw [← htold, List.length_map]; exact tlen
    refine ws_own 6 ea_nil (by decide) (Same.refl _) k3 (fun l2 us G4 H4 s4 k4 hd4 => ?_) sc_node_led.nd
    cases hd4
    refine ws_for (fun j σ W' G' => ∃ vs a b c d, W' = (W.sep (.cell l (.lst acc))).sep (.cell l2 (.lst vs)) ∧ σ = [some v1, some v2, some v3, some (.ref l), some u1, some u2, some (.ref l2), a, b, c, d] ∧ DpAll K G' vs ((S.take j).flatMap fun s => (tells (s.wait.getD i noMv) s.node s.ws).map (encT s.share)))
      (ei_list (ev_nm 2 rfl (h3.sm (sg.trans s4)))) (Same.refl _) k4 (fun G2 s2 => ⟨[], _, _, _, _, rfl, rfl, .nil⟩)
      (fun Gb2 sb2 j d2 σ2 W2 G5 G6 H6 v6 hi2 s5 ⟨acc2, y1, y2, y3, y4, eW, es, dacc2⟩ s6 k6 hv6 => ?_) (fun σ2 W2 G5 H5 s5 k5 ⟨acc2, y1, y2, y3, y4, eW, es, dacc2⟩ => ?_) PassesOwn.never rfl
    · subst eW es
      rw [List.getElem?_map] at hi2
      cases ez : S[j]? with
      | none => rw [ez] at hi2; cases hi2
      | some z =>
        rw [ez] at hi2
        cases hi2
        have hz := hS z (List.mem_of_getElem? ez)
        obtain ⟨m, hm, hw1, hw2⟩ := hz.wait
        obtain ⟨nz, hnz⟩ := hz.shp
        have hwl : i < z.wait.length := by rw [hw1]; exact hlt
        have hwg : z.wait[i]? = some (z.wait.getD i noMv) := by rw [List.getD_eq_getElem?_getD, List.getElem?_eq_getElem hwl]; rfl
        refine wg_tup rfl hv6 k6.same (fun vs2 hvs2 => ?_)
        obtain ⟨w1, w2, w3, w4, rfl, e1, e2, e3, e4⟩ := dpAll_four hvs2
        refine wgs_cons (wg_nm 7 (wgs_cons (wg_nm 8 (wgs_cons (wg_nm 9 (wgs_cons (wg_nm 10 (wgs_nil ?_) sc_node_led.nd)) sc_node_led.nd)) sc_node_led.nd)) sc_node_led.nd)
        have b16 : Dp K G6 u1 (.int i) := b1.sm (((s4.trans sb2).trans s5).trans s6)
        refine ws_extend (P := fun es => es = (tells (z.wait.getD i noMv) z.node z.ws).map (encT z.share)) 6 rfl (.refl _)
          (Ev.imp (ev_callG (R := Lt K ((tells (z.wait.getD i noMv) z.node z.ws).map (encT z.share))) c1 hr hk (ea_cons (ev_ix (j := i) (ev_nm 8 rfl e2) (ev_nm 4 rfl b16) (by rw [List.getElem?_map, hwg]; rfl)) (ea_cons (ev_nm 7 rfl e1) (ea_cons (ev_nm 9 rfl e3) (ea1 (ev_nm 10 rfl e4))))) fun G' vs s r => ?_) fun _ _ r => ⟨_, rfl, r⟩) (fun es e => ?_) (Same.refl _) k6 (fun us es G7 H7 s7 k7 pe du => ws_nil ?_)
        · obtain ⟨x1, x2, x3, x4, rfl, y1, y2, y3, y4⟩ := dpAll_four r
          refine ⟨z.wait.getD i noMv, z.node, qq, z.ws, z.share, nz, x1, x2, x3, x4, rfl, y1, y2, y3, y4, (hw2 i _ qq hwg ha).up hm, hnz, ?_, rfl⟩
          refine Nat.le_trans (tells_len _ _ _) (Nat.le_trans ?_ hp)
          exact mem_le_sum (List.mem_map_of_mem (f := fun s : Sg => pot s.node) (List.mem_of_getElem? ez))
        · subst e
          have := flat_take_le (fun s : Sg => (tells (s.wait.getD i noMv) s.node s.ws).map (encT s.share)) S (j + 1)
          rw [flatMap_take _ ez, List.length_append] at this
          rw [dacc2.length]
          omega
        · subst pe
          refine ⟨_, G7, (s5.trans s6).trans s7, k7, _, _, _, _, _, rfl, rfl, ?_⟩
          rw [flatMap_take _ ez]
          exact (dacc2.sm (s6.trans s7)).append du
    · subst eW es
      rw [List.length_map, List.take_length, ← htold] at dacc2
      have gl2 : G5 l2 = none := k5.out l2 (.inr rfl)
      have k6 := k5.give
      have s6 : Same G5 (upd G5 l2 (.lst acc2)) := same_new gl2
      have dt : Dp K (upd G5 l2 (.lst acc2)) (.ref l2) (.list ((told i S).map encTS)) := .lst (SqL.of upd_same) (dacc2.sm s6)
      have sg6 : Same G (upd G5 l2 (.lst acc2)) := ((sg.trans s4).trans s5).trans s6
      have b26 := b2.sm ((s4.trans s5).trans s6)
      cases n with
      | zero => rw [show goal.qs = [] from hg] at ha; cases ha
      | succ n =>
        refine ws_append 3 rfl (.refl _) (ev_call (c2 n rfl) hr (Nat.le_refl _) (ea_cons (ev_nm 0 rfl (h1.sm sg6)) (ea_cons (ev_nm 5 rfl b26) (ea1 (ev_nm 6 rfl dt)))) ⟨n0, E0, D, qq, told i S, ⟨g1, g2, g3, g4⟩, ⟨(hg.2 qq hmem).2.1, (hg.2 qq hmem).2.2⟩, told_ok hS ha, Nat.le_trans (told_pot i S) hp, rfl, rfl⟩) ?_ (Same.refl _) k6 (fun v7 G7 H7 s7 k7 h7 => ws_nil ?_)
        · rw [dacc.length, List.length_map, List.length_take]
          have := shp_len hg
          omega
        · refine ⟨_, G7, (((s2.trans s3).trans s4).trans s5).trans (s6.trans s7), k7, _, _, _, _, _, _, _, _, rfl, rfl, ?_⟩
          have e1 := ledQs_get (W := n0) (a := 0) (S := S) ha
          rw [Nat.zero_add] at e1
          rw [take_snoc e1, List.map_append]
          exact (dacc.sm ((((s3.trans s4).trans s5).trans s6).trans s7)).snoc h7
  · subst eW es
    have e2 : (numbered 0 (goal.qs.map encQ)).length = (ledQs n0 goal.qs 0 S).length := by rw [numbered_length, List.length_map, ledQs_len]
    rw [e2, List.take_length] at dacc
    refine ws_retE (ev_tupO (W0 := W) T.ztuple (ev_rf 3 rfl) (Has.self _ _) dacc (P := fun _ => True)) (Same.refl _) k2 (fun v G4 H4 s4 k4 r => q v G4 H4 ((s1.trans s2).trans s4) k4.left ?_)
    rw [encN_eq, ledN_qs]
    exact r
end
end K12
/-! D8: led_by, led, is_between. -/
namespace K12
open PySem PySem.Spec PyProof.Rows L2
/-- what a go-between and two trees must be that it can be led -/
structure LedOk (n : Nat) (nd nd' : Nd) (b : Btw) : Prop where
  n1 : 1 ≤ n
  dom : ∃ E D, LedDom n E D ∧ (∀ p ∈ b, Rg E p.1) ∧ Wts D n nd
  btw : BtwOk nd nd' b
  shp : ∃ l, Shp 12 l nd
  shp' : ∃ l, l ≤ 8 ∧ Shp 12 l nd'
  pot : b.length * pot nd ≤ 1000000
  led : (∃ A m, A ≤ 12 ∧ m ≤ 8 ∧ Shp A m (ledBy n nd nd' b)) ∧ deep (ledBy n nd nd' b) ≤ 12 ∧ cnt (ledBy n nd nd' b) ≤ 3000
theorem potS_start (n : Nat) (nd : Nd) : ∀ b : Btw, potS (startS n nd b) = b.length * pot nd
  | [] => by rw [List.length_nil, Nat.zero_mul]; rfl
  | p :: r => by
    have := potS_start n nd r
    unfold potS startS at this ⊢
    rw [List.map_cons, List.map_cons, List.sum_cons, this, List.length_cons, Nat.add_mul, Nat.one_mul, Nat.add_comm]
theorem start_ok {n E D : Nat} {nd nd' : Nd} {b : Btw} (h1 : ∀ p ∈ b, Rg E p.1) (h2 : Wts D n nd) (h3 : ∃ l, Shp 12 l nd) (h4 : ∀ p ∈ b, WaitOk 12 nd nd' p.2) : ∀ s ∈ startS n nd b, SgOk E D n nd' s := by
  intro s hs
  obtain ⟨p, hp, rfl⟩ := List.mem_map.mp hs
  refine ⟨h1 p hp, ⟨List.length_replicate, fun x hx => ?_⟩, h2, h3, 12, Nat.le_refl _, h4 p hp⟩
  rw [List.eq_of_mem_replicate hx]
  exact rg_one
section
variable {P : Program} {w : World} {K : PySem.W.Frag} {mg : Str → Option Value} {base : Heap} {C R : Addr}
theorem ws_exprE {X : Cx} {W : Wd} {e : Expr} {σ : L2.St} {G G1 H : Hp} {Z : Rl} {rest : List Stmt} {D : Ends} {pos : Pos} (he : Ev X W e σ G Z) (s : Same G G1) (k1 : W.ok G1 H) (q : ∀ v G' H', Same G1 G' → W.ok G' H' → Z G' v → wSs X rest D σ H')
    (hs : swapsWith e none pos.line X.env = pure false := by rfl) : wSs X (.Expr e pos :: rest) D σ H := ws_expr (he G1 H _ s k1 q) hs
def outLedBy (K : PySem.W.Frag) (R : Addr) : Nat → Nd → Nd → PyData → Rl → Prop := fun n nd nd' d Z => ∃ b, LedOk n nd nd' b ∧ d = encB b ∧ Z = HouB K R n (ledBy n nd nd' b)
theorem c_led_by (A : At K mg "led_by" s_led_by ["house", "other", "between"]) (hc : HC K mg C R) (T : Txt K mg) (c1 : ∀ n, n ≤ 8 → CalD P w K mg base 50 "node_led" 3 (dmNode n)) (c2 : C8.Cal P w K mg base 31 "made" (SpG (preMade K R)) []) :
    C8.Cal P w K mg base 51 "led_by" (SpG (preHHT K C R (outLedBy K R))) [] := by
  refine calG_mk A sc_led_by (fun G vs Z ⟨_, _, _, _, _, _, _, h, _⟩ => by rw [h]; rfl) fun f cdv A outer s H vs Q E hr W G Z k ⟨a, b, t, n, nd, nd', d, e, h1, h2, h3, ⟨bb, ⟨g0, ⟨E0, D, ⟨g1, g2, g3, g4⟩, g5, g6⟩, gb, gs, ⟨l', hl', gs'⟩, gp, gl1, gl2, gl3⟩, ed, eZ⟩⟩ q => ?_
  subst e eZ ed
  have oa : ∀ G', Same G G' → Hou K C R n nd G' a := fun G' s => hou_mono _ _ _ s h1
  have ob : ∀ G', Same G G' → Hou K C R n nd' G' b := fun G' s => hou_mono _ _ _ s h2
  rw [encB_eq] at h3
  refine ws_setE 3 (Ev.eq (ev_rep (ev_tup (ea1 (ev_gc T.one))) (ev_worlds hc (ev_R 0 rfl oa)) g0 (by omega)) (encWs_ones n)) (Same.refl _) k (fun v1 G1 H1 s1 k1 d1 => ?_) sc_led_by.nd
  refine ws_setLc (own := [("share", 5), ("plan", 6)]) (xs := bb) (ei := encBi) (P := fun p e => e = encS ⟨p.1, p.2, nd, ones n⟩) 4 rfl sc_led_by.nd (blkOk_by (N := n_led_by) (sc := defScope s_led_by) (by decide +kernel)) (ei_tup (ev_nm 2 rfl (h3.sm s1))) rfl (by have := gb.2.1; omega) (tg2 5 6 rfl ?_ sc_led_by.nd) ?_ (Same.refl _) k1 (fun v2 es G2 H2 s2 k2 pr hl2 => ?_)
  · intro d hd
    obtain ⟨p, _, rfl⟩ := List.mem_map.mp hd
    exact ⟨_, _, rfl⟩
  · rintro i x v σ2 G' D' acc hx s3 ⟨e1, e2, w1, w2, e, a1, a2, rfl⟩ s0 H0 C cl fp
    cases e
    exact Ev.sm (ev_tup (ea_cons (ev_nm 5 rfl a1) (ea_cons (ev_nm 6 rfl a2) (ea_cons (ev_tree hc (ev_R 0 rfl fun G' s => oa G' ((s1.trans s3).trans s))) (ea1 (ev_nm 3 rfl (d1.sm s3))))))) rfl
  · have ees : es = (startS n nd bb).map encS := by
      have h0 : es = bb.map (fun p : Rat × List Mv => encS ⟨p.1, p.2, nd, ones n⟩) := pd_map (f := fun p : Rat × List Mv => encS ⟨p.1, p.2, nd, ones n⟩) pr
      rw [h0]
      unfold startS
      rw [List.map_map]
      rfl
    subst ees
    have sg : Same G G2 := s1.trans s2
    refine ws_retE (ev_callG c2 hr (by decide) (ea_cons (ev_worlds hc (ev_R 0 rfl fun G' s => oa G' (sg.trans s))) (ea1 (ev_call (c1 l' hl') hr (by decide) (ea_cons (ev_worlds hc (ev_R 0 rfl fun G' s => oa G' (sg.trans s))) (ea_cons (ev_tree hc (ev_R 1 rfl fun G' s => ob G' (sg.trans s))) (ea1 (ev_nm 4 rfl hl2.dp))))
      ⟨n, E0, D, nd', startS n nd bb, ⟨g1, g2, g3, g4⟩, gs', start_ok g5 g6 gs gb.2.2.2.2.2, by rw [potS_start]; exact gp, rfl, rfl⟩))) fun G' vs s r => ?_) (Same.refl _) k2 (fun v G4 H4 s4 k4 r => q v G4 H4 (sg.trans s4) k4 r)
    obtain ⟨x, y, rfl, r1, r2⟩ := dpAll_two r
    rw [r1.int_eq]
    exact ⟨y, n, _, rfl, r2, gl1, gl2, gl3, rfl⟩
theorem c_led (A : At K mg "led" s_led ["house", "other", "between"]) (hc : HC K mg C R) (T : Txt K mg) (c1 : C8.Cal P w K mg base 1 "check_alike" (SpG (preTwo K C R (outNone K))) []) (c2 : C8.Cal P w K mg base 43 "check_between" (SpG (preHHT K C R (outBtw K (Is K .none)))) [])
    (c3 : C8.Cal P w K mg base 51 "led_by" (SpG (preHHT K C R (outLedBy K R))) []) : C8.Cal P w K mg base 52 "led" (SpG (preHHT K C R (outLedBy K R))) [] := by
  refine calG_mk A sc_led (fun G vs Z ⟨_, _, _, _, _, _, _, h, _⟩ => by rw [h]; rfl) fun f cdv A outer s H vs Q E hr W G Z k ⟨a, b, t, n, nd, nd', d, e, h1, h2, h3, ⟨bb, g, ed, eZ⟩⟩ q => ?_
  subst e eZ ed
  have oa : ∀ G', Same G G' → Hou K C R n nd G' a := fun G' s => hou_mono _ _ _ s h1
  have ob : ∀ G', Same G G' → Hou K C R n nd' G' b := fun G' s => hou_mono _ _ _ s h2
  obtain ⟨l, hl⟩ := g.shp
  obtain ⟨l', hl8, hl'⟩ := g.shp'
  refine ws_exprE (ev_callG (R := Is K .none) c1 hr (by decide) (hou_two K (ev_R 0 rfl oa) hou_mono (ev_R 1 rfl ob)) (fun G' vs s ⟨x, y, e, r1, r2⟩ => ⟨x, y, n, nd, nd', e, r1, r2, rfl⟩)) (Same.refl _) k fun v1 G1 H1 s1 k1 r1 => ?_
  refine ws_exprE (ev_callG (R := Is K .none) c2 hr (by decide) (hou_three (ev_R 0 rfl fun G' s => oa G' (s1.trans s)) hou_mono (ev_R 1 rfl fun G' s => ob G' (s1.trans s)) hou_mono (ev_nm 2 rfl (h3.sm s1))) (fun G' vs s ⟨y1, y2, y3, e, r1, r2, r3⟩ => ⟨y1, y2, y3, n, nd, nd', _, e, r1, r2, r3, l, l', bb, hl, hl', g.btw, rfl, rfl⟩)) (Same.refl _) k1 fun v2 G2 H2 s2 k2 r2 => ?_
  have sg := s1.trans s2
  exact ws_retE (ev_callG c3 hr (by decide) (hou_three (ev_R 0 rfl fun G' s => oa G' (sg.trans s)) hou_mono (ev_R 1 rfl fun G' s => ob G' (sg.trans s)) hou_mono (ev_nm 2 rfl (h3.sm sg))) fun G' vs s ⟨y1, y2, y3, e, r1, r2, r3⟩ => ⟨y1, y2, y3, n, nd, nd', _, e, r1, r2, r3, bb, g, rfl, rfl⟩) (Same.refl _) k2 (fun v G4 H4 s4 k4 r => q v G4 H4 (sg.trans s4) k4 r)
def preIsB (K : PySem.W.Frag) (C R : Addr) : Hp → List V → Rl → Prop := fun G vs Z => ∃ a b t n nd nd' bb B, vs = [a, b, t] ∧ Hou K C R n nd G a ∧ (B = C ∨ B = R) ∧ HouB K B n nd' G b ∧ Dp K G t (encB bb) ∧ LedOk n nd nd' bb ∧ SeqAt.shaped (encN (ledBy n nd nd' bb)) = true ∧ SeqAt.shaped (encN nd') = true ∧
  PyData.eqv (encN (ledBy n nd nd' bb)) (encN nd') = PyData.eqv (encN nd') (encN (ledBy n nd nd' bb)) ∧ Z = Is K (.bool (PyData.eqv (encN (ledBy n nd nd' bb)) (encN nd')))
theorem c_is_between (A : At K mg "is_between" s_is_between ["house", "other", "thing"]) (hc : HC K mg C R) (T : Txt K mg) (c1 : C8.Cal P w K mg base 1 "check_alike" (SpG (preTwo K C R (outNone K))) []) (c2 : C8.Cal P w K mg base 42 "is_between_of" (SpG (preHHT K C R (outBtw K (Is K (.bool true))))) [])
    (c3 : C8.Cal P w K mg base 51 "led_by" (SpG (preHHT K C R (outLedBy K R))) []) : C8.Cal P w K mg base 52 "is_between" (SpG (preIsB K C R)) [] := by
  refine calG_mk A sc_is_between (fun G vs Z ⟨_, _, _, _, _, _, _, _, h, _⟩ => by rw [h]; rfl) fun f cdv A outer s H vs Q E hr W G Z k ⟨a, b, t, n, nd, nd', bb, B, e, h1, hB, h2, h3, g, z1, z2, z3, eZ⟩ q => ?_
  subst e eZ
  obtain ⟨fe, fde, hfe, hie, Fe, be⟩ := hc.eq
  have oa : ∀ G', Same G G' → Hou K C R n nd G' a := fun G' s => hou_mono _ _ _ s h1
  have ob' : ∀ G', Same G G' → HouB K B n nd' G' b := fun G' s => houB_mono _ _ _ s h2
  have ob : ∀ G', Same G G' → Hou K C R n nd' G' b := fun G' s => ⟨B, hB, ob' G' s⟩
  obtain ⟨l, hl⟩ := g.shp
  obtain ⟨l', hl8, hl'⟩ := g.shp'
  refine ws_exprE (ev_callG (R := Is K .none) c1 hr (by decide) (hou_two K (ev_R 0 rfl oa) hou_mono (ev_R 1 rfl ob)) (fun G' vs s ⟨x, y, e, r1, r2⟩ => ⟨x, y, n, nd, nd', e, r1, r2, rfl⟩)) (Same.refl _) k fun v1 G1 H1 s1 k1 r1 => ?_
  refine ws_retE (ev_andT (ev_callG c2 hr (by decide) (hou_three (ev_R 0 rfl fun G' s => oa G' (s1.trans s)) hou_mono (ev_R 1 rfl fun G' s => ob G' (s1.trans s)) hou_mono (ev_nm 2 rfl (h3.sm s1))) (fun G' vs s ⟨y1, y2, y3, e, r1, r2, r3⟩ => ⟨y1, y2, y3, n, nd, nd', _, e, r1, r2, r3, l, l', bb, hl, hl', g.btw, rfl, rfl⟩))
    (ev_and1 (ev_eqH hc (f_eq hc T Fe) hfe hie be hr (by decide) (.inr rfl) hB (ev_callG c3 hr (by decide) (hou_three (ev_R 0 rfl fun G' s => oa G' (s1.trans s)) hou_mono (ev_R 1 rfl fun G' s => ob G' (s1.trans s)) hou_mono (ev_nm 2 rfl (h3.sm s1))) fun G' vs s ⟨y1, y2, y3, e, r1, r2, r3⟩ => ⟨y1, y2, y3, n, nd, nd', _, e, r1, r2, r3, bb, g, rfl, rfl⟩)
      (ev_R 1 rfl fun G' s => ob' G' (s1.trans s)) z1 z2 z3))) (Same.refl _) k1 (fun v G4 H4 s4 k4 r => q v G4 H4 (s1.trans s4) k4 r)
end
end K12
/-! K10: dicts with nested keys. -/
namespace K12
open PySem PySem.Spec PyProof.Rows L2
abbrev KX := List (NestedKey × Addr × Addr)
def rawX (xs : KX) : List (NestedKey × Addr × Value) := xs.map fun x => (x.1, x.2.1, .ref x.2.2)
def DxRaw (P : Program) (w : World) (a : Addr) (xs : KX) (h : Heap) : Prop := (a == sysModules) = false ∧ xs.length ≤ sizeLine ∧ ∃ o es ep, h.get? a = some o ∧ o.ExactDict ∧ o.data = .dict es ep ∧ es.toList = (rawX xs).map (entryOfKey (nestedKind P w)) ∧ ((rawX xs).map (·.1)).Nodup
/-- a dict whose keys are known tuples: its entries -/
def Dx (P : Program) (w : World) (a : Addr) (xs : KX) : HO := .ext (DxRaw P w a xs)
theorem dx_ok {P : Program} {w : World} {a : Addr} {xs : KX} {h : Heap} {H : Hp} (x : DxRaw P w a xs h) : ObjOk P w H h a (Dx P w a xs) :=
  ⟨x, (let ⟨_, _, o, _, _, e, _⟩ := x; ⟨o, e⟩), fun h1 h2 ⟨a1, a2, o, es, ep, e, r⟩ k => ⟨a1, a2, o, es, ep, k o e, r⟩⟩
section
variable {X : Cx} {pins : List (Addr × Obj)} {σ : L2.St} {H : Hp} {s : Shared}
mutual
theorem nested_of (I : Inv X pins σ H s) : ∀ (k : NestedKey) (v : V) (u : Value), Dp X.K H v k.data → RelV v u → NestedIs s.heap k u
  | .none, v, u, h, r => by
    rw [NestedKey.data] at h
    rw [h.non_eq] at r
    cases (show u = Value.none from r)
    exact .none
  | .num i, v, u, h, r => by
    rw [NestedKey.data] at h
    rw [h.int_eq] at r
    obtain ⟨t, rfl⟩ := r
    exact .int i t
  | .text x, v, u, h, r => by
    rw [NestedKey.data] at h
    rw [h.str_eq] at r
    obtain ⟨t, rfl⟩ := r
    exact .text x t
  | .tup ks, v, u, h, r => by
    rw [NestedKey.data] at h
    obtain ⟨a, xs, rfl, t, l⟩ := h.tup_inv
    cases (show u = Value.ref a from r)
    obtain ⟨its, rv, ⟨o, ho, hc, n, hd⟩, hz⟩ := I.tuple t
    exact .tup ho hc hd (by
      have := nestedAll_of I ks xs its l rv
      simpa using this)
theorem nestedAll_of (I : Inv X pins σ H s) : ∀ (ks : List NestedKey) (vs : List V) (us : List Value), DpAll X.K H vs (NestedKey.datas ks) → Vals vs us → NestedAll s.heap ks us
  | [], vs, us, h, r => by
    rw [NestedKey.datas] at h
    cases h
    cases r
    exact .nil
  | k :: ks, vs, us, h, r => by
    rw [NestedKey.datas] at h
    cases h with
    | cons a t =>
      cases r with
      | cons b c => exact .cons (nested_of I k _ _ a b) (nestedAll_of I ks _ _ t c)
end
/-- the keys are known -/
def KeysAt (K : PySem.W.Frag) (H : Hp) (xs : KX) : Prop := ∀ x ∈ xs, Dp K H (.ref x.2.1) x.1.data ∧ x.1.depth ≤ 8
theorem dx_raw {P : Program} {w : World} {H : Hp} {h : Heap} {d : Addr} {xs : KX} (x : ObjOk P w H h d (Dx P w d xs)) : DxRaw P w d xs h := x.1
theorem dx_dict (I : Inv X pins σ H s) {d : Addr} {xs : KX} (x : DxRaw X.prog X.w d xs s.heap) (hk : KeysAt X.K H xs) : s.heap.DictOfH (nestedKind X.prog X.w) d (rawX xs) := by
  obtain ⟨_, _, o, es, ep, e, c, hd, he, hn⟩ := x
  refine ⟨o, es, ep, e, c, hd, he, fun y hy => ?_, hn⟩
  obtain ⟨z, hz, rfl⟩ := List.mem_map.mp hy
  exact ⟨nested_of I z.1 (.ref z.2.1) (.ref z.2.1) (hk z hz).1 rfl, (hk z hz).2⟩
def valX (xs : KX) (k : NestedKey) : Option Addr := (xs.find? fun x => decide (x.1 = k)).map (·.2.2)
def putX (xs : KX) (k : NestedKey) (b z : Addr) : KX := if (valX xs k).isSome then xs.map (fun x => if x.1 = k then (x.1, x.2.1, z) else x) else xs ++ [(k, b, z)]
theorem valX_raw (xs : KX) (k : NestedKey) : (atKey (rawX xs) k).map (·.2) = (valX xs k).map Value.ref := by
  unfold atKey valX rawX
  induction xs with
  | nil => rfl
  | cons x r ih =>
    rw [List.map_cons, List.find?_cons, List.find?_cons]
    by_cases h : x.1 = k
    · simp [h]
    · simp only [h, decide_false]
      exact ih
theorem putX_raw (xs : KX) (k : NestedKey) (b z : Addr) : storedH (rawX xs) k b (.ref z) = rawX (putX xs k b z) := by
  have e := valX_raw xs k
  unfold storedH putX
  have e2 : (atKey (rawX xs) k).isSome = (valX xs k).isSome := by
    have := congrArg Option.isSome e
    rw [Option.isSome_map, Option.isSome_map] at this
    exact this
  rw [e2]
  split
  · unfold rawX
    rw [List.map_map, List.map_map]
    apply List.map_congr_left
    intro x _
    show putAt k _ (x.1, x.2.1, Value.ref x.2.2) = _
    unfold putAt
    by_cases h : x.1 = k
    · simp [h]
    · simp [h]
  · unfold rawX
    rw [List.map_append]
    rfl
theorem putX_len (xs : KX) (k : NestedKey) (b z : Addr) : (putX xs k b z).length ≤ xs.length + 1 := by
  unfold putX
  split
  · rw [List.length_map]; omega
  · rw [List.length_append]; exact Nat.le_refl _
end
section
variable {X : Cx} {o a b : Expr} {to ti tv : TE} {t : TA} {apos cpos pos pos' : Pos}
/-- d.get(k, x) -/
def tGetX (X : Cx) (to : TE) (t : TA) : TE := fun σ H Q => to σ H fun x H1 => ∃ d xs, x = .ref d ∧ H1 d = some (Dx X.prog X.w d xs) ∧ t σ H1 fun vs H2 => ∃ b k y, vs = [.ref b, y] ∧ H2 d = some (Dx X.prog X.w d xs) ∧ KeysAt X.K H2 xs ∧ Dp X.K H2 (.ref b) k.data ∧ k.depth ≤ 8 ∧ Q (((valX xs k).map V.ref).getD y) H2
theorem pe_getX (hu : X.A.units + 64 < cLine) (ho : PE X o to) (ha : PA X [a, b] t) (hbase : attributeBase o "get" X.env (eval o X.env) = eval o X.env := by rfl)
    (hfew : ((backTo cpos (starEach [a, b] X.env)).all (fun x => !x.1) && (backToKw cpos (keywordEach [] X.env)).all (fun x => x.1.isSome) && decide ([a, b].length + ([] : List Keyword).length + (if ([] : List Keyword).isEmpty then 0 else 1) < 30)) = true := by rfl)
    (hline : (apos.endLine == cpos.line) = true := by rfl) (hs : starEach [a, b] X.env = (false, eval a X.env) :: starEach [b] X.env := by rfl) (hplain : (backTo cpos (starEach [b] X.env)).any (·.1) = false := by rfl) :
    PE X (.Call (.Attribute o "get" apos) [a, b] [] cpos) (tGetX X to t) := by
  refine ⟨fun pins s σ H Q I h => ?_⟩
  refine wpAny_Call_method_late hbase hfew hline rfl (thn (ho.run pins s σ H _ I h) fun v s1 ⟨x, H1, I1, r1, d, xs, ex, hd, q1⟩ => ?_)
  subst ex
  obtain rfl : v = Value.ref d := r1
  obtain ⟨_, _, od, es, ep, hod, hx, _⟩ := dx_raw (I1.hok d _ hd)
  have ty : s1.TypeIs (.ref d) "dict" := ⟨od, hod, hx.1⟩
  refine ⟨"dict", "dict.get", F.plainAttrs_dict, F.slot_dict_get, F.type_dict_get, ty, fun a e => by cases e; exact ⟨od, hod, hx.2.1⟩, ?_⟩
  have hA := ha.run cpos pins s1 σ H1 _ I1 q1
  rw [hs] at hA ⊢
  refine Calls.callWith_builtin (by show (false || (backTo cpos (starEach [b] X.env)).any (·.1)) = false; rw [hplain] <;> rfl) (Calls.evalArgs_plain ?_)
  refine thn hA fun us s2 ⟨vs, H2, I2, r2, bb, k, y, ev, hd2, hk, hkey, hdep, q2⟩ => ?_
  subst ev
  obtain ⟨u1, u2, rfl, e1, e2⟩ := Vals.two r2
  cases (show u1 = Value.ref bb from e1)
  have raw := dx_raw (I2.hok d _ hd2)
  have dd := dx_dict I2 raw hk
  refine call_meetsIn F.slot_dict_get dd.typeIs F.entry_dict_get (F.args_dict_get_3 _ _ _) (meetsH_dict_get_default (nestedKind X.prog X.w) d bb raw.1 u2) ⟨?_, k, rawX xs, ⟨nested_of I2 k _ _ hkey rfl, hdep⟩, dd, ?_⟩
  · show X.A.in1.units + 8 < cLine
    have e : X.A.in1.units ≤ X.A.units + 1 := by
      simp only [Around.units, Around.in1] <;> omega
    omega
  · refine ⟨_, H2, I2.tok _, ?_, q2⟩
    rw [valX_raw]
    cases valX xs k with
    | none => exact e2
    | some z => exact rfl
/-- d[k] = v -/
def sPutX (X : Cx) (to ti tv : TE) : TS := fun D σ H => tv σ H fun v H1 => to σ H1 fun x H2 => ti σ H2 fun y H3 => ∃ d xs b k z, x = .ref d ∧ H3 d = some (Dx X.prog X.w d xs) ∧ KeysAt X.K H3 xs ∧ y = .ref b ∧ Dp X.K H3 (.ref b) k.data ∧ k.depth ≤ 8 ∧ v = .ref z ∧ xs.length < sizeLine ∧ D.nx σ (upd H3 d (Dx X.prog X.w d (putX xs k b z)))
theorem ps_putX (hu : X.A.units + 64 < cLine) (ho : PE X o to) (hi : PE X a ti) (hv : PE X b tv) (hs : swapsWith b (some (.Subscript o a pos')) pos.line X.env = pure false := by rfl) : PS X (.Assign [.Subscript o a pos'] b pos) (sPutX X to ti tv) := by
  refine ⟨fun pins s σ H D I h => ?_⟩
  refine wpAny_Assign_Subscript (thn (hv.run pins s σ H _ I h) fun r s1 ⟨v, H1, I1, rv, q1⟩ => thn (ho.run pins s1 σ H1 _ I1 q1) fun u s2 ⟨x, H2, I2, rx, q2⟩ => thn (hi.run pins s2 σ H2 _ I2 q2) fun iv s3 ⟨y, H3, I3, ry, d, xs, bb, k, z, ex, hd, hk, ey, hkey, hdep, ev, hl, q3⟩ => ?_) hs
  subst ex ey ev
  obtain rfl : u = Value.ref d := rx
  obtain rfl : iv = Value.ref bb := ry
  obtain rfl : r = Value.ref z := rv
  have raw := dx_raw (I3.hok d _ hd)
  have dd := dx_dict I3 raw hk
  refine wpAny_setItem_heap (knd := nestedKind X.prog X.w) (k := k) (hsz := by unfold rawX; rw [List.length_map]; omega) ?_ ⟨nested_of I3 k _ _ hkey rfl, hdep⟩ dd fun h' dd' hs' => ⟨σ, _, ?_, q3⟩
  · show X.A.in1.units + 8 < cLine
    have e : X.A.in1.units ≤ X.A.units + 1 := by
      simp only [Around.units, Around.in1] <;> omega
    omega
  · obtain ⟨od, es, ep, e1, e2, e3, e4, _, e5⟩ := dd'
    rw [putX_raw] at e4 e5
    refine d_write I3 (by rw [hd]; exact True.intro) hs' ⟨od, e1⟩ (dx_ok ⟨raw.1, ?_, od, es, ep, e1, e2, e3, e4, e5⟩)
    have := putX_len xs k bb z
    omega
/-- {} -/
def tNewX (X : Cx) : TE := fun _ H Q => ∀ p, H p = none → Q (.ref p) (upd H p (Dx X.prog X.w p []))
theorem pe_newX : PE X (.Dict [] [] pos) (tNewX X) := ⟨fun pins s σ H Q I h =>
  wpAny_Dict_empty ⟨.ref s.heap.objs.size, _, I.laid (a := s.heap.objs.size) (o := Dx X.prog X.w s.heap.objs.size []) (t' := s.toks) (fun _ _ q => Heap.get?_push_of_some _ q) (Nat.le_refl _)
    (dx_ok ⟨beq_eq_false_iff_ne.mpr (Ne.symm (Nat.ne_of_lt I.big)), Nat.zero_le _, _, #[], 0, Heap.get?_push_size _ rfl, ⟨rfl, rfl, rfl⟩, rfl, rfl, List.nodup_nil⟩), rfl, h _ (I.hok.fresh (Nat.le_refl _))⟩⟩
/-- the items, in new pairs -/
def Itx (P : Program) (w : World) (d : Addr) (od : Obj) (xs : KX) : It :=
  ⟨fun i H => H d = some (.frz od (Dx P w d xs)) ∧ i < xs.length, fun i H v H' => ∃ T x, xs[i]? = some x ∧ v = .ref T ∧ H T = none ∧ H' = upd H T (.tup [.ref x.2.1, .ref x.2.2]), fun i H => H d = some (.frz od (Dx P w d xs)) ∧ xs.length ≤ i⟩
theorem frzX {pins : List (Addr × Obj)} {σ : L2.St} {H : Hp} {s : Shared} {d : Addr} {od : Obj} {xs : KX} (I : Inv X pins σ H s) (h : H d = some (.frz od (Dx X.prog X.w d xs))) : ∃ es ep, od.data = .dict es ep ∧ DT.Raw s.heap d es ep ∧ (d == sysModules) = false ∧ es.size = xs.length ∧
    ∀ (i : Nat) x, xs[i]? = some x → ∃ en : DictEntry, es[i]? = some en ∧ en.key = .ref x.2.1 ∧ en.val = .ref x.2.2 := by
  obtain ⟨hd, z⟩ := I.hok d _ h
  obtain ⟨h1, h2, o, es, ep, e, c, hdt, he, hn⟩ := dx_raw z
  have e0 : o = od := by rw [hd] at e; cases e; rfl
  subst e0
  refine ⟨es, ep, hdt, ⟨o, e, c, hdt⟩, h1, ?_, fun i x hx => ?_⟩
  · have := congrArg List.length he
    unfold rawX at this
    rw [List.length_map, List.length_map, Array.length_toList] at this
    exact this
  · refine ⟨entryOfKey (nestedKind X.prog X.w) (x.1, x.2.1, .ref x.2.2), ?_, rfl, rfl⟩
    · rw [← Array.getElem?_toList, he]
      unfold rawX
      rw [List.getElem?_map, List.getElem?_map, hx]
      rfl
theorem turn_itx {P : Program} {w : World} {K : PySem.W.Frag} {d : Addr} {od : Obj} {xs : KX} {es : Array DictEntry} {ep : Nat} {elts : List Expr} {kk : Nat} {tpos : Pos} (it : Addr) (hod : od.data = .dict es ep) :
    Turn P w K (.Tuple elts kk tpos) (Itx P w d od xs) [it] it (fun i h => ∃ ok ov, IsItemIter h it d i es.size ep ok ov) where
  mem := by simp
  obj := fun i h st b hb => by
    have e : b = it := by simpa using hb
    subst e
    obtain ⟨ok, ov, e⟩ := st
    exact ⟨_, e, fun v z => nomatch z⟩
  keep := fun i h h' st k => let ⟨ok, ov, e⟩ := st; ⟨ok, ov, k it (by simp) _ e⟩
  item := by
    intro X hP hw hK hc i pins s σ H E I hf st hg
    subst hP hw hK
    obtain ⟨hd, hi⟩ := hg
    obtain ⟨es', ep', hdt, raw, hs, hsz, hent⟩ := frzX I hd
    obtain ⟨rfl, rfl⟩ := dict_ep hod hdt
    obtain ⟨x, hx⟩ : ∃ p, xs[i]? = some p := ⟨xs[i], List.getElem?_eq_getElem hi⟩
    obtain ⟨en, hen, hkey, hval⟩ := hent i x hx
    obtain ⟨hlt2, hen2⟩ := Array.getElem?_eq_some_iff.mp hen
    obtain ⟨ok, ov, he⟩ := st
    have hlt : it < s.heap.objs.size := Heap.lt_size he
    refine DT.nextI he raw hlt2 fun h' ho hT hz hk => ?_
    rw [hen2, hkey, hval] at ho hT
    refine ⟨_, rfl, wpAny_letOwnedTupleGo_items (s := { s with heap := h' }) ho fun h'' he' sb => ?_⟩
    have hT2 : h''.get? s.heap.objs.size = some { cls := .type "tuple", data := .seq #[.ref x.2.1, .ref x.2.2] } := (sb.2 _ (Nat.ne_of_gt hlt)).trans hT
    have new : ObjOk X.prog X.w (upd H s.heap.objs.size (.tup [.ref x.2.1, .ref x.2.2])) h'' s.heap.objs.size (.tup [.ref x.2.1, .ref x.2.2]) :=
      ⟨by show 2 ≤ sizeLine; decide, [.ref x.2.1, .ref x.2.2], .cons rfl (.cons rfl .nil), ⟨_, hT2, rfl, _, rfl⟩⟩
    have I1 : Inv X pins σ (upd H s.heap.objs.size (.tup [.ref x.2.1, .ref x.2.2])) { s with heap := h'' } :=
      I.turnedNew (t' := s.toks) (ch := [it]) (fun b ob hb e => (sb.2 b (by simpa using hb)).trans (hk b ob (by simpa using hb) e)) hf (Nat.le_refl _) new
    refine ⟨.ref s.heap.objs.size, _, I1, rfl, ⟨_, x, hx, rfl, I.hok.fresh (Nat.le_refl _), rfl⟩, ⟨_, _, he'⟩, fun b hb => ?_⟩
    have e : b = it := by simpa using hb
    rw [e, upd_ne (Nat.ne_of_lt hlt)]
    exact (hf it (by simp)).1
  done := by
    intro X hP hw hK hc i pins s σ H E I hf st hg
    subst hP hw hK
    obtain ⟨hd, hi⟩ := hg
    obtain ⟨f0, f1, f2, f3, f4, f5⟩ := hf it (by simp)
    obtain ⟨es', ep', hdt, raw, hs, hsz, hent⟩ := frzX I hd
    obtain ⟨rfl, rfl⟩ := dict_ep hod hdt
    obtain ⟨ok, ov, he⟩ := st
    exact DT.endI (I.ok.hd hc) he raw (by omega) fun h' eb => ⟨rfl, I.turned (t' := s.toks) (fun b ob hb e => eb b ob hb e) f0 f1 f3 f4 f5⟩
  self := fun A i s Q E st h => let ⟨_, _, e⟩ := st; PySem.W.kcp_self e h
/-- for .. in d.items(), d a dict that nobody writes from now on -/
def iItemsX (X : Cx) (td : TE) : TI := fun σ H R => td σ H fun x H1 => ∃ d xs, x = .ref d ∧ H1 d = some (Dx X.prog X.w d xs) ∧ ∀ od, R (Itx X.prog X.w d od xs) (upd H1 d (.frz od (Dx X.prog X.w d xs)))
theorem pi_itemsX {e : Expr} {td : TE} {elts : List Expr} {kk : Nat} {tpos : Pos} (he : PE X e td) (hbase : attributeBase e "items" X.env (eval e X.env) = eval e X.env := by rfl) (hline : (apos.endLine == cpos.line) = true := by rfl) :
    PI X (.Tuple elts kk tpos) (.Call (.Attribute e "items" apos) [] [] cpos) (iItemsX X td) := by
  refine ⟨fun pins s σ H R I h => ?_⟩
  refine wpAny_Call_method (T := "dict") (id := "dict.items") hbase rfl hline F.plainAttrs_dict F.slot_dict_items F.type_dict_items (thn (he.run pins s σ H _ I h) fun u s1 ⟨x, H1, I1, rx, d, xs, ex, hd, q⟩ => ?_)
  subst ex
  obtain rfl : u = Value.ref d := rx
  obtain ⟨od, I2⟩ := I1.lock hd True.intro
  have hd2 : upd H1 d (.frz od (Dx X.prog X.w d xs)) d = some (.frz od (Dx X.prog X.w d xs)) := upd_same
  obtain ⟨es, ep, hdt, raw, hs, hsz, hent⟩ := frzX I2 hd2
  obtain ⟨o', e', c', _⟩ := id raw
  refine ⟨raw.typeIs, fun a e => (by cases e; exact ⟨o', e', c'.2.1⟩), ?_⟩
  have I3 : Inv X pins σ (upd H1 d (.frz od (Dx X.prog X.w d xs))) { s1 with heap := s1.heap.push { cls := .type "dict_items", data := .fields #[.ref d] } } := I2.kept (t' := s1.toks) fun b ob q => Heap.get?_push_of_some _ q
  have fin : wpAny (model X.prog X.w) X.A (pyIter (.ref s1.heap.objs.size)) (PIE X pins σ (.Tuple elts kk tpos) R) X.xe { s1 with heap := s1.heap.push { cls := .type "dict_items", data := .fields #[.ref d] } } :=
    DT.iterI (d := d) ⟨_, Heap.get?_push_size _ rfl, rfl, rfl⟩ (raw.push _) (pi_one (tk := s1.toks) I3 _ (turn_itx _ hdt) ⟨.none, .none, Heap.get?_push_size _ rfl⟩ (q od))
  show wpAny _ _ (callWith cpos (.builtin "dict.items") [.ref d] [] []) _ X.xe s1
  exact method_meetsIn F.slot_dict_items F.entry_dict_items rfl (PySem.evalArgs_none ⟨rfl, raw.typeIs, F.args_dict_items_1 _, _, DT.meetsItems (es := es) (ep := ep) hs, ⟨raw, fin⟩⟩)
end
end K12
/-! K11: tables by paths; comprehensions whose list is ours; results that are only partly known. -/
namespace K12
open PySem PySem.Spec PyProof.Rows L2
/-! ### tables -/
abbrev Path := List (Nat × Nat)
abbrev Tbl := List (Path × List Rat)
def keyOf (p : Path) : NestedKey := .tup (p.map fun x => .tup [.num x.1, .num x.2])
def encPath (p : Path) : PyData := .tuple (p.map fun x => .tuple [.int x.1, .int x.2])
theorem keyOf_data (p : Path) : (keyOf p).data = encPath p := by
  unfold keyOf encPath
  rw [NestedKey.data]
  congr 1
  induction p with
  | nil => rfl
  | cons x r ih =>
    rw [List.map_cons, List.map_cons, NestedKey.datas, ih]
    rfl
theorem keyOf_depth (p : Path) : (keyOf p).depth ≤ 8 := by
  unfold keyOf
  rw [NestedKey.depth]
  have : ∀ p : Path, NestedKey.depthAll (p.map fun x => NestedKey.tup [.num x.1, .num x.2]) ≤ 1 := fun p => by
    induction p with
    | nil => exact Nat.zero_le _
    | cons x r ih =>
      rw [List.map_cons, NestedKey.depthAll]
      have e : NestedKey.depth (.tup [.num x.1, .num x.2]) = 1 := rfl
      rw [e]
      omega
  have := this p
  omega
theorem keys_inj : ∀ {p q : Path}, (p.map fun x => NestedKey.tup [.num x.1, .num x.2]) = (q.map fun x => NestedKey.tup [.num x.1, .num x.2]) → p = q
  | [], [], _ => rfl
  | [], _ :: _, h => by cases h
  | _ :: _, [], h => by cases h
  | x :: r, y :: s, h => by
    rw [List.map_cons, List.map_cons] at h
    obtain ⟨h1, h2⟩ := List.cons.inj h
    have h3 := NestedKey.tup.inj h1
    obtain ⟨h4, h5⟩ := List.cons.inj h3
    obtain ⟨h6, _⟩ := List.cons.inj h5
    have e1 := NestedKey.num.inj h4
    have e2 := NestedKey.num.inj h6
    have : x = y := Prod.ext (by exact_mod_cast e1) (by exact_mod_cast e2)
    rw [this, keys_inj h2]
theorem keyOf_inj {p q : Path} (h : keyOf p = keyOf q) : p = q := keys_inj (NestedKey.tup.inj h)
def tval (t : Tbl) (p : Path) : Option (List Rat) := (t.find? fun x => decide (x.1 = p)).map (·.2)
def tget (t : Tbl) (p : Path) (d : List Rat) : List Rat := (tval t p).getD d
def tput (t : Tbl) (p : Path) (ws : List Rat) : Tbl := if (tval t p).isSome then t.map (fun x => if x.1 = p then (x.1, ws) else x) else t ++ [(p, ws)]
/-- the entries are the table's -/
def Tb (K : PySem.W.Frag) (G : Hp) (t : Tbl) (xs : KX) : Prop := Paired (fun (p : Path × List Rat) (x : NestedKey × Addr × Addr) => x.1 = keyOf p.1 ∧ Dp K G (.ref x.2.1) (encPath p.1) ∧ Dp K G (.ref x.2.2) (encWs p.2)) t xs
theorem Tb.sm {K : PySem.W.Frag} {G G' : Hp} {t : Tbl} {xs : KX} (h : Tb K G t xs) (s : Same G G') : Tb K G' t xs := pd_imp h fun a b _ ⟨h1, h2, h3⟩ => ⟨h1, h2.sm s, h3.sm s⟩
theorem Tb.keys {K : PySem.W.Frag} {G : Hp} : ∀ {t : Tbl} {xs : KX}, Tb K G t xs → KeysAt K G xs
  | _, _, .nil => fun x hx => nomatch hx
  | _, _, .cons (a := p) (b := y) ⟨h1, h2, h3⟩ r => fun x hx => by
    rcases List.mem_cons.mp hx with rfl | hx
    · rw [h1]
      exact ⟨by rw [keyOf_data]; exact h2, keyOf_depth _⟩
    · exact Tb.keys r x hx
theorem Tb.val {K : PySem.W.Frag} {G : Hp} (p : Path) : ∀ {t : Tbl} {xs : KX}, Tb K G t xs → (∃ z ws, valX xs (keyOf p) = some z ∧ tval t p = some ws ∧ Dp K G (.ref z) (encWs ws)) ∨ (valX xs (keyOf p) = none ∧ tval t p = none)
  | _, _, .nil => .inr ⟨rfl, rfl⟩
  | _, _, .cons (a := q) (b := y) (l₁ := t) (l₂ := xs) ⟨h1, h2, h3⟩ r => by
    by_cases e : q.1 = p
    · refine .inl ⟨y.2.2, q.2, ?_, ?_, h3⟩
      · unfold valX
        rw [List.find?_cons, h1, e]
        simp
      · unfold tval
        rw [List.find?_cons, e]
        simp
    · have ne : ¬ y.1 = keyOf p := fun z => e (keyOf_inj (h1.symm.trans z))
      have e1 : valX (y :: xs) (keyOf p) = valX xs (keyOf p) := by
        unfold valX
        rw [List.find?_cons, decide_eq_false ne]
      have e2 : tval (q :: t) p = tval t p := by
        unfold tval
        rw [List.find?_cons, decide_eq_false e]
      rw [e1, e2]
      exact Tb.val p r
theorem Tb.put {K : PySem.W.Frag} {G : Hp} {t : Tbl} {xs : KX} (h : Tb K G t xs) {p : Path} {ws : List Rat} {b z : Addr} (hb : Dp K G (.ref b) (encPath p)) (hz : Dp K G (.ref z) (encWs ws)) : Tb K G (tput t p ws) (putX xs (keyOf p) b z) := by
  have e : (tval t p).isSome = (valX xs (keyOf p)).isSome := by
    rcases h.val p with ⟨z, ws, e1, e2, _⟩ | ⟨e1, e2⟩
    · rw [e1, e2]; rfl
    · rw [e1, e2]; rfl
  unfold tput putX
  rw [e]
  split
  · have : ∀ {t : Tbl} {xs : KX}, Tb K G t xs → Tb K G (t.map (fun x => if x.1 = p then (x.1, ws) else x)) (xs.map (fun x => if x.1 = keyOf p then (x.1, x.2.1, z) else x)) := fun h => by
      induction h with
      | nil => exact .nil
      | @cons q y t xs a r ih =>
        refine .cons ?_ ih
        obtain ⟨h1, h2, h3⟩ := a
        show (if y.1 = keyOf p then (y.1, y.2.1, z) else y).1 = keyOf (if q.1 = p then (q.1, ws) else q).1 ∧ Dp K G (.ref (if y.1 = keyOf p then (y.1, y.2.1, z) else y).2.1) (encPath (if q.1 = p then (q.1, ws) else q).1) ∧ Dp K G (.ref (if y.1 = keyOf p then (y.1, y.2.1, z) else y).2.2) (encWs (if q.1 = p then (q.1, ws) else q).2)
        by_cases e : q.1 = p
        · rw [if_pos e, if_pos (by rw [h1, e])]
          exact ⟨h1, h2, hz⟩
        · rw [if_neg e, if_neg (fun w => e (keyOf_inj (h1.symm.trans w)))]
          exact ⟨h1, h2, h3⟩
    exact this h
  · exact pd_snoc h ⟨rfl, hb, hz⟩
theorem tb_len {K : PySem.W.Frag} {G : Hp} {t : Tbl} {xs : KX} (h : Tb K G t xs) : xs.length = t.length := (pd_len h).symm
section
variable {X : Cx} {W : Wd} {e a b c : Expr} {es : List Expr} {σ : L2.St} {G G' H : Hp} {R R' : Rl} {d d' : PyData} {ds : List PyData} {v : V} {pos p p2 spos apos cpos : Pos} {x : Str} {k : Bool}
abbrev Wd.dict (X : Cx) (d : Addr) (xs : KX) : Wd := .cell d (Dx X.prog X.w d xs)
theorem encWs_ref {K : PySem.W.Frag} {G : Hp} {v : V} {ws : List Rat} (h : Dp K G v (encWs ws)) : ∃ z, v = .ref z := by
  obtain ⟨a, xs, e, _⟩ := h.tup_inv
  exact ⟨a, e⟩
theorem encPath_ref {K : PySem.W.Frag} {G : Hp} {v : V} {p : Path} (h : Dp K G v (encPath p)) : ∃ z, v = .ref z := by
  obtain ⟨a, xs, e, _⟩ := h.tup_inv
  exact ⟨a, e⟩
theorem ev_getX {l : Addr} {xs : KX} {t : Tbl} {q : Path} {df : List Rat} (hu : X.A.units + 64 < cLine) (ho : Ev X W c σ G (Rf (.ref l))) (hw : Has W (.dict X l xs)) (ht : Tb X.K G t xs) (ha : Ev X W a σ G (Is X.K (encPath q))) (hb : Ev X W b σ G (Is X.K (encWs df)))
    (hbase : attributeBase c "get" X.env (eval c X.env) = eval c X.env := by rfl)
    (hfew : ((backTo cpos (starEach [a, b] X.env)).all (fun x => !x.1) && (backToKw cpos (keywordEach [] X.env)).all (fun x => x.1.isSome) && decide ([a, b].length + ([] : List Keyword).length + (if ([] : List Keyword).isEmpty then 0 else 1) < 30)) = true := by rfl)
    (hline : (apos.endLine == cpos.line) = true := by rfl) (hs : Pl X a [b] := by rfl) (hs2 : Pl X b [] := by rfl) (hplain : (backTo cpos (starEach [b] X.env)).any (·.1) = false := by rfl) :
    Ev X W (.Call (.Attribute c "get" apos) [a, b] [] cpos) σ G (Is X.K (encWs (tget t q df))) := fun G1 H Q s k qq =>
  useE (pe_getX hu (pE c) (pA [a, b]) hbase hfew hline hs hplain) <| ho G1 H _ s k fun u G2 H2 s2 k2 r => by
    cases (show u = .ref l from r)
    refine ⟨l, xs, rfl, has_cell hw k2, (ea_cons ha (ea1 hb hs2) hs) G2 H2 _ (s.trans s2) k2 fun vs G3 H3 s3 k3 r3 => ?_⟩
    obtain ⟨v1, v2, rfl, d1, d2⟩ := dpAll_two r3
    obtain ⟨b1, rfl⟩ := encPath_ref d1
    have ht3 := ht.sm ((s.trans s2).trans s3)
    refine ⟨b1, keyOf q, v2, rfl, has_cell hw k3, (ht3.sm k3.same).keys, by rw [keyOf_data]; exact d1.sm k3.same, keyOf_depth q, qq _ G3 H3 (s2.trans s3) k3 ?_⟩
    unfold tget
    rcases ht3.val q with ⟨z, ws, e1, e2, dz⟩ | ⟨e1, e2⟩
    · rw [e1, e2]; exact dz
    · rw [e1, e2]; exact d2
theorem ws_putX {rest : List Stmt} {D : Ends} {G1 : Hp} {W0 : Wd} {l : Addr} {xs : KX} {t : Tbl} {q : Path} {ws : List Rat} (hu : X.A.units + 64 < cLine) (he : Ev X W e σ G (Is X.K (encWs ws))) (ho : ∀ G, Ev X W c σ G (Rf (.ref l))) (hi : Ev X W a σ G (Is X.K (encPath q))) (hw : W.Eqv (W0.sep (.dict X l xs))) (ht : Tb X.K G t xs) (hl : t.length < 1000000)
    (s : Same G G1) (k1 : W.ok G1 H) (qq : ∀ xs' G' H', Same G1 G' → (W0.sep (.dict X l xs')).ok G' H' → Tb X.K G' (tput t q ws) xs' → wSs X rest D σ H')
    (hs : swapsWith e (some (.Subscript c a p)) spos.line X.env = pure false := by rfl) : wSs X (.Assign [.Subscript c a p] e spos :: rest) D σ H :=
  useSs (pss_cons (ps_putX hu (pE c) (pE a) (pE e) hs) (pSs rest)) <| he G1 H _ s k1 fun v G2 H2 s2 k2 r2 => ho G2 G2 H2 _ (Same.refl _) k2 fun u G3 H3 s3 k3 r3 => hi G3 H3 _ ((s.trans s2).trans s3) k3 fun y G4 H4 s4 k4 r4 => by
    cases (show u = .ref l from r3)
    obtain ⟨z, rfl⟩ := encWs_ref r2
    obtain ⟨b1, rfl⟩ := encPath_ref r4
    have k5 := hw.ok k4
    have ht4 := ht.sm (((s.trans s2).trans s3).trans s4)
    have dk : Dp X.K G4 (.ref b1) (encPath q) := r4
    have dz : Dp X.K G4 (.ref z) (encWs ws) := Dp.sm r2 (s3.trans s4)
    refine ⟨l, xs, b1, keyOf q, z, rfl, k5.cellAt, (ht4.sm k4.same).keys, rfl, by rw [keyOf_data]; exact dk.sm k4.same, keyOf_depth q, rfl, by rw [tb_len ht4, sizeLine_eq]; omega, qq _ G4 _ ((s2.trans s3).trans s4) k5.put (ht4.put dk dz)⟩
theorem ws_newX {rest : List Stmt} {D : Ends} {y : Str} {py : Pos} (i : Nat) (k1 : W.ok G H) (q : ∀ l H', (W.sep (.dict X l [])).ok G H' → wSs X rest D (σ.set i (some (.ref l))) H')
    (hN : X.N.Nodup) (hi : X.N[i]? = some y := by rfl) (hx : Loc X.env.scope y := by first | exact Or.inl rfl | exact Or.inr rfl)
    (hs : swapsWith (.Dict [] [] pos) (some (.Name y py)) spos.line X.env = pure false := by rfl) (hf : X.fn y = true ∨ X.env.scope.names.lookup y = some .local := by first | exact .inl rfl | exact .inr rfl | assumption) : wSs X (.Assign [.Name y py] (.Dict [] [] pos) spos :: rest) D σ H :=
  ws_set i (useE pe_newX fun l hl => q l _ (k1.newCell hl)) hN hi hx hs hf
/-- e makes a new dict with that table -/
def EvD (X : Cx) (W : Wd) (e : Expr) (σ : L2.St) (G : Hp) (t : Tbl) : Prop := ∀ (G1 H : Hp) (Q : VK), Same G G1 → W.ok G1 H → (∀ l xs G' H', Same G1 G' → (W.sep (.dict X l xs)).ok G' H' → Tb X.K G' t xs → Q (.ref l) H') → wE X e σ H Q
theorem ei_itemsX {elts : List Expr} {kk : Nat} {tpos : Pos} {t : Tbl} (h : EvD X W e σ G t) (hbase : attributeBase e "items" X.env (eval e X.env) = eval e X.env := by rfl) (hline : (apos.endLine == cpos.line) = true := by rfl) :
    EvI X W (.Tuple elts kk tpos) (.Call (.Attribute e "items" apos) [] [] cpos) σ G (t.map fun p => .tuple [encPath p.1, encWs p.2]) := fun G1 H R s k q =>
  useI (pi_itemsX (pE e) hbase hline) <| h G1 H _ s k fun l xs G2 H2 s2 k2 ht => by
    refine ⟨l, xs, rfl, k2.cellAt, fun od => ?_⟩
    have gl : G2 l = none := k2.out l (.inr rfl)
    have k3 := (k2.put (u := .frz od (Dx X.prog X.w l xs))).give
    have s3 : Same G2 (upd G2 l (.frz od (Dx X.prog X.w l xs))) := same_new gl
    refine q _ _ _ (s2.trans s3) k3 fun W' G4 H4 i s4 k4 => ?_
    have hl4 : H4 l = some (.frz od (Dx X.prog X.w l xs)) := k4.same _ _ (s4 _ _ upd_same)
    have ht4 := (ht.sm s3).sm s4
    refine ⟨fun d hd => ?_, fun hi => ⟨hl4, by rw [tb_len ht4]; rw [List.length_map] at hi; exact hi⟩⟩
    rw [List.getElem?_map] at hd
    cases e : t[i]? with
    | none => rw [e] at hd; cases hd
    | some p =>
      rw [e] at hd
      cases hd
      have hi : i < t.length := (List.getElem?_eq_some_iff.mp e).1
      refine ⟨⟨hl4, by rw [tb_len ht4]; exact hi⟩, fun u H' ⟨T, x, hx, eu, nT, eH⟩ => ?_⟩
      subst eu eH
      obtain ⟨y, hy, ⟨_, y2, y3⟩⟩ := paired_get ht4 e
      rw [hx] at hy
      cases hy
      exact ⟨_, same_new (k4.free nT), k4.new nT, .tup (SqT.of upd_same) (.cons (y2.sm (same_new (k4.free nT))) (.cons (y3.sm (same_new (k4.free nT))) .nil))⟩
/-! ### y = [..], and the list is ours -/
theorem lc_heartO {α : Type} {K : PySem.W.Frag} {J : It} {xs : List α} {ei : α → PyData} {D : Addr} {G1 H1 : Hp} {g : TG} {tt : TT} {te : TE} {vs : List Nat} {Q : VK} {t : α → Bool} {P : α → PyData → Prop} {B : Bnd}
    (hJ : ItD K J G1 (xs.map ei)) (hn : xs.length ≤ 1000000) (k1 : W.ok G1 H1) (hD : H1 D = none)
    (hg : ∀ (i : Nat) d v G' H' (Q : L2.St → Hp → Prop), (xs.map ei)[i]? = some d → Same G1 G' → Same G' H' → Dp K G' v d → (∀ σ2, B G' v d σ2 → Q σ2 H') → g v (wipe σ vs) H' Q)
    (hw : ∀ G' v d σ2, B G' v d σ2 → wipe σ2 vs = wipe σ vs)
    (ht : ∀ (i : Nat) x v σ2 G' H' acc (Q : Bool → Hp → Prop), xs[i]? = some x → Same G1 G' → (W.sep (.cell D (.lst acc))).ok G' H' → B G' v (ei x) σ2 → (∀ G2 H2, Same G' G2 → (W.sep (.cell D (.lst acc))).ok G2 H2 → Q (t x) H2) → tt σ2 H' Q)
    (he : ∀ (i : Nat) x v σ2 G' H' acc (Q : VK), xs[i]? = some x → t x = true → Same G1 G' → (W.sep (.cell D (.lst acc))).ok G' H' → B G' v (ei x) σ2 → (∀ u G2 H2, Same G' G2 → (W.sep (.cell D (.lst acc))).ok G2 H2 → Sm K (P x) G2 u → Q u H2) → te σ2 H' Q)
    (mono : ∀ G' G2 v d σ2, Same G' G2 → B G' v d σ2 → B G2 v d σ2)
    (q : ∀ es acc G' H', Same G1 G' → (W.sep (.cell D (.lst acc))).ok G' H' → Paired P (xs.filter t) es → DpAll K G' acc es → Q (.ref D) H') :
    ∃ W : Nat → Nat → Hp → Prop, (∃ m, W 0 m (upd H1 D (.lst []))) ∧ ∀ i m H, W i m H →
      (J.stop i H ∧ Q (.ref D) H) ∨ (J.go i H ∧ ∃ Nx : Hp → Prop, (∀ H', Nx H' → ∃ m', m' < m ∧ W (i + 1) m' H') ∧ ∀ x H', J.yld i H x H' → g x (wipe σ vs) H' fun σ2 H2 => wipe σ2 vs = wipe σ vs ∧ tt σ2 H2 fun b H3 =>
        if b = true then te σ2 H3 fun y H4 => ∃ acc, H4 D = some (.lst acc) ∧ acc.length < sizeLine ∧ Nx (upd H4 D (.lst (acc ++ [y]))) else Nx H3) := by
  refine ⟨fun i m H => ∃ G2 acc es, Same G1 G2 ∧ (W.sep (.cell D (.lst acc))).ok G2 H ∧ DpAll K G2 acc es ∧ Paired P ((xs.take i).filter t) es ∧ i ≤ xs.length ∧ m = xs.length - i, ⟨xs.length, G1, [], [], Same.refl _, k1.newCell hD, .nil, .nil, Nat.zero_le _, rfl⟩, ?_⟩
  rintro i m H ⟨G2, acc, es, s2, k2, da, pr, hi, rfl⟩
  obtain ⟨go, stop⟩ := hJ _ G2 H i s2 k2
  by_cases hlt : i < xs.length
  · have hx : xs[i]? = some xs[i] := List.getElem?_eq_getElem hlt
    have hd : (xs.map ei)[i]? = some (ei xs[i]) := by rw [List.getElem?_map, hx]; rfl
    obtain ⟨g1, y1⟩ := go _ hd
    refine .inr ⟨g1, fun H' => ∃ G2 acc es, Same G1 G2 ∧ (W.sep (.cell D (.lst acc))).ok G2 H' ∧ DpAll K G2 acc es ∧ Paired P ((xs.take (i + 1)).filter t) es, fun H' ⟨G3, acc3, es3, a1, a2, a3, a4⟩ => ⟨xs.length - (i + 1), by omega, G3, acc3, es3, a1, a2, a3, a4, hlt, rfl⟩, fun v H' yv => ?_⟩
    obtain ⟨G3, s3, k3, dv⟩ := y1 v H' yv
    refine hg i _ v G3 H' _ hd (s2.trans s3) k3.same dv fun σ2 b2 => ⟨hw _ _ _ _ b2, ?_⟩
    refine ht i _ v σ2 G3 H' acc _ hx (s2.trans s3) k3 b2 fun G4 H4 s4 k4 => ?_
    have hlen : acc.length ≤ xs.length := by
      rw [da.length, ← pd_len pr]
      exact Nat.le_trans (List.length_filter_le _ _) (by rw [List.length_take]; exact Nat.min_le_right _ _)
    cases et : t xs[i] with
    | false =>
      refine iteF ⟨G4, acc, es, (s2.trans s3).trans s4, k4, da.sm (s3.trans s4), ?_⟩
      rw [take_snoc hx, List.filter_append, List.filter_cons_of_neg (by rw [et]; decide), List.filter_nil, List.append_nil]
      exact pr
    | true =>
      refine iteT (he i _ v σ2 G4 H4 acc _ hx et ((s2.trans s3).trans s4) k4 (mono _ _ _ _ _ s4 b2) fun u G5 H5 s5 k5 ⟨e5, p5, d5⟩ => ⟨acc, k5.cellAt, ?_, G5, acc ++ [u], es ++ [e5], ((s2.trans s3).trans s4).trans s5, k5.put, (da.sm ((s3.trans s4).trans s5)).snoc d5, ?_⟩)
      · rw [sizeLine_eq]; omega
      · rw [take_snoc hx, List.filter_append, List.filter_cons_of_pos et, List.filter_nil]
        exact pd_snoc pr p5
  · have e : i = xs.length := by omega
    subst e
    refine .inl ⟨stop (by rw [List.length_map]; exact Nat.le_refl _), ?_⟩
    rw [List.take_length] at pr
    exact q es acc _ H s2 k2 pr da
theorem ws_setLcBO {α : Type} {rest : List Stmt} {D0 : Ends} (i : Nat) {y : Str} {py spos : Pos} {elt tg iter : Expr} {scope : Scope} {own : List (Str × Nat)} {items : List PyData} {xs : List α} {ei : α → PyData} {P : α → PyData → Prop} {B : Bnd} {ifs : List Expr} {tt : TT} {t : α → Bool}
    (hc : X.calm = true) (hN : X.N.Nodup) (ok : BlkOk X.N X.env.scope scope own) (hi : EvI X W tg iter σ G items) (hx : items = xs.map ei) (hn : xs.length ≤ 1000000)
    (htt : ∀ s H C cl fp, PTs (bX X scope s H C cl fp) ifs tt)
    (T : TgOk X scope tg σ own G items B)
    (ht : ∀ (i : Nat) x v σ2 G' H' D acc (Q : Bool → Hp → Prop), xs[i]? = some x → Same G G' → (W.sep (.cell D (.lst acc))).ok G' H' → B G' v (ei x) σ2 → (∀ G2 H2, Same G' G2 → (W.sep (.cell D (.lst acc))).ok G2 H2 → Q (t x) H2) → tt σ2 H' Q)
    (he : ∀ (i : Nat) x v σ2 G' D acc, xs[i]? = some x → t x = true → Same G G' → B G' v (ei x) σ2 → ∀ s0 H0 C cl fp, Ev (bX X scope s0 H0 C cl fp) (W.sep (.cell D (.lst acc))) elt σ2 G' (Sm X.K (P x)))
    {G1 : Hp} (s : Same G G1) (k1 : W.ok G1 H) (q : ∀ l vs es G' H', Same G1 G' → (W.sep (.cell l (.lst vs))).ok G' H' → Paired P (xs.filter t) es → DpAll X.K G' vs es → wSs X rest D0 (σ.set i (some (.ref l))) H')
    (hy : X.N[i]? = some y := by rfl) (hyl : X.env.scope.names.lookup y = some .local := by rfl) (hsw : swapsWith (.ListComp elt [⟨tg, iter, ifs, 0⟩] scope pos) (some (.Name y py)) spos.line X.env = pure true := by exact sw_true rfl rfl rfl (by decide +kernel)) (hs : ∀ x, foldedSetIterable iter X.env x = pure x := by intro _; rfl) :
    wSs X (.Assign [.Name y py] (.ListComp elt [⟨tg, iter, ifs, 0⟩] scope pos) spos :: rest) D0 σ H := by
  subst hx
  exact useSs (pss_cons (ps_setLc hc hN hy hyl hsw (pI tg iter) ok (fun s H C cl fp => pbG s H C cl fp) htt (fun s H C cl fp => pbE s H C cl fp) hs) (pSs rest)) <| hi G1 H _ s k1 fun J G2 H2 s2 k2 hJ D hD => by
    refine lc_heartO (t := t) (P := P) (B := B) (Q := fun v H' => wSs X rest D0 (σ.set i (some v)) H') hJ hn k2 hD (fun i d v G' H' Q h1 h2 h3 h4 h5 s0 H0 C cl fp => T.hg i d v G' H' Q h1 ((s.trans s2).trans h2) h3 h4 h5 s0 H0 C cl fp) T.hw
      (fun i d v σ2 G' H' acc Q h1 h2 h3 h4 h5 => ht i d v σ2 G' H' D acc Q h1 ((s.trans s2).trans h2) h3 h4 h5) (fun i d v σ2 G' H' acc Q h1 h2 h3 h4 h5 h6 s0 H0 C cl fp => he i d v σ2 G' D acc h1 h2 ((s.trans s2).trans h3) h5 s0 H0 C cl fp G' H' Q (Same.refl _) h4 h6) T.mono
      (fun es acc G' H' s3 k3 pr dp => q D acc es G' H' (s2.trans s3) k3 pr dp)
theorem ws_setLcO {α : Type} {rest : List Stmt} {D0 : Ends} (i : Nat) {y : Str} {py spos : Pos} {elt tg iter : Expr} {scope : Scope} {own : List (Str × Nat)} {items : List PyData} {xs : List α} {ei : α → PyData} {P : α → PyData → Prop} {B : Bnd}
    (hc : X.calm = true) (hN : X.N.Nodup) (ok : BlkOk X.N X.env.scope scope own) (hi : EvI X W tg iter σ G items) (hx : items = xs.map ei) (hn : xs.length ≤ 1000000) (T : TgOk X scope tg σ own G items B)
    (he : ∀ (i : Nat) x v σ2 G' D acc, xs[i]? = some x → Same G G' → B G' v (ei x) σ2 → ∀ s0 H0 C cl fp, Ev (bX X scope s0 H0 C cl fp) (W.sep (.cell D (.lst acc))) elt σ2 G' (Sm X.K (P x)))
    {G1 : Hp} (s : Same G G1) (k1 : W.ok G1 H) (q : ∀ l vs es G' H', Same G1 G' → (W.sep (.cell l (.lst vs))).ok G' H' → Paired P xs es → DpAll X.K G' vs es → wSs X rest D0 (σ.set i (some (.ref l))) H')
    (hy : X.N[i]? = some y := by rfl) (hyl : X.env.scope.names.lookup y = some .local := by rfl) (hsw : swapsWith (.ListComp elt [⟨tg, iter, [], 0⟩] scope pos) (some (.Name y py)) spos.line X.env = pure true := by exact sw_true rfl rfl rfl (by decide +kernel)) (hs : ∀ x, foldedSetIterable iter X.env x = pure x := by intro _; rfl) :
    wSs X (.Assign [.Name y py] (.ListComp elt [⟨tg, iter, [], 0⟩] scope pos) spos :: rest) D0 σ H :=
  ws_setLcBO i (t := fun _ => true) hc hN ok hi hx hn (fun _ _ _ _ _ => pts_nil) T (fun i d v σ2 G' H' D acc Q h1 h2 h3 h4 h5 => h5 G' H' (Same.refl _) h3) (fun i x v σ2 G' D acc h1 _ h2 h3 => he i x v σ2 G' D acc h1 h2 h3) s k1
    (fun l vs es G' H' s3 k3 pr dl => q l vs es G' H' s3 k3 (by rw [List.filter_eq_self.mpr (fun _ _ => rfl)] at pr; exact pr) dl) hy hyl hsw hs
theorem ws_setLcIfO {α : Type} {rest : List Stmt} {D0 : Ends} (i : Nat) {y : Str} {py spos : Pos} {elt tg iter tst : Expr} {scope : Scope} {own : List (Str × Nat)} {items : List PyData} {xs : List α} {ei : α → PyData} {P : α → PyData → Prop} {B : Bnd} {t : α → Bool}
    (hc : X.calm = true) (hN : X.N.Nodup) (ok : BlkOk X.N X.env.scope scope own) (hi : EvI X W tg iter σ G items) (hx : items = xs.map ei) (hn : xs.length ≤ 1000000) (T : TgOk X scope tg σ own G items B)
    (ht : ∀ (i : Nat) x v σ2 G' D acc, xs[i]? = some x → Same G G' → B G' v (ei x) σ2 → ∀ s0 H0 C cl fp, EvT (bX X scope s0 H0 C cl fp) (W.sep (.cell D (.lst acc))) tst σ2 G' (t x))
    (he : ∀ (i : Nat) x v σ2 G' D acc, xs[i]? = some x → t x = true → Same G G' → B G' v (ei x) σ2 → ∀ s0 H0 C cl fp, Ev (bX X scope s0 H0 C cl fp) (W.sep (.cell D (.lst acc))) elt σ2 G' (Sm X.K (P x)))
    {G1 : Hp} (s : Same G G1) (k1 : W.ok G1 H) (q : ∀ l vs es G' H', Same G1 G' → (W.sep (.cell l (.lst vs))).ok G' H' → Paired P (xs.filter t) es → DpAll X.K G' vs es → wSs X rest D0 (σ.set i (some (.ref l))) H')
    (hy : X.N[i]? = some y := by rfl) (hyl : X.env.scope.names.lookup y = some .local := by rfl) (hsw : swapsWith (.ListComp elt [⟨tg, iter, [tst], 0⟩] scope pos) (some (.Name y py)) spos.line X.env = pure true := by exact sw_true rfl rfl rfl (by decide +kernel)) (hs : ∀ x, foldedSetIterable iter X.env x = pure x := by intro _; rfl) :
    wSs X (.Assign [.Name y py] (.ListComp elt [⟨tg, iter, [tst], 0⟩] scope pos) spos :: rest) D0 σ H :=
  ws_setLcBO i (t := t) hc hN ok hi hx hn (fun s H C cl fp => pts_one (pbT s H C cl fp)) T (fun i d v σ2 G' H' D acc Q h1 h2 h3 h4 h5 s0 H0 C cl fp => ht i d v σ2 G' D acc h1 h2 h4 s0 H0 C cl fp G' H' Q (Same.refl _) h3 h5) he s k1 q hy hyl hsw hs
/-! ### what is only partly known -/
def SpGW (pre : Wd → Hp → List V → Rl → Prop) : Sp := fun vs H Q _ => ∃ (W : Wd) (G : Hp) (R : Rl), W.ok G H ∧ pre W G vs R ∧ ∀ v G' H', Same G G' → W.ok G' H' → R G' v → Q v H'
theorem ev_callW {j l : Nat} {pre : Wd → Hp → List V → Rl → Prop} {Rs : Hp → List V → Prop} (c : C8.Cal X.prog X.w X.K X.mg X.base l x (SpGW pre) []) (hr : Room j X.A) (hk : l ≤ j) (ha : EvA X W (e :: es) σ G Rs) (hd : ∀ G' vs, Same G G' → Rs G' vs → pre W G' vs R) (hg : Gl X x := by rfl)
    (hdb : (x == ("__debug__" : Str)) = false := by decide) (he : starEach (e :: es) X.env = (false, eval e X.env) :: starEach es X.env := by rfl) (hpl : (backTo pos (starEach es X.env)).any (·.1) = false := by rfl) :
    Ev X W (.Call (.Name x p) (e :: es) [] pos) σ G R := fun G1 H Q s k1 q => useE (C8.pe_c c hr hk hg (pA _) hdb he hpl) <|
  ha G1 H _ s k1 fun vs G2 H2 s2 k2 r => ⟨W, G2, R, k2, by rw [List.append_nil]; exact hd G2 vs (s.trans s2) r, fun v G3 H3 s3 k3 r3 => q v G3 H3 (s2.trans s3) k3 r3⟩
/-- the truth is not known -/
def EvU (X : Cx) (W : Wd) (e : Expr) (σ : L2.St) (G : Hp) : Prop := ∀ (G1 H : Hp) (Q : Bool → Hp → Prop), Same G G1 → W.ok G1 H → (∀ b G' H', Same G1 G' → W.ok G' H' → Q b H') → wT X e σ H Q
def EvUW (X : Cx) (W : Wd) (e : Expr) (σ : L2.St) (G : Hp) : Prop := ∀ (G1 H : Hp) (Q : Bool → Hp → Prop), Same G G1 → W.ok G1 H → (∀ b G' H', Same G1 G' → W.ok G' H' → Q b H') → wW X e σ H Q
theorem eu_cmp {op : CmpOp} {P : PyData → Prop} {j : Int} (ha : Ev X W a σ G (Sm X.K fun d => ∃ i : Nat, P d ∧ d = .int i)) (hb : Ev X W b σ G (Is X.K (.int j))) (h : isCmp op = true := by rfl) : EvU X W (.Compare a [op] [b] pos) σ G := fun G1 H Q s k1 q => useT (pt_cmpR (op_cmpI h) (pE a) (pE b) (cmp_mark h b)) <|
  ha G1 H _ s k1 fun x G2 H2 s2 k2 r1 => hb G2 H2 _ (s.trans s2) k2 fun y G3 H3 s3 k3 r2 => by
    obtain ⟨d, ⟨i, _, rfl⟩, h1⟩ := r1
    exact ⟨i, j, h1.int_eq, Dp.int_eq r2, _, rfl, q _ G3 H3 (s2.trans s3) k3⟩
theorem eu_of (h : EvUW X W e σ G) : EvU X W e σ G := fun G1 H Q s k1 q => fun pins st I => h G1 H Q s k1 q _ pins st I
theorem eu_and1 (h : EvU X W e σ G) : EvUW X W (.BoolOp .And [e] pos) σ G := fun G1 H Q s k1 q => useW (pw_and1 (pT e)) <| h G1 H _ s k1 q
theorem eu_and {r : List Expr} {m : Bool} (h : EvT X W e σ G m) (hr : EvUW X W (.BoolOp .And (a :: r) pos) σ G) : EvUW X W (.BoolOp .And (e :: a :: r) pos) σ G := fun G1 H Q s k1 q => useW (pw_and (pT e) (pW _)) <|
  h G1 H _ s k1 fun G2 H2 s2 k2 => by
    cases m with
    | true => exact iteT (hr G2 H2 _ (s.trans s2) k2 fun b G3 H3 s3 k3 => q b G3 H3 (s2.trans s3) k3)
    | false => exact iteF (q false G2 H2 s2 k2)
theorem eu_andU {r : List Expr} (h : EvU X W e σ G) (hr : EvUW X W (.BoolOp .And (a :: r) pos) σ G) : EvUW X W (.BoolOp .And (e :: a :: r) pos) σ G := fun G1 H Q s k1 q => useW (pw_and (pT e) (pW _)) <|
  h G1 H _ s k1 fun m G2 H2 s2 k2 => by
    cases m with
    | true => exact iteT (hr G2 H2 _ (s.trans s2) k2 fun b G3 H3 s3 k3 => q b G3 H3 (s2.trans s3) k3)
    | false => exact iteF (q false G2 H2 s2 k2)
theorem ws_ifU {rest body orelse : List Stmt} {D : Ends} {G1 : Hp} (hc : EvU X W c σ G) (s : Same G G1) (k1 : W.ok G1 H) (ht : ∀ G' H', Same G1 G' → W.ok G' H' → wSs X body { D with nx := wSs X rest D } σ H') (hf : ∀ G' H', Same G1 G' → W.ok G' H' → wSs X orelse { D with nx := wSs X rest D } σ H') :
    wSs X (.If c body orelse pos :: rest) D σ H := useSs (pss_cons (ps_if (pT c) (pSs body) (pSs orelse)) (pSs rest)) <| hc G1 H _ s k1 fun b G2 H2 s2 k2 => by
  cases b with
  | true => exact iteT (ht G2 H2 s2 k2)
  | false => exact iteF (hf G2 H2 s2 k2)
/-- a sum, a difference with a number that is not known -/
theorem ev_addS {i : Int} {P : PyData → Prop} (ha : Ev X W a σ G (Is X.K (.int i))) (hb : Ev X W b σ G (Sm X.K fun d => ∃ r : Int, P (.int r) ∧ d = .int r)) : Ev X W (.BinOp a .Add b pos) σ G (Sm X.K fun d => ∃ r : Int, P (.int r) ∧ d = .int (i + r)) :=
  ev_bin (t := fun _ _ _ => True) (pe_op op_add (pE a) (pE b)) ha hb is_mono fun x y G1 H Q s k h1 h2 q => by
    obtain ⟨d, ⟨r, p, rfl⟩, d2⟩ := h2
    exact ⟨i, r, h1.int_eq, d2.int_eq, q _ G1 H (Same.refl _) k ⟨_, ⟨r, p, rfl⟩, .int _⟩⟩
/-- return [..], a list of any values, ours -/
theorem ws_retL {rest : List Stmt} {D : Ends} {G1 : Hp} {Rs : Hp → List V → Prop} (h : EvA X W es σ G Rs) (hl : ∀ G vs, Rs G vs → vs.length ≤ 1000000) (s : Same G G1) (k1 : W.ok G1 H)
    (q : ∀ l vs G' H', Same G1 G' → (W.sep (.cell l (.lst vs))).ok G' H' → Rs G' vs → D.rt (.ref l) H') : wSs X (.Return (some (.List es pos)) spos :: rest) D σ H := ws_ret <| useE (pe_lst (pA es)) <|
  h G1 H _ s k1 fun vs G2 H2 s2 k2 r => ⟨by rw [sizeLine_eq]; exact Nat.le_trans (hl _ _ r) (by decide), fun p hp => q p vs _ _ s2 (k2.newCell hp) r⟩
/-- one of the things -/
theorem ev_ixS {n : Nat} (ha : Ev X W a σ G (Is X.K (.list ds))) (hb : Ev X W b σ G (Sm X.K fun d => ∃ r : Nat, r < n ∧ d = .int r)) (hl : ds.length = n) (hp : PlainIx b := by intro _ _; rfl) : Ev X W (.Subscript a b pos) σ G (Sm X.K fun d => d ∈ ds) :=
  ev_bin (t := fun _ _ _ => True) (pe_ix ix_list (pE a) (pE b) hp) ha hb is_mono fun x y G1 H Q s k h1 h2 q => by
    obtain ⟨a, xs, rfl, t1, k1⟩ := Dp.lst_inv h1
    obtain ⟨d, ⟨r, hr, rfl⟩, d2⟩ := h2
    obtain ⟨v, hv, dv⟩ := k1.get (i := r) (List.getElem?_eq_getElem (by omega))
    exact ⟨a, xs, r, v, rfl, d2.int_eq, sqL_same k.same t1, atI_nat hv, q v G1 H (Same.refl _) k ⟨_, List.getElem_mem _, dv⟩⟩
theorem Ev.sms {P P' : PyData → Prop} (h : Ev X W e σ G (Sm X.K P)) (f : ∀ d, P d → P' d) : Ev X W e σ G (Sm X.K P') := h.imp fun _ _ ⟨d, p, r⟩ => ⟨d, f d p, r⟩
end
section
variable {P : Program} {w : World} {K : PySem.W.Frag} {mg : Str → Option Value} {base : Heap}
theorem calW_mk {x : Str} {st : Stmt} {N ps : List Str} {k : Nat} {pre : Wd → Hp → List V → Rl → Prop} (A : At K mg x st ps) (S : FnScope N ps (defScope st)) (hl : ∀ W G vs R, pre W G vs R → vs.length = ps.length)
    (hb : ∀ (f : Addr) (cdv : Value) (A : Around) (outer : List Env) (s : Shared) (H : Hp) (vs : List V) (Q : VK) (E : XK), Room k (A.deeper (envOfC x (defScope st) s.heap.objs.size f cdv)) →
      ∀ (W : Wd) (G : Hp) (R : Rl), W.ok G H → pre W G vs R → (∀ v G' H', Same G G' → W.ok G' H' → R G' v → Q v H') →
      wSs (cx0 P w K mg base N x st f cdv A outer s H E) (defBody st) { nx := fun _ H' => Q .non H', rt := Q } (start N vs) H) : C8.Cal P w K mg base (k + 1) x (SpGW pre) [] :=
  cal_mk A S (fun vs H Q E ⟨W, G, R, _, h, _⟩ => hl _ _ _ _ h) fun f cdv A outer s H vs Q E hr ⟨W, G, R, h1, h2, h3⟩ => hb f cdv A outer s H vs Q E hr W G R h1 h2 h3
end
end K12
/-! E1: the law's numbers, its bag. -/
namespace K12
open PySem PySem.Spec PyProof.Rows L2
/-- the bag at b with its great numbers at g -/
def bagW (b g : Addr) : Wd where
  S := fun a => a = g ∨ a = b
  J := fun H => b ≠ g ∧ ∃ (s n : Int) (al : V) (gs : List Int), (al = .non ∨ ∃ i, al = .int i) ∧ H g = some (.lst (gs.map .int)) ∧ H b = some (.lst [.int s, .int n, .ref g, al])
  dep := fun ⟨hn, s, n, al, gs, h1, h2, h3⟩ k => ⟨hn, s, n, al, gs, h1, (k g (.inl rfl)).trans h2, (k b (.inr rfl)).trans h3⟩
  ex := fun {H a} ⟨hn, s, n, al, gs, h1, h2, h3⟩ h z => by
    rcases h with rfl | rfl
    · rw [h2] at z; cases z
    · rw [h3] at z; cases z
theorem bag_pack {W : Wd} {G H : Hp} {b g : Addr} {s n : Int} {al : V} {gs : List Int} (ha : al = .non ∨ ∃ i, al = .int i) (k : ((W.sep (.cell g (.lst (gs.map .int)))).sep (.cell b (.lst [.int s, .int n, .ref g, al]))).ok G H) : (W.sep (bagW b g)).ok G H := by
  obtain ⟨s1, o, ⟨⟨j1, j2, j3⟩, j4, j5⟩⟩ := k
  refine ⟨s1, fun a h => o a ?_, j1, ⟨fun e => j5 g (.inr rfl) e.symm, s, n, al, gs, ha, j2, j4⟩, fun a x y => ?_⟩
  · rcases h with h | h | h
    · exact .inl (.inl h)
    · exact .inl (.inr h)
    · exact .inr h
  · rcases y with y | y
    · exact j3 a x y
    · exact j5 a (.inl x) y
theorem bag_open {W : Wd} {G H : Hp} {b g : Addr} (k : (W.sep (bagW b g)).ok G H) : ∃ (s n : Int) (al : V) (gs : List Int), (al = .non ∨ ∃ i, al = .int i) ∧ ((W.sep (.cell g (.lst (gs.map .int)))).sep (.cell b (.lst [.int s, .int n, .ref g, al]))).ok G H := by
  obtain ⟨s1, o, j1, ⟨hn, s, n, al, gs, ha, h2, h3⟩, j3⟩ := k
  refine ⟨s, n, al, gs, ha, s1, fun a h => o a ?_, ⟨j1, h2, fun a x y => j3 a x (.inl y)⟩, h3, fun a x y => ?_⟩
  · rcases h with (h | h) | h
    · exact .inl h
    · exact .inr (.inl h)
    · exact .inr (.inr h)
  · rcases x with x | x
    · exact j3 a x (.inr y)
    · exact hn ((show a = b from y).symm.trans x)
/-- the counter at l -/
def cntW (l : Addr) : Wd where
  S := fun a => a = l
  J := fun H => ∃ i : Int, H l = some (.lst [.int i])
  dep := fun ⟨i, h⟩ k => ⟨i, (k l rfl).trans h⟩
  ex := fun {H a} ⟨i, h⟩ e z => by cases e; rw [h] at z; cases z
theorem cnt_pack {W : Wd} {G H : Hp} {l : Addr} {i : Int} (k : (W.sep (.cell l (.lst [.int i]))).ok G H) : (W.sep (cntW l)).ok G H := ⟨k.same, k.out, k.j.1, ⟨i, k.j.2.1⟩, k.j.2.2⟩
theorem cnt_open {W : Wd} {G H : Hp} {l : Addr} (k : (W.sep (cntW l)).ok G H) : ∃ i : Int, (W.sep (.cell l (.lst [.int i]))).ok G H := by
  obtain ⟨s, o, j1, ⟨i, h⟩, j3⟩ := k
  exact ⟨i, s, o, j1, h, j3⟩
section
variable {P : Program} {w : World} {K : PySem.W.Frag} {mg : Str → Option Value} {base : Heap}
/-! ### numbers -/
theorem c_law_common (A : At K mg "_law_common" s_law_common ["_law_one", "_law_other"]) : CalD P w K mg base 1 "_law_common" 2 (fun ds d => ∃ a b : Nat, ds = [.int a, .int b] ∧ d = .int (Nat.gcd a b : Nat)) := by
  refine calD_mk A sc_law_common rfl fun f cdv A outer s H vs Q E hr W G ds d k hd hdom q => ?_
  obtain ⟨a, b, rfl, rfl⟩ := hdom
  obtain ⟨v1, v2, rfl, h1, h2⟩ := dpAll_two hd
  refine ws_while (fun m σ W' G' => W' = W ∧ ∃ x y : Nat, m = y ∧ Nat.gcd x y = Nat.gcd a b ∧ σ = [some (.int x), some (.int y)]) b k ⟨rfl, a, b, rfl, rfl, by rw [h1.int_eq, h2.int_eq]; rfl⟩ (fun m σ1 W1 G2 H2 s2 k2 ⟨eW, x, y, em, eg, es⟩ => ?_) PassesOwn.never
  subst eW em es
  refine ⟨_, et_cmp (ev_nm 1 rfl (.int _)) ev_int, fun hb G3 H3 s3 k3 => ?_, fun hb G3 H3 s3 k3 => ?_⟩
  · have hy : 0 < m := by
      rcases Nat.eq_zero_or_pos m with e | e
      · subst e; cases hb
      · exact e
    refine ws_par 0 1 (ev_nm 1 rfl (.int _)) (ev_mod (ev_nm 0 rfl (.int _)) (ev_nm 1 rfl (.int _)) (by omega)) (Same.refl _) k3 (fun v5 v6 G4 H4 s4 k4 h5 h6 => ws_nil ?_) rfl sc_law_common.nd
    refine ⟨x % m, _, G4, Nat.mod_lt _ hy, (s2.trans s3).trans s4, k4, rfl, m, x % m, rfl, ?_, ?_⟩
    · rw [← eg, Nat.gcd_comm m (x % m), ← Nat.gcd_rec m x, Nat.gcd_comm]
    · rw [h5.int_eq, h6.int_eq]; rfl
  · have hy : m = 0 := by
      have h : (!decide ((m : Int) = 0)) = false := hb
      simp at h
      exact h
    subst hy
    rw [Nat.gcd_zero_right] at eg
    refine ws_retE ((ev_nm 0 rfl (.int _)).eq ?_) (Same.refl _) k3 (fun v G4 H4 s4 k4 r => q v G4 H4 ((s2.trans s3).trans s4) k4 r)
    rw [eg]
theorem c_law_low (A : At K mg "_law_low" s_law_low ["_law_top", "_law_bottom"]) (T : Txt K mg) (c1 : CalD P w K mg base 1 "_law_common" 2 (fun ds d => ∃ a b : Nat, ds = [.int a, .int b] ∧ d = .int (Nat.gcd a b : Nat))) : CalD P w K mg base 2 "_law_low" 2 dmLowest := by
  refine calD_mk A sc_law_low rfl fun f cdv A outer s H vs Q E hr W G ds d k hd hdom q => ?_
  obtain ⟨t, b, hb, hb2, rfl, rfl⟩ := hdom
  obtain ⟨v1, v2, rfl, h1, h2⟩ := dpAll_two hd
  have hg : 0 < Int.gcd t b := Nat.gcd_pos_of_pos_right _ (by simpa using hb)
  have hg2 : Int.gcd t b < 2 ^ 3000 := Nat.lt_of_le_of_lt (Nat.le_of_dvd hb (by have h := Nat.gcd_dvd_right t.natAbs (b : Int).natAbs; exact h)) hb2
  refine ws_setE 2 (Ev.eq (d' := .int (Int.gcd t b : Int)) (ev_call c1 hr (by decide) (ea_cons (ev_abs T.abs (ev_nm 0 rfl h1)) (ea1 (ev_nm 1 rfl h2))) ⟨_, _, rfl, rfl⟩) rfl) (Same.refl _) k (fun v3 G1 H1 s1 k1 h3 => ?_) sc_law_low.nd
  have hc : CDivW t (Int.gcd t b : Int) := wide_div (b := 3000) (by omega) (by simpa using hg2) (by decide) (by decide)
  have hc2 : CDivW (b : Int) (Int.gcd t b : Int) := wide_div (b := 3000) (by omega) (by simpa using hg2) (by decide) (by decide)
  exact ws_retE ((ev_tup (ea_cons (ev_fdivW (ev_nm 0 rfl (h1.sm s1)) (ev_nm 2 rfl h3) hc) (ea1 (ev_fdivW (ev_nm 1 rfl (h2.sm s1)) (ev_nm 2 rfl h3) hc2)))).eq (lowest_eq t b hb).symm) (Same.refl _) k1 (fun v G4 H4 s4 k4 r => q v G4 H4 (s1.trans s4) k4 r)
theorem c_law_plus (A : At K mg "_law_plus" s_law_plus ["_law_one", "_law_other"]) (c1 : CalD P w K mg base 2 "_law_low" 2 dmLowest) : CalD P w K mg base 3 "_law_plus" 2 dmPlus := by
  refine calD_mk A sc_law_plus rfl fun f cdv A outer s H vs Q E hr W G ds d k hd hdom q => ?_
  obtain ⟨a, b, ha, hb, rfl, rfl⟩ := hdom
  obtain ⟨v1, v2, rfl, h1, h2⟩ := dpAll_two hd
  rw [Rat.add_def'] at q
  refine ws_retE (ev_call c1 hr (by decide) (ea_cons (ev_add (ev_mulW (ev_ix (j := 0) (ev_nm 0 rfl h1) ev_int rfl) (ev_ix (j := 1) (ev_nm 1 rfl h2) ev_int rfl) (sq_mul ha.1 (by simpa using hb.2))) (ev_mulW (ev_ix (j := 0) (ev_nm 1 rfl h2) ev_int rfl) (ev_ix (j := 1) (ev_nm 0 rfl h1) ev_int rfl) (sq_mul hb.1 (by simpa using ha.2))))
    (ea1 (ev_mulW (ev_ix (j := 1) (ev_nm 0 rfl h1) ev_int rfl) (ev_ix (j := 1) (ev_nm 1 rfl h2) ev_int rfl) (sq_mul (by simpa using ha.2) (by simpa using hb.2)))))
    ⟨_, a.den * b.den, Nat.mul_pos a.den_pos b.den_pos, den_lt ha.2 hb.2, by rw [Int.natCast_mul], rfl⟩) (Same.refl _) k q
theorem c_law_times (A : At K mg "_law_times" s_law_times ["_law_one", "_law_other"]) (c1 : CalD P w K mg base 2 "_law_low" 2 dmLowest) : CalD P w K mg base 3 "_law_times" 2 dmTimes := by
  refine calD_mk A sc_law_times rfl fun f cdv A outer s H vs Q E hr W G ds d k hd hdom q => ?_
  obtain ⟨a, b, ha, hb, rfl, rfl⟩ := hdom
  obtain ⟨v1, v2, rfl, h1, h2⟩ := dpAll_two hd
  rw [Rat.mul_def'] at q
  refine ws_retE (ev_call c1 hr (by decide) (ea_cons (ev_mulW (ev_ix (j := 0) (ev_nm 0 rfl h1) ev_int rfl) (ev_ix (j := 0) (ev_nm 1 rfl h2) ev_int rfl) (sq_mul ha.1 hb.1))
    (ea1 (ev_mulW (ev_ix (j := 1) (ev_nm 0 rfl h1) ev_int rfl) (ev_ix (j := 1) (ev_nm 1 rfl h2) ev_int rfl) (sq_mul (by simpa using ha.2) (by simpa using hb.2)))))
    ⟨_, a.den * b.den, Nat.mul_pos a.den_pos b.den_pos, den_lt ha.2 hb.2, by rw [Int.natCast_mul], rfl⟩) (Same.refl _) k q
/-! ### the bag -/
def SpBag (K : PySem.W.Frag) : Sp := fun vs H Q _ => ∃ (W : Wd) (G : Hp) (v : V) (ns : List Int), W.ok G H ∧ vs = [v] ∧ Dp K G v (.list (ns.map .int)) ∧ ns.length ≤ 63 ∧ ∀ b g G' H', Same G G' → (W.sep (bagW b g)).ok G' H' → Q (.ref b) H'
theorem c_law_bag (A : At K mg "_law_bag" s_law_bag ["_law_script"]) (T : Txt K mg) : C8.Cal P w K mg base 1 "_law_bag" (SpBag K) [] := by
  refine cal_mk A sc_law_bag (fun vs H Q E ⟨_, _, _, _, _, h, _⟩ => by rw [h]; rfl) fun f cdv A outer s H vs Q E hr ⟨W, G, v, ns, k, e, hv, hl, q⟩ => ?_
  subst e
  have hcut : ∀ G', Same G G' → ∀ {X : Cx} {W : Wd} {σ : L2.St}, True := fun _ _ _ _ _ => trivial
  refine ws_setE 1 (ev_add ev_int (ev_lenL T.len (ev_nm 0 rfl hv))) (Same.refl _) k (fun v1 G1 H1 s1 k1 d1 => ?_) sc_law_bag.nd
  refine ws_for (fun i σ W' G' => W' = W ∧ ∃ (z : Int) (c : Option V), σ = [some v, some (.int z), c, none, none]) (ei_list (Ev.dp (ev_slL (ev_nm 0 rfl (hv.sm s1)) eo_none (eo_some ev_int)))) (Same.refl _) k1 (fun G2 s2 => ⟨rfl, _, none, by rw [d1.int_eq]; rfl⟩)
    (fun Gb sb i d σ1 W1 G2 G3 H3 v3 hi s2 ⟨eW, z, c, es⟩ s3 k3 hv3 => ?_) (fun σ1 W1 G2 H2 s2 k2 ⟨eW, z, c, es⟩ => ?_) PassesOwn.never rfl
  · subst eW es
    rw [show cutL (ns.map PyData.int) none (some 63) = ns.map PyData.int from cutL_to _ 63 (by rw [List.length_map]; exact hl), List.getElem?_map] at hi
    cases e : ns[i]? with
    | none => rw [e] at hi; cases hi
    | some x =>
      rw [e] at hi
      cases hi
      refine wg_nm 2 ?_ sc_law_bag.nd
      refine ws_setE 1 (ev_mod (ev_int1 T.zint (ev_add (ev_add (ev_mul (ev_nm 1 rfl (.int z)) ev_int (.inr ⟨by decide, by decide⟩)) (ev_mod (ev_int1 T.zint (ev_nm 2 rfl hv3)) ev_int (by decide))) ev_int)) ev_int (by decide)) (Same.refl _) k3 (fun v5 G5 H5 s5 k5 h5 => ws_nil ?_) sc_law_bag.nd
      exact ⟨_, G5, (s2.trans s3).trans s5, k5, rfl, _, _, by rw [h5.int_eq]; rfl⟩
  · subst eW es
    have sg : Same G G2 := s1.trans s2
    refine ws_setLcIfO (own := [("_law_cell", 2)]) (xs := ns) (ei := .int) (P := fun x d => ∃ y : Int, d = .int y) (t := fun x => cmpI .GtE (x.natAbs : Int) ((10 : Int) ^ 18)) 3 rfl sc_law_bag.nd (blkOk_by (N := n_law_bag) (sc := defScope s_law_bag) (by decide +kernel))
      (ei_list (Ev.dp (ev_slL (ev_nm 0 rfl (hv.sm sg)) eo_none (eo_some ev_int)))) (cutL_to _ 63 (by rw [List.length_map]; exact hl)) (by omega) (tg1 2 sc_law_bag.nd) ?_ ?_ (Same.refl _) k2 (fun g vs es G3 H3 s3 k3 pr hd3 => ?_)
    · rintro i x v σ2 G' D acc hx s4 ⟨a1, rfl⟩ s0 H0 C cl fp
      exact et_cmp (ev_abs T.abs (ev_int1 T.zint (ev_nm 2 rfl a1))) (ev_pow ev_int ev_int ⟨by decide, by decide, by decide⟩)
    · rintro i x v σ2 G' D acc hx ht s4 ⟨a1, rfl⟩ s0 H0 C cl fp
      exact Ev.sm (ev_abs T.abs (ev_int1 T.zint (ev_nm 2 rfl a1))) ⟨_, rfl⟩
    · have hgs : ∃ gs : List Int, es = gs.map .int := by
        have : ∀ {as : List Int} {bs : List PyData}, Paired (fun (x : Int) d => ∃ y : Int, d = .int y) as bs → ∃ gs : List Int, bs = gs.map .int := fun h => by
          induction h with
          | nil => exact ⟨[], rfl⟩
          | cons a t ih => obtain ⟨gs, e⟩ := ih; obtain ⟨y, e2⟩ := a; exact ⟨y :: gs, by rw [e, e2]; rfl⟩
        exact this pr
      obtain ⟨gs, rfl⟩ := hgs
      rw [hd3.ints] at k3
      refine ws_setE 4 ev_non (Same.refl _) k3 (fun v4 G4 H4 s4 k4 h4 => ?_) sc_law_bag.nd
      rw [h4.non_eq]
      have sg4 : Same G G4 := (sg.trans s3).trans s4
      -- the return
      have fin : ∀ (al : V) (G5 H5 : Hp), (al = .non ∨ ∃ i, al = .int i) → Same G G5 → (W1.sep (.cell g (.lst (gs.map .int)))).ok G5 H5 → wSs (cx0 P w K mg base n_law_bag "_law_bag" s_law_bag f cdv A outer s H E) ((defBody s_law_bag).drop 5) { nx := fun _ H' => Q .non H', rt := Q } [some v, some (.int z), c, some (.ref g), some al] H5 := fun al G5 H5 hal sg5 k5 => by
        have eal : ∃ d, Dp K G5 al d := by rcases hal with rfl | ⟨i, rfl⟩; exact ⟨_, .non⟩; exact ⟨_, .int i⟩
        refine ws_retL (ea_any (ev_rf (v := .int z) 1 rfl) rf_mono (ea_any ev_int is_mono (ea_any (ev_rf (v := .ref g) 3 rfl) rf_mono (ea_any (ev_rf (v := al) 4 rfl) rf_mono ea_done)))) (fun G us r => ?_) (Same.refl _) k5 fun b us G6 H6 s6 k6 r => ?_
        · obtain ⟨u1, r1, rfl, e1, u2, r2, rfl, e2, u3, r3, rfl, e3, u4, r4, rfl, e4, rfl⟩ := r
          show 4 ≤ 1000000
          decide
        obtain ⟨u1, r1, rfl, e1, u2, r2, rfl, e2, u3, r3, rfl, e3, u4, r4, rfl, e4, rfl⟩ := r
        cases (show u1 = _ from e1)
        cases (show u3 = _ from e3)
        cases (show u4 = _ from e4)
        rw [Dp.int_eq e2] at k6
        exact q b g G6 _ (sg5.trans s6) (bag_pack hal k6)
      refine ws_if (k := (cmpI .Lt (ns.length : Int) 2 && cmpI .Eq (gs.length : Int) 0)) (et_of (ew_and (Ev.eq (ev_lenL T.len (ev_nm 0 rfl (hv.sm sg4))) (by rw [List.length_map]) |> fun h => et_cmp h ev_int) fun _ => ew_and1 (et_cmp (Ev.eq (ev_lenO T.len (Has.self _ _) (ev_rf 3 rfl)) (by rw [List.length_map])) ev_int))) (Same.refl _) k4 (fun _ G5 H5 s5 k5 => ?_) (fun _ G5 H5 s5 k5 => ws_nil (fin .non G5 H5 (.inl rfl) (sg4.trans s5) k5))
      have sg5 : Same G G5 := sg4.trans s5
      refine ws_setE 4 (ev_abs T.abs (ev_sum (ns := ns) T.sum rfl (Ev.dp (ev_lcD (own := [("_law_cell", 2)]) (xs := ns) (ei := .int) .int rfl sc_law_bag.nd (blkOk_by (N := n_law_bag) (sc := defScope s_law_bag) (by decide +kernel)) (ei_list (ev_nm 0 rfl (hv.sm sg5))) rfl (by omega) (tg1 2 sc_law_bag.nd) ?_)))) (Same.refl _) k5 (fun v6 G6 H6 s6 k6 h6 => ws_nil ?_) sc_law_bag.nd
      · rintro i x v σ2 G' D acc hx s4 ⟨a1, rfl⟩ s0 H0 C cl fp
        exact ev_int1 T.zint (ev_nm 2 rfl a1)
      · exact fin v6 G6 H6 (.inr ⟨_, h6.int_eq⟩) (sg5.trans s6) k6
def prePick (K : PySem.W.Frag) : Wd → Hp → List V → Rl → Prop := fun W G vs Z => ∃ b g many, Has W (bagW b g) ∧ vs = [.ref b, .int ((many : Nat) : Int)] ∧ 1 ≤ many ∧ many ≤ 1000 ∧ Z = Sm K (fun d => ∃ r : Nat, r < many ∧ d = .int r)
theorem mod_nat (x : Int) {many : Nat} (h : 1 ≤ many) : ∃ r : Nat, r < many ∧ PyData.int (x % (many : Int)) = .int r := by
  have h0 := Int.emod_nonneg x (b := (many : Int)) (by omega)
  have h1 := Int.emod_lt_of_pos x (b := (many : Int)) (by omega)
  exact ⟨(x % (many : Int)).toNat, by omega, by rw [Int.toNat_of_nonneg h0]⟩
theorem c_law_pick (A : At K mg "_law_pick" s_law_pick ["_law_bag_here", "_law_many"]) (T : Txt K mg) : C8.Cal P w K mg base 1 "_law_pick" (SpGW (prePick K)) [] := by
  refine calW_mk A sc_law_pick (fun W G vs R ⟨_, _, _, _, h, _⟩ => by rw [h]; rfl) fun f cdv A outer s H vs Q E hr W G Z k ⟨b, g, many, ⟨U, hU⟩, e, hm1, hm2, eZ⟩ q => ?_
  subst e eZ
  obtain ⟨sd, n, al, gs, hal, k1⟩ := bag_open (hU.ok k)
  have fin : ∀ (v : V) (G' H' : Hp) (sd n : Int) (gs : List Int) (x : Int), Same G G' → ((U.sep (.cell g (.lst (gs.map .int)))).sep (.cell b (.lst [.int sd, .int n, .ref g, al]))).ok G' H' → Dp K G' v (.int (x % (many : Int))) → Q v H' := fun v G' H' sd n gs x s' k' d => by
    obtain ⟨r, hr, e⟩ := mod_nat x hm1
    refine q v G' H' s' (hU.symm.ok (bag_pack hal k')) ⟨_, ⟨r, hr, rfl⟩, ?_⟩
    rw [← e]
    exact d
  have cdv0 : CDiv 5 (many : Int) := ⟨by omega, by omega⟩
  rcases hal with rfl | ⟨i0, rfl⟩
  · refine ws_ifF (et_notN (Ev.of (ev_ixO (j := 3) (ev_rf 0 rfl) (Has.self _ _) ev_int rfl) .non)) (Same.refl _) k1 fun G1 H1 s1 k2 => ?_
    refine ws_putIx (j := 1) (ev_add (Ev.of (ev_ixO (j := 1) (ev_rf 0 rfl) (Has.self _ _) ev_int rfl) (.int n)) ev_int) (fun G => ev_rf 0 rfl) (fun G => ev_int) (.refl _) (by show 1 < 4; decide) (Same.refl _) k2 (fun v3 G3 H3 s3 k3 h3 => ?_) is_mono
    rw [Dp.int_eq h3] at k3
    refine ws_setE 2 (ev_ixO (j := 2) (v := .ref g) (ev_rf 0 rfl) (Has.self _ _) ev_int rfl) (Same.refl _) k3 (fun v4 G4 H4 s4 k4 h4 => ?_) sc_law_pick.nd
    cases (show v4 = .ref g from h4)
    have sg4 : Same G G4 := (s1.trans s3).trans s4
    cases gs with
    | nil =>
      refine ws_ifF (EvT.eq (et_cmp (ev_lenO T.len ((Has.self _ _).sep _) (ev_rf 2 rfl)) ev_int) (by decide)) (Same.refl _) k4 fun G5 H5 s5 k5 => ?_
      refine ws_setE 3 (ev_mod (ev_int1 T.zint (ev_mul (ev_add (Ev.of (ev_ixO (j := 0) (ev_rf 0 rfl) (Has.self _ _) ev_int rfl) (.int sd)) (ev_mul ev_int (Ev.of (ev_ixO (j := 1) (ev_rf 0 rfl) (Has.self _ _) ev_int rfl) (.int (n + 1))) (.inl ⟨by decide, by decide⟩))) ev_int (.inr ⟨by decide, by decide⟩))) ev_int (by decide)) (Same.refl _) k5 (fun v6 G6 H6 s6 k6 h6 => ?_) sc_law_pick.nd
      have m6 : ∀ x : Int, -(2 ^ 64) < x % 2147483647 ∧ x % 2147483647 < 2 ^ 64 := fun x => by
        have h0 := Int.emod_nonneg x (b := 2147483647) (by decide)
        have h1 := Int.emod_lt_of_pos x (b := 2147483647) (by decide)
        omega
      refine ws_setE 3 (ev_mod (ev_int1 T.zint (ev_mul (ev_nm 3 rfl h6) (ev_add (ev_fdiv (ev_nm 3 rfl h6) ev_int ⟨by decide, by decide⟩) ev_int) (.inl (m6 _)))) ev_int (by decide)) (Same.refl _) k6 (fun v7 G7 H7 s7 k7 h7 => ?_) sc_law_pick.nd
      refine ws_setE 3 (ev_mod (ev_int1 T.zint (ev_mul (ev_nm 3 rfl h7) (ev_add (ev_fdiv (ev_nm 3 rfl h7) ev_int ⟨by decide, by decide⟩) ev_int) (.inl (m6 _)))) ev_int (by decide)) (Same.refl _) k7 (fun v8 G8 H8 s8 k8 h8 => ?_) sc_law_pick.nd
      exact ws_retE (ev_mod (ev_int1 T.zint (ev_fdiv (ev_nm 3 rfl h8) ev_int ⟨by decide, by decide⟩)) (ev_nm 1 rfl (.int _)) (by omega)) (Same.refl _) k8 (fun v G9 H9 s9 k9 r => fin v G9 H9 _ _ [] _ (((((sg4.trans s5).trans s6).trans s7).trans s8).trans s9) k9 r)
    | cons z0 gr =>
      refine ws_if (k := true) (EvT.eq (et_cmp (ev_lenO T.len ((Has.self _ _).sep _) (ev_rf 2 rfl)) ev_int) (by simp [cmpI])) (Same.refl _) k4 (fun _ G5 H5 s5 k5 => ?_) (fun z => nomatch z)
      refine ws_setE 4 (ev_mod (ev_int1 T.zint (Ev.of (ev_ixO (j := 0) (ev_rf 2 rfl) ((Has.self _ _).sep _) ev_int rfl) (.int z0))) (ev_nm 1 rfl (.int _)) (by omega)) (Same.refl _) k5 (fun v6 G6 H6 s6 k6 h6 => ?_) sc_law_pick.nd
      refine ws_putIx (j := 0) (ev_fdiv (ev_int1 T.zint (Ev.of (ev_ixO (j := 0) (ev_rf 2 rfl) ((Has.self _ _).sep _) ev_int rfl) (.int z0))) (ev_nm 1 rfl (.int _)) ⟨by omega, by omega⟩) (fun G => ev_rf 2 rfl) (fun G => ev_int) (Wd.Eqv.swap _ _ _) (by simp) (Same.refl _) k6 (fun v7 G7 H7 s7 k7 h7 => ?_) is_mono
      rw [Dp.int_eq h7] at k7
      have sg7 : Same G G7 := ((sg4.trans s5).trans s6).trans s7
      have h67 := Dp.sm h6 s7
      refine ws_if (EvT.eq (et_cmp (Ev.of (ev_ixO (j := 0) (ev_rf 2 rfl) (Has.self _ _) ev_int rfl) (.int (z0 / (many : Int)))) ev_int) rfl) (Same.refl _) k7 (fun _ G8 H8 s8 k8 => ?_) (fun _ G8 H8 s8 k8 => ws_nil ?_)
      · refine ws_pop0 2 rfl (.refl _) k8 (fun G9 H9 s9 k9 => ws_nil ?_)
        exact ws_retE (ev_nm 4 rfl (h67.sm (s8.trans s9))) (Same.refl _) k9 (fun v G10 H10 s10 k10 r => fin v G10 H10 sd (n + 1) gr z0 (((sg7.trans s8).trans s9).trans s10) k10.swap r)
      · exact ws_retE (ev_nm 4 rfl (h67.sm s8)) (Same.refl _) k8 (fun v G10 H10 s10 k10 r => fin v G10 H10 sd (n + 1) (z0 / (many : Int) :: gr) z0 ((sg7.trans s8).trans s10) k10.swap r)
  · refine ws_if (k := true) (et_notN (Ev.of (ev_ixO (j := 3) (ev_rf 0 rfl) (Has.self _ _) ev_int rfl) (.int i0))) (Same.refl _) k1 (fun _ G1 H1 s1 k2 => ?_) (fun z => nomatch z)
    exact ws_retE (ev_mod (ev_int1 T.zint (Ev.of (ev_ixO (j := 3) (ev_rf 0 rfl) (Has.self _ _) ev_int rfl) (.int i0))) (ev_nm 1 rfl (.int _)) (by omega)) (Same.refl _) k2 (fun v G3 H3 s3 k3 r => fin v G3 H3 _ _ _ _ (s1.trans s3) k3 r)
end
end K12
/-! K12: more rules for what is only partly known. -/
namespace K12
open PySem PySem.Spec PyProof.Rows L2
section
variable {X : Cx} {W : Wd} {e a b c : Expr} {es : List Expr} {σ : L2.St} {G G' H : Hp} {R R' : Rl} {d d' : PyData} {ds : List PyData} {v : V} {pos p p2 spos apos cpos : Pos} {x y : Str} {k : Bool}
/-- data of which P is known -/
def AllS (K : PySem.W.Frag) (P : List PyData → Prop) : Hp → List V → Prop := fun G vs => ∃ ds, P ds ∧ DpAll K G vs ds
theorem ea_S (h : EvA X W es σ G (fun G vs => DpAll X.K G vs ds)) : EvA X W es σ G (AllS X.K fun l => l = ds) := fun G1 H Q s k q => h G1 H _ s k fun vs G2 H2 s2 k2 r => q vs G2 H2 s2 k2 ⟨ds, rfl, r⟩
theorem ea_consS {P P' : List PyData → Prop} {P1 : PyData → Prop} (h : Ev X W e σ G (Sm X.K P1)) (hr : EvA X W es σ G (AllS X.K P)) (f : ∀ d l, P1 d → P l → P' (d :: l)) (hs : Pl X e es := by rfl) : EvA X W (e :: es) σ G (AllS X.K P') :=
  fun G1 H Q s k q => useA (pa_cons (pE e) (pA es) hs) <| h G1 H _ s k fun x G2 H2 s2 k2 r => hr G2 H2 _ (s.trans s2) k2 fun xs G3 H3 s3 k3 rr => by
    obtain ⟨d, p, dd⟩ := r
    obtain ⟨l, pl, dl⟩ := rr
    exact q _ G3 H3 (s2.trans s3) k3 ⟨d :: l, f d l p pl, .cons (dd.sm s3) dl⟩
theorem ev_tupP {k1 : Nat} {P : List PyData → Prop} {P' : PyData → Prop} (h : EvA X W es σ G (AllS X.K P)) (hl : ∀ l, P l → l.length ≤ 1000) (f : ∀ l, P l → P' (.tuple l)) : Ev X W (.Tuple es k1 pos) σ G (Sm X.K P') := fun G1 H Q s k q => useE (pe_tup (pA es)) <|
  h G1 H _ s k fun vs G2 H2 s2 k2 r => by
    obtain ⟨l, pl, dl⟩ := r
    exact ⟨by rw [DpAll.length dl]; exact Nat.le_of_lt (small1000 (hl l pl)), fun p hp => q _ _ _ (s2.trans (same_new (k2.free hp))) (k2.new hp) ⟨_, f l pl, .tup (SqT.of upd_same) (DpAll.sm dl (same_new (k2.free hp)))⟩⟩
/-- tuple of a list of which P is known -/
theorem ev_tupleP {P : List PyData → Prop} {P' : PyData → Prop} (hm : X.mg "tuple" = none) (h : Ev X W e σ G (LtS X.K P)) (f : ∀ l, P l → P' (.tuple l)) (hg : Gl X "tuple" := by rfl) (he : Pl X e [] := by rfl) : Ev X W (.Call (.Name "tuple" p) [e] [] pos) σ G (Sm X.K P') := fun G1 H Q s k1 q =>
  useE (pe_callTy call_tuple_of hg hm boot_tupleT (pa_cons (pE e) pa_nil he) (he := he)) <| h G1 H _ s k1 fun v G2 H2 s2 k2 r => by
    obtain ⟨ds, pd, h1⟩ := r
    obtain ⟨a, xs, rfl, t, l⟩ := h1.dp.lst_inv
    exact ⟨a, xs, rfl, .inl ⟨sqL_same k2.same t, fun p hp => q _ _ _ (s2.trans (same_new (k2.free hp))) (k2.new hp) ⟨_, f _ pd, .tup (SqT.of upd_same) (l.sm (same_new (k2.free hp)))⟩⟩⟩
/-! ### a walk of which the items are partly known -/
def EvIS (X : Cx) (W : Wd) (tg iter : Expr) (σ : L2.St) (G : Hp) (PI : List PyData → Prop) : Prop := ∀ (G1 H : Hp) (R : It → Hp → Prop), Same G G1 → W.ok G1 H → (∀ J items G' H', PI items → Same G1 G' → W.ok G' H' → ItD X.K J G' items → R J H') → wI X tg iter σ H R
theorem ei_rangeS {tg : Expr} {P : Nat → Prop} (hm : X.mg "range" = none) (h : Ev X W e σ G (Sm X.K fun d => ∃ r : Nat, P r ∧ d = .int r)) (hn : ∀ r, P r → r < 2 ^ 62) (hg : Gl X "range" := by rfl) (hs : starEach [e] X.env = [(false, eval e X.env)] := by rfl) : EvIS X W tg (.Call (.Name "range" p) [e] [] pos) σ G (fun l => ∃ r, P r ∧ l = ints0 r) := fun G1 H R s k q =>
  useI (pi_range1 hg hm (pa_cons (pE e) pa_nil hs) hs) <| h G1 H _ s k fun v G2 H2 s2 k2 r => by
    obtain ⟨d, ⟨n, pn, rfl⟩, hd⟩ := r
    rw [hd.int_eq]
    refine ⟨n, rfl, ?_, ?_, ?_⟩
    · have h0 : (0 : Int) ≤ 2 ^ 62 := by decide
      omega
    · have h1 : ((n : Nat) : Int) < ((2 ^ 62 : Nat) : Int) := by exact_mod_cast hn n pn
      have e : ((2 ^ 62 : Nat) : Int) = 2 ^ 62 := by decide
      omega
    · rw [Int.toNat_natCast]
      exact q _ _ G2 H2 ⟨n, pn, rfl⟩ s2 k2 itr_d
theorem pd_all {α β : Type} {F : β → Prop} : ∀ {as : List α} {bs : List β}, Paired (fun _ b => F b) as bs → ∀ b ∈ bs, F b
  | _, _, .nil, _, h => nomatch h
  | _, _, .cons a t, b, h => by
    rcases List.mem_cons.mp h with rfl | h
    · exact a
    · exact pd_all t b h
/-- [elt for x in range(r)], r not known, elt the same for all -/
theorem ev_lcN {elt iter : Expr} {scope : Scope} {own : List (Str × Nat)} {P : Nat → Prop} {Pe : PyData → Prop} {tp : Pos} (i : Nat) (hc : X.calm = true) (hN : X.N.Nodup) (ok : BlkOk X.N X.env.scope scope own) (hi : EvIS X W (.Name x tp) iter σ G (fun l => ∃ r, P r ∧ l = ints0 r)) (hn : ∀ r, P r → r ≤ 1000000)
    (T : ∀ items, TgOk X scope (.Name x tp) σ own G items (B1 X.K σ (own.map (·.2)) i))
    (he : ∀ v σ2 G' D acc, Same G G' → σ2 = (wipe σ (own.map (·.2))).set i (some v) → ∀ s0 H0 C cl fp, Ev (bX X scope s0 H0 C cl fp) (W.sep (.cell D (.lst acc))) elt σ2 G' (Sm X.K Pe)) (hs : ∀ x, foldedSetIterable iter X.env x = pure x := by intro _; rfl) :
    Ev X W (.ListComp elt [⟨.Name x tp, iter, [], 0⟩] scope pos) σ G (LtS X.K fun es => P es.length ∧ ∀ e ∈ es, Pe e) :=
  fun G1 H Q s k1 q =>
    useE (pe_lc hc hN (pI (.Name x tp) iter) ok (fun s H C cl fp => pbG s H C cl fp) (fun _ _ _ _ _ => pts_nil) (fun s H C cl fp => pbE s H C cl fp) hs) <| hi G1 H _ s k1 fun J items G2 H2 ⟨r, hr, e⟩ s2 k2 hJ D hD => by
      subst e
      refine lc_heart (t := fun _ => true) (xs := List.range r) (ei := fun i : Nat => .int (i : Int)) (P := fun _ e => Pe e) (B := B1 X.K σ (own.map (·.2)) i) hJ (by rw [List.length_range]; exact hn r hr) k2 hD (fun i d v G' H' Q h1 h2 h3 h4 h5 s0 H0 C cl fp => (T (ints0 r)).hg i d v G' H' Q h1 ((s.trans s2).trans h2) h3 h4 h5 s0 H0 C cl fp) (T (ints0 r)).hw
        (fun i d v σ2 G' H' acc Q h1 h2 h3 h4 h5 => h5 G' H' (Same.refl _) h3) (fun i d v σ2 G' H' acc Q h1 h2 h3 h4 h5 h6 s0 H0 C cl fp => he v σ2 G' D acc ((s.trans s2).trans h3) h5.2 s0 H0 C cl fp G' H' Q (Same.refl _) h4 h6) (T (ints0 r)).mono
        (fun es G' H' s3 k3 pr dp => q _ G' H' (s2.trans s3) k3 ⟨es, ⟨?_, pd_all pr⟩, dp⟩)
      rw [← pd_len pr, List.filter_eq_self.mpr (fun _ _ => rfl), List.length_range]
      exact hr
theorem ws_setLcN {rest : List Stmt} {D0 : Ends} {elt iter : Expr} {scope : Scope} {own : List (Str × Nat)} {P : Nat → Prop} {Pe : PyData → Prop} {tp py : Pos} (j i : Nat) (hc : X.calm = true) (hN : X.N.Nodup) (ok : BlkOk X.N X.env.scope scope own) (hi : EvIS X W (.Name x tp) iter σ G (fun l => ∃ r, P r ∧ l = ints0 r)) (hn : ∀ r, P r → r ≤ 1000000)
    (T : ∀ items, TgOk X scope (.Name x tp) σ own G items (B1 X.K σ (own.map (·.2)) i))
    (he : ∀ v σ2 G' D acc, Same G G' → σ2 = (wipe σ (own.map (·.2))).set i (some v) → ∀ s0 H0 C cl fp, Ev (bX X scope s0 H0 C cl fp) (W.sep (.cell D (.lst acc))) elt σ2 G' (Sm X.K Pe)) {G1 : Hp} (s : Same G G1) (k1 : W.ok G1 H)
    (q : ∀ v es G' H', Same G1 G' → W.ok G' H' → P es.length → (∀ e ∈ es, Pe e) → Lt X.K es G' v → wSs X rest D0 (σ.set j (some v)) H')
    (hy : X.N[j]? = some y := by rfl) (hyl : X.env.scope.names.lookup y = some .local := by rfl) (hsw : swapsWith (.ListComp elt [⟨.Name x tp, iter, [], 0⟩] scope pos) (some (.Name y py)) spos.line X.env = pure true := by exact sw_true rfl rfl rfl (by decide +kernel)) (hs : ∀ x, foldedSetIterable iter X.env x = pure x := by intro _; rfl) :
    wSs X (.Assign [.Name y py] (.ListComp elt [⟨.Name x tp, iter, [], 0⟩] scope pos) spos :: rest) D0 σ H :=
  useSs (pss_cons (ps_setLc hc hN hy hyl hsw (pI (.Name x tp) iter) ok (fun s H C cl fp => pbG s H C cl fp) (fun _ _ _ _ _ => pts_nil) (fun s H C cl fp => pbE s H C cl fp) hs) (pSs rest)) <| hi G1 H _ s k1 fun J items G2 H2 ⟨r, hr, e⟩ s2 k2 hJ D hD => by
      subst e
      refine lc_heart (t := fun _ => true) (xs := List.range r) (ei := fun i : Nat => .int (i : Int)) (P := fun _ e => Pe e) (B := B1 X.K σ (own.map (·.2)) i) (Q := fun v H' => wSs X rest D0 (σ.set j (some v)) H') hJ (by rw [List.length_range]; exact hn r hr) k2 hD (fun i d v G' H' Q h1 h2 h3 h4 h5 s0 H0 C cl fp => (T (ints0 r)).hg i d v G' H' Q h1 ((s.trans s2).trans h2) h3 h4 h5 s0 H0 C cl fp) (T (ints0 r)).hw
        (fun i d v σ2 G' H' acc Q h1 h2 h3 h4 h5 => h5 G' H' (Same.refl _) h3) (fun i d v σ2 G' H' acc Q h1 h2 h3 h4 h5 h6 s0 H0 C cl fp => he v σ2 G' D acc ((s.trans s2).trans h3) h5.2 s0 H0 C cl fp G' H' Q (Same.refl _) h4 h6) (T (ints0 r)).mono
        (fun es G' H' s3 k3 pr dp => q _ es G' H' (s2.trans s3) k3 ?_ (pd_all pr) dp)
      rw [← pd_len pr, List.filter_eq_self.mpr (fun _ _ => rfl), List.length_range]
      exact hr
/-- a comprehension whose list is ours, as a value -/
theorem we_lcO {α : Type} {elt tg iter : Expr} {scope : Scope} {own : List (Str × Nat)} {items : List PyData} {xs : List α} {ei : α → PyData} {P : α → PyData → Prop} {B : Bnd} (hc : X.calm = true) (hN : X.N.Nodup) (ok : BlkOk X.N X.env.scope scope own) (hi : EvI X W tg iter σ G items) (hx : items = xs.map ei) (hn : xs.length ≤ 1000000)
    (T : TgOk X scope tg σ own G items B)
    (he : ∀ (i : Nat) x v σ2 G' D acc, xs[i]? = some x → Same G G' → B G' v (ei x) σ2 → ∀ s0 H0 C cl fp, Ev (bX X scope s0 H0 C cl fp) (W.sep (.cell D (.lst acc))) elt σ2 G' (Sm X.K (P x)))
    {G1 : Hp} {Q : VK} (s : Same G G1) (k1 : W.ok G1 H) (q : ∀ l vs es G' H', Same G1 G' → (W.sep (.cell l (.lst vs))).ok G' H' → Paired P xs es → DpAll X.K G' vs es → Q (.ref l) H') (hs : ∀ x, foldedSetIterable iter X.env x = pure x := by intro _; rfl) :
    wE X (.ListComp elt [⟨tg, iter, [], 0⟩] scope pos) σ H Q := by
  subst hx
  exact useE (pe_lc hc hN (pI tg iter) ok (fun s H C cl fp => pbG s H C cl fp) (fun _ _ _ _ _ => pts_nil) (fun s H C cl fp => pbE s H C cl fp) hs) <| hi G1 H _ s k1 fun J G2 H2 s2 k2 hJ D hD => by
      refine lc_heartO (t := fun _ => true) (P := P) (B := B) hJ hn k2 hD (fun i d v G' H' Q h1 h2 h3 h4 h5 s0 H0 C cl fp => T.hg i d v G' H' Q h1 ((s.trans s2).trans h2) h3 h4 h5 s0 H0 C cl fp) T.hw
        (fun i d v σ2 G' H' acc Q h1 h2 h3 h4 h5 => h5 G' H' (Same.refl _) h3) (fun i d v σ2 G' H' acc Q h1 h2 h3 h4 h5 h6 s0 H0 C cl fp => he i d v σ2 G' D acc h1 ((s.trans s2).trans h3) h5 s0 H0 C cl fp G' H' Q (Same.refl _) h4 h6) T.mono
        (fun es acc G' H' s3 k3 pr dp => q D acc es G' H' (s2.trans s3) k3 ?_ dp)
      rw [List.filter_eq_self.mpr (fun _ _ => rfl)] at pr
      exact pr
/-! ### the counter -/
theorem ev_cnt {l : Addr} (ha : Ev X W a σ G (Rf (.ref l))) (hw : Has W (cntW l)) (hb : Ev X W b σ G (Is X.K (.int 0))) (hp : PlainIx b := by intro _ _; rfl) : Ev X W (.Subscript a b pos) σ G (Sm X.K fun d => ∃ i : Int, d = .int i) :=
  ev_bin (t := fun _ _ _ => True) (pe_ix ix_list (pE a) (pE b) hp) ha hb rf_mono fun x y G1 H Q s k h1 h2 q => by
    cases (show x = .ref l from h1)
    obtain ⟨i, hi⟩ : ∃ i : Int, H l = some (.lst [.int i]) := hw.j k
    exact ⟨l, [.int i], 0, .int i, rfl, h2.int_eq, SqL.of hi, rfl, q _ G1 H (Same.refl _) k ⟨_, ⟨i, rfl⟩, .int i⟩⟩
theorem eu_cmpI {op : CmpOp} {P : PyData → Prop} (hP : ∀ d, P d → ∃ i : Int, d = .int i) {j : Int} (ha : Ev X W a σ G (Sm X.K P)) (hb : Ev X W b σ G (Is X.K (.int j))) (h : isCmp op = true := by rfl) : EvU X W (.Compare a [op] [b] pos) σ G := fun G1 H Q s k1 q => useT (pt_cmpR (op_cmpI h) (pE a) (pE b) (cmp_mark h b)) <|
  ha G1 H _ s k1 fun x G2 H2 s2 k2 r1 => hb G2 H2 _ (s.trans s2) k2 fun y G3 H3 s3 k3 r2 => by
    obtain ⟨d, pd, h1⟩ := r1
    obtain ⟨i, rfl⟩ := hP d pd
    exact ⟨i, j, h1.int_eq, Dp.int_eq r2, _, rfl, q _ G3 H3 (s2.trans s3) k3⟩
theorem ws_cntSub {rest : List Stmt} {D : Ends} {G1 : Hp} {o ix : Expr} {l : Addr} {c : Int} (hw : Has W (cntW l)) (ho : ∀ W, Ev X W o σ G (Rf (.ref l))) (hi : ∀ W, Ev X W ix σ G (Is X.K (.int 0))) (he : ∀ W, Ev X W e σ G (Is X.K (.int c))) (s : Same G G1) (k1 : W.ok G1 H)
    (q : ∀ G' H', Same G1 G' → W.ok G' H' → wSs X rest D σ H')
    (ha : ∀ ov iv new, augStore ix ov iv new = (do holding [new, ov, iv] (setItem ov iv new); release [new, ov, iv] []; pure .next) := by intros; rfl) : wSs X (.AugAssign (.Subscript o ix p) .Sub e spos :: rest) D σ H := by
  obtain ⟨U, hU⟩ := hw
  obtain ⟨i, k2⟩ := cnt_open (hU.ok k1)
  exact ws_augIx (j := 0) ip_sub (ho _) (hi _) (he _) (.refl _) rfl s k2 (fun G' H' s' k' => q G' H' s' (hU.symm.ok (cnt_pack k'))) ha
theorem eu_or {r : List Expr} {m : Bool} (h : EvT X W e σ G m) (hr : EvUW X W (.BoolOp .Or (a :: r) pos) σ G) : EvUW X W (.BoolOp .Or (e :: a :: r) pos) σ G := fun G1 H Q s k1 q => useW (pw_or (pT e) (pW _)) <|
  h G1 H _ s k1 fun G2 H2 s2 k2 => by
    cases m with
    | true => exact iteT (q true G2 H2 s2 k2)
    | false => exact iteF (hr G2 H2 _ (s.trans s2) k2 fun b G3 H3 s3 k3 => q b G3 H3 (s2.trans s3) k3)
theorem eu_or1 (h : EvU X W e σ G) : EvUW X W (.BoolOp .Or [e] pos) σ G := fun G1 H Q s k1 q => useW (pw_or1 (pT e)) <| h G1 H _ s k1 q
/-! ### a new counter as the last argument -/
def EvAo (X : Cx) (W : Wd) (es : List Expr) (σ : L2.St) (G : Hp) (R : Hp → List V → Addr → Prop) : Prop := ∀ (G1 H : Hp) (Q : List V → Hp → Prop), Same G G1 → W.ok G1 H → (∀ vs l G' H', Same G1 G' → (W.sep (cntW l)).ok G' H' → R G' vs l → Q vs H') → wA X es σ H Q
theorem eao_list {i : Int} (h : Ev X W e σ G (Is X.K (.int i))) (he : Pl X e [] := by rfl) (hs : Pl X (.List [e] pos) [] := by rfl) : EvAo X W [.List [e] pos] σ G (fun _ vs l => vs = [.ref l]) := fun G1 H Q s k q =>
  useA (pa_cons (pE _) pa_nil hs) <| ev_own (ea1 h he) (by show 1 ≤ 1000; decide) s k fun l vs G2 H2 s2 k2 r => by
    obtain ⟨v, rfl, hv⟩ := dpAll_one r
    rw [hv.int_eq] at k2
    exact q _ l G2 H2 s2 (cnt_pack k2) rfl
theorem eao_cons {Rs : Hp → List V → Addr → Prop} (h : Ev X W e σ G R) (m : ∀ G G' v, Same G G' → R G v → R G' v) (hr : EvAo X W es σ G Rs) (hs : Pl X e es := by rfl) : EvAo X W (e :: es) σ G (fun G vs l => ∃ v r, vs = v :: r ∧ R G v ∧ Rs G r l) :=
  fun G1 H Q s k q => useA (pa_cons (pE e) (pA es) hs) <| h G1 H _ s k fun x G2 H2 s2 k2 r => hr G2 H2 _ (s.trans s2) k2 fun xs l G3 H3 s3 k3 rr => q _ l G3 H3 (s2.trans s3) k3 ⟨x, xs, rfl, m _ _ _ s3 r, rr⟩
theorem ev_callWo {j l : Nat} {pre : Wd → Hp → List V → Rl → Prop} {Rs : Hp → List V → Addr → Prop} (c : C8.Cal X.prog X.w X.K X.mg X.base l x (SpGW pre) []) (hr : Room j X.A) (hk : l ≤ j) (ha : EvAo X W (e :: es) σ G Rs) (hd : ∀ G' vs l, Same G G' → Rs G' vs l → pre (W.sep (cntW l)) G' vs R) (hg : Gl X x := by rfl)
    (hdb : (x == ("__debug__" : Str)) = false := by decide) (he : starEach (e :: es) X.env = (false, eval e X.env) :: starEach es X.env := by rfl) (hpl : (backTo pos (starEach es X.env)).any (·.1) = false := by rfl) :
    Ev X W (.Call (.Name x p) (e :: es) [] pos) σ G R := fun G1 H Q s k1 q => useE (C8.pe_c c hr hk hg (pA _) hdb he hpl) <|
  ha G1 H _ s k1 fun vs l G2 H2 s2 k2 r => ⟨W.sep (cntW l), G2, R, k2, by rw [List.append_nil]; exact hd G2 vs l (s.trans s2) r, fun v G3 H3 s3 k3 r3 => q v G3 H3 (s2.trans s3) k3.left r3⟩
/-- x, y = a, [b] -/
theorem ws_parO {rest : List Stmt} {D : Ends} {G1 : Hp} {px py pt : Pos} {kt k2 : Nat} {pt2 lp : Pos} {i0 : Int} (i j : Nat) (ha : Ev X W a σ G (Is X.K d)) (hb : Ev X W b σ G (Is X.K (.int i0))) (s : Same G G1) (k1 : W.ok G1 H)
    (q : ∀ v1 l G' H', Same G1 G' → (W.sep (cntW l)).ok G' H' → Dp X.K G' v1 d → wSs X rest D ((σ.set i (some v1)).set j (some (.ref l))) H')
    (hc : X.calm = true) (hN : X.N.Nodup) (hi : X.N[i]? = some x := by rfl) (hj : X.N[j]? = some y := by rfl) (hij : i ≠ j := by decide) (hx : X.env.scope.names.lookup x = some .local := by rfl) (hy : X.env.scope.names.lookup y = some .local := by rfl)
    (hw : swappedStores [.Tuple [.Name x px, .Name y py] kt pt] (.Tuple [a, .List [b] lp] k2 pt2) X.env = pure (some [x, y]) := by rfl)
    (hs : swapsWithSole [.Tuple [.Name x px, .Name y py] kt pt] (.Tuple [a, .List [b] lp] k2 pt2) spos.line X.env = pure false := by rfl) (he : Pl X a [.List [b] lp] := by rfl) (he2 : Pl X (.List [b] lp) [] := by rfl) (he3 : Pl X b [] := by rfl) :
    wSs X (.Assign [.Tuple [.Name x px, .Name y py] kt pt] (.Tuple [a, .List [b] lp] k2 pt2) spos :: rest) D σ H :=
  useSs (pss_cons (ps_par hc hN hi hj hij hx hy (pA [a, .List [b] lp]) hw hs) (pSs rest)) <| (eao_cons ha is_mono (eao_list hb he3 he2) he) G1 H _ s k1 fun vs l G2 H2 s2 k2 r => by
    obtain ⟨v, r, rfl, h1, rfl⟩ := r
    exact ⟨v, .ref l, rfl, q v l G2 H2 s2 k2 h1⟩
/-- x, y = a, [b], x and y seen by an inner block: by a pair -/
theorem ws_parT {rest : List Stmt} {D : Ends} {G1 : Hp} {px py pt : Pos} {kt k2 : Nat} {pt2 lp : Pos} {i0 : Int} (i j : Nat) (ha : Ev X W a σ G (Is X.K d)) (hb : Ev X W b σ G (Is X.K (.int i0))) (s : Same G G1) (k1 : W.ok G1 H)
    (q : ∀ v1 l G' H', Same G1 G' → (W.sep (cntW l)).ok G' H' → Dp X.K G' v1 d → wSs X rest D ((σ.set i (some v1)).set j (some (.ref l))) H')
    (hc : X.calm = true) (hN : X.N.Nodup) (hi : X.N[i]? = some x := by rfl) (hj : X.N[j]? = some y := by rfl) (hx : Loc X.env.scope x := by first | exact Or.inl rfl | exact Or.inr rfl) (hy : Loc X.env.scope y := by first | exact Or.inl rfl | exact Or.inr rfl)
    (hf : X.fn x = true ∨ X.env.scope.names.lookup x = some .local := by first | exact .inl rfl | exact .inr rfl) (hf2 : X.fn y = true ∨ X.env.scope.names.lookup y = some .local := by first | exact .inl rfl | exact .inr rfl)
    (hw : swappedStores [.Tuple [.Name x px, .Name y py] kt pt] (.Tuple [a, .List [b] lp] k2 pt2) X.env = pure none := by rfl)
    (hs : swapsWithSole [.Tuple [.Name x px, .Name y py] kt pt] (.Tuple [a, .List [b] lp] k2 pt2) spos.line X.env = pure false := by rfl)
    (h1 : (assignEach [.Tuple [.Name x px, .Name y py] kt pt] X.env).map (·.2) = [assign (.Tuple [.Name x px, .Name y py] kt pt) X.env] := by rfl)
    (hn : (assignEach [.Name x px, .Name y py] X.env).length = 2 := by rfl) (hst : (assignEach [.Name x px, .Name y py] X.env).findIdx? (·.1) = none := by rfl)
    (he : Pl X a [.List [b] lp] := by rfl) (he2 : Pl X (.List [b] lp) [] := by rfl) (he3 : Pl X b [] := by rfl)
    (hs1 : (assignEach [.Name x px, .Name y py] X.env).map (·.2) = assign (.Name x px) X.env :: (assignEach [.Name y py] X.env).map (·.2) := by rfl) (hs2 : (assignEach [.Name y py] X.env).map (·.2) = assign (.Name y py) X.env :: (assignEach [] X.env).map (·.2) := by rfl) :
    wSs X (.Assign [.Tuple [.Name x px, .Name y py] kt pt] (.Tuple [a, .List [b] lp] k2 pt2) spos :: rest) D σ H :=
  useSs (pss_cons (ps_asg (pe_tup (pA [a, .List [b] lp])) (pg_tup hc (pGs [.Name x px, .Name y py]) hn hst) hs hw h1) (pSs rest)) <| (eao_cons ha is_mono (eao_list hb he3 he2) he) G1 H _ s k1 fun vs l G2 H2 s2 k2 r => by
    obtain ⟨v, r, rfl, h1, rfl⟩ := r
    refine ⟨by show 2 ≤ sizeLine; decide, fun p hp => ⟨p, _, rfl, SqT.of upd_same, rfl, ?_⟩⟩
    exact wgs_cons (wg_nm i (wgs_cons (wg_nm j (wgs_nil (q v l _ _ (s2.trans (same_new (k2.free hp))) (k2.new hp) (Dp.sm h1 (same_new (k2.free hp))))) hN hj hy hf2) hs2) hN hi hx hf) hs1
/-- xs[?] += c, the place not known: each place may be it -/
theorem ws_augIxS {rest : List Stmt} {D : Ends} {G1 : Hp} {W0 : Wd} {o ix : Expr} {ns : List Int} {n : Nat} {c : Int} {l : Addr} (ho : Ev X W o σ G (Rf (.ref l))) (hi : Ev X W ix σ G (Sm X.K fun d => ∃ r : Nat, r < n ∧ d = .int r)) (he : Ev X W e σ G (Is X.K (.int c))) (hw : W.Eqv (W0.sep (.cell l (.lst (ns.map .int))))) (hl : ns.length = n) (s : Same G G1) (k1 : W.ok G1 H)
    (q : ∀ j i0 G' H', ns[j]? = some i0 → Same G1 G' → (W0.sep (.cell l (.lst ((ns.set j (i0 + c)).map .int)))).ok G' H' → wSs X rest D σ H')
    (ha : ∀ ov iv new, augStore ix ov iv new = (do holding [new, ov, iv] (setItem ov iv new); release [new, ov, iv] []; pure .next) := by intros; rfl) :
    wSs X (.AugAssign (.Subscript o ix p) .Add e spos :: rest) D σ H :=
  useSs (pss_cons (ps_augS (pE o) (pE ix) get_listG (pE e) ip_add set_list ha) (pSs rest)) <| ho G1 H _ s k1 fun u G2 H2 s2 k2 r2 => hi G2 H2 _ (s.trans s2) k2 fun w G3 H3 s3 k3 r3 => by
    cases (show u = .ref l from r2)
    obtain ⟨d, ⟨j, hj, rfl⟩, hd⟩ := r3
    have e3 := hd.int_eq
    subst e3
    have hj' : ns[j]? = some ns[j] := List.getElem?_eq_getElem (by omega)
    have hjv : (ns.map V.int)[j]? = some (.int ns[j]) := by rw [List.getElem?_map, hj']; rfl
    refine ⟨l, ns.map .int, j, .int ns[j], rfl, rfl, (hw.ok k3).cellAt, hjv, he G3 H3 _ ((s.trans s2).trans s3) k3 fun y G4 H4 s4 k4 r4 => ?_⟩
    refine ⟨ns[j], c, rfl, Dp.int_eq r4, l, ns.map .int, j, j, rfl, rfl, (hw.ok k4).cellAt, ixN_nt (by rw [List.length_map]; omega), q j ns[j] G4 _ hj' ((s2.trans s3).trans s4) ?_⟩
    rw [List.map_set]
    exact (hw.ok k4).put
end
end K12
/-! M4: shares, words, generated questions. -/
namespace K12
open PySem
/-- what the bottom of a share divides -/
def BB : Nat := 360360
def MM : Nat := BB ^ 5
theorem bb_dvd : ∀ S : Nat, S ≤ 13 → 1 ≤ S → S ∣ BB := by
  intro S h1 h2
  have : ∀ S : Fin 14, 1 ≤ S.val → BB % S.val = 0 := by decide
  exact Nat.dvd_of_mod_eq_zero (this ⟨S, by omega⟩ h2)
theorem bb_pos : 0 < BB := by decide
theorem bbp_pos (j : Nat) : 0 < BB ^ j := Nat.pow_pos bb_pos
theorem Rg.up {D D' : Nat} {x : Rat} (h : Rg D x) (hd : D ∣ D') : Rg D' x := ⟨h.1, h.2.1, Nat.dvd_trans h.2.2 hd⟩
theorem bbp_dvd {i j : Nat} (h : i ≤ j) : BB ^ i ∣ BB ^ j := Nat.pow_dvd_pow BB h
theorem bot_mm : Bot MM := by
  unfold Bot MM BB
  decide
theorem bot_bbmm : Bot (BB * MM) := by
  unfold Bot MM BB
  decide
theorem bot_bb : Bot BB := by
  unfold Bot BB
  decide
theorem mk_add (a b S : Nat) (h : 0 < S) : mkRat (a : Int) S + mkRat (b : Int) S = mkRat ((a + b : Nat) : Int) S := by
  rw [Rat.mkRat_add_mkRat _ _ (by omega) (by omega), ← Int.add_mul, Rat.mkRat_mul_right (by omega), Int.natCast_add]
theorem sum_mk (S : Nat) (h : 0 < S) : ∀ l : List Nat, sumR (l.map fun n : Nat => mkRat (n : Int) S) = mkRat (l.sum : Nat) S
  | [] => by
    show (0 : Rat) = mkRat ((0 : Nat) : Int) S
    rw [show ((0 : Nat) : Int) = 0 from rfl, Rat.zero_mkRat]
  | a :: r => by
    show mkRat (a : Int) S + sumR _ = _
    rw [sum_mk S h r, mk_add _ _ _ h, List.sum_cons]
theorem mk_self (S : Nat) (h : 0 < S) : mkRat (S : Int) S = 1 := by
  have := Rat.mkRat_mul_right (n := 1) (d := 1) (a := S) (by omega)
  rw [Int.one_mul, Nat.one_mul] at this
  rw [this]
  rfl
theorem mk_nn (a S : Nat) : 0 ≤ mkRat (a : Int) S := by
  apply Rat.num_nonneg.mp
  rw [Rat.num_mkRat]
  split
  · exact Int.le_refl 0
  · exact Int.ediv_nonneg (Int.natCast_nonneg _) (Int.natCast_nonneg _)
theorem mk_rg {a S : Nat} (h : 0 < S) (ha : a ≤ S) (hS : S ∣ BB) : Rg BB (mkRat (a : Int) S) := by
  have h0 : 0 ≤ mkRat (a : Int) S := mk_nn a S
  refine ⟨h0, ?_, ?_⟩
  · have e : mkRat (a : Int) S + mkRat ((S - a : Nat) : Int) S = 1 := by rw [mk_add _ _ _ h, show a + (S - a) = S by omega, mk_self S h]
    have h1 : 0 ≤ mkRat ((S - a : Nat) : Int) S := mk_nn _ S
    grind
  · exact Nat.dvd_trans ((over_iff h _).mpr ⟨a, rfl⟩) hS
theorem mk_posR {a S : Nat} (h : 0 < S) (ha : 0 < a) : 0 < mkRat (a : Int) S := by
  have h0 : 0 ≤ mkRat (a : Int) S := mk_nn a S
  have hne : mkRat (a : Int) S ≠ 0 := fun e => by
    have := (Rat.mkRat_eq_zero (n := (a : Int)) (d := S) (by omega)).mp e
    omega
  grind
/-- right shares: many of them, each at least least parts -/
def ShareOk (many least : Nat) (qs : List Rat) : Prop := qs.length = many ∧ (∀ q ∈ qs, Rg BB q ∧ (least = 1 → 0 < q)) ∧ sumR qs = 1
theorem share_of {many least S : Nat} {ns : List Nat} (hl : ns.length = many) (hS : ns.sum = S) (h1 : 1 ≤ S) (h2 : S ≤ 13) (h3 : ∀ n ∈ ns, least ≤ n) : ShareOk many least (ns.map fun n : Nat => mkRat (n : Int) S) := by
  refine ⟨by rw [List.length_map, hl], fun q hq => ?_, by rw [sum_mk S (by omega), hS, mk_self S (by omega)]⟩
  obtain ⟨n, hn, rfl⟩ := List.mem_map.mp hq
  have hle : n ≤ ns.sum := by
    clear hl hS h3 hq
    induction ns with
    | nil => cases hn
    | cons a r ih =>
      rw [List.sum_cons]
      rcases List.mem_cons.mp hn with rfl | h
      · omega
      · have := ih h; omega
  exact ⟨mk_rg (by omega) (by omega) (bb_dvd S h2 h1), fun e => mk_posR (by omega) (by have := h3 n hn; omega)⟩
theorem sum_set : ∀ (ns : List Nat) (j : Nat) (x : Nat), ns[j]? = some x → (ns.set j (x + 1)).sum = ns.sum + 1
  | [], _, _, h => by simp at h
  | a :: r, 0, x, h => by
    simp at h
    subst h
    rw [List.set_cons_zero, List.sum_cons, List.sum_cons]
    omega
  | a :: r, j + 1, x, h => by
    simp at h
    rw [List.set_cons_succ, List.sum_cons, List.sum_cons, sum_set r j x h]
    omega
theorem sum_bound (b : Nat) : ∀ ns : List Nat, (∀ n ∈ ns, n ≤ b) → ns.sum ≤ b * ns.length
  | [], _ => Nat.zero_le _
  | a :: r, h => by
    have h1 := h a List.mem_cons_self
    have h2 := sum_bound b r fun n hn => h n (List.mem_cons_of_mem _ hn)
    rw [List.sum_cons, List.length_cons, Nat.mul_succ]
    omega
/-! ### sums of columns -/
theorem sumR_mul (c : Rat) : ∀ l : List Rat, sumR (l.map fun q => c * q) = c * sumR l
  | [] => by
    show (0 : Rat) = c * 0
    rw [Rat.mul_zero]
  | a :: r => by
    show c * a + sumR _ = c * (a + sumR r)
    rw [sumR_mul c r, Rat.mul_add]
theorem at0_get {ws : List Rat} {k : Nat} (h : k < ws.length) : at0 ws k = ws[k] := by
  unfold at0
  rw [List.getD_eq_getElem?_getD, List.getElem?_eq_getElem h]
  rfl
theorem at0_map {α : Type} (f : Nat → Rat) {W k : Nat} (h : k < W) : at0 ((List.range W).map f) k = f k := by
  rw [at0_get (by rw [List.length_map, List.length_range]; exact h)]
  rw [List.getElem_map, List.getElem_range]
theorem range_at0 {ws : List Rat} {W : Nat} (h : ws.length = W) : (List.range W).map (at0 ws) = ws := by
  apply List.ext_getElem
  · rw [List.length_map, List.length_range, h]
  · intro i h1 h2
    rw [List.getElem_map, List.getElem_range, at0_get h2]
/-- the weights of the k-th answer -/
def rowW (W : Nat) (ah : List Rat) (rws : List (List Rat)) (j : Nat) : List Rat := (List.range W).map fun k => at0 ah k * at0 (rws.getD k []) j
/-- the answers so far -/
structure AnAt (W m n : Nat) (ah : List Rat) (rws : List (List Rat)) (j : Nat) (a : An) : Prop where
  word : ∃ t : List Int, a.1 = (11 * (j : Int)) :: t ∧ t.length ≤ 7 ∧ ∀ x ∈ t, 0 ≤ x ∧ x ≤ 99
  ws : a.2.1 = rowW W ah rws j
  node : Val 3 W MM n a.2.1 a.2.2
theorem lexLt_head {a b : Int} {x y : List Int} (h : a < b) : HT.lexLt (a :: x) (b :: y) = true := by
  rw [HT.lexLt_cons, if_neg (by omega)]
  exact decide_eq_true h
theorem rising_of : ∀ (as : List An) (j0 : Nat), (∀ i a, as[i]? = some a → ∃ t : List Int, a.1 = (11 * ((j0 + i : Nat) : Int)) :: t) → risingW (as.map (·.1)) = true
  | [], _, _ => rfl
  | [a], _, _ => rfl
  | a :: b :: r, j0, h => by
    have h1 := rising_of (b :: r) (j0 + 1) (fun i x hx => by
      obtain ⟨t, ht⟩ := h (i + 1) x hx
      exact ⟨t, by rw [ht]; congr 2; omega⟩)
    obtain ⟨t0, e0⟩ := h 0 a rfl
    obtain ⟨t1, e1⟩ := h 1 b rfl
    unfold risingW at h1 ⊢
    simp only [List.map_cons, List.drop_succ_cons, List.drop_zero, List.zip_cons_cons, List.all_cons] at h1 ⊢
    rw [e0, e1, lexLt_head (by omega), Bool.true_and]
    rw [e1] at h1
    exact h1
theorem sumR_map_range {m : Nat} (qs : List Rat) (h : qs.length = m) (c : Rat) : sumR ((List.range m).map fun j => c * at0 qs j) = c * sumR qs := by
  have e : ((List.range m).map fun j => c * at0 qs j) = ((List.range m).map (at0 qs)).map (fun q => c * q) := by rw [List.map_map]; rfl
  rw [e, sumR_mul, range_at0 h]
theorem map_eq_range {α : Type} (f : α → Rat) (g : Nat → Rat) (as : List α) (h : ∀ j a, as[j]? = some a → f a = g j) : as.map f = (List.range as.length).map g := by
  apply List.ext_getElem
  · rw [List.length_map, List.length_map, List.length_range]
  · intro i h1 h2
    rw [List.getElem_map, List.getElem_map, List.getElem_range]
    rw [List.length_map] at h1
    exact h i _ (List.getElem?_eq_getElem h1)
/-- a generated question is right -/
theorem gen_ok {W m n j0 : Nat} {ah : List Rat} {rws : List (List Rat)} {as : List An} (hm1 : 1 ≤ m) (hm3 : m ≤ 3) (hah : ah.length = W) (hrg : ∀ x ∈ ah, Rg (BB ^ j0) x) (hj : j0 + n + 1 ≤ 5) (hrl : rws.length = W) (hr : ∀ q ∈ rws, ∃ least, ShareOk m least q) (hl : as.length = m) (ha : ∀ i a, as[i]? = some a → AnAt W m n ah rws i a) :
    1 ≤ as.length ∧ as.length ≤ 3 ∧ WordsOk (as.map (·.1)) ∧ (∀ a ∈ as, a.2.1.length = W ∧ ∀ x ∈ a.2.1, Rg MM x) ∧ colsum W as = ah ∧ ∀ a ∈ as, Val 3 W MM n a.2.1 a.2.2 := by
  refine ⟨by omega, by omega, ⟨fun w hw => ?_, rising_of as 0 fun i a h => ?_⟩, fun a hx => ?_, ?_, fun a hx => ?_⟩
  · obtain ⟨a, hx, rfl⟩ := List.mem_map.mp hw
    obtain ⟨i, hi⟩ := List.getElem?_of_mem hx
    obtain ⟨t, e, h1, h2⟩ := (ha i a hi).word
    have hlt := (List.getElem?_eq_some_iff.mp hi).1
    rw [e]
    refine ⟨by rw [List.length_cons]; omega, fun x hx => ?_⟩
    rcases List.mem_cons.mp hx with rfl | hx
    · omega
    · exact h2 x hx
  · obtain ⟨t, e, _⟩ := (ha i a h).word
    exact ⟨t, by rw [e, Nat.zero_add]⟩
  · obtain ⟨i, hi⟩ := List.getElem?_of_mem hx
    have e := (ha i a hi).ws
    refine ⟨by rw [e]; unfold rowW; rw [List.length_map, List.length_range], fun x hx => ?_⟩
    rw [e] at hx
    obtain ⟨k, hk, rfl⟩ := List.mem_map.mp hx
    have hk' : k < W := by simpa using hk
    have h1 : Rg (BB ^ j0) (at0 ah k) := at0_rg hrg
    have h2 : Rg BB (at0 (rws.getD k []) i) := by
      apply at0_rg
      intro y hy
      rw [List.getD_eq_getElem?_getD, List.getElem?_eq_getElem (by omega)] at hy
      obtain ⟨least, _, h3, _⟩ := hr _ (List.getElem_mem (by omega : k < rws.length))
      exact (h3 y hy).1
    have h3 := rg_mul (bbp_pos j0) bb_pos h1 h2
    refine h3.up ?_
    rw [← Nat.pow_succ]
    exact bbp_dvd (by omega)
  · unfold colsum
    rw [← range_at0 hah]
    apply List.map_congr_left
    intro k hk
    have hk' : k < W := by simpa using hk
    have e1 := map_eq_range (fun a : An => at0 a.2.1 k) (fun j => at0 ah k * at0 (rws.getD k []) j) as (fun j a h => by
      show at0 a.2.1 k = _
      rw [(ha j a h).ws]
      unfold rowW
      exact at0_map (α := Nat) _ hk')
    rw [e1, hl]
    obtain ⟨least, h1, _, h3⟩ := hr _ (List.getElem_mem (by omega : k < rws.length))
    have e2 : rws.getD k [] = rws[k] := by rw [List.getD_eq_getElem?_getD, List.getElem?_eq_getElem (by omega)]; rfl
    rw [e2, sumR_map_range _ h1, h3, Rat.mul_one]
  · obtain ⟨i, hi⟩ := List.getElem?_of_mem hx
    exact (ha i a hi).node
theorem Val.up1 {A A' W D : Nat} (hA : A ≤ A') : ∀ {n n' : Nat} {ah : List Rat} {nd : Nd}, n ≤ n' → Val A W D n ah nd → Val A' W D n' ah nd
  | 0, 0, _, _, _, h => h
  | 0, n' + 1, _, nd, _, h => ⟨by rw [show nd.qs = [] from h]; exact Nat.zero_le _, fun q hq => by rw [show nd.qs = [] from h] at hq; cases hq⟩
  | n + 1, 0, _, _, hl, _ => by omega
  | n + 1, n' + 1, _, nd, hl, ⟨h1, h2⟩ => ⟨h1, fun q hq => by
    obtain ⟨a1, a2, a3, a4, a5, a6⟩ := h2 q hq
    exact ⟨a1, Nat.le_trans a2 hA, a3, a4, a5, fun a ha => Val.up1 hA (by omega) (a6 a ha)⟩⟩
theorem Shp.up {A A' : Nat} (hA : A ≤ A') : ∀ {n n' : Nat} {nd : Nd}, n ≤ n' → Shp A n nd → Shp A' n' nd
  | 0, 0, _, _, h => h
  | 0, n' + 1, nd, _, h => ⟨by rw [show nd.qs = [] from h]; exact Nat.zero_le _, fun q hq => by rw [show nd.qs = [] from h] at hq; cases hq⟩
  | n + 1, 0, _, hl, _ => by omega
  | n + 1, n' + 1, nd, hl, ⟨h1, h2⟩ => ⟨h1, fun q hq => by
    obtain ⟨a1, a2, a3⟩ := h2 q hq
    exact ⟨a1, Nat.le_trans a2 hA, fun a ha => Shp.up hA (by omega) (a3 a ha)⟩⟩
/-! ### how many answers there can be -/
def cntB (A : Nat) : Nat → Nat
  | 0 => 0
  | n + 1 => 2 * (A * (1 + cntB A n))
def hopeB : Nat → Nat
  | 0 => 0
  | n + 1 => 2 * (3 * (1 + hopeB n) + 7)
def qcnt (q : List An) : Nat := (q.map fun a => 1 + cnt a.2.2).sum
theorem cnt_q (nd : Nd) : cnt nd = (nd.qs.map qcnt).sum := cnt_eq nd
theorem sum_le_mul {α : Type} (f : α → Nat) (b : Nat) : ∀ l : List α, (∀ x ∈ l, f x ≤ b) → (l.map f).sum ≤ l.length * b
  | [], _ => Nat.zero_le _
  | a :: r, h => by
    have h1 := h a List.mem_cons_self
    have h2 := sum_le_mul f b r fun x hx => h x (List.mem_cons_of_mem _ hx)
    rw [List.map_cons, List.sum_cons, List.length_cons, Nat.add_mul]
    omega
theorem cnt_le {A : Nat} : ∀ {n : Nat} {nd : Nd}, Shp A n nd → cnt nd ≤ cntB A n
  | 0, nd, h => by rw [cnt_eq, show nd.qs = [] from h]; exact Nat.zero_le _
  | n + 1, nd, h => by
    rw [cnt_q]
    refine Nat.le_trans (sum_le_mul qcnt (A * (1 + cntB A n)) nd.qs fun q hq => ?_) (Nat.mul_le_mul_right _ h.1)
    obtain ⟨_, h2, h3⟩ := h.2 q hq
    refine Nat.le_trans (sum_le_mul _ (1 + cntB A n) q fun a ha => ?_) (Nat.mul_le_mul_right _ h2)
    have := cnt_le (h3 a ha)
    omega
end K12
/-! E2: what the law makes: shares, trees. -/
namespace K12
open PySem PySem.Spec PyProof.Rows L2
section
variable {P : Program} {w : World} {K : PySem.W.Frag} {mg : Str → Option Value} {base : Heap}
/-- pick(bag, n) -/
theorem ev_pick {X : Cx} {W : Wd} {σ : L2.St} {G : Hp} {a b : Expr} {p pos : Pos} {j : Nat} {bg g : Addr} {n : Nat} (c : C8.Cal X.prog X.w X.K X.mg X.base 1 "_law_pick" (SpGW (prePick X.K)) []) (hr : Room j X.A) (hk : 1 ≤ j) (hw : Has W (bagW bg g)) (ha : Ev X W a σ G (Rf (.ref bg))) (hb : Ev X W b σ G (Is X.K (.int n))) (h1 : 1 ≤ n) (h2 : n ≤ 1000)
    (hg : Gl X "_law_pick" := by rfl) (he : Pl X a [b] := by rfl) (he2 : Pl X b [] := by rfl) (hpl : (backTo pos (starEach [b] X.env)).any (·.1) = false := by rfl) : Ev X W (.Call (.Name "_law_pick" p) [a, b] [] pos) σ G (Sm X.K fun d => ∃ r : Nat, r < n ∧ d = .int r) :=
  ev_callW c hr hk (ea_any ha rf_mono (ea_any1 hb he2) he) (fun G' vs s ⟨v, r, e, r1, ⟨u, e2, r2⟩⟩ => ⟨bg, g, n, hw, by rw [e, e2, show v = _ from r1, Dp.int_eq r2], h1, h2, rfl⟩) hg (he := he) (hpl := hpl)
def preSome (K : PySem.W.Frag) : Wd → Hp → List V → Rl → Prop := fun W G vs Z => ∃ b g v ds, Has W (bagW b g) ∧ vs = [.ref b, v] ∧ Dp K G v (.list ds) ∧ 1 ≤ ds.length ∧ ds.length ≤ 1000 ∧ Z = Sm K (fun d => d ∈ ds)
theorem c_law_some (A : At K mg "_law_some" s_law_some ["_law_bag_here", "_law_things"]) (T : Txt K mg) (c1 : C8.Cal P w K mg base 1 "_law_pick" (SpGW (prePick K)) []) : C8.Cal P w K mg base 2 "_law_some" (SpGW (preSome K)) [] := by
  refine calW_mk A sc_law_some (fun W G vs R ⟨_, _, _, _, _, h, _⟩ => by rw [h]; rfl) fun f cdv A outer s H vs Q E hr W G Z k ⟨b, g, v, ds, hw, e, hd, h1, h2, eZ⟩ q => ?_
  subst e eZ
  exact ws_retE (ev_ixS (ev_nm 1 rfl hd) (ev_pick c1 hr (by decide) hw (ev_rf 0 rfl) (ev_lenL T.len (ev_nm 1 rfl hd)) h1 h2) rfl) (Same.refl _) k q
def preShares (K : PySem.W.Frag) : Wd → Hp → List V → Rl → Prop := fun W G vs Z => ∃ b g many least, Has W (bagW b g) ∧ vs = [.ref b, .int ((many : Nat) : Int), .int ((least : Nat) : Int)] ∧ 1 ≤ many ∧ many ≤ 3 ∧ least ≤ 1 ∧ Z = Sm K (fun d => ∃ qs, ShareOk many least qs ∧ d = .list (qs.map encR))
theorem pd_nats {α : Type} {as : List α} {bs : List PyData} {p : Nat → Prop} (h : Paired (fun (_ : α) d => ∃ r : Nat, p r ∧ d = .int (r : Int)) as bs) : ∃ ns : List Nat, bs = ns.map (fun n : Nat => PyData.int (n : Int)) ∧ ∀ n ∈ ns, p n := by
  induction h with
  | nil => exact ⟨[], rfl, fun n hn => nomatch hn⟩
  | cons a t ih =>
    obtain ⟨ns, e, h⟩ := ih
    obtain ⟨r, pr, er⟩ := a
    refine ⟨r :: ns, by rw [e, er]; rfl, fun n hn => ?_⟩
    rcases List.mem_cons.mp hn with rfl | hn
    · exact pr
    · exact h n hn
theorem isum : ∀ ns : List Nat, (ns.map fun n : Nat => (n : Int)).sum = ((ns.sum : Nat) : Int)
  | [] => rfl
  | n :: r => by rw [List.map_cons, List.sum_cons, List.sum_cons, isum r, Int.natCast_add]
theorem c_law_shares (A : At K mg "_law_shares" s_law_shares ["_law_bag_here", "_law_many", "_law_least"]) (T : Txt K mg) (c1 : C8.Cal P w K mg base 1 "_law_pick" (SpGW (prePick K)) []) (c2 : CalD P w K mg base 2 "_law_low" 2 dmLowest) : C8.Cal P w K mg base 3 "_law_shares" (SpGW (preShares K)) [] := by
  refine calW_mk A sc_law_shares (fun W G vs R ⟨_, _, _, _, _, h, _⟩ => by rw [h]; rfl) fun f cdv A outer s H vs Q E hr W G Z k ⟨b, g, many, least, hw, e, h1, h3, hl1, eZ⟩ q => ?_
  subst e eZ
  refine ws_set 3 (we_lcO (own := [("_law_k", 4)]) (xs := List.range many) (ei := fun i : Nat => PyData.int (i : Int)) (P := fun _ d => ∃ r : Nat, (least ≤ r ∧ r ≤ least + 3) ∧ d = .int (r : Int)) rfl sc_law_shares.nd (blkOk_by (N := n_law_shares) (sc := defScope s_law_shares) (by decide +kernel))
    (ei_range T.range (ev_nm 1 rfl (.int _)) (by omega)) rfl (by rw [List.length_range]; omega) (tg1 4 sc_law_shares.nd) ?_ (Same.refl _) k (fun l vs es G1 H1 s1 k1 pr hd1 => ?_)) sc_law_shares.nd
  · rintro i x v σ2 G' D acc hx s4 ⟨a1, rfl⟩ s0 H0 C cl fp
    refine Ev.sms (ev_addS (P := fun d => ∃ r : Nat, r < 4 ∧ d = .int r) (ev_nm 2 rfl (.int _)) (Ev.sms (ev_pick c1 hr (by decide) (hw.sep _) (ev_rf 0 rfl) ev_int (by decide) (by decide)) fun d ⟨r, h, e⟩ => ⟨r, ⟨r, h, rfl⟩, e⟩)) fun d ⟨r, ⟨r', h, e⟩, e2⟩ => ?_
    cases e
    exact ⟨least + r', ⟨by omega, by omega⟩, by rw [e2, Int.natCast_add]⟩
  · obtain ⟨ns, rfl, hns⟩ := pd_nats pr
    have hlen : ns.length = many := by
      have := pd_len pr
      rw [List.length_range, List.length_map] at this
      exact this.symm
    have e1 : (ns.map fun n : Nat => PyData.int (n : Int)) = (ns.map fun n : Nat => (n : Int)).map PyData.int := by rw [List.map_map]; rfl
    rw [e1] at hd1
    rw [hd1.ints] at k1
    refine ws_augIxS (n := many) (ev_rf 3 rfl) (ev_pick c1 hr (by decide) (hw.sep _) (ev_rf 0 rfl) (ev_nm 1 rfl (.int _)) h1 (by omega)) ev_int (.refl _) (by rw [List.length_map, hlen]) (Same.refl _) k1 (fun j i0 G2 H2 hj s2 k2 => ?_)
    rw [List.getElem?_map] at hj
    cases ej : ns[j]? with
    | none => rw [ej] at hj; cases hj
    | some x =>
      rw [ej] at hj
      cases hj
      have e2 : (ns.map fun n : Nat => (n : Int)).set j ((x : Int) + 1) = (ns.set j (x + 1)).map fun n : Nat => (n : Int) := by rw [List.map_set]; rfl
      rw [e2] at k2
      have hset : ∀ n ∈ ns.set j (x + 1), least ≤ n := fun n hn => by
        rcases List.mem_or_eq_of_mem_set hn with h | h
        · exact (hns n h).1
        · have := (hns x (List.mem_of_getElem? ej)).1; omega
      have hlen2 : (ns.set j (x + 1)).length = many := by rw [List.length_set, hlen]
      have hS := sum_set ns j x ej
      have hb := sum_bound (least + 3) ns fun n hn => (hns n hn).2
      rw [hlen] at hb
      have hS1 : 1 ≤ (ns.set j (x + 1)).sum := by omega
      have hS2 : (ns.set j (x + 1)).sum ≤ 13 := by
        have : (least + 3) * many ≤ 4 * 3 := Nat.mul_le_mul (by omega) h3
        omega
      have gl : G2 l = none := k2.out l (.inr rfl)
      have s3 : Same G2 (upd G2 l (.lst (((ns.set j (x + 1)).map fun n : Nat => (n : Int)).map V.int))) := same_new gl
      have dl : Dp K (upd G2 l (.lst (((ns.set j (x + 1)).map fun n : Nat => (n : Int)).map V.int))) (.ref l) (.list (((ns.set j (x + 1)).map fun n : Nat => (n : Int)).map PyData.int)) := .lst (SqL.of upd_same) (dpInts _)
      refine ws_retE (Ev.dp (ev_lcD (own := [("_law_part", 5)]) (xs := ns.set j (x + 1)) (ei := fun n : Nat => PyData.int (n : Int)) (fun n => encR (mkRat (n : Int) (ns.set j (x + 1)).sum)) rfl sc_law_shares.nd (blkOk_by (N := n_law_shares) (sc := defScope s_law_shares) (by decide +kernel))
        (ei_list (ev_nm 3 rfl dl)) (by rw [List.map_map]; rfl) (by omega) (tg1 5 sc_law_shares.nd) ?_)) (Same.refl _) k2.give (fun v G4 H4 s4 k4 r => q v G4 H4 (((s1.trans s2).trans s3).trans s4) k4 ⟨_, ⟨_, share_of hlen2 rfl hS1 hS2 hset, rfl⟩, ?_⟩)
      · rintro i y v σ2 G' D acc hx s4 ⟨a1, rfl⟩ s0 H0 C cl fp
        refine ev_call c2 hr (by decide) (ea_cons (ev_nm 5 rfl a1) (ea1 (Ev.eq (ev_sum T.sum rfl (ev_nm 3 rfl (dl.sm s4))) (by rw [isum])))) ⟨(y : Int), (ns.set j (x + 1)).sum, by omega, ?_, rfl, rfl⟩
        exact Nat.lt_of_le_of_lt hS2 (by decide)
      · rw [List.map_map]
        exact r
/-! ### trees -/
def GenDom (n W : Nat) (ah : List Rat) : Prop := ∃ j, 1 ≤ W ∧ W ≤ 5 ∧ ah.length = W ∧ (∀ x ∈ ah, Rg (BB ^ j) x) ∧ j + n ≤ 5
def preQ (K : PySem.W.Frag) (n : Nat) : Wd → Hp → List V → Rl → Prop := fun U G vs Z => ∃ b g l W ah va, Has U (bagW b g) ∧ Has U (cntW l) ∧ vs = [.ref b, .int ((W : Nat) : Int), va, .int (((n + 1 : Nat)) : Int), .ref l] ∧ Dp K G va (encWs ah) ∧ GenDom (n + 1) W ah ∧ Z = Sm K (fun d => ∃ q, QOk 3 W MM n ah q ∧ d = encQ q)
def preN (K : PySem.W.Frag) (n : Nat) : Wd → Hp → List V → Rl → Prop := fun U G vs Z => ∃ b g l W ah va, Has U (bagW b g) ∧ Has U (cntW l) ∧ vs = [.ref b, .int ((W : Nat) : Int), va, .int ((n : Nat) : Int), .ref l] ∧ Dp K G va (encWs ah) ∧ GenDom n W ah ∧ Z = Sm K (fun d => ∃ nd, Val 3 W MM n ah nd ∧ d = encN nd)
theorem ws_setS {X : Cx} {W : Wd} {e : Expr} {σ : L2.St} {G G1 H : Hp} {R : Rl} {rest : List Stmt} {D : Ends} {x : Str} {pos p' : Pos} (i : Nat) (he : Ev X W e σ G R) (s : Same G G1) (k1 : W.ok G1 H) (q : ∀ v G' H', Same G1 G' → W.ok G' H' → R G' v → wSs X rest D (σ.set i (some v)) H')
    (hN : X.N.Nodup) (hi : X.N[i]? = some x := by rfl) (hx : Loc X.env.scope x := by first | exact Or.inl rfl | exact Or.inr rfl) (hs : swapsWith e (some (.Name x p')) pos.line X.env = pure false := by rfl)
    (hf : X.fn x = true ∨ X.env.scope.names.lookup x = some .local := by first | exact .inl rfl | exact .inr rfl | assumption) : wSs X (.Assign [.Name x p'] e pos :: rest) D σ H := ws_setE i he s k1 q hN hi hx hs hf
theorem pd_lists {α : Type} {as : List α} {bs : List PyData} {p : List Rat → Prop} (h : Paired (fun (_ : α) d => ∃ r : List Rat, p r ∧ d = .list (r.map encR)) as bs) : ∃ ns : List (List Rat), bs = ns.map (fun n => PyData.list (n.map encR)) ∧ ∀ n ∈ ns, p n := by
  induction h with
  | nil => exact ⟨[], rfl, fun n hn => nomatch hn⟩
  | cons a t ih =>
    obtain ⟨ns, e, h⟩ := ih
    obtain ⟨r, pr, er⟩ := a
    refine ⟨r :: ns, by rw [e, er]; rfl, fun n hn => ?_⟩
    rcases List.mem_cons.mp hn with rfl | hn
    · exact pr
    · exact h n hn
def wordsK (k : Nat) : List (List Int) := [[(k : Int)], [7 * (k : Int), 3], [9 * (k : Int) + 1, 0, 99], List.replicate 7 (90 + (k : Int)), []]
theorem wordsK_ok {k : Nat} (hk : k < 3) : ∀ t ∈ wordsK k, t.length ≤ 7 ∧ ∀ x ∈ t, 0 ≤ x ∧ x ≤ 99 := by
  have : k = 0 ∨ k = 1 ∨ k = 2 := by omega
  rcases this with rfl | rfl | rfl <;> decide
theorem c_law_question {n k1 : Nat} (A : At K mg "_law_question" s_law_question ["_law_bag_here", "_law_worlds", "_law_ahead", "_law_levels", "_law_left"]) (T : Txt K mg) (hk : 3 ≤ k1) (c1 : C8.Cal P w K mg base 1 "_law_pick" (SpGW (prePick K)) []) (c2 : C8.Cal P w K mg base 3 "_law_shares" (SpGW (preShares K)) [])
    (c3 : C8.Cal P w K mg base 2 "_law_some" (SpGW (preSome K)) []) (c4 : CalD P w K mg base 3 "_law_times" 2 dmTimes) (c5 : C8.Cal P w K mg base k1 "_law_node" (SpGW (preN K n)) []) : C8.Cal P w K mg base (k1 + 1) "_law_question" (SpGW (preQ K n)) [] := by
  refine calW_mk A sc_law_question (fun W G vs R ⟨_, _, _, _, _, _, _, _, h, _⟩ => by rw [h]; rfl) fun f cdv A outer s H vs Q E hr U G Z k ⟨b, g, l, W, ah, va, hw, hc, e, hva, ⟨j0, hW1, hW5, hah, hrg, hj⟩, eZ⟩ q => ?_
  subst e eZ
  refine ws_setE 5 (R := Sm K fun d => ∃ r : Int, (∃ r' : Nat, r' < 3 ∧ (PyData.int r = .int r')) ∧ d = .int (1 + r)) (ev_addS (P := fun d => ∃ r' : Nat, r' < 3 ∧ d = .int r') ev_int (Ev.sms (ev_pick c1 hr (by omega) hw (ev_rf 0 rfl) ev_int (by decide) (by decide)) fun d ⟨r, h, e⟩ => ⟨r, ⟨r, h, rfl⟩, e⟩)) (Same.refl _) k (fun v1 G1 H1 s1 k1 ⟨d, ⟨r, ⟨r', hr', er⟩, ed⟩, hd1⟩ => ?_) sc_law_question.nd
  cases er
  subst ed
  obtain ⟨m, hm1, hm3, em⟩ : ∃ m : Nat, 1 ≤ m ∧ m ≤ 3 ∧ (1 + (r' : Int)) = (m : Int) := ⟨1 + r', by omega, by omega, by omega⟩
  rw [em] at hd1
  rw [hd1.int_eq]
  refine ws_cntSub (c := (m : Int)) hc (fun W => ev_rf 4 rfl) (fun W => ev_int) (fun W => ev_nm 5 rfl (.int _)) (Same.refl _) k1 fun G2 H2 s2 k2 => ?_
  refine ws_setE 6 (ev_lcB (own := [("_law_world", 11)]) (xs := List.range W) (ei := fun i : Nat => PyData.int (i : Int)) (P := fun _ d => ∃ qs : List Rat, (∃ least, ShareOk m least qs) ∧ d = .list (qs.map encR)) rfl sc_law_question.nd (blkOk_by (N := n_law_question) (sc := defScope s_law_question) (by decide +kernel))
    (ei_range T.range (ev_nm 1 rfl (.int _)) (by omega)) rfl (by rw [List.length_range]; omega) (tg1 11 sc_law_question.nd) ?_) (Same.refl _) k2 (fun v3 G3 H3 s3 k3 ⟨es, pr, hl3⟩ => ?_) sc_law_question.nd
  · rintro i x v σ2 G' D acc hx s4 ⟨a1, rfl⟩ s0 H0 C cl fp
    intro G1 H1 Q s k1 qq
    refine useE (C8.pe_c c2 hr hk rfl (pA _)) ?_
    refine (ea_any (ev_rf (v := .ref b) 0 rfl) rf_mono (ea_any (ev_nm 5 rfl (.int _)) is_mono (ea_any1 (ev_pick (n := 2) c1 hr (by omega) (hw.sep (.cell D (.lst acc))) (ev_rf 0 rfl) ev_int (by decide) (by decide)) rfl) rfl) rfl) G1 H1 _ s k1 fun vs G2 H2 s2 k2 r => ?_
    obtain ⟨u1, r1, rfl, e1, u2, r2, rfl, e2, u3, rfl, d3, ⟨least, hl, rfl⟩, e3⟩ := r
    cases (show u1 = _ from e1)
    rw [Dp.int_eq e2, e3.int_eq]
    exact ⟨_, G2, _, k2, ⟨b, g, m, least, hw.sep _, rfl, hm1, hm3, by omega, rfl⟩, fun v G3 H3 s3 k3 r3 => qq v G3 H3 (s2.trans s3) k3 (by
      obtain ⟨d, ⟨qs, h, e⟩, hd⟩ := r3
      exact ⟨d, ⟨qs, ⟨least, h⟩, e⟩, hd⟩)⟩
  · obtain ⟨rws, rfl, hrws⟩ := pd_lists pr
    have hrl : rws.length = W := by
      have := pd_len pr
      rw [List.length_range, List.length_map] at this
      exact this.symm
    have sg3 : Same G G3 := (s1.trans s2).trans s3
    refine ws_own 7 ea_nil (by decide) (Same.refl _) k3 (fun lf us G4 H4 s4 k4 hd4 => ?_) sc_law_question.nd
    cases hd4
    refine ws_for (fun i σ W' G' => ∃ vs as x8 x9 x10 x11, W' = U.sep (.cell lf (.lst vs)) ∧ σ = [some (.ref b), some (.int W), some va, some (.int ((n + 1 : Nat) : Int)), some (.ref l), some (.int m), some v3, some (.ref lf), x8, x9, x10, x11] ∧ DpAll K G' vs (as.map encA) ∧ as.length = i ∧ ∀ i a, as[i]? = some a → AnAt W m n ah rws i a)
      (ei_range T.range (ev_nm 5 rfl (.int _)) (by omega)) (Same.refl _) k4 (fun G2 s2 => ⟨[], [], none, none, none, none, rfl, rfl, .nil, rfl, fun i a h => by simp at h⟩)
      (fun Gb sb i d σ1 W1 G5 G6 H6 v hi s5 ⟨acc, as, x8, x9, x10, x11, eW, es, dacc, hlen, hAn⟩ s6 k6 hv => ?_) (fun σ1 W1 G5 H5 s5 k5 ⟨acc, as, x8, x9, x10, x11, eW, es, dacc, hlen, hAn⟩ => ?_) PassesOwn.never rfl
    · subst eW es
      have hi' : i < m := by
        have := (List.getElem?_eq_some_iff.mp hi).1
        unfold ints0 at this
        rw [List.length_map, List.length_range] at this
        exact this
      have ed : d = .int (i : Int) := by
        unfold ints0 at hi
        rw [List.getElem?_map, List.getElem?_range hi'] at hi
        cases hi
        rfl
      subst ed
      refine wg_nm 8 ?_ sc_law_question.nd
      rw [hv.int_eq]
      have sg6 : Same G G6 := (((sg3.trans s4).trans sb).trans s5).trans s6
      have hl6 := (lt_mono _ _ _ (((s4.trans sb).trans s5).trans s6) hl3)
      have hwS := hw.sep (.cell lf (.lst acc))
      have hcS := hc.sep (.cell lf (.lst acc))
      have e7 : PyData.tuple (List.replicate 7 (PyData.int (90 + (i : Int)))) = encW (List.replicate 7 (90 + (i : Int))) := by unfold encW; rw [List.map_replicate]
      refine ws_setE 9 (R := Sm K fun d => ∃ t ∈ wordsK i, d = encW t) (Ev.sms (ev_callW c3 hr (by omega) (ea_any (ev_rf (v := .ref b) 0 rfl) rf_mono (ea_any1 (ev_lst (ea_cons (ev_tup (ea1 (ev_nm 8 rfl (.int (i : Int))))) (ea_cons (ev_tup (ea_cons (ev_mul ev_int (ev_nm 8 rfl (.int (i : Int))) (.inl ⟨by decide, by decide⟩)) (ea1 ev_int))) (ea_cons (ev_tup (ea_cons (ev_add (ev_mul ev_int (ev_nm 8 rfl (.int (i : Int))) (.inl ⟨by decide, by decide⟩)) ev_int) (ea_cons ev_int (ea1 ev_int))))
        (ea_cons (Ev.eq (ev_rep (n := 7) (ev_tup (ea1 (ev_add ev_int (ev_nm 8 rfl (.int (i : Int)))))) ev_int (by decide) (by decide)) e7) (ea1 (ev_tup ea_nil)))))))))
        fun G' vs s ⟨u1, r1, e, h1, ⟨u2, e2, h2⟩⟩ => ⟨b, g, u2, _, hwS, by rw [e, e2, show u1 = _ from h1], h2, by show 1 ≤ 5; decide, by show 5 ≤ 1000; decide, rfl⟩) fun d hd => ?_) (Same.refl _) k6 (fun v9 G7 H7 s7 k7 ⟨d9, ⟨t, ht, e9⟩, hd9⟩ => ?_) sc_law_question.nd
      · rcases List.mem_cons.mp hd with rfl | hd
        · exact ⟨[(i : Int)], by simp [wordsK], rfl⟩
        rcases List.mem_cons.mp hd with rfl | hd
        · exact ⟨[7 * (i : Int), 3], by simp [wordsK], rfl⟩
        rcases List.mem_cons.mp hd with rfl | hd
        · exact ⟨[9 * (i : Int) + 1, 0, 99], by simp [wordsK], rfl⟩
        rcases List.mem_cons.mp hd with rfl | hd
        · exact ⟨List.replicate 7 (90 + (i : Int)), by simp [wordsK], rfl⟩
        · exact ⟨[], by simp [wordsK], List.mem_singleton.mp hd⟩
      · subst e9
        obtain ⟨hw1, hw2⟩ := wordsK_ok (by omega) t ht
        have sg7 : Same G G7 := sg6.trans s7
        have hl7 := lt_mono _ _ _ s7 hl6
        refine ws_setE 10 (Ev.eq (d' := encWs (rowW W ah rws i)) (ev_tupleL T.ztuple (Ev.dp (ev_lcD (own := [("_law_world", 11)]) (xs := List.range W) (ei := fun i : Nat => PyData.int (i : Int)) (fun k => encR (at0 ah k * at0 (rws.getD k []) i)) rfl sc_law_question.nd (blkOk_by (N := n_law_question) (sc := defScope s_law_question) (by decide +kernel))
          (ei_range T.range (ev_nm 1 rfl (.int _)) (by omega)) rfl (by rw [List.length_range]; omega) (tg1 11 sc_law_question.nd) ?_))) ?_) (Same.refl _) k7 (fun v10 G8 H8 s8 k8 h10 => ?_) sc_law_question.nd
        · rintro i2 x v' σ2 G' D acc' hx s8 ⟨a1, rfl⟩ s0 H0 C cl fp
          have hx' : x < W := by
            have := List.mem_of_getElem? hx
            simpa using this
          have hrow : (rws.map fun n => PyData.list (n.map encR))[x]? = some (.list ((rws.getD x []).map encR)) := by
            rw [List.getElem?_map, List.getElem?_eq_getElem (by omega), List.getD_eq_getElem?_getD, List.getElem?_eq_getElem (by omega)]
            rfl
          obtain ⟨least, hsl, hsr, _⟩ := hrws (rws.getD x []) (by rw [List.getD_eq_getElem?_getD, List.getElem?_eq_getElem (by omega)]; exact List.getElem_mem (by omega))
          refine ev_call c4 hr (by omega) (ea_cons (ev_ix (j := x) (ev_nm 2 rfl (hva.sm (sg7.trans s8))) (ev_nm 11 rfl a1) (encWs_get (by omega))) (ea1 (ev_ixL (j := i) (ev_ixL (j := x) (ev_nm 6 rfl (hl7.dp.sm s8)) (ev_nm 11 rfl a1) hrow) (ev_nm 8 rfl (.int _)) (encWs_get (by omega))))) ⟨at0 ah x, at0 (rws.getD x []) i, ?_, ?_, rfl, rfl⟩
          · exact sq_rg bot_mm ((at0_rg hrg).up (bbp_dvd (by omega)))
          · exact sq_rg bot_bb (at0_rg fun y hy => (hsr y hy).1)
        · unfold encWs rowW
          rw [List.map_map]; rfl
        · have sg8 : Same G G8 := sg7.trans s8
          have hgd : GenDom n W (rowW W ah rws i) := by
            refine ⟨j0 + 1, hW1, hW5, by unfold rowW; rw [List.length_map, List.length_range], fun x hx => ?_, by omega⟩
            unfold rowW at hx
            obtain ⟨k, hk, rfl⟩ := List.mem_map.mp hx
            have hk' : k < W := by simpa using hk
            obtain ⟨least, hsl, hsr, _⟩ := hrws (rws.getD k []) (by rw [List.getD_eq_getElem?_getD, List.getElem?_eq_getElem (by omega)]; exact List.getElem_mem (by omega))
            rw [Nat.pow_succ]
            exact rg_mul (bbp_pos j0) bb_pos (at0_rg hrg) (at0_rg fun y hy => (hsr y hy).1)
          refine ws_append (R := Sm K fun d => ∃ a : An, AnAt W m n ah rws i a ∧ d = encA a) 7 rfl (.refl _) (ev_tupP (P := fun ds => ∃ nd, Val 3 W MM n (rowW W ah rws i) nd ∧ ds = [encW ((11 * (i : Int)) :: t), encWs (rowW W ah rws i), encN nd])
            (ea_consS (P1 := fun d => d = encW ((11 * (i : Int)) :: t)) (P := fun ds => ∃ nd, Val 3 W MM n (rowW W ah rws i) nd ∧ ds = [encWs (rowW W ah rws i), encN nd]) (Ev.sm (Ev.eq (ev_cat (ev_tup (ea1 (ev_mul ev_int (ev_nm 8 rfl (.int (i : Int))) (.inl ⟨by decide, by decide⟩)))) (ev_nm 9 rfl (hd9.sm s8)) (by rw [List.length_map]; show 1 + _ ≤ _; omega)) rfl) rfl)
              (ea_consS (P1 := fun d => d = encWs (rowW W ah rws i)) (P := fun ds => ∃ nd, Val 3 W MM n (rowW W ah rws i) nd ∧ ds = [encN nd]) (Ev.sm (ev_nm 10 rfl h10) rfl)
                (ea_consS (P1 := fun d => ∃ nd, Val 3 W MM n (rowW W ah rws i) nd ∧ d = encN nd) (P := fun l => l = []) (ev_callW c5 hr (Nat.le_refl _) (ea_any (ev_rf (v := .ref b) 0 rfl) rf_mono (ea_any (ev_nm 1 rfl (.int W)) is_mono (ea_any (ev_nm 10 rfl h10) is_mono (ea_any (ev_sub (ev_nm 3 rfl (.int _)) ev_int) is_mono (ea_any1 (ev_rf (v := .ref l) 4 rfl))))))
                    fun G' vs s ⟨u1, r1, e1, h1, u2, r2, e2, h2, u3, r3, e3, h3, u4, r4, e4, h4, u5, e5, h5⟩ => ⟨b, g, l, W, rowW W ah rws i, u3, hwS, hcS, ?_, h3, hgd, rfl⟩) (ea_S ea_nil) fun d l ⟨nd, h, e⟩ hl => ⟨nd, h, by rw [e, hl]⟩)
                fun d l hd ⟨nd, h, e⟩ => ⟨nd, h, by rw [hd, e]⟩)
              fun d l hd ⟨nd, h, e⟩ => ⟨nd, h, by rw [hd, e]⟩) (fun l ⟨nd, h, e⟩ => by rw [e]; show 3 ≤ 1000; decide)
            (fun l ⟨nd, h, e⟩ => ⟨((11 * (i : Int)) :: t, rowW W ah rws i, nd), ⟨⟨t, rfl, hw1, hw2⟩, rfl, h⟩, by rw [e]; rfl⟩)) ?_ (Same.refl _) k8 (fun v11 G9 H9 s9 k9 ⟨d11, ⟨an, han, e11⟩, hd11⟩ => ws_nil ?_)
          · rw [e1, e2, e3, e4, e5, show u1 = _ from h1, show u5 = _ from h5, Dp.int_eq h2, Dp.int_eq h4]
            congr 5
            omega
          · rw [dacc.length, List.length_map]; omega
          · subst e11
            refine ⟨_, G9, ((((s5.trans s6).trans s7).trans s8).trans s9), k9, _, as ++ [an], _, _, _, _, rfl, rfl, ?_, ?_, fun i' a h => ?_⟩
            · rw [List.map_append]
              exact (dacc.sm (((s6.trans s7).trans s8).trans s9)).snoc hd11
            · rw [List.length_append, hlen]; rfl
            · rcases Nat.lt_or_ge i' as.length with hlt | hge
              · rw [List.getElem?_append_left hlt] at h
                exact hAn i' a h
              · rw [List.getElem?_append_right hge] at h
                have e0 : i' - as.length = 0 := by
                  have := (List.getElem?_eq_some_iff.mp h).1
                  simp at this
                  omega
                rw [e0] at h
                cases h
                have : i' = i := by omega
                subst this
                exact han
    · subst eW es
      have hm' : as.length = m := by
        rw [hlen]
        unfold ints0
        rw [List.length_map, List.length_range]
      have ok := gen_ok (n := n) (j0 := j0) hm1 hm3 hah hrg (by omega) hrl hrws hm' hAn
      exact ws_retE (ev_tupO (W0 := U) T.ztuple (ev_rf 7 rfl) (Has.self _ _) dacc (P := fun _ => True)) (Same.refl _) k5 (fun v G7 H7 s7 k7 r => q v G7 H7 (((sg3.trans s4).trans s5).trans s7) k7.left ⟨_, ⟨as, ok, rfl⟩, r⟩)
end
end K12
/-! E3: what the law makes: nodes, trees, plans. -/
namespace K12
open PySem PySem.Spec PyProof.Rows L2
section
variable {P : Program} {w : World} {K : PySem.W.Frag} {mg : Str → Option Value} {base : Heap}
theorem list_encQ {A W D n : Nat} {ah : List Rat} : ∀ {es : List PyData}, (∀ e ∈ es, ∃ q, QOk A W D n ah q ∧ e = encQ q) → ∃ qs : List (List An), es = qs.map encQ ∧ ∀ q ∈ qs, QOk A W D n ah q
  | [], _ => ⟨[], rfl, fun q hq => nomatch hq⟩
  | e :: r, h => by
    obtain ⟨q, hq, rfl⟩ := h e List.mem_cons_self
    obtain ⟨qs, rfl, hqs⟩ := list_encQ fun e he => h e (List.mem_cons_of_mem _ he)
    refine ⟨q :: qs, rfl, fun x hx => ?_⟩
    rcases List.mem_cons.mp hx with rfl | hx
    · exact hq
    · exact hqs x hx
theorem val_mk {A W D n : Nat} {ah : List Rat} {qs : List (List An)} (hl : qs.length ≤ 2) (h : ∀ q ∈ qs, QOk A W D n ah q) : Val A W D (n + 1) ah (.mk qs) := ⟨hl, h⟩
theorem encN_mk (qs : List (List An)) : encN (.mk qs) = .tuple (qs.map encQ) := encN_eq (.mk qs)
theorem c_law_node {n k1 : Nat} (A : At K mg "_law_node" s_law_node ["_law_bag_here", "_law_worlds", "_law_ahead", "_law_levels", "_law_left"]) (T : Txt K mg) (hk : 1 ≤ k1) (c1 : C8.Cal P w K mg base 1 "_law_pick" (SpGW (prePick K)) [])
    (c2 : ∀ m, n = m + 1 → C8.Cal P w K mg base k1 "_law_question" (SpGW (preQ K m)) []) : C8.Cal P w K mg base (k1 + 1) "_law_node" (SpGW (preN K n)) [] := by
  refine calW_mk A sc_law_node (fun W G vs R ⟨_, _, _, _, _, _, _, _, h, _⟩ => by rw [h]; rfl) fun f cdv A outer s H vs Q E hr U G Z k ⟨b, g, l, W, ah, va, hw, hc, e, hva, hgd, eZ⟩ q => ?_
  subst e eZ
  cases n with
  | zero =>
    refine ws_if (k := true) (et_of (ew_or (m := true) (n := true) (EvT.eq (et_cmp (ev_nm 3 rfl (.int _)) ev_int) rfl) fun h => nomatch h)) (Same.refl _) k (fun _ G1 H1 s1 k1 => ?_) (fun z => nomatch z)
    exact ws_retE (ev_tup ea_nil) (Same.refl _) k1 (fun v G2 H2 s2 k2 r => q v G2 H2 (s1.trans s2) k2 ⟨_, ⟨.mk [], rfl, (encN_mk []).symm⟩, r⟩)
  | succ n =>
    have c3 := c2 n rfl
    have leaf : ∀ G1 H1, Same G G1 → U.ok G1 H1 → wSs (cx0 P w K mg base n_law_node "_law_node" s_law_node f cdv A outer s H E) [(defBody s_law_node).getD 1 (.Pass ⟨0, 0, 0, 0⟩)] { nx := fun _ H' => Q .non H', rt := Q } (start n_law_node [.ref b, .int ((W : Nat) : Int), va, .int (((n + 1 : Nat)) : Int), .ref l]) H1 := fun G1 H1 s1 k1 => by
      refine ws_retE (ev_tupleP T.ztuple (P := fun es => es.length < 3 ∧ ∀ e ∈ es, ∃ q, QOk 3 W MM n ah q ∧ e = encQ q) (P' := fun d => ∃ nd, Val 3 W MM (n + 1) ah nd ∧ d = encN nd)
        (ev_lcN (own := [("_law_k", 5)]) (P := fun r => r < 3) (Pe := fun d => ∃ q, QOk 3 W MM n ah q ∧ d = encQ q) 5 rfl sc_law_node.nd (blkOk_by (N := n_law_node) (sc := defScope s_law_node) (by decide +kernel))
          (ei_rangeS T.range (ev_pick c1 hr hk hw (ev_rf 0 rfl) ev_int (by decide) (by decide)) (fun r h => by omega)) (fun r h => by omega) (fun items => tg1 5 sc_law_node.nd) ?_) (fun es ⟨h1, h2⟩ => ?_)) (Same.refl _) k1 (fun v G2 H2 s2 k2 r => q v G2 H2 (s1.trans s2) k2 r)
      · rintro v σ2 G' D acc s4 rfl s0 H0 C cl fp
        exact ev_callW c3 hr (Nat.le_refl _) (ea_any (ev_rf (v := .ref b) 0 rfl) rf_mono (ea_any (ev_nm 1 rfl (.int W)) is_mono (ea_any (ev_nm 2 rfl (hva.sm (s1.trans s4))) is_mono (ea_any (ev_nm 3 rfl (.int _)) is_mono (ea_any1 (ev_rf (v := .ref l) 4 rfl))))))
          fun G' vs s ⟨u1, r1, e1, h1, u2, r2, e2, h2, u3, r3, e3, h3, u4, r4, e4, h4, u5, e5, h5⟩ => ⟨b, g, l, W, ah, u3, hw.sep _, hc.sep _, by rw [e1, e2, e3, e4, e5, show u1 = _ from h1, show u5 = _ from h5, Dp.int_eq h2, Dp.int_eq h4], h3, hgd, rfl⟩
      · obtain ⟨qs, rfl, hqs⟩ := list_encQ h2
        rw [List.length_map] at h1
        exact ⟨.mk qs, val_mk (by omega) hqs, (encN_mk qs).symm⟩
    refine ws_ifU (eu_of (eu_or (m := false) (EvT.eq (et_cmp (ev_nm 3 rfl (.int _)) ev_int) ?_) (eu_or1 (eu_cmpI (fun d h => h) (ev_cnt (ev_rf 4 rfl) hc ev_int) ev_int)))) (Same.refl _) k (fun G1 H1 s1 k1 => ?_) (fun G1 H1 s1 k1 => ws_nil (leaf G1 H1 s1 k1))
    · simp [cmpI]; omega
    · refine ws_retE (ev_tup ea_nil) (Same.refl _) k1 (fun v G2 H2 s2 k2 r => q v G2 H2 (s1.trans s2) k2 ⟨_, ⟨.mk [], val_mk (Nat.zero_le _) (fun q hq => nomatch hq), (encN_mk []).symm⟩, r⟩)

def preTree (K : PySem.W.Frag) : Wd → Hp → List V → Rl → Prop := fun U G vs Z => ∃ b g W n ans, Has U (bagW b g) ∧ vs = [.ref b, .int ((W : Nat) : Int), .int ((n : Nat) : Int), .int ans] ∧ 1 ≤ W ∧ W ≤ 5 ∧ 1 ≤ n ∧ n ≤ 3 ∧ Z = Sm K (fun d => ∃ nd, Val 3 W MM n (ones W) nd ∧ d = encN nd)
theorem ones_dom {n W : Nat} (h1 : 1 ≤ W) (h5 : W ≤ 5) (hn : n ≤ 5) : GenDom n W (ones W) := ⟨0, h1, h5, List.length_replicate, fun x hx => by rw [List.eq_of_mem_replicate hx]; exact rg_one, by omega⟩
theorem zeros_dom {n W : Nat} (h1 : 1 ≤ W) (h5 : W ≤ 5) (hn : n ≤ 5) : GenDom n W (zeros W) := ⟨0, h1, h5, List.length_replicate, fun x hx => by rw [List.eq_of_mem_replicate hx]; exact rg_zero, by omega⟩
theorem c_law_tree (A : At K mg "_law_tree" s_law_tree ["_law_bag_here", "_law_worlds", "_law_levels", "_law_answers"]) (T : Txt K mg) (c1 : C8.Cal P w K mg base 1 "_law_pick" (SpGW (prePick K)) []) (c2 : ∀ n, n ≤ 3 → C8.Cal P w K mg base 20 "_law_question" (SpGW (preQ K n)) []) : C8.Cal P w K mg base 21 "_law_tree" (SpGW (preTree K)) [] := by
  refine calW_mk A sc_law_tree (fun W G vs R ⟨_, _, _, _, _, _, h, _⟩ => by rw [h]; rfl) fun f cdv A outer s H vs Q E hr U G Z k ⟨b, g, W, n, ans, hw, e, hW1, hW5, hn1, hn3, eZ⟩ q => ?_
  subst e eZ
  obtain ⟨n, rfl⟩ : ∃ m, n = m + 1 := ⟨n - 1, by omega⟩
  refine ws_parT 5 6 (Ev.eq (ev_rep (ev_tup (ea1 (ev_tup (ea_cons ev_int (ea1 ev_int))))) (ev_nm 1 rfl (.int _)) hW1 (by omega)) (encWs_ones W)) (ev_nm 3 rfl (.int ans)) (Same.refl _) k (fun v1 l G1 H1 s1 k1 hv1 => ?_) rfl sc_law_tree.nd
  refine ws_setLcN (own := [("_law_k", 7)]) (P := fun r => 1 ≤ r ∧ r ≤ 2) (Pe := fun d => ∃ q, QOk 3 W MM n (ones W) q ∧ d = encQ q) 4 7 rfl sc_law_tree.nd (blkOk_by (N := n_law_tree) (sc := defScope s_law_tree) (by decide +kernel))
    (ei_rangeS T.range (Ev.sms (ev_addS (P := fun d => ∃ r' : Nat, r' < 2 ∧ d = .int r') ev_int (Ev.sms (ev_pick c1 hr (by decide) (hw.sep _) (ev_rf 0 rfl) ev_int (by decide) (by decide)) fun d ⟨r, h, e⟩ => ⟨r, ⟨r, h, rfl⟩, e⟩)) fun d ⟨r, ⟨r', h, e⟩, e2⟩ => (by
      cases e
      exact ⟨1 + r', ⟨by omega, by omega⟩, by rw [e2, Int.natCast_add]; rfl⟩)) (fun r h => by have := h.2; omega)) (fun r h => by have := h.2; omega) (fun items => tg1 7 sc_law_tree.nd) ?_ (Same.refl _) k1 (fun v2 es G2 H2 s2 k2 hl he hl2 => ?_)
  · rintro v σ2 G' D acc s4 rfl s0 H0 C cl fp
    exact ev_callW (c2 n (by omega)) hr (by decide) (ea_any (ev_rf (v := .ref b) 0 rfl) rf_mono (ea_any (ev_nm 1 rfl (.int W)) is_mono (ea_any (ev_nm 5 rfl (hv1.sm s4)) is_mono (ea_any (ev_nm 2 rfl (.int _)) is_mono (ea_any1 (ev_rf (v := .ref l) 6 rfl))))))
      fun G' vs s ⟨u1, r1, e1, h1, u2, r2, e2, h2, u3, r3, e3, h3, u4, r4, e4, h4, u5, e5, h5⟩ => ⟨b, g, l, W, ones W, u3, (hw.sep _).sep _, (Has.self U (cntW l)).sep _, by rw [e1, e2, e3, e4, e5, show u1 = _ from h1, show u5 = _ from h5, Dp.int_eq h2, Dp.int_eq h4], h3, ones_dom hW1 hW5 (by omega), rfl⟩
  · obtain ⟨qs, rfl, hqs⟩ := list_encQ he
    rw [List.length_map] at hl
    refine ws_retE (ev_tupleL T.ztuple (ev_nm 4 rfl hl2.dp)) (Same.refl _) k2 (fun v G3 H3 s3 k3 r => q v G3 H3 ((s1.trans s2).trans s3) k3.left ⟨_, ⟨.mk qs, val_mk (by omega) hqs, rfl⟩, ?_⟩)
    rw [encN_mk]
    exact r
/-! ### plans -/
def preMoveL (K : PySem.W.Frag) (m : Nat) : Wd → Hp → List V → Rl → Prop := fun U G vs Z => ∃ b g l n n' nd q vh vq, Has U (bagW b g) ∧ Has U (cntW l) ∧ vs = [.ref b, vh, vq, .ref l] ∧ Dp K G vh (encN nd) ∧ Dp K G vq (encQ q) ∧ Shp 12 n nd ∧ 1 ≤ q.length ∧ QShp n' q ∧ n + n' = m ∧ Z = Sm K (fun d => ∃ mv, MvOk (m + 1) nd q mv ∧ d = encM mv)
def preWaitL (K : PySem.W.Frag) (m : Nat) : Wd → Hp → List V → Rl → Prop := fun U G vs Z => ∃ b g l n n' nd goal vh vq, Has U (bagW b g) ∧ Has U (cntW l) ∧ vs = [.ref b, vh, vq, .ref l] ∧ Dp K G vh (encN nd) ∧ Dp K G vq (encN goal) ∧ Shp 12 n nd ∧ Shp 12 n' goal ∧ n + n' = m ∧ Z = Sm K (fun d => ∃ wait, WaitOk m nd goal wait ∧ d = encWait wait)
theorem pd_waits {α : Type} {F : α → Mv → Prop} : ∀ {as : List α} {bs : List PyData}, Paired (fun a d => ∃ mv, F a mv ∧ d = encM mv) as bs → ∃ ms : List Mv, bs = ms.map encM ∧ ms.length = as.length ∧ ∀ (i : Nat) mv a, ms[i]? = some mv → as[i]? = some a → F a mv
  | _, _, .nil => ⟨[], rfl, rfl, fun i mv a h => by simp at h⟩
  | _, _, .cons (a := a0) ⟨mv, h, e⟩ t => by
    obtain ⟨ms, e2, hl, hf⟩ := pd_waits t
    refine ⟨mv :: ms, by rw [e, e2]; rfl, by rw [List.length_cons, List.length_cons, hl], fun i mv' a' h1 h2 => ?_⟩
    cases i with
    | zero => simp at h1 h2; subst h1 h2; exact h
    | succ i => simp at h1 h2; exact hf i mv' a' h1 h2
theorem c_law_wait {m k1 : Nat} (A : At K mg "_law_wait" s_law_wait ["_law_bag_here", "_law_here", "_law_goal", "_law_left"]) (T : Txt K mg) (c1 : ∀ m', m = m' + 1 → C8.Cal P w K mg base k1 "_law_move" (SpGW (preMoveL K m')) []) : C8.Cal P w K mg base (k1 + 1) "_law_wait" (SpGW (preWaitL K m)) [] := by
  refine calW_mk A sc_law_wait (fun W G vs R ⟨_, _, _, _, _, _, _, _, _, _, _, h, _⟩ => by rw [h]; rfl) fun f cdv A outer s H vs Q E hr U G Z k ⟨b, g, l, n, n', nd, goal, vh, vq, hw, hc, e, h1, h2, g1, g2, hm, eZ⟩ q => ?_
  subst e eZ
  rw [encN_eq goal] at h2
  have hl := shp_len g2
  refine ws_retE (ev_tupleP T.ztuple (P := fun es => ∃ wait, WaitOk m nd goal wait ∧ es = wait.map encM) (P' := fun d => ∃ wait, WaitOk m nd goal wait ∧ d = encWait wait) (Ev.imp (ev_lcB (own := [("_law_question_here", 4)]) (xs := goal.qs) (ei := encQ) (P := fun q' d => ∃ mv, MvOk m nd q' mv ∧ d = encM mv) rfl sc_law_wait.nd (blkOk_by (N := n_law_wait) (sc := defScope s_law_wait) (by decide +kernel))
    (ei_tup (ev_nm 2 rfl h2)) rfl (by omega) (tg1 4 sc_law_wait.nd) ?_) fun G v ⟨es, pr, hl⟩ => ⟨es, ?_, hl⟩) fun es ⟨wait, h, e⟩ => ⟨wait, h, by rw [e]; rfl⟩) (Same.refl _) k q
  · rintro i x v σ2 G' D acc hx s4 ⟨a1, rfl⟩ s0 H0 C cl fp
    have hx' := List.mem_of_getElem? hx
    cases n' with
    | zero => rw [show goal.qs = [] from g2] at hx'; cases hx'
    | succ n' =>
      obtain ⟨m, rfl⟩ : ∃ m', m = m' + 1 := ⟨n + n', by omega⟩
      exact ev_callW (c1 m rfl) hr (Nat.le_refl _) (ea_any (ev_rf (v := .ref b) 0 rfl) rf_mono (ea_any (ev_nm 1 rfl (h1.sm s4)) is_mono (ea_any (ev_nm 4 rfl a1) is_mono (ea_any1 (ev_rf (v := .ref l) 3 rfl)))))
        fun G' vs s ⟨u1, r1, e1, z1, u2, r2, e2, z2, u3, r3, e3, z3, u4, e4, z4⟩ => ⟨b, g, l, n, n', nd, x, u2, u3, hw.sep _, hc.sep _, by rw [e1, e2, e3, e4, show u1 = _ from z1, show u4 = _ from z4], z2, z3, g1, (g2.2 x hx').1, ⟨(g2.2 x hx').2.1, (g2.2 x hx').2.2⟩, by omega, rfl⟩
  · obtain ⟨ms, e, hlen, hf⟩ := pd_waits pr
    exact ⟨ms, ⟨hlen, fun i mv q' e1 e2 => hf i mv q' e1 e2⟩, e⟩
theorem c_law_move {m k1 : Nat} (A : At K mg "_law_move" s_law_move ["_law_bag_here", "_law_here", "_law_question_here", "_law_left"]) (T : Txt K mg) (hk : 1 ≤ k1) (c0 : C8.Cal P w K mg base 1 "_law_pick" (SpGW (prePick K)) []) (c1 : C8.Cal P w K mg base k1 "_law_wait" (SpGW (preWaitL K m)) []) (c2 : ∀ m', m = m' + 1 → C8.Cal P w K mg base k1 "_law_move" (SpGW (preMoveL K m')) []) :
    C8.Cal P w K mg base (k1 + 1) "_law_move" (SpGW (preMoveL K m)) [] := by
  refine calW_mk A sc_law_move (fun W G vs R ⟨_, _, _, _, _, _, _, _, _, _, _, h, _⟩ => by rw [h]; rfl) fun f cdv A outer s H vs Q E hr U G Z k ⟨b, g, l, n, n', nd, qq, vh, vq, hw, hc, e, h1, h2, g1, g2, g3, hm, eZ⟩ q => ?_
  subst e eZ
  rw [encN_eq nd] at h1
  have hl := shp_len g1
  refine ws_cntSub (c := 1) hc (fun W => ev_rf 3 rfl) (fun W => ev_int) (fun W => ev_int) (Same.refl _) k fun G1 H1 s1 k1' => ?_
  have tellW : ∀ G1 H1, Same G G1 → U.ok G1 H1 → wSs (cx0 P w K mg base n_law_move "_law_move" s_law_move f cdv A outer s H E) ((defBody s_law_move).drop 2) { nx := fun _ H' => Q .non H', rt := Q } (start n_law_move [.ref b, vh, vq, .ref l]) H1 := fun G1 H1 s1 k1 => by
    refine ws_setE 4 (ev_pick c0 hr hk hw (ev_rf 0 rfl) (ev_lenT (ds := qq.map encA) T.len (ev_nm 2 rfl (h2.sm s1))) (by rw [List.length_map]; exact g2) (by rw [List.length_map]; have := g3.1; omega)) (Same.refl _) k1 (fun v2 G2 H2 s2 k2 ⟨d, ⟨r, hr', ed⟩, hd⟩ => ?_) sc_law_move.nd
    subst ed
    rw [List.length_map] at hr'
    have hq : qq[r]? = some qq[r] := List.getElem?_eq_getElem hr'
    have hqm : (qq.map encA)[r]? = some (encA qq[r]) := by rw [List.getElem?_map, hq]; rfl
    have sg2 := s1.trans s2
    refine ws_retE (ev_tupP (P := fun ds => ∃ wait, WaitOk m nd qq[r].2.2 wait ∧ ds = [.str "tell", .int (r : Int), encWait wait]) (P' := fun d => ∃ mv, MvOk (m + 1) nd qq mv ∧ d = encM mv)
      (ea_consS (P1 := fun d => d = .str "tell") (P := fun ds => ∃ wait, WaitOk m nd qq[r].2.2 wait ∧ ds = [.int (r : Int), encWait wait]) (Ev.sm ev_str rfl)
        (ea_consS (P1 := fun d => d = .int (r : Int)) (P := fun ds => ∃ wait, WaitOk m nd qq[r].2.2 wait ∧ ds = [encWait wait]) (Ev.sm (ev_nm 4 rfl hd) rfl)
          (ea_consS (P1 := fun d => ∃ wait, WaitOk m nd qq[r].2.2 wait ∧ d = encWait wait) (P := fun l => l = []) (ev_callW c1 hr (Nat.le_refl _) (ea_any (ev_rf (v := .ref b) 0 rfl) rf_mono (ea_any (ev_nm 1 rfl (h1.sm sg2)) is_mono (ea_any (ev_ix (j := 2) (ev_ix (j := r) (ev_nm 2 rfl (h2.sm sg2)) (ev_nm 4 rfl hd) hqm) ev_int rfl) is_mono (ea_any1 (ev_rf (v := .ref l) 3 rfl)))))
            fun G' vs s ⟨u1, r1, e1, z1, u2, r2, e2, z2, u3, r3, e3, z3, u4, e4, z4⟩ => ⟨b, g, l, n, n', nd, qq[r].2.2, u2, u3, hw, hc, by rw [e1, e2, e3, e4, show u1 = _ from z1, show u4 = _ from z4], by rw [encN_eq]; exact z2, z3, g1, g3.2 _ (List.mem_of_getElem? hq), hm, rfl⟩) (ea_S ea_nil)
            fun d l ⟨wait, h, e⟩ hl => ⟨wait, h, by rw [e, hl]⟩)
          fun d l hd ⟨wait, h, e⟩ => ⟨wait, h, by rw [hd, e]⟩)
        fun d l hd ⟨wait, h, e⟩ => ⟨wait, h, by rw [hd, e]⟩)
      (fun l ⟨wait, h, e⟩ => by rw [e]; show 3 ≤ 1000; decide) (fun l ⟨wait, h, e⟩ => ⟨.mk false r wait, ⟨qq[r], hq, h.1, fun i mv q' e1 e2 => h.2 i mv q' e1 e2⟩, by rw [e, encM_eq]; rfl⟩)) (Same.refl _) k2 (fun v G4 H4 s4 k4 rr => q v G4 H4 (sg2.trans s4) k4 rr)
  by_cases hz : nd.qs = []
  · refine ws_ifF (et_of (ew_and (m := false) (n := false) (EvT.eq (et_cmp (ev_lenT T.len (ev_nm 1 rfl (h1.sm s1))) ev_int) (by rw [hz]; rfl)) fun z => nomatch z)) (Same.refl _) k1' fun G2 H2 s2 k2 => tellW G2 H2 (s1.trans s2) k2
  · have hpos : 1 ≤ nd.qs.length := by
      rcases Nat.eq_zero_or_pos nd.qs.length with e | e
      · exact absurd (List.eq_nil_of_length_eq_zero e) hz
      · exact e
    refine ws_ifU (eu_of (eu_and (et_cmp (ev_lenT T.len (ev_nm 1 rfl (h1.sm s1))) ev_int) (eu_andU (eu_cmpI (fun d h => h) (ev_cnt (ev_rf 3 rfl) hc ev_int) ev_int) (eu_and1 (eu_cmpI (fun d ⟨r, _, e⟩ => ⟨r, e⟩) (ev_pick (n := 3) c0 hr hk hw (ev_rf 0 rfl) ev_int (by decide) (by decide)) ev_int))))) (Same.refl _) k1' (fun G2 H2 s2 k2 => ?_) (fun G2 H2 s2 k2 => ws_nil (tellW G2 H2 (s1.trans s2) k2))
    have sg2 := s1.trans s2
    refine ws_setE 5 (ev_pick c0 hr hk hw (ev_rf 0 rfl) (ev_lenT T.len (ev_nm 1 rfl (h1.sm sg2))) (by rw [List.length_map]; exact hpos) (by rw [List.length_map]; omega)) (Same.refl _) k2 (fun v3 G3 H3 s3 k3 ⟨d, ⟨r, hr', ed⟩, hd⟩ => ?_) sc_law_move.nd
    subst ed
    rw [List.length_map] at hr'
    have hq : nd.qs[r]? = some nd.qs[r] := List.getElem?_eq_getElem hr'
    have hqm : (nd.qs.map encQ)[r]? = some (encQ nd.qs[r]) := by rw [List.getElem?_map, hq]; rfl
    have hmem := List.mem_of_getElem? hq
    have sg3 := sg2.trans s3
    cases n with
    | zero => exact absurd g1 hz
    | succ n =>
      obtain ⟨m, rfl⟩ : ∃ m', m = m' + 1 := ⟨n + n', by omega⟩
      have gq := g1.2 nd.qs[r] hmem
      refine ws_retE (ev_tupP (P := fun ds => ∃ ms : List Mv, (ms.length = nd.qs[r].length ∧ ∀ (i : Nat) mv a, ms[i]? = some mv → nd.qs[r][i]? = some a → MvOk (m + 1) a.2.2 qq mv) ∧ ds = [.str "ask", .int (r : Int), .tuple (ms.map encM)]) (P' := fun d => ∃ mv, MvOk (m + 1 + 1) nd qq mv ∧ d = encM mv)
        (ea_consS (P1 := fun d => d = .str "ask") (P := fun ds => ∃ ms : List Mv, (ms.length = nd.qs[r].length ∧ ∀ (i : Nat) mv a, ms[i]? = some mv → nd.qs[r][i]? = some a → MvOk (m + 1) a.2.2 qq mv) ∧ ds = [.int (r : Int), .tuple (ms.map encM)]) (Ev.sm ev_str rfl)
          (ea_consS (P1 := fun d => d = .int (r : Int)) (P := fun ds => ∃ ms : List Mv, (ms.length = nd.qs[r].length ∧ ∀ (i : Nat) mv a, ms[i]? = some mv → nd.qs[r][i]? = some a → MvOk (m + 1) a.2.2 qq mv) ∧ ds = [.tuple (ms.map encM)]) (Ev.sm (ev_nm 5 rfl hd) rfl)
            (ea_consS (P1 := fun d => ∃ ms : List Mv, (ms.length = nd.qs[r].length ∧ ∀ (i : Nat) mv a, ms[i]? = some mv → nd.qs[r][i]? = some a → MvOk (m + 1) a.2.2 qq mv) ∧ d = .tuple (ms.map encM)) (P := fun l => l = [])
              (ev_tupleP T.ztuple (P := fun es => ∃ ms : List Mv, (ms.length = nd.qs[r].length ∧ ∀ (i : Nat) mv a, ms[i]? = some mv → nd.qs[r][i]? = some a → MvOk (m + 1) a.2.2 qq mv) ∧ es = ms.map encM) (Ev.imp (ev_lcB (own := [("_law_word", 6), ("_law_weights", 7), ("_law_behind", 8)]) (xs := nd.qs[r]) (ei := encA) (P := fun a d => ∃ mv, MvOk (m + 1) a.2.2 qq mv ∧ d = encM mv) rfl sc_law_move.nd (blkOk_by (N := n_law_move) (sc := defScope s_law_move) (by decide +kernel))
                (ei_tup (ds := nd.qs[r].map encA) (ev_ix (j := r) (ev_nm 1 rfl (h1.sm sg3)) (ev_nm 5 rfl hd) hqm)) rfl (by have := gq.2.1; omega) (tg3 6 7 8 rfl ?_ sc_law_move.nd) ?_) fun G v ⟨es, pr, hl⟩ => ⟨es, ?_, hl⟩) fun es ⟨ms, h, e⟩ => ⟨ms, h, by rw [e]⟩) (ea_S ea_nil)
              fun d l ⟨wait, h, e⟩ hl => ⟨wait, h, by rw [e, hl]⟩)
            fun d l hd ⟨wait, h, e⟩ => ⟨wait, h, by rw [hd, e]⟩)
          fun d l hd ⟨wait, h, e⟩ => ⟨wait, h, by rw [hd, e]⟩)
        (fun l ⟨wait, h, e⟩ => by rw [e]; show 3 ≤ 1000; decide) (fun l ⟨ms, h, e⟩ => ⟨.mk true r ms, ⟨nd.qs[r], hq, h.1, fun i mv a e1 e2 => h.2 i mv a e1 e2⟩, by rw [e, encM_eq]; rfl⟩)) (Same.refl _) k3 (fun v G4 H4 s4 k4 rr => q v G4 H4 (sg3.trans s4) k4 rr)
      · intro d hd
        obtain ⟨a, _, rfl⟩ := List.mem_map.mp hd
        exact ⟨_, _, _, rfl⟩
      · rintro i x v σ2 G' D acc hx s4 ⟨d1, d2, d3, w1, w2, w3, e, a1, a2, a3, rfl⟩ s0 H0 C cl fp
        cases e
        exact ev_callW (c2 m rfl) hr (Nat.le_refl _) (ea_any (ev_rf (v := .ref b) 0 rfl) rf_mono (ea_any (ev_nm 8 rfl a3) is_mono (ea_any (ev_nm 2 rfl (h2.sm (sg3.trans s4))) is_mono (ea_any1 (ev_rf (v := .ref l) 3 rfl)))))
          fun G' vs s ⟨u1, r1, e1, z1, u2, r2, e2, z2, u3, r3, e3, z3, u4, e4, z4⟩ => ⟨b, g, l, n, n', x.2.2, qq, u2, u3, hw.sep _, hc.sep _, by rw [e1, e2, e3, e4, show u1 = _ from z1, show u4 = _ from z4], z2, z3, gq.2.2 x (List.mem_of_getElem? hx), g2, g3, by omega, rfl⟩
      · obtain ⟨ms, e, hlen, hf⟩ := pd_waits pr
        exact ⟨ms, ⟨hlen, fun i mv q' e1 e2 => hf i mv q' e1 e2⟩, e⟩
end
end K12
/-! E4: go-betweens, hopeless answers, two trees. -/
namespace K12
open PySem PySem.Spec PyProof.Rows L2
theorem rising_snoc : ∀ (ws : List (List Int)) (u w : List Int), risingW ws = true → ws.getLast? = some u → HT.lexLt u w = true → risingW (ws ++ [w]) = true
  | [], _, _, _, h, _ => by simp at h
  | [a], u, w, _, h, hl => by
    simp at h
    subst h
    unfold risingW
    simp [hl]
  | a :: b :: r, u, w, h1, h2, hl => by
    have h3 : risingW (b :: r) = true := by
      unfold risingW at h1 ⊢
      simp only [List.drop_succ_cons, List.drop_zero, List.zip_cons_cons, List.all_cons, Bool.and_eq_true] at h1
      simp only [List.drop_succ_cons, List.drop_zero]
      exact h1.2
    have h4 : HT.lexLt a b = true := by
      unfold risingW at h1
      simp only [List.drop_succ_cons, List.drop_zero, List.zip_cons_cons, List.all_cons, Bool.and_eq_true] at h1
      exact h1.1
    have h5 := rising_snoc (b :: r) u w h3 (by rw [List.getLast?_cons_cons] at h2; exact h2) hl
    unfold risingW at h5 ⊢
    simp only [List.cons_append, List.drop_succ_cons, List.drop_zero, List.zip_cons_cons, List.all_cons, Bool.and_eq_true] at h5 ⊢
    exact ⟨h4, h5⟩
theorem lex99 : ∀ (u : List Int) (r : Int), HT.lexLt u [99] = true → HT.lexLt u [99, r] = true
  | [], _, _ => rfl
  | [x], r, h => by
    rw [HT.lexLt_cons] at h ⊢
    by_cases e : x = 99
    · rw [if_pos e]; rfl
    · rw [if_neg e] at h ⊢; exact h
  | x :: y :: t, r, h => by
    rw [HT.lexLt_cons] at h ⊢
    by_cases e : x = 99
    · rw [if_pos e] at h; cases h
    · rw [if_neg e] at h ⊢; exact h
theorem colsum_congr {W : Nat} {q q' : List An} (h : q'.map (·.2.1) = q.map (·.2.1)) : colsum W q' = colsum W q := by
  unfold colsum
  apply List.map_congr_left
  intro k _
  have e : ∀ q : List An, (q.map fun a => at0 a.2.1 k) = (q.map (·.2.1)).map fun w => at0 w k := fun q => by rw [List.map_map]; rfl
  rw [e, e, h]
theorem colsum_snoc0 {W : Nat} {q : List An} {a : An} (h : a.2.1 = zeros W) : colsum W (q ++ [a]) = colsum W q := by
  unfold colsum
  apply List.map_congr_left
  intro k hk
  have hk' : k < W := by simpa using hk
  rw [List.map_append, sumR_append]
  have e : at0 a.2.1 k = 0 := by
    rw [h]
    unfold zeros
    rw [at0_get (by rw [List.length_replicate]; exact hk'), List.getElem_replicate]
  show _ + (at0 a.2.1 k + 0) = _
  rw [e, Rat.add_zero, Rat.add_zero]
/-- the questions with other nodes behind -/
theorem qok_behind {W n m : Nat} {ah : List Rat} {q q' : List An} (h : QOk 3 W MM n ah q) (h1 : q'.map (·.1) = q.map (·.1)) (h2 : q'.map (·.2.1) = q.map (·.2.1)) (h3 : ∀ a ∈ q', Val 4 W MM m a.2.1 a.2.2) : QOk 4 W MM m ah q' := by
  obtain ⟨a1, a2, a3, a4, a5, a6⟩ := h
  have hl : q'.length = q.length := by
    have := congrArg List.length h1
    rw [List.length_map, List.length_map] at this
    exact this
  refine ⟨by omega, by omega, by rw [h1]; exact a3, fun a ha => ?_, by rw [colsum_congr h2]; exact a5, h3⟩
  have : a.2.1 ∈ q.map (·.2.1) := by rw [← h2]; exact List.mem_map_of_mem (f := fun a : An => a.2.1) ha
  obtain ⟨b, hb, e⟩ := List.mem_map.mp this
  rw [← e]
  exact a4 b hb
theorem qok_hopeless {W n m : Nat} {ah : List Rat} {q q' : List An} (h : QOk 3 W MM n ah q) (h1 : q'.map (·.1) = q.map (·.1)) (h2 : q'.map (·.2.1) = q.map (·.2.1)) (h3 : ∀ a ∈ q', Val 4 W MM m a.2.1 a.2.2) {u : List Int} (hu : (q'.map (·.1)).getLast? = some u) (hlt : HT.lexLt u [99] = true) {r : Nat} (hr : r < 9) {nd : Nd} (hnd : Val 4 W MM m (zeros W) nd) :
    QOk 4 W MM m ah (q' ++ [([99, (r : Int)], zeros W, nd)]) := by
  obtain ⟨a1, a2, a3, a4, a5, a6⟩ := h
  have hl : q'.length = q.length := by
    have := congrArg List.length h1
    rw [List.length_map, List.length_map] at this
    exact this
  refine ⟨by rw [List.length_append]; omega, by rw [List.length_append]; show _ + 1 ≤ 4; omega, ⟨fun w hw => ?_, ?_⟩, fun a ha => ?_, by rw [colsum_snoc0 rfl, colsum_congr h2]; exact a5, fun a ha => ?_⟩
  · rw [List.map_append] at hw
    rcases List.mem_append.mp hw with hw | hw
    · rw [h1] at hw; exact a3.1 w hw
    · cases List.mem_singleton.mp hw
      refine ⟨by show 2 ≤ 8; decide, fun x hx => ?_⟩
      rcases List.mem_cons.mp hx with rfl | hx
      · decide
      · cases List.mem_singleton.mp hx
        omega
  · rw [List.map_append]
    exact rising_snoc _ u _ (by rw [h1]; exact a3.2) hu (lex99 u _ hlt)
  · rcases List.mem_append.mp ha with ha | ha
    · have : a.2.1 ∈ q.map (·.2.1) := by rw [← h2]; exact List.mem_map_of_mem (f := fun a : An => a.2.1) ha
      obtain ⟨b, hb, e⟩ := List.mem_map.mp this
      rw [← e]
      exact a4 b hb
    · cases List.mem_singleton.mp ha
      refine ⟨List.length_replicate, fun x hx => ?_⟩
      rw [List.eq_of_mem_replicate hx]
      exact rg_zero
  · rcases List.mem_append.mp ha with ha | ha
    · exact h3 a ha
    · cases List.mem_singleton.mp ha
      exact hnd
section
variable {X : Cx} {W : Wd} {e a b c : Expr} {σ : L2.St} {G : Hp} {pos : Pos}
theorem ew_andUF {r : List Expr} (h : EvU X W e σ G) (hr : EvW X W (.BoolOp .And (a :: r) pos) σ G false) : EvW X W (.BoolOp .And (e :: a :: r) pos) σ G false := fun G1 H Q s k1 q => useW (pw_and (pT e) (pW _)) <|
  h G1 H _ s k1 fun m G2 H2 s2 k2 => by
    cases m with
    | true => exact iteT (hr G2 H2 _ (s.trans s2) k2 fun G3 H3 s3 k3 => q G3 H3 (s2.trans s3) k3)
    | false => exact iteF (q G2 H2 s2 k2)
theorem eu_T {m : Bool} (h : EvT X W e σ G m) : EvU X W e σ G := fun G1 H Q s k1 q => h G1 H _ s k1 fun G2 H2 s2 k2 => q m G2 H2 s2 k2
end
section
variable {P : Program} {w : World} {K : PySem.W.Frag} {mg : Str → Option Value} {base : Heap}
def preBtwL (K : PySem.W.Frag) : Wd → Hp → List V → Rl → Prop := fun U G vs Z => ∃ b g n n' one other plans v1 v2, Has U (bagW b g) ∧ vs = [.ref b, v1, v2, .int ((plans : Nat) : Int)] ∧ Dp K G v1 (encN one) ∧ Dp K G v2 (encN other) ∧ Shp 12 n one ∧ Shp 12 n' other ∧ n + n' ≤ 12 ∧ 1 ≤ plans ∧ plans ≤ 3 ∧
  Z = Sm K (fun d => ∃ bt : Btw, ShareOk plans 1 (bt.map (·.1)) ∧ (∀ p ∈ bt, WaitOk 12 one other p.2) ∧ d = encB bt)
theorem pd_btw {one other : Nd} : ∀ {qs : List Rat} {bs : List PyData}, Paired (fun q d => ∃ wait, WaitOk 12 one other wait ∧ d = encBi (q, wait)) qs bs → ∃ bt : Btw, bs = bt.map encBi ∧ bt.map (·.1) = qs ∧ ∀ p ∈ bt, WaitOk 12 one other p.2
  | _, _, .nil => ⟨[], rfl, rfl, fun p h => nomatch h⟩
  | _, _, .cons (a := q0) ⟨wait, h, e⟩ t => by
    obtain ⟨bt, e1, e2, h2⟩ := pd_btw t
    refine ⟨(q0, wait) :: bt, by rw [e, e1]; rfl, by rw [List.map_cons, e2], fun p hp => ?_⟩
    rcases List.mem_cons.mp hp with rfl | hp
    · exact h
    · exact h2 p hp
theorem c_law_between (A : At K mg "_law_between" s_law_between ["_law_bag_here", "_law_one", "_law_other", "_law_plans"]) (T : Txt K mg) (c1 : C8.Cal P w K mg base 3 "_law_shares" (SpGW (preShares K)) []) (c2 : ∀ m, m ≤ 12 → C8.Cal P w K mg base 40 "_law_wait" (SpGW (preWaitL K m)) []) : C8.Cal P w K mg base 41 "_law_between" (SpGW (preBtwL K)) [] := by
  refine calW_mk A sc_law_between (fun W G vs R ⟨_, _, _, _, _, _, _, _, _, _, h, _⟩ => by rw [h]; rfl) fun f cdv A outer s H vs Q E hr U G Z k ⟨b, g, n, n', one, other, plans, v1, v2, hw, e, h1, h2, g1, g2, hm, hp1, hp3, eZ⟩ q => ?_
  subst e eZ
  refine ws_setE 4 (ev_callW c1 hr (by decide) (ea_any (ev_rf (v := .ref b) 0 rfl) rf_mono (ea_any (ev_nm 3 rfl (.int (plans : Int))) is_mono (ea_any1 ev_int))) fun G' vs s ⟨u1, r1, e1, z1, u2, r2, e2, z2, ⟨u3, e3, z3⟩⟩ => ⟨b, g, plans, 1, hw, by rw [e1, e2, e3, show u1 = _ from z1, Dp.int_eq z2, Dp.int_eq z3]; rfl, hp1, hp3, Nat.le_refl _, rfl⟩) (Same.refl _) k (fun v4 G1 H1 s1 k1 ⟨d, ⟨qs, hqs, ed⟩, hd⟩ => ?_) sc_law_between.nd
  subst ed
  refine ws_retE (ev_tupleP T.ztuple (P := fun es => ∃ bt : Btw, es = bt.map encBi ∧ bt.map (·.1) = qs ∧ ∀ p ∈ bt, WaitOk 12 one other p.2) (P' := fun d => ∃ bt : Btw, ShareOk plans 1 (bt.map (·.1)) ∧ (∀ p ∈ bt, WaitOk 12 one other p.2) ∧ d = encB bt) (Ev.imp (ev_lcB (own := [("_law_share", 5)]) (xs := qs) (ei := encR) (P := fun q d => ∃ wait, WaitOk 12 one other wait ∧ d = encBi (q, wait)) rfl sc_law_between.nd (blkOk_by (N := n_law_between) (sc := defScope s_law_between) (by decide +kernel))
    (ei_list (ev_nm 4 rfl hd)) rfl (by rw [hqs.1]; omega) (tg1 5 sc_law_between.nd) ?_) fun G v ⟨es, pr, hl⟩ => ⟨es, pd_btw pr, hl⟩) fun es ⟨bt, e1, e2, e3⟩ => ⟨bt, by rw [e2]; exact hqs, e3, by rw [e1]; rfl⟩) (Same.refl _) k1 (fun v G4 H4 s4 k4 r => q v G4 H4 (s1.trans s4) k4 r)
  rintro i x v σ2 G' D acc hx s4 ⟨a1, rfl⟩ s0 H0 C cl fp
  refine ev_tupP (P := fun ds => ∃ wait, WaitOk 12 one other wait ∧ ds = [encR x, encWait wait]) (ea_consS (P1 := fun d => d = encR x) (P := fun ds => ∃ wait, WaitOk 12 one other wait ∧ ds = [encWait wait]) (Ev.sm (ev_nm 5 rfl a1) rfl)
    (ea_consS (P1 := fun d => ∃ wait, WaitOk (n + n') one other wait ∧ d = encWait wait) (P := fun l => l = []) (ev_callWo (c2 (n + n') hm) hr (by decide) (eao_cons (ev_rf (v := .ref b) 0 rfl) rf_mono (eao_cons (ev_nm 1 rfl (h1.sm (s1.trans s4))) is_mono (eao_cons (ev_nm 2 rfl (h2.sm (s1.trans s4))) is_mono (eao_list (ev_int (i := 30))))))
      fun G' vs l s ⟨u1, r1, e1, z1, u2, r2, e2, z2, u3, r3, e3, z3, e4⟩ => ⟨b, g, l, n, n', one, other, u2, u3, (hw.sep _).sep _, Has.self _ _, by rw [e1, e2, e3, e4, show u1 = _ from z1], z2, z3, g1, g2, rfl, rfl⟩) (ea_S ea_nil)
      fun d l ⟨wait, h, e⟩ hl => ⟨wait, h.up hm, by rw [e, hl]⟩)
    fun d l hd ⟨wait, h, e⟩ => ⟨wait, h, by rw [hd, e]⟩) (fun l ⟨wait, h, e⟩ => by rw [e]; show 2 ≤ 1000; decide) fun l ⟨wait, h, e⟩ => ⟨wait, h, by rw [e]; rfl⟩
def preHope (K : PySem.W.Frag) (n : Nat) : Wd → Hp → List V → Rl → Prop := fun U G vs Z => ∃ b g W ah nd vn, Has U (bagW b g) ∧ vs = [.ref b, .int ((W : Nat) : Int), vn] ∧ Dp K G vn (encN nd) ∧ 1 ≤ W ∧ W ≤ 5 ∧ Val 3 W MM n ah nd ∧ Z = Sm K (fun d => ∃ nd', (Val 4 W MM (n + 1) ah nd' ∧ cnt nd' ≤ hopeB n) ∧ d = encN nd')
theorem pd_hope {W n c : Nat} : ∀ {q : List An} {bs : List PyData}, Paired (fun a d => ∃ nd', (Val 4 W MM n a.2.1 nd' ∧ cnt nd' ≤ c) ∧ d = encA (a.1, a.2.1, nd')) q bs → ∃ q' : List An, bs = q'.map encA ∧ q'.map (·.1) = q.map (·.1) ∧ q'.map (·.2.1) = q.map (·.2.1) ∧ ∀ a ∈ q', Val 4 W MM n a.2.1 a.2.2 ∧ cnt a.2.2 ≤ c
  | _, _, .nil => ⟨[], rfl, rfl, rfl, fun p h => nomatch h⟩
  | _, _, .cons (a := a0) ⟨nd', h, e⟩ t => by
    obtain ⟨q', e1, e2, e3, h2⟩ := pd_hope t
    refine ⟨(a0.1, a0.2.1, nd') :: q', by rw [e, e1]; rfl, by rw [List.map_cons, List.map_cons, e2], by rw [List.map_cons, List.map_cons, e3], fun p hp => ?_⟩
    rcases List.mem_cons.mp hp with rfl | hp
    · exact h
    · exact h2 p hp
theorem c_law_hope {n k1 : Nat} (A : At K mg "_law_with_hopeless" s_law_with_hopeless ["_law_bag_here", "_law_worlds", "_law_node_here"]) (T : Txt K mg) (hk : 20 ≤ k1) (c0 : C8.Cal P w K mg base 1 "_law_pick" (SpGW (prePick K)) []) (c1 : C8.Cal P w K mg base 20 "_law_node" (SpGW (preN K 1)) [])
    (c2 : ∀ m, n = m + 1 → C8.Cal P w K mg base k1 "_law_with_hopeless" (SpGW (preHope K m)) []) : C8.Cal P w K mg base (k1 + 1) "_law_with_hopeless" (SpGW (preHope K n)) [] := by
  refine calW_mk A sc_law_with_hopeless (fun W G vs R ⟨_, _, _, _, _, _, _, h, _⟩ => by rw [h]; rfl) fun f cdv A outer s H vs Q E hr U G Z k ⟨b, g, W, ah, nd, vn, hw, e, hd, hW1, hW5, hv, eZ⟩ q => ?_
  subst e eZ
  rw [encN_eq nd] at hd
  have hqs : nd.qs.length ≤ 2 := shp_len hv.shp
  refine ws_own 3 ea_nil (by decide) (Same.refl _) k (fun lf us G1 H1 s1 k1' hd4 => ?_) sc_law_with_hopeless.nd
  cases hd4
  refine ws_for (fun i σ W' G' => ∃ vs qs x4 x5 x6 x7 x8 x9, W' = U.sep (.cell lf (.lst vs)) ∧ σ = [some (.ref b), some (.int W), some vn, some (.ref lf), x4, x5, x6, x7, x8, x9] ∧ DpAll K G' vs (qs.map encQ) ∧ qs.length = i ∧ ∀ q ∈ qs, QOk 4 W MM n ah q ∧ 2 * qcnt q ≤ hopeB n)
    (ei_tup (ev_nm 2 rfl (hd.sm s1))) (Same.refl _) k1' (fun G2 s2 => ⟨[], [], none, none, none, none, none, none, rfl, rfl, .nil, rfl, fun q h => nomatch h⟩)
    (fun Gb sb i d σ1 W1 G5 G6 H6 v hi s5 ⟨acc, qs, x4, x5, x6, x7, x8, x9, eW, es, dacc, hlen, hQ⟩ s6 k6 hv6 => ?_) (fun σ1 W1 G5 H5 s5 k5 ⟨acc, qs, x4, x5, x6, x7, x8, x9, eW, es, dacc, hlen, hQ⟩ => ?_) PassesOwn.never rfl
  · subst eW es
    rw [List.getElem?_map] at hi
    cases ez : nd.qs[i]? with
    | none => rw [ez] at hi; cases hi
    | some qz =>
      rw [ez] at hi
      cases hi
      have hmem := List.mem_of_getElem? ez
      cases n with
      | zero => rw [show nd.qs = [] from hv] at hmem; cases hmem
      | succ m =>
        have hq := hv.2 qz hmem
        have c3 := c2 m rfl
        have sg6 : Same G G6 := ((s1.trans sb).trans s5).trans s6
        refine wg_nm 4 ?_ sc_law_with_hopeless.nd
        refine ws_setLcO (own := [("_law_word", 7), ("_law_weights", 8), ("_law_behind", 9)]) (xs := qz) (ei := encA) (P := fun a d => ∃ nd', (Val 4 W MM (m + 1) a.2.1 nd' ∧ cnt nd' ≤ hopeB m) ∧ d = encA (a.1, a.2.1, nd')) 5 rfl sc_law_with_hopeless.nd (blkOk_by (N := n_law_with_hopeless) (sc := defScope s_law_with_hopeless) (by decide +kernel))
          (ei_tup (ds := qz.map encA) (ev_nm 4 rfl hv6)) rfl (by have := hq.2.1; omega) (tg3 7 8 9 rfl ?_ sc_law_with_hopeless.nd) ?_ (Same.refl _) k6 (fun la vs2 es G7 H7 s7 k7 pr hd7 => ?_)
        · intro d hd
          obtain ⟨a, _, rfl⟩ := List.mem_map.mp hd
          exact ⟨_, _, _, rfl⟩
        · rintro i x v σ2 G' D acc' hx s4 ⟨d1, d2, d3, w1, w2, w3, e, a1, a2, a3, rfl⟩ s0 H0 C cl fp
          cases e
          exact ev_tupP (P := fun ds => ∃ nd', (Val 4 W MM (m + 1) x.2.1 nd' ∧ cnt nd' ≤ hopeB m) ∧ ds = [encW x.1, encWs x.2.1, encN nd']) (ea_consS (P1 := fun d => d = encW x.1) (P := fun ds => ∃ nd', (Val 4 W MM (m + 1) x.2.1 nd' ∧ cnt nd' ≤ hopeB m) ∧ ds = [encWs x.2.1, encN nd']) (Ev.sm (ev_nm 7 rfl a1) rfl)
            (ea_consS (P1 := fun d => d = encWs x.2.1) (P := fun ds => ∃ nd', (Val 4 W MM (m + 1) x.2.1 nd' ∧ cnt nd' ≤ hopeB m) ∧ ds = [encN nd']) (Ev.sm (ev_nm 8 rfl a2) rfl)
              (ea_consS (P1 := fun d => ∃ nd', (Val 4 W MM (m + 1) x.2.1 nd' ∧ cnt nd' ≤ hopeB m) ∧ d = encN nd') (P := fun l => l = []) (ev_callW c3 hr (Nat.le_refl _) (ea_any (ev_rf (v := .ref b) 0 rfl) rf_mono (ea_any (ev_nm 1 rfl (.int (W : Int))) is_mono (ea_any1 (ev_nm 9 rfl a3)))) fun G' vs s ⟨u1, r1, e1, z1, u2, r2, e2, z2, ⟨u3, e3, z3⟩⟩ => ⟨b, g, W, x.2.1, x.2.2, u3, (hw.sep _).sep _, by rw [e1, e2, e3, show u1 = _ from z1, Dp.int_eq z2], z3, hW1, hW5, hq.2.2.2.2.2 x (List.mem_of_getElem? hx), rfl⟩) (ea_S ea_nil)
                fun d l ⟨wait, h, e⟩ hl => ⟨wait, h, by rw [e, hl]⟩)
              fun d l hd ⟨wait, h, e⟩ => ⟨wait, h, by rw [hd, e]⟩)
            fun d l hd ⟨wait, h, e⟩ => ⟨wait, h, by rw [hd, e]⟩) (fun l ⟨wait, h, e⟩ => by rw [e]; show 3 ≤ 1000; decide) fun l ⟨wait, h, e⟩ => ⟨wait, h, by rw [e]; rfl⟩
        · obtain ⟨q', rfl, e1, e2, hq0⟩ := pd_hope pr
          have hq' : ∀ a ∈ q', Val 4 W MM (m + 1) a.2.1 a.2.2 := fun a ha => (hq0 a ha).1
          have hl' : q'.length = qz.length := by
            have := congrArg List.length e1
            rw [List.length_map, List.length_map] at this
            exact this
          have hvl : vs2.length = q'.length := by rw [hd7.length, List.length_map]
          have hpos : 1 ≤ q'.length := by rw [hl']; exact hq.1
          have hlast : q'.getLast? = some (q'[q'.length - 1]'(by omega)) := by rw [List.getLast?_eq_getElem?]; exact List.getElem?_eq_getElem (by omega)
          obtain ⟨vl, hvl2, dvl⟩ := hd7.get (i := q'.length - 1) (d := encA (q'[q'.length - 1]'(by omega))) (by rw [List.getElem?_map, List.getElem?_eq_getElem (by omega)]; rfl)
          have hvlast : vs2.getLast? = some vl := by rw [List.getLast?_eq_getElem?, hvl]; exact hvl2
          have hulast : (q'.map (·.1)).getLast? = some (q'[q'.length - 1]'(by omega)).1 := by rw [List.getLast?_map, hlast]; rfl
          have nr : QOk 3 W MM m ah qz := hq
          have c1' : qcnt q' ≤ 3 * (1 + hopeB m) := Nat.le_trans (sum_le_mul _ (1 + hopeB m) q' fun a ha => by have := (hq0 a ha).2; omega) (Nat.mul_le_mul_right _ (by rw [hl']; exact hq.2.1))
          have c2' : 2 * qcnt q' ≤ hopeB (m + 1) := by
            show _ ≤ 2 * (3 * (1 + hopeB m) + 7)
            omega
          cases hb : HT.lexLt (q'[q'.length - 1]'(by omega)).1 [99] with
          | false =>
            refine ws_ifF (et_of (ew_andUF (eu_cmpI (fun d ⟨r, _, e⟩ => ⟨r, e⟩) (ev_pick (n := 4) c0 hr (by omega) ((hw.sep _).sep _) (ev_rf 0 rfl) ev_int (by decide) (by decide)) ev_int) (ew_and1 (EvT.eq (et_ltT (ns := (q'[q'.length - 1]'(by omega)).1) (ms := [99]) hr.units0 (ev_ix (j := 0) (Ev.of (ev_ixLast (ev_rf 5 rfl) (Has.self _ _) (ev_neg ev_int) hvlast) dvl) ev_int rfl) (ev_tup (ea1 ev_int))) hb)))) (Same.refl _) k7 fun G8 H8 s8 k8 => ?_
            refine ws_append 3 rfl (Wd.Eqv.swap _ _ _) (ev_tupO (W0 := U) T.ztuple (ev_rf 5 rfl) (Has.self _ _) (hd7.sm s8) (P := fun _ => True)) (by rw [dacc.length, List.length_map]; have := (List.getElem?_eq_some_iff.mp ez).1; omega) (Same.refl _) k8 (fun v9 G9 H9 s9 k9 h9 => ws_nil ?_)
            have gl9 := k9.swap.out la (.inr rfl)
            exact ⟨_, _, ((s5.trans s6).trans (s7.trans s8)).trans (s9.trans (same_new gl9)), k9.swap.give, _, qs ++ [q'], _, _, _, _, _, _, rfl, rfl, by rw [List.map_append]; exact ((dacc.sm (((s6.trans s7).trans s8).trans s9)).snoc h9).sm (same_new gl9), by rw [List.length_append, hlen]; rfl, fun q hq => (List.mem_append.mp hq).elim (hQ q) fun h => by cases List.mem_singleton.mp h; exact ⟨qok_behind nr e1 e2 hq', c2'⟩⟩

          | true =>
            refine ws_ifU (eu_of (eu_andU (eu_cmpI (fun d ⟨r, _, e⟩ => ⟨r, e⟩) (ev_pick (n := 4) c0 hr (by omega) ((hw.sep _).sep _) (ev_rf 0 rfl) ev_int (by decide) (by decide)) ev_int) (eu_and1 (eu_T (et_ltT (ns := (q'[q'.length - 1]'(by omega)).1) (ms := [99]) hr.units0 (ev_ix (j := 0) (Ev.of (ev_ixLast (ev_rf 5 rfl) (Has.self _ _) (ev_neg ev_int) hvlast) dvl) ev_int rfl) (ev_tup (ea1 ev_int))))))) (Same.refl _) k7 (fun G8 H8 s8 k8 => ?_) (fun G8 H8 s8 k8 => ws_nil ?_)
            · refine ws_setE 6 (Ev.eq (ev_rep (ev_tup (ea1 (ev_tup (ea_cons ev_int (ea1 ev_int))))) (ev_nm 1 rfl (.int _)) hW1 (by omega)) (encWs_zeros W)) (Same.refl _) k8 (fun v8 G10 H10 s10 k10 h8 => ?_) sc_law_with_hopeless.nd
              refine ws_append (R := Sm K fun d => ∃ (r : Nat) (nd0 : Nd), r < 9 ∧ Val 3 W MM 1 (zeros W) nd0 ∧ d = encA ([99, (r : Int)], zeros W, nd0)) 5 rfl (.refl _) (ev_tupP (P := fun ds => ∃ (r : Nat) (nd0 : Nd), r < 9 ∧ Val 3 W MM 1 (zeros W) nd0 ∧ ds = [encW [99, (r : Int)], encWs (zeros W), encN nd0])
                (ea_consS (P1 := fun d => ∃ r : Nat, r < 9 ∧ d = encW [99, (r : Int)]) (P := fun ds => ∃ (nd0 : Nd), Val 3 W MM 1 (zeros W) nd0 ∧ ds = [encWs (zeros W), encN nd0])
                  (ev_tupP (P := fun ds => ∃ r : Nat, r < 9 ∧ ds = [.int 99, .int (r : Int)]) (ea_consS (P1 := fun d => d = .int 99) (P := fun ds => ∃ r : Nat, r < 9 ∧ ds = [.int (r : Int)]) (Ev.sm ev_int rfl) (ea_consS (P1 := fun d => ∃ r : Nat, r < 9 ∧ d = .int r) (P := fun l => l = []) (ev_pick (n := 9) c0 hr (by omega) ((hw.sep _).sep _) (ev_rf 0 rfl) ev_int (by decide) (by decide)) (ea_S ea_nil) fun d l ⟨r, h, e⟩ hl => ⟨r, h, by rw [e, hl]⟩) fun d l hd ⟨r, h, e⟩ => ⟨r, h, by rw [hd, e]⟩) (fun l ⟨r, h, e⟩ => by rw [e]; show 2 ≤ 1000; decide) fun l ⟨r, h, e⟩ => ⟨r, h, by rw [e]; rfl⟩)
                  (ea_consS (P1 := fun d => d = encWs (zeros W)) (P := fun ds => ∃ (nd0 : Nd), Val 3 W MM 1 (zeros W) nd0 ∧ ds = [encN nd0]) (Ev.sm (ev_nm 6 rfl h8) rfl)
                    (ea_consS (P1 := fun d => ∃ nd0, Val 3 W MM 1 (zeros W) nd0 ∧ d = encN nd0) (P := fun l => l = []) (ev_callWo c1 hr hk (eao_cons (ev_rf (v := .ref b) 0 rfl) rf_mono (eao_cons (ev_nm 1 rfl (.int (W : Int))) is_mono (eao_cons (ev_nm 6 rfl h8) is_mono (eao_cons (ev_int (i := 1)) is_mono (eao_list (ev_int (i := 4)))))))
                      fun G' vs l s ⟨u1, r1, e1, z1, u2, r2, e2, z2, u3, r3, e3, z3, u4, r4, e4, z4, e5⟩ => ⟨b, g, l, W, zeros W, u3, ((hw.sep _).sep _).sep _, Has.self _ _, by rw [e1, e2, e3, e4, e5, show u1 = _ from z1, Dp.int_eq z2, Dp.int_eq z4]; rfl, z3, zeros_dom hW1 hW5 (by decide), rfl⟩) (ea_S ea_nil) fun d l ⟨nd0, h, e⟩ hl => ⟨nd0, h, by rw [e, hl]⟩)
                    fun d l hd ⟨nd0, h, e⟩ => ⟨nd0, h, by rw [hd, e]⟩)
                  fun d l ⟨r, h, e⟩ ⟨nd0, h2, e2⟩ => ⟨r, nd0, h, h2, by rw [e, e2]⟩) (fun l ⟨r, nd0, h, h2, e⟩ => by rw [e]; show 3 ≤ 1000; decide) fun l ⟨r, nd0, h, h2, e⟩ => ⟨r, nd0, h, h2, by rw [e]; rfl⟩) (by rw [hvl, hl']; have := hq.2.1; omega) (Same.refl _) k10 (fun v11 G11 H11 s11 k11 ⟨d11, ⟨r, nd0, hr9, hnd0, e11⟩, hd11⟩ => ws_nil ?_)
              subst e11
              have c3' : 2 * qcnt (q' ++ [([99, (r : Int)], zeros W, nd0)]) ≤ hopeB (m + 1) := by
                unfold qcnt at c1' ⊢
                rw [List.map_append, List.sum_append]
                have h6 : cnt nd0 ≤ 6 := cnt_le hnd0.shp
                show 2 * (_ + (1 + cnt nd0 + 0)) ≤ 2 * (3 * (1 + hopeB m) + 7)
                omega
              have hd11' : DpAll K G11 (vs2 ++ [v11]) ((q' ++ [([99, (r : Int)], zeros W, nd0)]).map encA) := by rw [List.map_append]; exact (hd7.sm ((s8.trans s10).trans s11)).snoc hd11
              refine ws_append 3 rfl (Wd.Eqv.swap _ _ _) (ev_tupO (W0 := U) T.ztuple (ev_rf 5 rfl) (Has.self _ _) hd11' (P := fun _ => True)) (by rw [dacc.length, List.length_map]; have := (List.getElem?_eq_some_iff.mp ez).1; omega) (Same.refl _) k11 (fun v9 G9 H9 s9 k9 h9 => ws_nil ?_)
              have gl9 := k9.swap.out la (.inr rfl)
              exact ⟨_, _, ((s5.trans s6).trans (((s7.trans s8).trans s10).trans s11)).trans (s9.trans (same_new gl9)), k9.swap.give, _, qs ++ [(q' ++ [([99, (r : Int)], zeros W, nd0)])], _, _, _, _, _, _, rfl, rfl, by rw [List.map_append]; exact ((dacc.sm ((((s6.trans s7).trans (s8.trans s10)).trans s11).trans s9)).snoc h9).sm (same_new gl9), by rw [List.length_append, hlen]; rfl, fun q hq => (List.mem_append.mp hq).elim (hQ q) fun h => by cases List.mem_singleton.mp h; exact ⟨qok_hopeless nr e1 e2 hq' hulast hb hr9 (Val.up1 (by decide) (by omega) hnd0), c3'⟩⟩

            · refine ws_append 3 rfl (Wd.Eqv.swap _ _ _) (ev_tupO (W0 := U) T.ztuple (ev_rf 5 rfl) (Has.self _ _) (hd7.sm s8) (P := fun _ => True)) (by rw [dacc.length, List.length_map]; have := (List.getElem?_eq_some_iff.mp ez).1; omega) (Same.refl _) k8 (fun v9 G9 H9 s9 k9 h9 => ws_nil ?_)
              have gl9 := k9.swap.out la (.inr rfl)
              exact ⟨_, _, ((s5.trans s6).trans (s7.trans s8)).trans (s9.trans (same_new gl9)), k9.swap.give, _, qs ++ [q'], _, _, _, _, _, _, rfl, rfl, by rw [List.map_append]; exact ((dacc.sm (((s6.trans s7).trans s8).trans s9)).snoc h9).sm (same_new gl9), by rw [List.length_append, hlen]; rfl, fun q hq => (List.mem_append.mp hq).elim (hQ q) fun h => by cases List.mem_singleton.mp h; exact ⟨qok_behind nr e1 e2 hq', c2'⟩⟩

  · subst eW es
    have sg5 := s1.trans s5
    have hcnt : cnt (.mk qs) ≤ hopeB n := by
      rw [cnt_q]
      rw [List.length_map] at hlen
      show (qs.map qcnt).sum ≤ _
      rcases Nat.eq_zero_or_pos qs.length with e | e
      · rw [List.eq_nil_of_length_eq_zero e]; exact Nat.zero_le _
      · have h1 := sum_le_mul (fun q => 2 * qcnt q) (hopeB n) qs fun q hq => (hQ q hq).2
        have h2 : ∀ l : List (List An), (l.map fun q => 2 * qcnt q).sum = 2 * (l.map qcnt).sum := fun l => by
          induction l with
          | nil => rfl
          | cons a r ih => rw [List.map_cons, List.map_cons, List.sum_cons, List.sum_cons, ih]; omega
        rw [h2] at h1
        have h3 : qs.length * hopeB n ≤ 2 * hopeB n := Nat.mul_le_mul_right _ (by omega)
        omega
    exact ws_retE (ev_tupO (W0 := U) T.ztuple (ev_rf 3 rfl) (Has.self _ _) dacc (P := fun _ => True)) (Same.refl _) k5 (fun v G7 H7 s7 k7 r => q v G7 H7 (sg5.trans s7) k7.left ⟨_, ⟨.mk qs, ⟨⟨by rw [List.length_map] at hlen; show qs.length ≤ 2; omega, fun q hq => (hQ q hq).1⟩, hcnt⟩, (encN_mk qs).symm⟩, r⟩)
end
end K12
/-! M5: what the law adds up, path by path. -/
namespace K12
open PySem
mutual
def emits : Mv → Nd → List Rat → Path → Nat → List (Path × List Rat)
  | .mk false a rest, nd, ws, p, q => (p ++ [(q, a)], ws) :: emitsW rest 0 nd ws (p ++ [(q, a)])
  | .mk true k rest, nd, _, p, q => emitsL rest (nd.qs.getD k []) p q
def emitsL : List Mv → List An → Path → Nat → List (Path × List Rat)
  | mv :: r, a :: as, p, q => emits mv a.2.2 a.2.1 p q ++ emitsL r as p q
  | _, _, _, _ => []
def emitsW : List Mv → Nat → Nd → List Rat → Path → List (Path × List Rat)
  | mv :: r, i, nd, ws, p => emits mv nd ws p i ++ emitsW r (i + 1) nd ws p
  | [], _, _, _, _ => []
end
def zipAdd (W : Nat) (as bs : List Rat) : List Rat := (List.range W).map fun k => at0 as k + at0 bs k
/-- one entry is added -/
def addT (W : Nat) (t : Tbl) (e : Path × List Rat) : Tbl := tput t e.1 (zipAdd W (tget t e.1 (zeros W)) e.2)
def addsT (W : Nat) (t : Tbl) (es : List (Path × List Rat)) : Tbl := es.foldl (addT W) t
theorem addsT_append (W : Nat) (t : Tbl) (as bs : List (Path × List Rat)) : addsT W t (as ++ bs) = addsT W (addsT W t as) bs := List.foldl_append
/-- what a table holds: at most L entries, each from nought to N over D -/
structure TOk (W D L N : Nat) (t : Tbl) : Prop where
  len : t.length ≤ L
  at_ : ∀ e ∈ t, e.2.length = W ∧ ∀ x ∈ e.2, 0 ≤ x ∧ x ≤ (N : Rat) ∧ x.den ∣ D
def GoodB (D W M : Nat) (ws : List Rat) : Prop := ws.length = W ∧ ∀ x ∈ ws, 0 ≤ x ∧ x ≤ (M : Rat) ∧ x.den ∣ D
theorem Good.b {D W : Nat} {ws : List Rat} (h : Good D W ws) : GoodB D W 1 ws := ⟨h.1, fun x hx => ⟨(h.2 x hx).1, by simpa using (h.2 x hx).2.1, (h.2 x hx).2.2⟩⟩
theorem tval_mem {t : Tbl} {p : Path} {ws : List Rat} (h : tval t p = some ws) : (p, ws) ∈ t := by
  unfold tval at h
  obtain ⟨x, hx, rfl⟩ := Option.map_eq_some_iff.mp h
  have h1 := List.find?_some hx
  have e : x.1 = p := by simpa using h1
  rw [← e]
  exact List.mem_of_find?_eq_some hx
theorem tok_get {W D L N : Nat} {t : Tbl} (h : TOk W D L N t) (p : Path) : GoodB D W N (tget t p (zeros W)) := by
  unfold tget
  cases e : tval t p with
  | some ws => exact h.at_ _ (tval_mem e)
  | none =>
    refine ⟨List.length_replicate, fun x hx => ?_⟩
    rw [List.eq_of_mem_replicate (show x ∈ List.replicate W (0 : Rat) from hx)]
    exact ⟨Rat.le_refl, by exact_mod_cast Nat.zero_le N, over_zero⟩
theorem at0_in {ws : List Rat} {k : Nat} (h : k < ws.length) : at0 ws k ∈ ws := by
  rw [at0_get h]
  exact List.getElem_mem h
theorem tput_len (t : Tbl) (p : Path) (ws : List Rat) : (tput t p ws).length ≤ t.length + 1 := by
  unfold tput
  split
  · rw [List.length_map]; omega
  · rw [List.length_append]; exact Nat.le_refl _
theorem tput_mem {t : Tbl} {p : Path} {ws : List Rat} {e : Path × List Rat} (h : e ∈ tput t p ws) : e ∈ t ∨ e = (p, ws) := by
  unfold tput at h
  split at h
  · obtain ⟨x, hx, rfl⟩ := List.mem_map.mp h
    by_cases e : x.1 = p
    · rw [if_pos e]; right; rw [← e]
    · rw [if_neg e]; exact .inl hx
  · rcases List.mem_append.mp h with h | h
    · exact .inl h
    · exact .inr (List.mem_singleton.mp h)
theorem tok_add {W D L N M : Nat} (hD : 0 < D) {t : Tbl} (h : TOk W D L N t) {e : Path × List Rat} (he : GoodB D W M e.2) : TOk W D (L + 1) (N + M) (addT W t e) := by
  obtain ⟨g1, g2⟩ := tok_get h e.1
  have eN : ((N + M : Nat) : Rat) = (N : Rat) + (M : Rat) := by simp
  have hM : (0 : Rat) ≤ (M : Rat) := by exact_mod_cast Nat.zero_le M
  refine ⟨Nat.le_trans (tput_len _ _ _) (by have := h.len; omega), fun x hx => ?_⟩
  rcases tput_mem hx with hx | rfl
  · obtain ⟨h1, h2⟩ := h.at_ x hx
    refine ⟨h1, fun y hy => ?_⟩
    obtain ⟨a, b, c⟩ := h2 y hy
    refine ⟨a, ?_, c⟩
    rw [eN]
    grind
  · refine ⟨by unfold zipAdd; rw [List.length_map, List.length_range], fun y hy => ?_⟩
    unfold zipAdd at hy
    obtain ⟨k, hk, rfl⟩ := List.mem_map.mp hy
    have hk' : k < W := by simpa using hk
    obtain ⟨a1, a2, a3⟩ := g2 _ (at0_in (k := k) (by rw [g1]; exact hk'))
    obtain ⟨b1, b2, b3⟩ := he.2 _ (at0_in (k := k) (by rw [he.1]; exact hk'))
    refine ⟨Rat.add_nonneg a1 b1, ?_, over_add hD a3 b3⟩
    rw [eN]
    grind
theorem tok_adds {W D M : Nat} (hD : 0 < D) : ∀ (es : List (Path × List Rat)) {L N : Nat} {t : Tbl}, TOk W D L N t → (∀ e ∈ es, GoodB D W M e.2) → TOk W D (L + es.length) (N + M * es.length) (addsT W t es)
  | [], _, _, _, h, _ => h
  | e :: r, L, N, t, h, he => by
    have h1 := tok_adds hD r (tok_add hD h (he e List.mem_cons_self)) fun x hx => he x (List.mem_cons_of_mem _ hx)
    rw [List.length_cons, show L + (r.length + 1) = L + 1 + r.length by omega, show N + M * (r.length + 1) = N + M + M * r.length by rw [Nat.mul_add]; omega]
    exact h1
theorem tok_nil {W D : Nat} : TOk W D 0 0 [] := ⟨Nat.le_refl _, fun e h => nomatch h⟩
theorem sq_tok {D N : Nat} (hD : Bot D) {x : Rat} (h : 0 ≤ x ∧ x ≤ (N : Rat) ∧ x.den ∣ D) (hN : N ≤ 2 ^ 64) : Sq x := by
  refine sq_of (L := 2 ^ 64) hD.1 h.1 (Rat.le_trans h.2.1 (natLe hN)) h.2.2 ?_ ?_
  · have := hD.2
    have e : 2 ^ 64 * 2 ^ 900 < 2 ^ 1000 := by decide
    omega
  · have := hD.2
    have e : 2 ^ 900 < 2 ^ 1000 := by decide
    omega
theorem emitsL_eq : ∀ (rest : List Mv) (as : List An) (p : Path) (q : Nat), emitsL rest as p q = (as.zip rest).flatMap fun x => emits x.2 x.1.2.2 x.1.2.1 p q
  | [], as, p, q => by rw [emitsL, List.zip_nil_right]; rfl; intro _ _ _ _ h; cases h
  | mv :: r, [], p, q => by rw [emitsL]; rfl; intro _ _ _ _ _ h; cases h
  | mv :: r, a :: as, p, q => by
    rw [emitsL, emitsL_eq r as]
    show _ = List.flatMap _ ((a, mv) :: as.zip r)
    rw [List.flatMap_cons]
theorem emitsW_eq : ∀ (rest : List Mv) (i : Nat) (nd : Nd) (ws : List Rat) (p : Path), emitsW rest i nd ws p = (rest.zipIdx i).flatMap fun x => emits x.1 nd ws p x.2
  | [], i, nd, ws, p => by rw [emitsW]; rfl
  | mv :: r, i, nd, ws, p => by
    rw [emitsW, emitsW_eq r (i + 1), List.zipIdx_cons, List.flatMap_cons]
/-! ### what is emitted is right -/
mutual
theorem emits_good {D W : Nat} : ∀ (mv : Mv) (nd : Nd) (ws : List Rat) (p : Path) (q : Nat), Wts D W nd → Good D W ws → ∀ e ∈ emits mv nd ws p q, Good D W e.2
  | .mk false a rest, nd, ws, p, q, hw, hg => fun e he => by
    rw [emits] at he
    rcases List.mem_cons.mp he with rfl | he
    · exact hg
    · exact emitsW_good rest 0 nd ws _ hw hg e he
  | .mk true k rest, nd, ws, p, q, hw, hg => fun e he => by
    rw [emits] at he
    refine emitsL_good rest _ p q ?_ e he
    intro a ha
    rw [List.getD_eq_getElem?_getD] at ha
    cases ek : nd.qs[k]? with
    | none => rw [ek] at ha; cases ha
    | some qq => rw [ek] at ha; exact (wts_iff D W nd).mp hw qq (List.mem_of_getElem? ek) a ha
theorem emitsL_good {D W : Nat} : ∀ (rest : List Mv) (as : List An) (p : Path) (q : Nat), (∀ a ∈ as, Good D W a.2.1 ∧ Wts D W a.2.2) → ∀ e ∈ emitsL rest as p q, Good D W e.2
  | [], as, p, q, h => fun e he => by rw [emitsL] at he; cases he; intro _ _ _ _ h; cases h
  | mv :: r, [], p, q, h => fun e he => by rw [emitsL] at he; cases he; intro _ _ _ _ _ h; cases h
  | mv :: r, a :: as, p, q, h => fun e he => by
    rw [emitsL] at he
    rcases List.mem_append.mp he with he | he
    · exact emits_good mv a.2.2 a.2.1 p q (h a List.mem_cons_self).2 (h a List.mem_cons_self).1 e he
    · exact emitsL_good r as p q (fun x hx => h x (List.mem_cons_of_mem _ hx)) e he
theorem emitsW_good {D W : Nat} : ∀ (rest : List Mv) (i : Nat) (nd : Nd) (ws : List Rat) (p : Path), Wts D W nd → Good D W ws → ∀ e ∈ emitsW rest i nd ws p, Good D W e.2
  | [], i, nd, ws, p, hw, hg => fun e he => by rw [emitsW] at he; cases he
  | mv :: r, i, nd, ws, p, hw, hg => fun e he => by
    rw [emitsW] at he
    rcases List.mem_append.mp he with he | he
    · exact emits_good mv nd ws p i hw hg e he
    · exact emitsW_good r (i + 1) nd ws p hw hg e he
end
end K12
/-! E5: the law's own sums. -/
namespace K12
open PySem PySem.Spec PyProof.Rows L2
section
variable {X : Cx} {W : Wd} {e a b c : Expr} {es : List Expr} {σ : L2.St} {G G1 H : Hp} {x : Str} {p pos spos : Pos}
/-- a call as a statement, by its promise -/
theorem ws_callS {rest : List Stmt} {D : Ends} {j l : Nat} {sp : Sp} {Rs : Hp → List V → Prop} (c : C8.Cal X.prog X.w X.K X.mg X.base l x sp []) (hr : Room j X.A) (hk : l ≤ j) (ha : EvA X W (e :: es) σ G Rs) (s : Same G G1) (k1 : W.ok G1 H)
    (hd : ∀ G' H' vs, Same G1 G' → W.ok G' H' → Rs G' vs → sp vs H' (fun _ H'' => wSs X rest D σ H'') E0) (hg : Gl X x := by rfl)
    (hdb : (x == ("__debug__" : Str)) = false := by decide) (he : starEach (e :: es) X.env = (false, eval e X.env) :: starEach es X.env := by rfl) (hpl : (backTo pos (starEach es X.env)).any (·.1) = false := by rfl) (hsw : swapsWith (.Call (.Name x p) (e :: es) [] pos) none spos.line X.env = pure false := by rfl) :
    wSs X (.Expr (.Call (.Name x p) (e :: es) [] pos) spos :: rest) D σ H :=
  ws_expr (useE (C8.pe_c c hr hk hg (pA _) hdb he hpl) <| ha G1 H _ s k1 fun vs G2 H2 s2 k2 r => by rw [List.append_nil]; exact hd G2 H2 vs s2 k2 r) hsw
end
section
variable {P : Program} {w : World} {K : PySem.W.Frag} {mg : Str → Option Value} {base : Heap}
theorem c_law_two (A : At K mg "_law_two" s_law_two ["_law_bag_here", "_law_levels", "_law_answers"]) (c0 : C8.Cal P w K mg base 1 "_law_pick" (SpGW (prePick K)) []) (c1 : C8.Cal P w K mg base 21 "_law_tree" (SpGW (preTree K)) []) :
    C8.Cal P w K mg base 22 "_law_two" (SpGW fun U G vs Z => ∃ b g n ans, Has U (bagW b g) ∧ vs = [.ref b, .int ((n : Nat) : Int), .int ans] ∧ 1 ≤ n ∧ n ≤ 3 ∧ Z = Sm K (fun d => ∃ W one other, 1 ≤ W ∧ W ≤ 3 ∧ Val 3 W MM n (ones W) one ∧ Val 3 W MM n (ones W) other ∧ d = .tuple [.int ((W : Nat) : Int), encN one, encN other])) [] := by
  refine calW_mk A sc_law_two (fun W G vs R ⟨_, _, _, _, _, h, _⟩ => by rw [h]; rfl) fun f cdv A outer s H vs Q E hr U G Z k ⟨b, g, n, ans, hw, e, hn1, hn3, eZ⟩ q => ?_
  subst e eZ
  refine ws_setE 3 (R := Sm K fun d => ∃ r : Nat, (1 ≤ r ∧ r ≤ 3) ∧ d = .int r) (Ev.sms (ev_addS (P := fun d => ∃ r' : Nat, r' < 3 ∧ d = .int r') ev_int (Ev.sms (ev_pick c0 hr (by decide) hw (ev_rf 0 rfl) ev_int (by decide) (by decide)) fun d ⟨r, h, e⟩ => ⟨r, ⟨r, h, rfl⟩, e⟩)) fun d ⟨r, ⟨r', h, e⟩, e2⟩ => (by
      cases e
      exact ⟨1 + r', ⟨by omega, by omega⟩, by rw [e2, Int.natCast_add]; rfl⟩)) (Same.refl _) k (fun v G1 H1 s1 k1 ⟨d, ⟨W, ⟨hW1, hW3⟩, ed⟩, hd⟩ => ?_) sc_law_two.nd
  subst ed
  have tr : ∀ (pos p1 p2 p3 p4 p5 : Pos), Ev (cx0 P w K mg base n_law_two "_law_two" s_law_two f cdv A outer s H E) U (.Call (.Name "_law_tree" pos) [.Name "_law_bag_here" p1, .Name "_law_worlds" p2, .Name "_law_levels" p3, .Name "_law_answers" p4] [] p5) [some (.ref b), some (.int n), some (.int ans), some v] G1 (Sm K fun d => ∃ nd, Val 3 W MM n (ones W) nd ∧ d = encN nd) := fun _ _ _ _ _ _ =>
    ev_callW c1 hr (by decide) (ea_any (ev_rf (v := .ref b) 0 rfl) rf_mono (ea_any (ev_nm 3 rfl hd) is_mono (ea_any (ev_nm 1 rfl (.int (n : Int))) is_mono (ea_any1 (ev_nm 2 rfl (.int ans)))))) fun G' vs s ⟨u1, r1, e1, z1, u2, r2, e2, z2, u3, r3, e3, z3, u4, e4, z4⟩ => ⟨b, g, W, n, ans, hw, by rw [e1, e2, e3, e4, show u1 = _ from z1, Dp.int_eq z2, Dp.int_eq z3, Dp.int_eq z4], hW1, by omega, hn1, hn3, rfl⟩
  exact ws_retE (ev_tupP (P := fun ds => ∃ one other, Val 3 W MM n (ones W) one ∧ Val 3 W MM n (ones W) other ∧ ds = [.int (W : Int), encN one, encN other]) (ea_consS (P1 := fun d => d = .int (W : Int)) (P := fun ds => ∃ one other, Val 3 W MM n (ones W) one ∧ Val 3 W MM n (ones W) other ∧ ds = [encN one, encN other]) (Ev.sm (ev_nm 3 rfl hd) rfl)
    (ea_consS (P := fun ds => ∃ other, Val 3 W MM n (ones W) other ∧ ds = [encN other]) (tr _ _ _ _ _ _) (ea_consS (P := fun l => l = []) (tr _ _ _ _ _ _) (ea_S ea_nil) fun d l ⟨nd, h, e⟩ hl => ⟨nd, h, by rw [e, hl]⟩) fun d l ⟨nd, h, e⟩ ⟨nd2, h2, e2⟩ => ⟨nd, nd2, h, h2, by rw [e, e2]⟩) fun d l hd ⟨a, b, h1, h2, e⟩ => ⟨a, b, h1, h2, by rw [hd, e]⟩)
    (fun l ⟨a, b, h1, h2, e⟩ => by rw [e]; show 3 ≤ 1000; decide) fun l ⟨a, b, h1, h2, e⟩ => ⟨W, a, b, hW1, hW3, h1, h2, by rw [e]⟩) (Same.refl _) k1 (fun v G2 H2 s2 k2 r => q v G2 H2 (s1.trans s2) k2 r)
theorem c_law_flag (A : At K mg "_law_flag" s_law_flag ["_law_told_here", "_law_due"]) (T : Txt K mg) : CalD P w K mg base 1 "_law_flag" 2 (fun ds d => ∃ m n : Bool, ds = [.bool m, .bool n] ∧ d = .bool (decide (m = n))) := by
  refine calD_mk A sc_law_flag rfl fun f cdv A outer s H vs Q E hr W G ds d k hd hdom q => ?_
  obtain ⟨m, n, rfl, rfl⟩ := hdom
  obtain ⟨v1, v2, rfl, h1, h2⟩ := dpAll_two hd
  exact ws_retE (ev_andT (ev_isi (k := true) T.isi T.zbool boot_boolT (kit_ty (kit_bool (.bool m))) (ev_nm 0 rfl h1)) (ev_and1 (ev_eqB (ev_nm 0 rfl h1) (ev_nm 1 rfl h2)))) (Same.refl _) k q
/-! ### told -/
def SpTold (P : Program) (w : World) (K : PySem.W.Frag) (m : Nat) : Sp := fun vs H Q _ => ∃ (U : Wd) (G : Hp) (l : Addr) (xs : KX) (t : Tbl) (W L N : Nat) (mv : Mv) (nd : Nd) (gq : List An) (ws : List Rat) (p : Path) (q : Nat) (vm vh vw vp : V),
  vs = [vm, .int (W : Int), vh, vw, vp, .int (q : Int), .ref l] ∧ (U.sep (.cell l (Dx P w l xs))).ok G H ∧ Tb K G t xs ∧ TOk W MM L N t ∧ L + (emits mv nd ws p q).length ≤ 900000 ∧ N + (emits mv nd ws p q).length ≤ 900000 ∧ 1 ≤ W ∧ W ≤ 5 ∧
  Dp K G vm (encM mv) ∧ Dp K G vh (encN nd) ∧ Dp K G vw (encWs ws) ∧ Dp K G vp (encPath p) ∧ Wts MM W nd ∧ Good MM W ws ∧ MvOk m nd gq mv ∧ (∃ n, Shp 12 n nd) ∧ p.length + m ≤ 900 ∧
  ∀ xs' G' H', Same G G' → (U.sep (.cell l (Dx P w l xs'))).ok G' H' → Tb K G' (addsT W t (emits mv nd ws p q)) xs' → Q .non H'
theorem encPath_snoc (p : Path) (q a : Nat) : PyData.tuple (p.map (fun x => PyData.tuple [.int x.1, .int x.2]) ++ [.tuple [.int q, .int a]]) = encPath (p ++ [(q, a)]) := by unfold encPath; rw [List.map_append]; rfl
theorem c_law_told {m k1 : Nat} (A : At K mg "_law_told" s_law_told ["_law_move_here", "_law_worlds", "_law_here", "_law_weights", "_law_path", "_law_q", "_law_found"]) (T : Txt K mg) (hk : 3 ≤ k1) (c0 : CalD P w K mg base 3 "_law_plus" 2 dmPlus) (c1 : ∀ m', m = m' + 1 → C8.Cal P w K mg base k1 "_law_told" (SpTold P w K m') []) : C8.Cal P w K mg base (k1 + 1) "_law_told" (SpTold P w K m) [] := by
  refine cal_mk A sc_law_told (fun vs H Q E ⟨_, _, _, _, _, _, _, _, _, _, _, _, _, _, _, _, _, _, h, _⟩ => by rw [h]; rfl) fun f cdv A outer s H vs Q E hr ⟨U, G, l, xs, t, W, L, N, mv, nd, gq, ws, p, q, vm, vh, vw, vp, e, k, ht, htok, hL, hN, hW1, hW5, hm, hh, hws, hp, hwts, hgood, hmv, ⟨ns, hshp⟩, hpl, kont⟩ => ?_
  subst e
  cases m with
  | zero => exact False.elim hmv
  | succ m =>
  have c2 := c1 m rfl
  obtain ⟨ask, kk, rest⟩ := mv
  rw [encM_eq] at hm
  have hrest : ∀ G', Same G G' → ∃ d, Dp K G' vm (.tuple [d, .int (kk : Int), .tuple (rest.map encM)]) := fun G' s => ⟨_, hm.sm s⟩
  cases ask with
  | true =>
    obtain ⟨pq, hpq, hl, hmvs⟩ := hmv
    have hmem := List.mem_of_getElem? hpq
    rw [encN_eq] at hh
    have gp : (nd.qs.map encQ)[kk]? = some (encQ pq) := by rw [List.getElem?_map, hpq]; rfl
    have ee : emits (.mk true kk rest) nd ws p q = (pq.zip rest).flatMap fun x => emits x.2 x.1.2.2 x.1.2.1 p q := by
      rw [emits, List.getD_eq_getElem?_getD, hpq]
      exact emitsL_eq rest pq p q
    rw [ee] at hL hN kont
    refine ws_if (k := true) (EvT.eq (et_str (ev_ix (j := 0) (ev_nm 0 rfl hm) ev_int rfl) ev_str) (by decide)) (Same.refl _) k (fun _ G1 H1 s1 k1' => ?_) (fun z => nomatch z)
    have hgoodz : ∀ z ∈ pq.zip rest, ∀ e ∈ emits z.2 z.1.2.2 z.1.2.1 p q, Good MM W e.2 := fun z hz => by
      have ha := (List.of_mem_zip hz).1
      have := (wts_iff MM W nd).mp hwts pq hmem z.1 ha
      exact emits_good _ _ _ _ _ this.2 this.1
    refine ws_for (fun i σ W' G' => ∃ xs' x7 x8 x9 x10 x11 x12 x13 x14, W' = U.sep (.cell l (Dx P w l xs')) ∧ σ = [some vm, some (.int W), some vh, some vw, some vp, some (.int q), some (.ref l), x7, x8, x9, x10, x11, x12, x13, x14] ∧ Tb K G' (addsT W t (((pq.zip rest).take i).flatMap fun x => emits x.2 x.1.2.2 x.1.2.1 p q)) xs')
      (ei_enum (ds := pq.map encA) T.enum (ev_ix (j := kk) (ev_nm 2 rfl (hh.sm s1)) (ev_ix (j := 1) (ev_nm 0 rfl (hm.sm s1)) ev_int rfl) gp)) (Same.refl _) k1' (fun G2 s2 => ⟨xs, none, none, none, none, none, none, none, none, rfl, rfl, ht.sm (s1.trans s2)⟩)
      (fun Gb sb i d σ1 W1 G2 G3 H3 v hi s2 ⟨xs', x7, x8, x9, x10, x11, x12, x13, x14, eW, es, htb⟩ s3 k3 hv3 => ?_) (fun σ1 W1 G2 H2 s2 k2 ⟨xs', x7, x8, x9, x10, x11, x12, x13, x14, eW, es, htb⟩ => ?_) PassesOwn.never rfl
    · subst eW es
      obtain ⟨an, ha, rfl⟩ := numbered_map hi
      have hlt := (List.getElem?_eq_some_iff.mp ha).1
      have hrl : i < rest.length := by rw [hl]; exact hlt
      have hri : rest[i]? = some rest[i] := List.getElem?_eq_getElem hrl
      have ez : (pq.zip rest)[i]? = some (an, rest[i]) := List.getElem?_zip_eq_some.mpr ⟨ha, hri⟩
      refine wg_tup rfl hv3 k3.same (fun us hus => ?_)
      obtain ⟨u1, u2, rfl, b1, b2⟩ := dpAll_two hus
      refine wgs_cons (wg_nm 11 (wgs_cons (wg_tup (ds := [encW an.1, encWs an.2.1, encN an.2.2]) rfl b2 k3.same (fun us2 hus2 => ?_))) sc_law_told.nd)
      obtain ⟨w1, w2, w3, rfl, e1, e2, e3⟩ := dpAll_three hus2
      refine wgs_cons (wg_nm 12 (wgs_cons (wg_nm 13 (wgs_cons (wg_nm 14 (wgs_nil (wgs_nil ?_)) sc_law_told.nd)) sc_law_told.nd)) sc_law_told.nd)
      have sg3 : Same G G3 := ((s1.trans sb).trans s2).trans s3
      have hrm : (rest.map encM)[i]? = some (encM rest[i]) := by rw [List.getElem?_map, hri]; rfl
      have hlen : (((pq.zip rest).take i).flatMap fun x => emits x.2 x.1.2.2 x.1.2.1 p q).length + (emits rest[i] an.2.2 an.2.1 p q).length ≤ ((pq.zip rest).flatMap fun x => emits x.2 x.1.2.2 x.1.2.1 p q).length := by
        have := flat_take_le (fun x : An × Mv => emits x.2 x.1.2.2 x.1.2.1 p q) (pq.zip rest) (i + 1)
        rw [flatMap_take _ ez, List.length_append] at this
        exact this
      have hwa := (wts_iff MM W nd).mp hwts pq hmem an (List.mem_of_getElem? ha)
      have htok2 := tok_adds (M := 1) (D := MM) bot_mm.1 (((pq.zip rest).take i).flatMap fun x => emits x.2 x.1.2.2 x.1.2.1 p q) htok fun e he => by
        obtain ⟨z, hz, he⟩ := List.mem_flatMap.mp he
        exact (hgoodz z (List.mem_of_mem_take hz) e he).b
      refine ws_callS c2 hr (Nat.le_refl _) (ea_any (ev_ix (j := i) (ev_ix (j := 2) (ev_nm 0 rfl (hm.sm sg3)) ev_int rfl) (ev_nm 11 rfl b1) hrm) is_mono (ea_any (ev_nm 1 rfl (.int (W : Int))) is_mono (ea_any (ev_nm 14 rfl e3) is_mono (ea_any (ev_nm 13 rfl e2) is_mono (ea_any (ev_nm 4 rfl (hp.sm sg3)) is_mono (ea_any (ev_nm 5 rfl (.int (q : Int))) is_mono (ea_any1 (ev_rf (v := .ref l) 6 rfl)))))))) (Same.refl _) k3
        fun G4 H4 vs s4 k4 ⟨y1, r1, f1, z1, y2, r2, f2, z2, y3, r3, f3, z3, y4, r4, f4, z4, y5, r5, f5, z5, y6, r6, f6, z6, y7, f7, z7⟩ => ⟨U, G4, l, xs', _, W, _, _, rest[i], an.2.2, gq, an.2.1, p, q, y1, y3, y4, y5, by rw [f1, f2, f3, f4, f5, f6, f7, show y7 = _ from z7, Dp.int_eq z2, Dp.int_eq z6], k4, htb.sm (s3.trans s4), htok2, by omega, by omega, hW1, hW5, z1, z3, z4, z5, hwa.2, hwa.1, hmvs i rest[i] an hri ha, shp_anyq hshp hmem (List.mem_of_getElem? ha), by omega,
          fun xs2 G5 H5 s5 k5 tb5 => ws_nil ⟨_, G5, ((s2.trans s3).trans s4).trans s5, k5, xs2, _, _, _, _, _, _, _, _, rfl, rfl, by rw [flatMap_take _ ez, addsT_append]; exact tb5⟩⟩
    · subst eW es
      rw [numbered_length, List.length_map] at htb
      have hz : pq.length = (pq.zip rest).length := by rw [List.length_zip]; omega
      rw [hz, List.take_length] at htb
      exact ws_retN (kont xs' G2 H2 (s1.trans s2) k2 htb)
  | false =>
    obtain ⟨ga, hga, hl, hmvs⟩ := hmv
    have ee : emits (.mk false kk rest) nd ws p q = (p ++ [(q, kk)], ws) :: (rest.zipIdx 0).flatMap fun x => emits x.1 nd ws (p ++ [(q, kk)]) x.2 := by rw [emits, emitsW_eq]
    rw [ee, List.length_cons] at hL hN
    rw [ee] at kont
    have hplen : p.length ≤ 900 := by omega
    refine ws_ifF (EvT.eq (et_str (ev_ix (j := 0) (ev_nm 0 rfl hm) ev_int rfl) ev_str) (by decide)) (Same.refl _) k fun G1 H1 s1 k1' => ?_
    refine ws_setE 7 (Ev.eq (ev_cat (ev_nm 4 rfl (hp.sm s1)) (ev_tup (ea1 (ev_tup (ea_cons (ev_nm 5 rfl (.int (q : Int))) (ea1 (ev_ix (j := 1) (ev_nm 0 rfl (hm.sm s1)) ev_int rfl)))))) (by rw [List.length_map]; show p.length + 1 ≤ 1000; omega)) (encPath_snoc p q kk)) (Same.refl _) k1' (fun v7 G2 H2 s2 k2 h7 => ?_) sc_law_told.nd
    have sg2 := s1.trans s2
    refine ws_setE 8 (ev_getX hr.units (ev_rf (v := .ref l) 6 rfl) (Has.self _ _) (ht.sm sg2) (ev_nm 7 rfl h7) (Ev.eq (ev_rep (ev_tup (ea1 (ev_tup (ea_cons ev_int (ea1 ev_int))))) (ev_nm 1 rfl (.int _)) hW1 (by omega)) (encWs_zeros W))) (Same.refl _) k2 (fun v8 G3 H3 s3 k3 h8 => ?_) sc_law_told.nd
    have sg3 := sg2.trans s3
    obtain ⟨gl, ge⟩ := tok_get htok (p ++ [(q, kk)])
    refine ws_putX (q := p ++ [(q, kk)]) (ws := zipAdd W (tget t (p ++ [(q, kk)]) (zeros W)) ws) hr.units (Ev.eq (ev_tupleL T.ztuple (Ev.dp (ev_lcD (own := [("_law_k", 11)]) (xs := List.range W) (ei := fun i : Nat => PyData.int (i : Int)) (fun k => encR (at0 (tget t (p ++ [(q, kk)]) (zeros W)) k + at0 ws k)) rfl sc_law_told.nd (blkOk_by (N := n_law_told) (sc := defScope s_law_told) (by decide +kernel))
      (ei_range T.range (ev_nm 1 rfl (.int _)) (by omega)) rfl (by rw [List.length_range]; omega) (tg1 11 sc_law_told.nd) ?_))) ?_) (fun G => ev_rf 6 rfl) (ev_nm 7 rfl (h7.sm s3)) (.refl _) (ht.sm sg3) (by have := htok.len; omega) (Same.refl _) k3 (fun xs2 G4 H4 s4 k4 tb4 => ?_)
    · rintro i x v σ2 G' D acc hx s4 ⟨a1, rfl⟩ s0 H0 C cl fp
      have hx' : x < W := by
        have := List.mem_of_getElem? hx
        simpa using this
      exact ev_call c0 hr hk (ea_cons (ev_ix (j := x) (ev_nm 8 rfl (h8.sm s4)) (ev_nm 11 rfl a1) (encWs_get (by rw [gl]; exact hx'))) (ea1 (ev_ix (j := x) (ev_nm 3 rfl (hws.sm (sg3.trans s4))) (ev_nm 11 rfl a1) (encWs_get (by rw [hgood.1]; exact hx'))))) ⟨_, _, sq_tok bot_mm (ge _ (at0_in (by rw [gl]; exact hx'))) (by omega), sq_rg bot_mm (at0_rg hgood.2), rfl, rfl⟩
    · unfold encWs zipAdd
      rw [List.map_map]; rfl
    · have sg4 := sg3.trans s4
      have htok1 : TOk W MM (L + 1) (N + 1) (addT W t (p ++ [(q, kk)], ws)) := tok_add bot_mm.1 htok hgood.b
      have gz : ∀ z ∈ rest.zipIdx 0, ∀ e ∈ emits z.1 nd ws (p ++ [(q, kk)]) z.2, Good MM W e.2 := fun z _ => emits_good _ _ _ _ _ hwts hgood
      refine ws_for (fun i σ W' G' => ∃ xs' x9 x10 x11 x12 x13 x14, W' = U.sep (.cell l (Dx P w l xs')) ∧ σ = [some vm, some (.int W), some vh, some vw, some vp, some (.int q), some (.ref l), some v7, some v8, x9, x10, x11, x12, x13, x14] ∧ Tb K G' (addsT W (addT W t (p ++ [(q, kk)], ws)) (((rest.zipIdx 0).take i).flatMap fun x => emits x.1 nd ws (p ++ [(q, kk)]) x.2)) xs')
        (ei_enum (ds := rest.map encM) T.enum (ev_ix (j := 2) (ev_nm 0 rfl (hm.sm sg4)) ev_int rfl)) (Same.refl _) k4 (fun G2 s2 => ⟨xs2, none, none, none, none, none, none, rfl, rfl, tb4.sm s2⟩)
        (fun Gb sb i d σ1 W1 G5 G6 H6 v hi s5 ⟨xs', x9, x10, x11, x12, x13, x14, eW, es, htb⟩ s6 k6 hv3 => ?_) (fun σ1 W1 G5 H5 s5 k5 ⟨xs', x9, x10, x11, x12, x13, x14, eW, es, htb⟩ => ?_) PassesOwn.never rfl
      · subst eW es
        obtain ⟨mv', ha, rfl⟩ := numbered_map hi
        have hlt := (List.getElem?_eq_some_iff.mp ha).1
        have ez : (rest.zipIdx 0)[i]? = some (mv', i) := by rw [List.getElem?_zipIdx, ha, Nat.zero_add]; rfl
        refine wg_tup rfl hv3 k6.same (fun us hus => ?_)
        obtain ⟨u1, u2, rfl, b1, b2⟩ := dpAll_two hus
        refine wgs_cons (wg_nm 9 (wgs_cons (wg_nm 10 (wgs_nil ?_) sc_law_told.nd)) sc_law_told.nd)
        have sg6 : Same G G6 := ((sg4.trans sb).trans s5).trans s6
        have hlen : (((rest.zipIdx 0).take i).flatMap fun x => emits x.1 nd ws (p ++ [(q, kk)]) x.2).length + (emits mv' nd ws (p ++ [(q, kk)]) i).length ≤ ((rest.zipIdx 0).flatMap fun x => emits x.1 nd ws (p ++ [(q, kk)]) x.2).length := by
          have := flat_take_le (fun x : Mv × Nat => emits x.1 nd ws (p ++ [(q, kk)]) x.2) (rest.zipIdx 0) (i + 1)
          rw [flatMap_take _ ez, List.length_append] at this
          exact this
        have htok2 := tok_adds (M := 1) (D := MM) bot_mm.1 (((rest.zipIdx 0).take i).flatMap fun x => emits x.1 nd ws (p ++ [(q, kk)]) x.2) htok1 fun e he => by
          obtain ⟨z, hz, he⟩ := List.mem_flatMap.mp he
          exact (gz z (List.mem_of_mem_take hz) e he).b
        have hgq : ga.2.2.qs[i]? = some (ga.2.2.qs[i]'(by omega)) := List.getElem?_eq_getElem (by omega)
        refine ws_callS c2 hr (Nat.le_refl _) (ea_any (ev_nm 10 rfl b2) is_mono (ea_any (ev_nm 1 rfl (.int (W : Int))) is_mono (ea_any (ev_nm 2 rfl (hh.sm sg6)) is_mono (ea_any (ev_nm 3 rfl (hws.sm sg6)) is_mono (ea_any (ev_nm 7 rfl (h7.sm ((((s3.trans s4).trans sb).trans s5).trans s6))) is_mono (ea_any (ev_nm 9 rfl b1) is_mono (ea_any1 (ev_rf (v := .ref l) 6 rfl)))))))) (Same.refl _) k6
          fun G7 H7 vs s7 k7 ⟨y1, r1, f1, z1, y2, r2, f2, z2, y3, r3, f3, z3, y4, r4, f4, z4, y5, r5, f5, z5, y6, r6, f6, z6, y7, f7, z7⟩ => ⟨U, G7, l, xs', _, W, _, _, mv', nd, _, ws, p ++ [(q, kk)], i, y1, y3, y4, y5, by rw [f1, f2, f3, f4, f5, f6, f7, show y7 = _ from z7, Dp.int_eq z2, Dp.int_eq z6], k7, htb.sm (s6.trans s7), htok2, by omega, by omega, hW1, hW5, z1, z3, z4, z5, hwts, hgood, hmvs i mv' _ ha hgq, ⟨ns, hshp⟩, by rw [List.length_append]; show p.length + 1 + m ≤ 900; omega,
            fun xs3 G8 H8 s8 k8 tb8 => ws_nil ⟨_, G8, ((s5.trans s6).trans s7).trans s8, k8, xs3, _, _, _, _, _, _, rfl, rfl, by rw [flatMap_take _ ez, addsT_append]; exact tb8⟩⟩
      · subst eW es
        rw [numbered_length, List.length_map] at htb
        have hz : rest.length = (rest.zipIdx 0).length := by rw [List.length_zipIdx]
        rw [hz, List.take_length] at htb
        exact ws_nil (kont xs' G5 H5 (sg4.trans s5) k5 htb)
end
end K12
/-! M6: the law's tables and what it shapes of them. -/
namespace K12
open PySem
def madeT (W : Nat) (nd : Nd) (plan : List Mv) : Tbl := addsT W [] (emitsW plan 0 nd (ones W) [])
def scaled (q : Rat) (t : Tbl) : Tbl := t.map fun e => (e.1, e.2.map fun x => q * x)
def ledT (W : Nat) (nd : Nd) (b : Btw) : Tbl := b.foldl (fun t p => addsT W t (scaled p.1 (madeT W nd p.2))) []
theorem ledT_snoc (W : Nat) (nd : Nd) (b : Btw) (p : Rat × List Mv) : ledT W nd (b ++ [p]) = addsT W (ledT W nd b) (scaled p.1 (madeT W nd p.2)) := by
  unfold ledT
  rw [List.foldl_append]
  rfl
theorem TOk.up {W D L N L' N' : Nat} {t : Tbl} (h : TOk W D L N t) (h1 : L ≤ L') (h2 : N ≤ N') : TOk W D L' N' t :=
  ⟨Nat.le_trans h.len h1, fun e he => ⟨(h.at_ e he).1, fun x hx => ⟨((h.at_ e he).2 x hx).1, Rat.le_trans ((h.at_ e he).2 x hx).2.1 (natLe h2), ((h.at_ e he).2 x hx).2.2⟩⟩⟩
theorem ones_good {D W : Nat} : Good D W (ones W) := ⟨List.length_replicate, fun x hx => by rw [List.eq_of_mem_replicate (show x ∈ List.replicate W (1 : Rat) from hx)]; exact rg_one⟩
theorem made_tok {W : Nat} {nd : Nd} {plan : List Mv} (hw : Wts MM W nd) : TOk W MM (emitsW plan 0 nd (ones W) []).length (emitsW plan 0 nd (ones W) []).length (madeT W nd plan) := by
  have := tok_adds (M := 1) bot_mm.1 (emitsW plan 0 nd (ones W) []) tok_nil fun e he => (emitsW_good plan 0 nd (ones W) [] hw ones_good e he).b
  rw [Nat.zero_add, Nat.zero_add, Nat.one_mul] at this
  exact this
theorem scaled_good {W N : Nat} {q : Rat} (hq : Rg BB q) {L : Nat} {t : Tbl} (h : TOk W MM L N t) : ∀ e ∈ scaled q t, GoodB (BB * MM) W N e.2 := by
  intro e he
  obtain ⟨x, hx, rfl⟩ := List.mem_map.mp he
  obtain ⟨h1, h2⟩ := h.at_ x hx
  refine ⟨by show (List.map _ x.2).length = W; rw [List.length_map, h1], fun y hy => ?_⟩
  obtain ⟨z, hz, rfl⟩ := List.mem_map.mp (show y ∈ List.map _ x.2 from hy)
  obtain ⟨a, b, c⟩ := h2 z hz
  refine ⟨Rat.mul_nonneg hq.1 a, ?_, over_mul bb_pos bot_mm.1 hq.2.2 c⟩
  have h3 := Rat.mul_le_mul_of_nonneg_left hq.2.1 a
  rw [Rat.mul_one, Rat.mul_comm] at h3
  exact Rat.le_trans h3 b
theorem scaled_len (q : Rat) (t : Tbl) : (scaled q t).length = t.length := List.length_map ..
theorem at0_scaled (q : Rat) {ws : List Rat} {k : Nat} (h : k < ws.length) : at0 (ws.map fun x => q * x) k = q * at0 ws k := by
  rw [at0_get (by rw [List.length_map]; exact h), List.getElem_map, at0_get h]
/-! ### shaped -/
mutual
def shN (W : Nat) (t : Tbl) : Nd → Path → Nd
  | .mk qs, p => .mk (shQs W t qs 0 p)
def shQs (W : Nat) (t : Tbl) : List (List (List Int × List Rat × Nd)) → Nat → Path → List (List An)
  | [], _, _ => []
  | q :: r, i, p => shAs W t q 0 i p :: shQs W t r (i + 1) p
def shAs (W : Nat) (t : Tbl) : List (List Int × List Rat × Nd) → Nat → Nat → Path → List An
  | [], _, _, _ => []
  | (w, _, n) :: r, a, i, p => (w, tget t (p ++ [(i, a)]) (zeros W), shN W t n (p ++ [(i, a)])) :: shAs W t r (a + 1) i p
end
theorem shAs_eq (W : Nat) (t : Tbl) : ∀ (q : List An) (a i : Nat) (p : Path), shAs W t q a i p = (q.zipIdx a).map fun x => (x.1.1, tget t (p ++ [(i, x.2)]) (zeros W), shN W t x.1.2.2 (p ++ [(i, x.2)]))
  | [], _, _, _ => rfl
  | (w, u, n) :: r, a, i, p => by rw [shAs, shAs_eq W t r (a + 1) i p]; rfl
theorem shAs_get {W : Nat} {t : Tbl} {q : List An} {a i j : Nat} {p : Path} {x : An} (h : q[j]? = some x) : (shAs W t q a i p)[j]? = some (x.1, tget t (p ++ [(i, a + j)]) (zeros W), shN W t x.2.2 (p ++ [(i, a + j)])) := by
  rw [shAs_eq, List.getElem?_map, List.getElem?_zipIdx, h]
  rfl
theorem shAs_len (W : Nat) (t : Tbl) (q : List An) (a i : Nat) (p : Path) : (shAs W t q a i p).length = q.length := by rw [shAs_eq, List.length_map, List.length_zipIdx]
theorem shQs_eq (W : Nat) (t : Tbl) : ∀ (qs : List (List An)) (i : Nat) (p : Path), shQs W t qs i p = (qs.zipIdx i).map fun x => shAs W t x.1 0 x.2 p
  | [], _, _ => rfl
  | q :: r, i, p => by rw [shQs, shQs_eq W t r (i + 1) p]; rfl
theorem shQs_get {W : Nat} {t : Tbl} {qs : List (List An)} {i j : Nat} {p : Path} {x : List An} (h : qs[j]? = some x) : (shQs W t qs i p)[j]? = some (shAs W t x 0 (i + j) p) := by
  rw [shQs_eq, List.getElem?_map, List.getElem?_zipIdx, h]
  rfl
theorem shQs_len (W : Nat) (t : Tbl) (qs : List (List An)) (i : Nat) (p : Path) : (shQs W t qs i p).length = qs.length := by rw [shQs_eq, List.length_map, List.length_zipIdx]
theorem shN_qs (W : Nat) (t : Tbl) (nd : Nd) (p : Path) : (shN W t nd p).qs = shQs W t nd.qs 0 p := by obtain ⟨qs⟩ := nd; rw [shN]; rfl
end K12
/-! E6: tables made, led, shaped. -/
namespace K12
open PySem PySem.Spec PyProof.Rows L2
section
variable {P : Program} {w : World} {K : PySem.W.Frag} {mg : Str → Option Value} {base : Heap}
def SpMade (P : Program) (w : World) (K : PySem.W.Frag) : Sp := fun vs H Q _ => ∃ (U : Wd) (G : Hp) (W : Nat) (nd goal : Nd) (plan : List Mv) (vt vp : V), vs = [.int (W : Int), vt, vp] ∧ U.ok G H ∧ Dp K G vt (encN nd) ∧ Dp K G vp (encWait plan) ∧ Wts MM W nd ∧ (∃ n, Shp 12 n nd) ∧ WaitOk 12 nd goal plan ∧ (emitsW plan 0 nd (ones W) []).length ≤ 100000 ∧ 1 ≤ W ∧ W ≤ 5 ∧
  ∀ l xs' G' H', Same G G' → (U.sep (.cell l (Dx P w l xs'))).ok G' H' → Tb K G' (madeT W nd plan) xs' → Q (.ref l) H'
theorem c_law_made_by (A : At K mg "_law_made_by" s_law_made_by ["_law_worlds", "_law_tree_here", "_law_plan"]) (T : Txt K mg) (c1 : C8.Cal P w K mg base 20 "_law_told" (SpTold P w K 12) []) : C8.Cal P w K mg base 21 "_law_made_by" (SpMade P w K) [] := by
  refine cal_mk A sc_law_made_by (fun vs H Q E ⟨_, _, _, _, _, _, _, _, h, _⟩ => by rw [h]; rfl) fun f cdv A outer s H vs Q E hr ⟨U, G, W, nd, goal, plan, vt, vp, e, k, ht, hp, hw, ⟨ns, hs⟩, ⟨hwl, hwo⟩, hL, hW1, hW5, kont⟩ => ?_
  subst e
  have ee : emitsW plan 0 nd (ones W) [] = (plan.zipIdx 0).flatMap fun x => emits x.1 nd (ones W) [] x.2 := emitsW_eq plan 0 nd (ones W) []
  unfold madeT at kont
  rw [ee] at hL kont
  refine ws_newX 3 k (fun l H1 k1 => ?_) sc_law_made_by.nd
  refine ws_for (fun i σ W' G' => ∃ xs' x4 x5, W' = U.sep (.cell l (Dx P w l xs')) ∧ σ = [some (.int W), some vt, some vp, some (.ref l), x4, x5] ∧ Tb K G' (addsT W [] (((plan.zipIdx 0).take i).flatMap fun x => emits x.1 nd (ones W) [] x.2)) xs')
    (ei_enum (ds := plan.map encM) T.enum (ev_nm 2 rfl hp)) (Same.refl _) k1 (fun G2 s2 => ⟨[], none, none, rfl, rfl, .nil⟩)
    (fun Gb sb i d σ1 W1 G5 G6 H6 v hi s5 ⟨xs', x4, x5, eW, es, htb⟩ s6 k6 hv3 => ?_) (fun σ1 W1 G5 H5 s5 k5 ⟨xs', x4, x5, eW, es, htb⟩ => ?_) PassesOwn.never rfl
  · subst eW es
    obtain ⟨mv', ha, rfl⟩ := numbered_map hi
    have hlt := (List.getElem?_eq_some_iff.mp ha).1
    have ez : (plan.zipIdx 0)[i]? = some (mv', i) := by rw [List.getElem?_zipIdx, ha, Nat.zero_add]; rfl
    refine wg_tup rfl hv3 k6.same (fun us hus => ?_)
    obtain ⟨u1, u2, rfl, b1, b2⟩ := dpAll_two hus
    refine wgs_cons (wg_nm 4 (wgs_cons (wg_nm 5 (wgs_nil ?_) sc_law_made_by.nd)) sc_law_made_by.nd)
    have sg6 : Same G G6 := (sb.trans s5).trans s6
    have hlen : (((plan.zipIdx 0).take i).flatMap fun x => emits x.1 nd (ones W) [] x.2).length + (emits mv' nd (ones W) [] i).length ≤ ((plan.zipIdx 0).flatMap fun x => emits x.1 nd (ones W) [] x.2).length := by
      have := flat_take_le (fun x : Mv × Nat => emits x.1 nd (ones W) [] x.2) (plan.zipIdx 0) (i + 1)
      rw [flatMap_take _ ez, List.length_append] at this
      exact this
    have htok2 := tok_adds (M := 1) (D := MM) bot_mm.1 (((plan.zipIdx 0).take i).flatMap fun x => emits x.1 nd (ones W) [] x.2) (tok_nil (W := W)) fun e he => by
      obtain ⟨z, hz, he⟩ := List.mem_flatMap.mp he
      exact (emits_good _ _ _ _ _ hw ones_good e he).b
    have hgq : goal.qs[i]? = some (goal.qs[i]'(by omega)) := List.getElem?_eq_getElem (by omega)
    refine ws_callS c1 hr (Nat.le_refl _) (ea_any (ev_nm 5 rfl b2) is_mono (ea_any (ev_nm 0 rfl (.int (W : Int))) is_mono (ea_any (ev_nm 1 rfl (ht.sm sg6)) is_mono (ea_any (Ev.eq (ev_rep (ev_tup (ea1 (ev_tup (ea_cons ev_int (ea1 ev_int))))) (ev_nm 0 rfl (.int _)) hW1 (by omega)) (encWs_ones W)) is_mono (ea_any (ev_tup ea_nil) is_mono (ea_any (ev_nm 4 rfl b1) is_mono (ea_any1 (ev_rf (v := .ref l) 3 rfl)))))))) (Same.refl _) k6
      fun G7 H7 vs s7 k7 ⟨y1, r1, f1, z1, y2, r2, f2, z2, y3, r3, f3, z3, y4, r4, f4, z4, y5, r5, f5, z5, y6, r6, f6, z6, y7, f7, z7⟩ => ⟨U, G7, l, xs', _, W, _, _, mv', nd, _, ones W, [], i, y1, y3, y4, y5, by rw [f1, f2, f3, f4, f5, f6, f7, show y7 = _ from z7, Dp.int_eq z2, Dp.int_eq z6], k7, htb.sm (s6.trans s7), htok2, by omega, by omega, hW1, hW5, z1, z3, z4, z5, hw, ones_good, hwo i mv' _ ha hgq, ⟨ns, hs⟩, by show 0 + 12 ≤ 900; decide,
        fun xs3 G8 H8 s8 k8 tb8 => ws_nil ⟨_, G8, ((s5.trans s6).trans s7).trans s8, k8, xs3, _, _, rfl, rfl, by rw [flatMap_take _ ez, addsT_append]; exact tb8⟩⟩
  · subst eW es
    rw [numbered_length, List.length_map] at htb
    have hz : plan.length = (plan.zipIdx 0).length := by rw [List.length_zipIdx]
    rw [hz, List.take_length] at htb
    exact ws_retE (ev_rf (v := .ref l) 3 rfl) (Same.refl _) k5 fun v G6 H6 s6 k6 r => by
      cases (show v = .ref l from r)
      exact kont l xs' G6 H6 (s5.trans s6) k6 (htb.sm s6)
def SpLed (P : Program) (w : World) (K : PySem.W.Frag) : Sp := fun vs H Q _ => ∃ (U : Wd) (G : Hp) (W : Nat) (nd goal : Nd) (b : Btw) (vt vb : V), vs = [.int (W : Int), vt, vb] ∧ U.ok G H ∧ Dp K G vt (encN nd) ∧ Dp K G vb (encB b) ∧ Wts MM W nd ∧ (∃ n, Shp 12 n nd) ∧ b.length ≤ 3 ∧ (∀ p ∈ b, Rg BB p.1 ∧ WaitOk 12 nd goal p.2 ∧ (emitsW p.2 0 nd (ones W) []).length ≤ 100000) ∧ 1 ≤ W ∧ W ≤ 5 ∧
  ∀ l xs' G' H', Same G G' → (U.sep (.cell l (Dx P w l xs'))).ok G' H' → Tb K G' (ledT W nd b) xs' → Q (.ref l) H'
theorem led_tok {W : Nat} {nd : Nd} (hw : Wts MM W nd) : ∀ (b : Btw), (∀ p ∈ b, Rg BB p.1 ∧ (emitsW p.2 0 nd (ones W) []).length ≤ 100000) → ∀ i, i ≤ b.length → TOk W (BB * MM) (i * 100000) (i * 10000000000) (ledT W nd (b.take i))
  | b, h, 0, _ => by
    rw [List.take_zero]
    exact (tok_nil (W := W) (D := BB * MM)).up (Nat.zero_le _) (Nat.zero_le _)
  | b, h, i + 1, hi => by
    have h1 := led_tok hw b h i (by omega)
    have hp : b[i]? = some b[i] := List.getElem?_eq_getElem (by omega)
    rw [take_snoc hp, ledT_snoc]
    obtain ⟨g1, g2⟩ := h b[i] (List.getElem_mem _)
    have mt := (made_tok (plan := b[i].2) hw).up (L' := 100000) (N' := 100000) g2 g2
    have h2 := tok_adds (M := 100000) bot_bbmm.1 (scaled b[i].1 (madeT W nd b[i].2)) h1 (scaled_good g1 mt)
    have hl : (scaled b[i].1 (madeT W nd b[i].2)).length ≤ 100000 := by rw [scaled_len]; exact mt.len
    exact h2.up (by rw [Nat.add_mul]; omega) (by rw [Nat.add_mul]; omega)
theorem c_law_led (A : At K mg "_law_led" s_law_led ["_law_worlds", "_law_tree_here", "_law_between_here"]) (T : Txt K mg) (c1 : C8.Cal P w K mg base 21 "_law_made_by" (SpMade P w K) []) (c2 : CalD P w K mg base 3 "_law_plus" 2 dmPlus) (c3 : CalD P w K mg base 3 "_law_times" 2 dmTimes) : C8.Cal P w K mg base 22 "_law_led" (SpLed P w K) [] := by
  refine cal_mk A sc_law_led (fun vs H Q E ⟨_, _, _, _, _, _, _, _, h, _⟩ => by rw [h]; rfl) fun f cdv A outer s H vs Q E hr ⟨U, G, W, nd, goal, b, vt, vb, e, k, ht, hb, hw, hs, hbl, hbo, hW1, hW5, kont⟩ => ?_
  subst e
  rw [encB_eq] at hb
  have htok := led_tok hw b (fun p hp => ⟨(hbo p hp).1, (hbo p hp).2.2⟩)
  refine ws_newX 3 k (fun l H1 k1 => ?_) sc_law_led.nd
  refine ws_for (fun i σ W' G' => ∃ xs' x4 x5 x6 x7 x8 x9, W' = U.sep (.cell l (Dx P w l xs')) ∧ σ = [some (.int W), some vt, some vb, some (.ref l), x4, x5, x6, x7, x8, x9] ∧ Tb K G' (ledT W nd (b.take i)) xs')
    (ei_tup (ev_nm 2 rfl hb)) (Same.refl _) k1 (fun G2 s2 => ⟨[], none, none, none, none, none, none, rfl, rfl, .nil⟩)
    (fun Gb sb i d σ1 W1 G5 G6 H6 v hi s5 ⟨xs', x4, x5, x6, x7, x8, x9, eW, es, htb⟩ s6 k6 hv3 => ?_) (fun σ1 W1 G5 H5 s5 k5 ⟨xs', x4, x5, x6, x7, x8, x9, eW, es, htb⟩ => ?_) PassesOwn.never rfl
  · subst eW es
    rw [List.getElem?_map] at hi
    cases ez : b[i]? with
    | none => rw [ez] at hi; cases hi
    | some z =>
      rw [ez] at hi
      cases hi
      have hlt := (List.getElem?_eq_some_iff.mp ez).1
      obtain ⟨z1, z2, z3⟩ := hbo z (List.mem_of_getElem? ez)
      have mt := (made_tok (plan := z.2) hw).up (L' := 100000) (N' := 100000) z3 z3
      refine wg_tup (ds := [encR z.1, encWait z.2]) rfl hv3 k6.same (fun us hus => ?_)
      obtain ⟨u1, u2, rfl, b1, b2⟩ := dpAll_two hus
      refine wgs_cons (wg_nm 4 (wgs_cons (wg_nm 5 (wgs_nil ?_) sc_law_led.nd)) sc_law_led.nd)
      have sg6 : Same G G6 := (sb.trans s5).trans s6
      have evd : ∀ (x1 p1 p2 p3 p4 p5 : Pos), EvD (cx0 P w K mg base n_law_led "_law_led" s_law_led f cdv A outer s H E) (U.sep (.cell l (Dx P w l xs'))) (.Call (.Name "_law_made_by" p1) [.Name "_law_worlds" p2, .Name "_law_tree_here" p3, .Name "_law_plan" p4] [] p5) [some (.int W), some vt, some vb, some (.ref l), some u1, some u2, x6, x7, x8, x9] G6 (madeT W nd z.2) := fun _ _ _ _ _ _ G7 H7 Q7 s7 k7 q7 =>
        useE (C8.pe_c c1 hr (by decide) rfl (pA _)) <| (ea_any (ev_nm 0 rfl (.int (W : Int))) is_mono (ea_any (ev_nm 1 rfl (ht.sm sg6)) is_mono (ea_any1 (ev_nm 5 rfl b2) rfl) rfl) rfl) G7 H7 _ s7 k7 fun vs G8 H8 s8 k8 ⟨y1, r1, f1, g1, y2, r2, f2, g2, y3, f3, g3⟩ =>
          ⟨_, G8, W, nd, goal, z.2, y2, y3, by rw [f1, f2, f3, Dp.int_eq g1]; rfl, k8, g2, g3, hw, hs, z2, z3, hW1, hW5, fun l2 xs2 G9 H9 s9 k9 tb9 => q7 l2 xs2 G9 H9 (s8.trans s9) k9 tb9⟩
      refine ws_for (fun j σ W' G' => ∃ xs2 x6 x7 x8 x9, W' = U.sep (.cell l (Dx P w l xs2)) ∧ σ = [some (.int W), some vt, some vb, some (.ref l), some u1, some u2, x6, x7, x8, x9] ∧ Tb K G' (addsT W (ledT W nd (b.take i)) ((scaled z.1 (madeT W nd z.2)).take j)) xs2)
        (ei_itemsX (evd ⟨0, 0, 0, 0⟩ _ _ _ _ _)) (Same.refl _) k6 (fun G2 s2 => ⟨xs', x6, x7, x8, x9, rfl, rfl, by rw [List.take_zero]; exact htb.sm (s6.trans s2)⟩)
        (fun Gb2 sb2 j d2 σ2 W2 G7 G8 H8 v8 hj s7 ⟨xs2, x6, x7, x8, x9, eW, es, htb2⟩ s8 k8 hv8 => ?_) (fun σ2 W2 G7 H7 s7 k7 ⟨xs2, x6, x7, x8, x9, eW, es, htb2⟩ => ?_) PassesOwn.never rfl
      · subst eW es
        rw [List.getElem?_map] at hj
        cases ey : (madeT W nd z.2)[j]? with
        | none => rw [ey] at hj; cases hj
        | some y =>
          rw [ey] at hj
          cases hj
          have hym := List.mem_of_getElem? ey
          obtain ⟨yl, yg⟩ := mt.at_ y hym
          have esy : (scaled z.1 (madeT W nd z.2))[j]? = some (y.1, y.2.map fun x => z.1 * x) := by unfold scaled; rw [List.getElem?_map, ey]; rfl
          refine wg_tup (ds := [encPath y.1, encWs y.2]) rfl hv8 k8.same (fun us2 hus2 => ?_)
          obtain ⟨w1, w2, rfl, e1, e2⟩ := dpAll_two hus2
          refine wgs_cons (wg_nm 6 (wgs_cons (wg_nm 7 (wgs_nil ?_) sc_law_led.nd)) sc_law_led.nd)
          have s68 : Same G6 G8 := (sb2.trans s7).trans s8
          have htok2 := (tok_adds (M := 100000) bot_bbmm.1 ((scaled z.1 (madeT W nd z.2)).take j) (htok i (by omega)) fun e he => scaled_good z1 mt e (List.mem_of_mem_take he))
          have hsl : ((scaled z.1 (madeT W nd z.2)).take j).length ≤ 100000 := by
            rw [List.length_take, scaled_len]
            have := mt.len
            omega
          have htok3 := htok2.up (L' := 400000) (N' := 40000000000) (by omega) (by omega)
          obtain ⟨gl, ge⟩ := tok_get htok3 y.1
          refine ws_setE 8 (ev_getX hr.units (ev_rf (v := .ref l) 3 rfl) (Has.self _ _) (htb2.sm s8) (ev_nm 6 rfl e1) (Ev.eq (ev_rep (ev_tup (ea1 (ev_tup (ea_cons ev_int (ea1 ev_int))))) (ev_nm 0 rfl (.int _)) hW1 (by omega)) (encWs_zeros W))) (Same.refl _) k8 (fun v9 G9 H9 s9 k9 h9 => ?_) sc_law_led.nd
          refine ws_putX (q := y.1) (ws := zipAdd W (tget (addsT W (ledT W nd (b.take i)) ((scaled z.1 (madeT W nd z.2)).take j)) y.1 (zeros W)) (y.2.map fun x => z.1 * x)) hr.units (Ev.eq (ev_tupleL T.ztuple (Ev.dp (ev_lcD (own := [("_law_k", 9)]) (xs := List.range W) (ei := fun i : Nat => PyData.int (i : Int)) (fun k => encR (at0 (tget (addsT W (ledT W nd (b.take i)) ((scaled z.1 (madeT W nd z.2)).take j)) y.1 (zeros W)) k + z.1 * at0 y.2 k)) rfl sc_law_led.nd (blkOk_by (N := n_law_led) (sc := defScope s_law_led) (by decide +kernel))
            (ei_range T.range (ev_nm 0 rfl (.int _)) (by omega)) rfl (by rw [List.length_range]; omega) (tg1 9 sc_law_led.nd) ?_))) ?_) (fun G => ev_rf 3 rfl) (ev_nm 6 rfl (e1.sm s9)) (.refl _) (htb2.sm (s8.trans s9)) (by have := htok3.len; omega) (Same.refl _) k9 (fun xs4 G10 H10 s10 k10 tb10 => ?_)
          · rintro i2 x v σ2 G' D acc hx s4 ⟨a1, rfl⟩ s0 H0 C cl fp
            have hx' : x < W := by
              have := List.mem_of_getElem? hx
              simpa using this
            have sqy : Sq (at0 y.2 x) := sq_tok bot_mm (yg _ (at0_in (by rw [yl]; exact hx'))) (by decide)
            have sgb := scaled_good z1 mt (y.1, y.2.map fun x => z.1 * x) (List.mem_of_getElem? esy)
            have sqp : Sq (z.1 * at0 y.2 x) := by
              rw [← at0_scaled z.1 (by rw [yl]; exact hx')]
              exact sq_tok bot_bbmm (sgb.2 _ (at0_in (by rw [List.length_map, yl]; exact hx'))) (by decide)
            exact ev_call c2 hr (by decide) (ea_cons (ev_ix (j := x) (ev_nm 8 rfl (h9.sm s4)) (ev_nm 9 rfl a1) (encWs_get (by rw [gl]; exact hx'))) (ea1 (ev_call c3 hr (by decide) (ea_cons (ev_nm 4 rfl (b1.sm ((s68.trans s9).trans s4))) (ea1 (ev_ix (j := x) (ev_nm 7 rfl (e2.sm (s9.trans s4))) (ev_nm 9 rfl a1) (encWs_get (by rw [yl]; exact hx'))))) ⟨_, _, sq_rg bot_bb z1, sqy, rfl, rfl⟩))) ⟨_, _, sq_tok bot_bbmm (ge _ (at0_in (by rw [gl]; exact hx'))) (by decide), sqp, rfl, rfl⟩
          · unfold encWs zipAdd
            rw [List.map_map]
            congr 1
            apply List.map_congr_left
            intro k hk
            have hk' : k < W := by simpa using hk
            show encR (_ + z.1 * at0 y.2 k) = encR (_ + at0 (y.2.map fun x => z.1 * x) k)
            rw [at0_scaled z.1 (by rw [yl]; exact hk')]
          · exact ws_nil ⟨_, G10, ((s7.trans s8).trans s9).trans s10, k10, xs4, _, _, _, _, rfl, rfl, by rw [take_snoc esy, addsT_append]; exact tb10⟩
      · subst eW es
        rw [List.length_map, ← scaled_len z.1, List.take_length] at htb2
        refine ws_nil ⟨_, G7, (s5.trans s6).trans s7, k7, xs2, _, _, _, _, _, _, rfl, rfl, ?_⟩
        rw [take_snoc ez, ledT_snoc]
        exact htb2
  · subst eW es
    rw [List.length_map, List.take_length] at htb
    exact ws_retE (ev_rf (v := .ref l) 3 rfl) (Same.refl _) k5 fun v G6 H6 s6 k6 r => by
      cases (show v = .ref l from r)
      exact kont l xs' G6 H6 (s5.trans s6) k6 (htb.sm s6)

/-! ### shaped -/
def preShaped (P : Program) (w : World) (K : PySem.W.Frag) (n : Nat) : Wd → Hp → List V → Rl → Prop := fun U G vs Z => ∃ l xs t W L N nd p vn vp, Has U (.cell l (Dx P w l xs)) ∧ vs = [vn, vp, .int ((W : Nat) : Int), .ref l] ∧ Dp K G vn (encN nd) ∧ Dp K G vp (encPath p) ∧ Tb K G t xs ∧ TOk W (BB * MM) L N t ∧ Shp 12 n nd ∧ 1 ≤ W ∧ W ≤ 5 ∧ p.length + n ≤ 900 ∧ Z = Is K (encN (shN W t nd p))
theorem c_law_shaped {n k1 : Nat} (A : At K mg "_law_shaped" s_law_shaped ["_law_node_here", "_law_path", "_law_worlds", "_law_found"]) (T : Txt K mg) (c1 : ∀ m, n = m + 1 → C8.Cal P w K mg base k1 "_law_shaped" (SpGW (preShaped P w K m)) []) : C8.Cal P w K mg base (k1 + 1) "_law_shaped" (SpGW (preShaped P w K n)) [] := by
  refine calW_mk A sc_law_shaped (fun W G vs R ⟨_, _, _, _, _, _, _, _, _, _, _, h, _⟩ => by rw [h]; rfl) fun f cdv A outer s H vs Q E hr U G Z k ⟨l, xs, t, W, L, N, nd, p, vn, vp, hU, e, hn, hp, ht, htok, hs, hW1, hW5, hpl, eZ⟩ q => ?_
  subst e eZ
  rw [encN_eq nd] at hn
  have hql := shp_len hs
  refine ws_own 4 ea_nil (by decide) (Same.refl _) k (fun lf us G1 H1 s1 k1' hd4 => ?_) sc_law_shaped.nd
  cases hd4
  refine ws_for (fun i σ W' G' => ∃ vs x5 x6 x7 x8 x9 x10 x11 x12, W' = U.sep (.cell lf (.lst vs)) ∧ σ = [some vn, some vp, some (.int W), some (.ref l), some (.ref lf), x5, x6, x7, x8, x9, x10, x11, x12] ∧ DpAll K G' vs (((shQs W t nd.qs 0 p).take i).map encQ))
    (ei_enum T.enum (ev_nm 0 rfl (hn.sm s1))) (Same.refl _) k1' (fun G2 s2 => ⟨[], none, none, none, none, none, none, none, none, rfl, rfl, .nil⟩)
    (fun Gb sb i d σ1 W1 G5 G6 H6 v hi s5 ⟨acc, x5, x6, x7, x8, x9, x10, x11, x12, eW, es, dacc⟩ s6 k6 hv6 => ?_) (fun σ1 W1 G5 H5 s5 k5 ⟨acc, x5, x6, x7, x8, x9, x10, x11, x12, eW, es, dacc⟩ => ?_) PassesOwn.never rfl
  · subst eW es
    obtain ⟨qq, ha, rfl⟩ := numbered_map hi
    have hmem := List.mem_of_getElem? ha
    have hlt := (List.getElem?_eq_some_iff.mp ha).1
    cases n with
    | zero => rw [show nd.qs = [] from hs] at hmem; cases hmem
    | succ n =>
      have c2 := c1 n rfl
      obtain ⟨g1, g2, g3⟩ := hs.2 qq hmem
      refine wg_tup rfl hv6 k6.same (fun us hus => ?_)
      obtain ⟨u1, u2, rfl, b1, b2⟩ := dpAll_two hus
      refine wgs_cons (wg_nm 5 (wgs_cons (wg_nm 6 (wgs_nil ?_) sc_law_shaped.nd)) sc_law_shaped.nd)
      have sg6 : Same G G6 := ((s1.trans sb).trans s5).trans s6
      refine ws_own 7 ea_nil (by decide) (Same.refl _) k6 (fun la us G7 H7 s7 k7 hd7 => ?_) sc_law_shaped.nd
      cases hd7
      refine ws_for (fun j σ W' G' => ∃ vs x8 x9 x10 x11 x12, W' = (U.sep (.cell lf (.lst acc))).sep (.cell la (.lst vs)) ∧ σ = [some vn, some vp, some (.int W), some (.ref l), some (.ref lf), some u1, some u2, some (.ref la), x8, x9, x10, x11, x12] ∧ DpAll K G' vs (((shAs W t qq 0 i p).take j).map encA))
        (ei_enum (ds := qq.map encA) T.enum (ev_nm 6 rfl (b2.sm s7))) (Same.refl _) k7 (fun G2 s2 => ⟨[], _, _, _, _, _, rfl, rfl, .nil⟩)
        (fun Gb2 sb2 j d2 σ2 W2 G8 G9 H9 v9 hj s8 ⟨acc2, x8, x9, x10, x11, x12, eW, es, dacc2⟩ s9 k9 hv9 => ?_) (fun σ2 W2 G8 H8 s8 k8 ⟨acc2, x8, x9, x10, x11, x12, eW, es, dacc2⟩ => ?_) PassesOwn.never rfl
      · subst eW es
        obtain ⟨an, hb, rfl⟩ := numbered_map hj
        have hlt2 := (List.getElem?_eq_some_iff.mp hb).1
        refine wg_tup rfl hv9 k9.same (fun us2 hus2 => ?_)
        obtain ⟨w1, w2, rfl, e1, e2⟩ := dpAll_two hus2
        refine wgs_cons (wg_nm 8 (wgs_cons (wg_tup (ds := [encW an.1, encWs an.2.1, encN an.2.2]) rfl e2 k9.same (fun us3 hus3 => ?_))) sc_law_shaped.nd)
        obtain ⟨z1, z2, z3, rfl, f1, f2, f3⟩ := dpAll_three hus3
        refine wgs_cons (wg_nm 10 (wgs_cons (wg_nm 11 (wgs_cons (wg_nm 12 (wgs_nil (wgs_nil ?_)) sc_law_shaped.nd)) sc_law_shaped.nd)) sc_law_shaped.nd)
        have s69 : Same G6 G9 := ((s7.trans sb2).trans s8).trans s9
        have sg9 : Same G G9 := sg6.trans s69
        refine ws_setE 9 (Ev.eq (ev_cat (ev_nm 1 rfl (hp.sm sg9)) (ev_tup (ea1 (ev_tup (ea_cons (ev_nm 5 rfl (b1.sm s69)) (ea1 (ev_nm 8 rfl e1)))))) (by rw [List.length_map]; show p.length + 1 ≤ 1000; omega)) (encPath_snoc p i j)) (Same.refl _) k9 (fun v10 G10 H10 s10 k10 h10 => ?_) sc_law_shaped.nd
        have sg10 := sg9.trans s10
        have hU2 := (hU.sep (.cell lf (.lst acc))).sep (.cell la (.lst acc2))
        refine ws_append 7 rfl (.refl _) (Ev.eq (d' := encA (an.1, tget t (p ++ [(i, j)]) (zeros W), shN W t an.2.2 (p ++ [(i, j)]))) (ev_tup (ea_cons (ev_nm 10 rfl (f1.sm s10)) (ea_cons (ev_getX hr.units (ev_rf (v := .ref l) 3 rfl) hU2 (ht.sm sg10) (ev_nm 9 rfl h10) (Ev.eq (ev_rep (ev_tup (ea1 (ev_tup (ea_cons ev_int (ea1 ev_int))))) (ev_nm 2 rfl (.int _)) hW1 (by omega)) (encWs_zeros W)))
          (ea1 (ev_callW c2 hr (Nat.le_refl _) (ea_any (ev_nm 12 rfl (f3.sm s10)) is_mono (ea_any (ev_nm 9 rfl h10) is_mono (ea_any (ev_nm 2 rfl (.int (W : Int))) is_mono (ea_any1 (ev_rf (v := .ref l) 3 rfl))))) fun G' vs s ⟨y1, r1, q1, t1, y2, r2, q2, t2, y3, r3, q3, t3, y4, q4, t4⟩ => ⟨l, xs, t, W, L, N, an.2.2, p ++ [(i, j)], y1, y2, hU2, by rw [q1, q2, q3, q4, show y4 = _ from t4, Dp.int_eq t3], t1, t2, ht.sm (sg10.trans s), htok, g3 an (List.mem_of_getElem? hb), hW1, hW5, by rw [List.length_append]; show p.length + 1 + n ≤ 900; omega, rfl⟩)))))
          rfl) (by rw [dacc2.length, List.length_map, List.length_take]; omega) (Same.refl _) k10 (fun v11 G11 H11 s11 k11 h11 => ws_nil ?_)
        refine ⟨_, G11, ((s8.trans s9).trans s10).trans s11, k11, _, _, _, _, _, _, rfl, rfl, ?_⟩
        have es := shAs_get (W := W) (t := t) (a := 0) (i := i) (p := p) hb
        rw [Nat.zero_add] at es
        rw [take_snoc es, List.map_append]
        exact (dacc2.sm ((s9.trans s10).trans s11)).snoc h11
      · subst eW es
        have e2 : (numbered 0 (qq.map encA)).length = (shAs W t qq 0 i p).length := by rw [numbered_length, List.length_map, shAs_len]
        rw [e2, List.take_length] at dacc2
        have s68 : Same G6 G8 := s7.trans s8
        refine ws_append 4 rfl (Wd.Eqv.swap _ _ _) (ev_tupO (W0 := U) T.ztuple (ev_rf 7 rfl) (Has.self _ _) dacc2 (P := fun _ => True)) (by rw [dacc.length, List.length_map, List.length_take]; omega) (Same.refl _) k8 (fun v9 G9 H9 s9 k9 h9 => ws_nil ?_)
        have gl9 := k9.swap.out la (.inr rfl)
        have es := shQs_get (W := W) (t := t) (i := 0) (p := p) ha
        rw [Nat.zero_add] at es
        exact ⟨_, _, ((s5.trans s6).trans s68).trans (s9.trans (same_new gl9)), k9.swap.give, _, _, _, _, _, _, _, _, _, rfl, rfl, by rw [take_snoc es, List.map_append]; exact ((dacc.sm ((s6.trans s68).trans s9)).snoc h9).sm (same_new gl9)⟩
  · subst eW es
    have e2 : (numbered 0 (nd.qs.map encQ)).length = (shQs W t nd.qs 0 p).length := by rw [numbered_length, List.length_map, shQs_len]
    rw [e2, List.take_length] at dacc
    refine ws_retE (ev_tupO (W0 := U) T.ztuple (ev_rf 4 rfl) (Has.self _ _) dacc (P := fun _ => True)) (Same.refl _) k5 (fun v G7 H7 s7 k7 r => q v G7 H7 ((s1.trans s5).trans s7) k7.left ?_)
    rw [encN_eq, shN_qs]
    exact r
end
end K12
/-! K13: where the stack of guards is known to be empty: repr; the law's own end. -/
namespace K12
open PySem PySem.Spec PyProof.Rows L2
/-- FnOk where nothing is being shown -/
structure FnG (P : Program) (w : World) (K : PySem.W.Frag) (mg : Str → Option Value) (base : Heap) (k : Nat) (f : Addr) (fd : FuncData) (ps : List Str) (sp : Sp) : Prop where
  len : ∀ vs H Q E, sp vs H Q E → vs.length = ps.length
  run : ∀ (A : Around) (outer : List Env) (s : Shared) (H : Hp) (args : Args) (us : List Value) (vs : List V) (Q : VK) (E : XK), A.guards = some [] → Room k A → Env0 P w K mg base A outer s H → BindsTo s fd args (ps.zip us) → Vals vs us → sp vs H Q E →
    codeAny (model P w) A (.call (.ref f) args) (CR CX0 outer P w H s Q E) s
section
variable {P : Program} {w : World} {K : PySem.W.Frag} {mg : Str → Option Value} {base : Heap}
theorem fnG_of {x qual : Str} {st : Stmt} {N ps : List Str} {k : Nat} {sp : Sp} {f : Addr} {fd : FuncData} (F : L2.Fun K x qual st f fd) (S : FnScope N ps (defScope st)) (len : ∀ vs H Q E, sp vs H Q E → vs.length = ps.length)
    (hbody : ∀ (cdv : Value) (A : Around) (outer : List Env) (s : Shared) (H : Hp) (vs : List V) (Q : VK) (E : XK), A.guards = some [] → Room k (A.deeper (envOfC qual (defScope st) s.heap.objs.size f cdv)) → sp vs H Q E →
      wSs (cx0 P w K mg base N qual st f cdv A outer s H E) (defBody st) { nx := fun _ H' => Q .non H', rt := Q } (start N vs) H) : FnG P w K mg base (k + 1) f fd ps sp := by
  obtain ⟨oc, od, kV, doc, pm, an, cdv, ct, osl, rfl, lk, hcd⟩ := F.ex
  refine ⟨len, fun A outer s H args us vs Q E hgu hr e0 hb r hsp => ?_⟩
  have hl := len _ _ _ _ hsp
  have KX : K.In s.heap := e0.mod.kin.keeps fun b o e => (e0.bs b o e).1
  have lim : s.heap.NoLimit := e0.mod.nolimit.keeps fun b o e => (e0.bs b o e).1
  have hkind : ∀ y ∈ ps.zip us, (defScope st).names.lookup y.1 = some .local ∨ ((defScope st).names.lookup y.1 = some .cell ∧ ((cellsFrom (s.heap.objs.size + 1) (defScope st).names []).lookup y.1).isSome = true) := fun ⟨n, v⟩ hy => by
    rcases S.par n (List.of_mem_zip hy).1 with q | q
    · exact .inl q
    · exact .inr ⟨q, PySem.W.cellsFrom_some _ _ _ (.inl q)⟩
  refine codeAny_call_function hr.depth (KX _ _ lk) rfl S.co S.gen rfl (PySem.W.codeRec_of KX hcd) (hb _ _ _ _ ?_)
  refine wpAny_newFunctionEnv_cells S.kind hkind fun env he s1 x => ?_
  subst he
  refine ⟨lim.keeps x.toInCall.keep, codeAny_func ?_⟩
  have hq := hbody cdv A outer s H vs Q E hgu (hr.deeper _) hsp
  have ht : PSs (cxOf CX0 P w K mg base N qual (defScope st) f cdv A outer s H E) (defBody st) _ := (pSs (X := cx0 P w K mg base N qual st f cdv A outer s H E) (defBody st)).nox
  have I : Inv (cxOf CX0 P w K mg base N qual (defScope st) f cdv A outer s H E) [] (start N vs) H s1 := inv_start S hr.hd e0 hl r x
  refine wpAny_mono (ht.run [] s1 (start N vs) H _ I hq) (fun fl s' hs => ?_) fun e s' hs => hs
  have fin : ∀ {σ' : L2.St} {H' : Hp} {v : V} {u : Value}, Inv (cxOf CX0 P w K mg base N qual (defScope st) f cdv A outer s H E) [] σ' H' s' → RelV v u → Q v H' → CE outer P w H s Q u s' :=
    fun {σ' H' v u} J rv q => ⟨v, H', J.os, J.bare, J.base, J.hok, rv, q⟩
  cases fl with
  | ret u =>
    obtain ⟨v, σ', H', J, rv, q⟩ := hs
    exact fin J rv q
  | next =>
    obtain ⟨σ', H', J, q⟩ := hs
    exact fin (v := V.non) (u := Value.none) J rfl q
  | brk =>
    obtain ⟨_, _, _, q⟩ := hs
    exact False.elim q
  | cont =>
    obtain ⟨_, _, _, q⟩ := hs
    exact False.elim q
structure CalG (P : Program) (w : World) (K : PySem.W.Frag) (mg : Str → Option Value) (base : Heap) (k : Nat) (x : Str) (sp : Sp) : Prop where
  ex : ∃ (f : Addr) (fd : FuncData) (ps : List Str), FnG P w K mg base k f fd ps sp ∧ mg x = some (.ref f) ∧ PySem.W.keepIn K (.ref f) = true ∧ Binds K fd ps []
end
section
variable {X : Cx} {W : Wd} {e a b : Expr} {es : List Expr} {σ : L2.St} {G : Hp} {x : Str} {p pos : Pos} {t : TA} {d : PyData} {ds : List PyData}
theorem pe_cG {k j : Nat} {sp : Sp} (c : CalG X.prog X.w X.K X.mg X.base k x sp) (hgu : X.A.guards = some []) (hr : Room j X.A) (hk : k ≤ j) (hg : Gl X x) (ha : PA X (e :: es) t)
    (hdb : (x == ("__debug__" : Str)) = false := by decide) (he : starEach (e :: es) X.env = (false, eval e X.env) :: starEach es X.env := by rfl) (hpl : (backTo pos (starEach es X.env)).any (·.1) = false := by rfl) :
    PE X (.Call (.Name x p) (e :: es) [] pos) (tCall sp [] E0 t) := by
  obtain ⟨f, fd, ps, F, hm, kp, hb⟩ := c.ex
  refine ⟨fun pins s σ H Q I h => ?_⟩
  refine wpAny_Call_Name_kw (ld_glob I hg hm ?_ hdb)
  refine PySem.W.callWith_K (h₀ := X.base) I.ok.mod.kin kp (thn (ha.run pos pins s σ H _ I h) fun us s1 ⟨vs, H1, I1, r, q⟩ => ⟨I1.kIn, ?_⟩) he hpl
  have q' : sp vs H1 Q E0 := by
    have this : sp (vs ++ []) H1 Q E0 := q
    rw [List.append_nil] at this
    exact this
  have hl : us.length = ps.length := by rw [← r.length]; exact F.len _ _ _ _ q'
  refine wpAny_call (codeAny_mono (F.run X.A X.stack s1 H1 ⟨us, []⟩ us vs Q E0 hgu (hr.mono hk) I1.env0 (by
    have := hb s1 us I1.kIn (by simpa using hl)
    simpa using this) r q') fun r s' hq => ?_)
  cases r with
  | error e => exact pass0 pins σ H1 s1 e s' I1 hq
  | ok fl =>
    cases fl with
    | ret u => exact I1.after hq
    | next => exact False.elim hq
    | brk => exact False.elim hq
    | cont => exact False.elim hq
theorem ev_callGd {j l n : Nat} {dom : List PyData → PyData → Prop} (c : CalG X.prog X.w X.K X.mg X.base l x (SpD X.K n dom)) (hgu : X.A.guards = some []) (hr : Room j X.A) (hk : l ≤ j) (ha : EvA X W (e :: es) σ G (fun G vs => DpAll X.K G vs ds)) (hd : dom ds d) (hn : ds.length = n := by rfl) (hg : Gl X x := by rfl)
    (hdb : (x == ("__debug__" : Str)) = false := by decide) (he : starEach (e :: es) X.env = (false, eval e X.env) :: starEach es X.env := by rfl) (hpl : (backTo pos (starEach es X.env)).any (·.1) = false := by rfl) :
    Ev X W (.Call (.Name x p) (e :: es) [] pos) σ G (Is X.K d) := fun G1 H Q s k1 q => useE (pe_cG c hgu hr hk hg (pA _) hdb he hpl) <|
  ha G1 H _ s k1 fun vs G2 H2 s2 k2 r => ⟨W, G2, ds, d, k2, by rw [List.append_nil]; exact r, hn, hd, fun v G3 H3 s3 k3 r3 => q v G3 H3 (s2.trans s3) k3 r3⟩
/-- what may be shown -/
structure Shows (d : PyData) : Prop where
  able : d.showable = true
  nod : d.hasDict = false
  dep : d.depth ≤ 60
  len : d.shown.length ≤ sizeLine
  lay : d.canLay0 = true
theorem boot_repr : bootBuiltins "repr" = some (.builtin "repr") := by decide +kernel
theorem call_reprD (hgu : X.A.guards = some []) (hu : X.A.units + 64 < cLine) : CallR X (.builtin "repr") (fun xs H Q => ∃ a d, xs = [.ref a] ∧ Dp X.K H (.ref a) d ∧ Shows d ∧ Q (.str d.shown) H) := by
  intro pins s σ H xs us Q I r h
  obtain ⟨a, d, rfl, hd, ⟨h1, h2, h3, h4, _⟩, q⟩ := h
  obtain ⟨u, rfl, rx⟩ := vals1 r
  cases rx
  obtain ⟨as, rd⟩ := Dp.reads I d (.ref a) (.ref a) hd rfl
  exact repr_of_reads' rd h1 (fun z => by rw [h2] at z; cases z) hgu (by omega) (fun b o e => e) (fun h' u tk hk => ⟨.str d.shown, H, I.kept (t' := tk) hk, ⟨u, rfl⟩, q⟩) h4
theorem ev_repr (hgu : X.A.guards = some []) (hu : X.A.units + 64 < cLine) (hm : X.mg "repr" = none) (h : Ev X W e σ G (Is X.K (.tuple ds))) (hs : Shows (.tuple ds)) (hg : Gl X "repr" := by rfl) (he : Pl X e [] := by rfl) : Ev X W (.Call (.Name "repr" p) [e] [] pos) σ G (Is X.K (.str (PyData.tuple ds).shown)) :=
  ev_B (call_reprD hgu hu) hm boot_repr (ea1 h he) (fun vs G1 H Q k r q => by
    obtain ⟨v, rfl, h1⟩ := dpAll_one r
    obtain ⟨a, xs, rfl, t, l⟩ := h1.tup_inv
    exact ⟨a, _, rfl, h1.sm k.same, hs, q _ G1 H (Same.refl _) k (.str _)⟩) hg (he := he)
theorem ev_eqS {x y : Str} (ha : Ev X W a σ G (Is X.K (.str x))) (hb : Ev X W b σ G (Is X.K (.str y))) : Ev X W (.Compare a [.Eq] [b] pos) σ G (Is X.K (.bool (decide (x = y)))) :=
  ev_cmpV op_eq (nomark b) ha hb fun u v G1 H Q s h1 h2 q => by
    have e1 := h1.str_eq
    have e2 := h2.str_eq
    subst e1 e2
    refine ⟨rfl, ?_⟩
    have e : decide (V.str x = V.str y) = decide (x = y) := decide_eq_decide.mpr ⟨fun h => V.str.inj h, fun h => by rw [h]⟩
    rw [e]; exact q
end
section
variable {P : Program} {w : World} {K : PySem.W.Frag} {mg : Str → Option Value} {base : Heap}
theorem shows_shaped {d : PyData} (h : Shows d) : SeqAt.shaped d = true := by
  unfold SeqAt.shaped
  rw [h.lay, Bool.true_and]
  exact decide_eq_true (by have := h.dep; omega)
def dmIs (ds : List PyData) (d : PyData) : Prop := ∃ l, Shows (.tuple l) ∧ ds = [.tuple l, .tuple l] ∧ d = .bool true
theorem c_law_is (A : At K mg "_law_is" s_law_is ["_law_found", "_law_due"]) (T : Txt K mg) : CalG P w K mg base 2 "_law_is" (SpD K 2 dmIs) := by
  obtain ⟨f, fd, F, hm, b⟩ := A.ex
  refine ⟨f, fd, _, fnG_of F sc_law_is (fun vs H Q E ⟨W, G, ds, d, _, h, hn, _⟩ => by rw [h.length, hn]; rfl) (fun cdv A outer s H vs Q E hgu hr ⟨W, G, ds, d, k, hd, _, ⟨l, hs, e1, e2⟩, q⟩ => ?_), hm, F.kp, b⟩
  subst e1 e2
  obtain ⟨v1, v2, rfl, h1, h2⟩ := dpAll_two hd
  refine ws_retE (Ev.eq (ev_andT (Ev.eq (ev_eqD hr.units (ev_nm 0 rfl h1) (ev_nm 1 rfl h2) (shows_shaped hs) (shows_shaped hs)) (by rw [SeqAt.eqv_refl _ hs.lay])) (ev_and1 (ev_eqS (ev_repr hgu hr.units T.repr (ev_nm 0 rfl h1) hs) (ev_repr hgu hr.units T.repr (ev_nm 1 rfl h2) hs)))) (by simp)) (Same.refl _) k q
end
end K12
/-! M7: the law's shaped sums are what the program leads. -/
namespace K12
open PySem
/-! ### tables looked up -/
theorem tval_put (t : Tbl) (p : Path) (ws : List Rat) (r : Path) : tval (tput t p ws) r = if r = p then some ws else tval t r := by
  have none_of : ∀ t : Tbl, tval t p = none → tval (t ++ [(p, ws)]) r = if r = p then some ws else tval t r := fun t => by
    induction t with
    | nil =>
      intro _
      unfold tval
      by_cases e : r = p
      · subst e; simp
      · rw [if_neg e, List.nil_append, List.find?_cons, decide_eq_false (fun z : p = r => e z.symm)]
    | cons x s ih =>
      intro h
      by_cases e : x.1 = p
      · unfold tval at h
        rw [List.find?_cons, decide_eq_true e] at h
        cases h
      · have h' : tval s p = none := by
          unfold tval at h ⊢
          rw [List.find?_cons, decide_eq_false e] at h
          exact h
        have ih := ih h'
        unfold tval at ih ⊢
        rw [List.cons_append, List.find?_cons, List.find?_cons]
        by_cases e2 : x.1 = r
        · rw [decide_eq_true e2, if_neg (fun z => e (e2.trans z))]
        · rw [decide_eq_false e2]
          exact ih
  unfold tput
  split
  · rename_i hs
    induction t with
    | nil => cases hs
    | cons x s ih =>
      rw [List.map_cons]
      by_cases e : x.1 = p
      · rw [if_pos e]
        unfold tval
        rw [List.find?_cons, List.find?_cons]
        by_cases e2 : r = p
        · subst e2
          rw [if_pos rfl, decide_eq_true e]
          rfl
        · rw [if_neg e2, decide_eq_false (fun z : x.1 = r => e2 (z.symm.trans e))]
          -- the rest of the table
          have key : ∀ s : Tbl, (List.find? (fun x => decide (x.1 = r)) (s.map fun x => if x.1 = p then (x.1, ws) else x)).map (·.2) = (List.find? (fun x => decide (x.1 = r)) s).map (·.2) := fun s => by
            induction s with
            | nil => rfl
            | cons y u ihu =>
              rw [List.map_cons, List.find?_cons, List.find?_cons]
              by_cases e3 : y.1 = p
              · rw [if_pos e3]
                show Option.map _ (match decide (y.1 = r) with | true => _ | false => _) = _
                rw [decide_eq_false (fun z : y.1 = r => e2 (z.symm.trans e3))]
                exact ihu
              · rw [if_neg e3]
                by_cases e4 : y.1 = r
                · rw [decide_eq_true e4]
                · rw [decide_eq_false e4]
                  exact ihu
          exact key s
      · rw [if_neg e]
        have hs' : (tval s p).isSome = true := by
          unfold tval at hs ⊢
          rw [List.find?_cons, decide_eq_false e] at hs
          exact hs
        have ih := ih hs'
        unfold tval at ih ⊢
        rw [List.find?_cons, List.find?_cons]
        by_cases e2 : x.1 = r
        · rw [decide_eq_true e2, if_neg (fun z => e (e2.trans z))]
        · rw [decide_eq_false e2]
          exact ih
  · rename_i hs
    refine none_of t ?_
    cases h : tval t p with
    | none => rfl
    | some ws => rw [h] at hs; exact absurd rfl hs
def esum (es : List (Path × List Rat)) (r : Path) (k : Nat) : Rat := sumR ((es.filter fun e => decide (e.1 = r)).map fun e => at0 e.2 k)
theorem esum_nil (r : Path) (k : Nat) : esum [] r k = 0 := rfl
theorem esum_cons (e : Path × List Rat) (es : List (Path × List Rat)) (r : Path) (k : Nat) : esum (e :: es) r k = (if e.1 = r then at0 e.2 k else 0) + esum es r k := by
  unfold esum
  rw [List.filter_cons]
  by_cases h : e.1 = r
  · rw [if_pos (by simpa using h), if_pos h]
    rfl
  · rw [if_neg (by simpa using h), if_neg h, Rat.zero_add]
theorem esum_append (as bs : List (Path × List Rat)) (r : Path) (k : Nat) : esum (as ++ bs) r k = esum as r k + esum bs r k := by
  unfold esum
  rw [List.filter_append, List.map_append, sumR_append]
theorem esum_flat {α : Type} (f : α → List (Path × List Rat)) (r : Path) (k : Nat) : ∀ l : List α, esum (l.flatMap f) r k = sumR (l.map fun x => esum (f x) r k)
  | [] => rfl
  | a :: t => by
    rw [List.flatMap_cons, esum_append, esum_flat f r k t]
    rfl
theorem look_adds (W : Nat) (r : Path) (k : Nat) (hk : k < W) : ∀ (es : List (Path × List Rat)) (t : Tbl), at0 (tget (addsT W t es) r (zeros W)) k = at0 (tget t r (zeros W)) k + esum es r k
  | [], t => by
    rw [esum_nil, Rat.add_zero]
    rfl
  | e :: es, t => by
    show at0 (tget (addsT W (addT W t e) es) r (zeros W)) k = _
    rw [look_adds W r k hk es, esum_cons, ← Rat.add_assoc]
    congr 1
    unfold addT
    unfold tget
    rw [tval_put]
    by_cases h : r = e.1
    · rw [if_pos h, if_pos h.symm, h]
      show at0 (zipAdd W _ e.2) k = _
      unfold zipAdd
      exact at0_map (α := Nat) _ hk
    · rw [if_neg h, if_neg (fun z => h z.symm), Rat.add_zero]
theorem zeros_at (W k : Nat) : at0 (zeros W) k = 0 := by
  unfold at0 zeros
  rw [List.getD_eq_getElem?_getD]
  by_cases h : k < W
  · rw [List.getElem?_replicate, if_pos h]; rfl
  · rw [List.getElem?_replicate, if_neg h]; rfl
theorem look_nil (W : Nat) (r : Path) (k : Nat) : at0 (tget [] r (zeros W)) k = 0 := zeros_at W k
/-- no key twice -/
theorem keys_put {t : Tbl} (h : (t.map (·.1)).Nodup) (p : Path) (ws : List Rat) : ((tput t p ws).map (·.1)).Nodup := by
  unfold tput
  split
  · have e : (t.map fun x => if x.1 = p then (x.1, ws) else x).map (·.1) = t.map (·.1) := by
      rw [List.map_map]
      apply List.map_congr_left
      intro x _
      show (if x.1 = p then (x.1, ws) else x).1 = x.1
      split <;> rfl
    rw [e]
    exact h
  · rename_i hs
    rw [List.map_append]
    refine List.nodup_append.mpr ⟨h, by simp, fun a ha b hb => ?_⟩
    cases List.mem_singleton.mp hb
    rintro rfl
    obtain ⟨x, hx, e⟩ := List.mem_map.mp ha
    apply hs
    unfold tval
    rw [Option.isSome_map]
    exact List.find?_isSome.mpr ⟨x, hx, by simpa using e⟩
theorem keys_adds (W : Nat) : ∀ (es : List (Path × List Rat)) {t : Tbl}, (t.map (·.1)).Nodup → ((addsT W t es).map (·.1)).Nodup
  | [], _, h => h
  | e :: es, _, h => keys_adds W es (keys_put h _ _)
theorem esum_tbl (W : Nat) (r : Path) (k : Nat) : ∀ {t : Tbl}, (t.map (·.1)).Nodup → esum t r k = at0 (tget t r (zeros W)) k
  | [], _ => by rw [esum_nil, look_nil]
  | x :: s, h => by
    rw [List.map_cons, List.nodup_cons] at h
    rw [esum_cons]
    by_cases e : x.1 = r
    · have hz : ∀ s : Tbl, r ∉ s.map (·.1) → esum s r k = 0 := fun s => by
        induction s with
        | nil => intro _; rfl
        | cons y u ih =>
          intro hn
          rw [List.map_cons, List.mem_cons, not_or] at hn
          rw [esum_cons, if_neg (fun z => hn.1 z.symm), ih hn.2, Rat.zero_add]
      rw [if_pos e, hz s (by rw [← e]; exact h.1), Rat.add_zero]
      unfold tget tval
      rw [List.find?_cons, decide_eq_true e]
      rfl
    · rw [if_neg e, Rat.zero_add, esum_tbl W r k h.2]
      unfold tget tval
      rw [List.find?_cons, decide_eq_false e]
theorem esum_scaled {W : Nat} (q : Rat) (r : Path) {k : Nat} (hk : k < W) : ∀ {t : Tbl}, (∀ e ∈ t, e.2.length = W) → esum (scaled q t) r k = q * esum t r k
  | [], _ => by
    show esum [] r k = _
    rw [esum_nil, Rat.mul_zero]
  | x :: s, h => by
    have ih := esum_scaled q r hk (t := s) fun e he => h e (List.mem_cons_of_mem _ he)
    show esum ((x.1, x.2.map fun y => q * y) :: scaled q s) r k = _
    rw [esum_cons, esum_cons, ih, Rat.mul_add]
    congr 1
    by_cases e : x.1 = r
    · rw [if_pos e, if_pos e, at0_scaled q (by rw [h x List.mem_cons_self]; exact hk)]
    · rw [if_neg e, if_neg e, Rat.mul_zero]
/-- what the law's table says -/
theorem look_led {W : Nat} {nd : Nd} (hw : Wts MM W nd) (r : Path) {k : Nat} (hk : k < W) : ∀ (b : Btw), at0 (tget (ledT W nd b) r (zeros W)) k = sumR (b.map fun p => p.1 * esum (emitsW p.2 0 nd (ones W) []) r k) := fun b => by
  have gen : ∀ (b : Btw) (t : Tbl), at0 (tget (b.foldl (fun t p => addsT W t (scaled p.1 (madeT W nd p.2))) t) r (zeros W)) k = at0 (tget t r (zeros W)) k + sumR (b.map fun p => p.1 * esum (emitsW p.2 0 nd (ones W) []) r k) := fun b => by
    induction b with
    | nil => intro t; show _ = _ + (0 : Rat); rw [Rat.add_zero]; rfl
    | cons p s ih =>
      intro t
      show at0 (tget (s.foldl _ (addsT W t (scaled p.1 (madeT W nd p.2)))) r (zeros W)) k = _
      rw [ih, look_adds W r k hk, Rat.add_assoc]
      congr 1
      show _ = p.1 * _ + sumR _
      congr 1
      rw [esum_scaled p.1 r hk fun e he => ((made_tok hw).at_ e he).1, esum_tbl W r k (by unfold madeT; exact keys_adds W _ (by simp))]
      unfold madeT
      rw [look_adds W r k hk, look_nil, Rat.zero_add]
  have := gen b []
  rw [look_nil, Rat.zero_add] at this
  exact this
/-! ### what is emitted, by what is told -/
def emT (p : Path) (q : Nat) (t : Tl) : List (Path × List Rat) := (p ++ [(q, t.a)], t.ws) :: emitsW t.wait 0 t.node t.ws (p ++ [(q, t.a)])
mutual
theorem emits_tells : ∀ (mv : Mv) (nd : Nd) (ws : List Rat) (p : Path) (q : Nat), emits mv nd ws p q = (tells mv nd ws).flatMap (emT p q)
  | .mk false a rest, nd, ws, p, q => by
    rw [emits, tells]
    simp [emT]
  | .mk true k rest, nd, ws, p, q => by
    rw [emits, tells]
    exact emitsL_tells rest _ p q
theorem emitsL_tells : ∀ (rest : List Mv) (as : List An) (p : Path) (q : Nat), emitsL rest as p q = (tellsL rest as).flatMap (emT p q)
  | [], as, p, q => by
    rw [tellsL_nil_left as, emitsL]
    rfl
    intro _ _ _ _ h; cases h
  | mv :: r, [], p, q => by
    rw [tellsL, emitsL]
    rfl
    all_goals (intro _ _ _ _ _ h; cases h)
  | mv :: r, a :: as, p, q => by
    rw [tellsL, emitsL, List.flatMap_append, emits_tells mv, emitsL_tells r as]
end
end K12
/-! M8: shaped = led. -/
namespace K12
open PySem
mutual
theorem emits_key : ∀ (mv : Mv) (nd : Nd) (ws : List Rat) (p : Path) (q : Nat), ∀ e ∈ emits mv nd ws p q, ∃ a r, e.1 = p ++ (q, a) :: r
  | .mk false a rest, nd, ws, p, q => fun e he => by
    rw [emits] at he
    rcases List.mem_cons.mp he with rfl | he
    · exact ⟨a, [], rfl⟩
    · obtain ⟨j, b, r, _, h⟩ := emitsW_key rest 0 nd ws _ e he
      exact ⟨a, (j, b) :: r, by rw [h, List.append_assoc]; rfl⟩
  | .mk true k rest, nd, ws, p, q => fun e he => by
    rw [emits] at he
    exact emitsL_key rest _ p q e he
theorem emitsL_key : ∀ (rest : List Mv) (as : List An) (p : Path) (q : Nat), ∀ e ∈ emitsL rest as p q, ∃ a r, e.1 = p ++ (q, a) :: r
  | [], as, p, q => fun e he => by rw [emitsL] at he; cases he; intro _ _ _ _ h; cases h
  | mv :: r, [], p, q => fun e he => by rw [emitsL] at he; cases he; intro _ _ _ _ _ h; cases h
  | mv :: r, a :: as, p, q => fun e he => by
    rw [emitsL] at he
    rcases List.mem_append.mp he with he | he
    · exact emits_key mv a.2.2 a.2.1 p q e he
    · exact emitsL_key r as p q e he
theorem emitsW_key : ∀ (rest : List Mv) (i : Nat) (nd : Nd) (ws : List Rat) (p : Path), ∀ e ∈ emitsW rest i nd ws p, ∃ j a r, i ≤ j ∧ e.1 = p ++ (j, a) :: r
  | [], i, nd, ws, p => fun e he => by rw [emitsW] at he; cases he
  | mv :: r, i, nd, ws, p => fun e he => by
    rw [emitsW] at he
    rcases List.mem_append.mp he with he | he
    · obtain ⟨a, r', h⟩ := emits_key mv nd ws p i e he
      exact ⟨i, a, r', Nat.le_refl _, h⟩
    · obtain ⟨j, a, r', hj, h⟩ := emitsW_key r (i + 1) nd ws p e he
      exact ⟨j, a, r', by omega, h⟩
end
theorem esum_zero {es : List (Path × List Rat)} {r : Path} {k : Nat} (h : ∀ e ∈ es, e.1 ≠ r) : esum es r k = 0 := by
  unfold esum
  rw [List.filter_eq_nil_iff.mpr fun e he => by simpa using h e he]
  rfl
theorem path_inj {p : Path} {x y : Nat × Nat} {r s : Path} (h : p ++ x :: r = p ++ y :: s) : x = y ∧ r = s := List.cons.inj (List.append_cancel_left h)
theorem emits_noMv (nd : Nd) (ws : List Rat) (p : Path) (q : Nat) : emits noMv nd ws p q = [] := by
  unfold noMv
  rw [emits, emitsL]
  intro _ _ _ _ h; cases h
theorem esumW_at : ∀ (rest : List Mv) (i j : Nat) (nd : Nd) (ws : List Rat) (p : Path) (a : Nat) (r : Path) (k : Nat), esum (emitsW rest i nd ws p) (p ++ (i + j, a) :: r) k = esum (emits (rest.getD j noMv) nd ws p (i + j)) (p ++ (i + j, a) :: r) k
  | [], i, j, nd, ws, p, a, r, k => by
    rw [List.getD_nil, emits_noMv, emitsW]
  | mv :: rest, i, 0, nd, ws, p, a, r, k => by
    rw [emitsW, esum_append, List.getD_cons_zero, Nat.add_zero]
    rw [esum_zero (es := emitsW rest (i + 1) nd ws p) fun e he h => by
      obtain ⟨j, b, s, hj, e2⟩ := emitsW_key rest (i + 1) nd ws p e he
      have := (path_inj (e2.symm.trans h)).1
      have := congrArg Prod.fst this
      simp at this
      omega]
    rw [Rat.add_zero]
  | mv :: rest, i, j + 1, nd, ws, p, a, r, k => by
    rw [emitsW, esum_append, List.getD_cons_succ]
    rw [esum_zero (es := emits mv nd ws p i) fun e he h => by
      obtain ⟨b, s, e2⟩ := emits_key mv nd ws p i e he
      have := (path_inj (e2.symm.trans h)).1
      have := congrArg Prod.fst this
      simp at this]
    rw [Rat.zero_add, show i + (j + 1) = i + 1 + j by omega]
    exact esumW_at rest (i + 1) j nd ws p a r k
/-- what one telling adds at a path -/
def tAt (p : Path) (i a : Nat) (r : Path) (k : Nat) (wait : List Mv) (node : Nd) (ws : List Rat) : Rat := if r = [] then at0 ws k else esum (emitsW wait 0 node ws (p ++ [(i, a)])) (p ++ (i, a) :: r) k
theorem esum_emT (p : Path) (i a : Nat) (r : Path) (k : Nat) (t : Tl) : esum (emT p i t) (p ++ (i, a) :: r) k = if t.a = a then tAt p i a r k t.wait t.node t.ws else 0 := by
  have hk : ∀ e ∈ emitsW t.wait 0 t.node t.ws (p ++ [(i, t.a)]), ∃ j b s, e.1 = p ++ (i, t.a) :: (j, b) :: s := fun e he => by
    obtain ⟨j, b, s, _, h⟩ := emitsW_key _ _ _ _ _ e he
    exact ⟨j, b, s, by rw [h, List.append_assoc]; rfl⟩
  unfold emT
  rw [esum_cons]
  by_cases h : t.a = a
  · rw [if_pos h]
    subst h
    unfold tAt
    cases r with
    | nil =>
      rw [if_pos rfl, if_pos rfl, esum_zero (fun e he z => ?_), Rat.add_zero]
      obtain ⟨j, b, s, e2⟩ := hk e he
      have := (path_inj (e2.symm.trans z)).2
      cases this
    | cons y s =>
      rw [if_neg (fun z => ?_), if_neg (fun z => nomatch z), Rat.zero_add]
      have := (path_inj (r := []) z).2
      cases this
  · rw [if_neg h, if_neg (fun z => h ?_), Rat.zero_add, esum_zero (fun e he z => h ?_)]
    · obtain ⟨j, b, s, e2⟩ := hk e he
      have := (path_inj (e2.symm.trans z)).1
      exact congrArg Prod.snd this
    · have := (path_inj (r := []) z).1
      exact congrArg Prod.snd this
theorem sumR_filter {α : Type} (c : α → Bool) (h : α → Rat) : ∀ l : List α, sumR ((l.filter c).map h) = sumR (l.map fun t => if c t = true then h t else 0)
  | [] => rfl
  | a :: r => by
    rw [List.filter_cons]
    by_cases e : c a = true
    · rw [if_pos e]
      show h a + sumR _ = (if c a = true then h a else 0) + sumR _
      rw [if_pos e, sumR_filter c h r]
    · rw [if_neg e]
      show _ = (if c a = true then h a else 0) + sumR _
      rw [if_neg e, Rat.zero_add, sumR_filter c h r]
theorem sumR_flat {α β : Type} (f : α → List β) (g : β → Rat) : ∀ l : List α, sumR ((l.flatMap f).map g) = sumR (l.map fun x => sumR ((f x).map g))
  | [] => rfl
  | a :: r => by
    rw [List.flatMap_cons, List.map_append, sumR_append, sumR_flat f g r]
    rfl
theorem sumR_mulL {α : Type} (c : Rat) (g : α → Rat) : ∀ l : List α, sumR (l.map fun x => c * g x) = c * sumR (l.map g)
  | [] => by show (0 : Rat) = c * 0; rw [Rat.mul_zero]
  | a :: r => by
    show c * g a + sumR _ = c * (g a + sumR _)
    rw [sumR_mulL c g r, Rat.mul_add]
theorem pick_told (a i : Nat) : ∀ S : List Sg, pick a (told i S) = S.flatMap fun s => ((tells (s.wait.getD i noMv) s.node s.ws).filter fun t => decide (t.a = a)).map fun t => ⟨s.share, t.wait, t.node, t.ws⟩
  | [] => rfl
  | s :: r => by
    have ih := pick_told a i r
    unfold pick told at ih ⊢
    rw [List.flatMap_cons, List.filter_append, List.map_append, List.flatMap_cons, ih]
    congr 1
    rw [List.filter_map, List.map_map]
    rfl
/-- what the standings add at a path -/
def cS (S : List Sg) (p r : Path) (k : Nat) : Rat := sumR (S.map fun s => s.share * esum (emitsW s.wait 0 s.node s.ws p) r k)
theorem cS_at (S : List Sg) (p : Path) (i a : Nat) (r : Path) (k : Nat) : cS S p (p ++ (i, a) :: r) k = sumR ((pick a (told i S)).map fun s => s.share * tAt p i a r k s.wait s.node s.ws) := by
  unfold cS
  rw [pick_told, sumR_flat]
  congr 1
  apply List.map_congr_left
  intro s _
  have h := esumW_at s.wait 0 i s.node s.ws p a r k
  rw [Nat.zero_add] at h
  rw [h, emits_tells, esum_flat, List.map_map]
  show _ = sumR (List.map (fun t : Tl => s.share * tAt p i a r k t.wait t.node t.ws) _)
  rw [sumR_mulL, sumR_filter]
  congr 2
  apply List.map_congr_left
  intro t _
  rw [esum_emT]
  by_cases e : t.a = a
  · rw [if_pos e, if_pos (by simpa using e)]
  · rw [if_neg e, if_neg (by simpa using e)]
theorem eq_at0 {W : Nat} {as bs : List Rat} (h1 : as.length = W) (h2 : bs.length = W) (h : ∀ k, k < W → at0 as k = at0 bs k) : as = bs := by
  apply List.ext_getElem (by omega)
  intro k h3 h4
  have := h k (by omega)
  rw [at0_get h3, at0_get h4] at this
  exact this
section
variable {W : Nat} {t : Tbl}
mutual
theorem shN_led (hl : ∀ r, (tget t r (zeros W)).length = W) : ∀ (nd : Nd) (p : Path) (S : List Sg), (∀ i a r k, k < W → at0 (tget t (p ++ (i, a) :: r) (zeros W)) k = cS S p (p ++ (i, a) :: r) k) → shN W t nd p = ledN W nd S
  | .mk qs, p, S, h => by
    rw [shN, ledN, shQs_led hl qs 0 p S h]
theorem shQs_led (hl : ∀ r, (tget t r (zeros W)).length = W) : ∀ (qs : List (List (List Int × List Rat × Nd))) (i : Nat) (p : Path) (S : List Sg), (∀ i a r k, k < W → at0 (tget t (p ++ (i, a) :: r) (zeros W)) k = cS S p (p ++ (i, a) :: r) k) → shQs W t qs i p = ledQs W qs i S
  | [], i, p, S, h => by rw [shQs, ledQs]
  | q :: r, i, p, S, h => by
    rw [shQs, ledQs, shAs_led hl q 0 i p (told i S) (fun a r k hk => by rw [h i a r k hk, cS_at]), shQs_led hl r (i + 1) p S h]
theorem shAs_led (hl : ∀ r, (tget t r (zeros W)).length = W) : ∀ (q : List (List Int × List Rat × Nd)) (a i : Nat) (p : Path) (T : List (Nat × Sg)), (∀ a r k, k < W → at0 (tget t (p ++ (i, a) :: r) (zeros W)) k = sumR ((pick a T).map fun s => s.share * tAt p i a r k s.wait s.node s.ws)) → shAs W t q a i p = ledAs W q a T
  | [], a, i, p, T, h => by rw [shAs, ledAs]
  | (w, u, n) :: r, a, i, p, T, h => by
    have e1 : tget t (p ++ [(i, a)]) (zeros W) = wsLed W (pick a T) := by
      refine eq_at0 (hl _) (by unfold wsLed; rw [List.length_map, List.length_range]) fun k hk => ?_
      have := h a [] k hk
      rw [this]
      unfold wsLed
      rw [at0_map (α := Nat) _ hk]
      rfl
    have e2 : shN W t n (p ++ [(i, a)]) = ledN W n (pick a T) := shN_led hl n (p ++ [(i, a)]) (pick a T) fun i' a' r' k hk => by
      have := h a ((i', a') :: r') k hk
      have ep : (p ++ [(i, a)]) ++ (i', a') :: r' = p ++ (i, a) :: (i', a') :: r' := by rw [List.append_assoc]; rfl
      rw [ep, this]
      unfold cS
      congr 1
    rw [shAs, ledAs, e1, e2, shAs_led hl r (a + 1) i p T h]
end
end
theorem ledT_len {W : Nat} {nd : Nd} : ∀ (b : Btw) (r : Path), (tget (ledT W nd b) r (zeros W)).length = W := fun b r => by
  have step : ∀ (es : List (Path × List Rat)) (t : Tbl), (∀ r, (tget t r (zeros W)).length = W) → ∀ r, (tget (addsT W t es) r (zeros W)).length = W := fun es => by
    induction es with
    | nil => intro t h; exact h
    | cons e es ih =>
      intro t h
      refine ih _ fun r => ?_
      unfold addT tget
      rw [tval_put]
      split
      · unfold zipAdd
        show (List.map _ _).length = W
        rw [List.length_map, List.length_range]
      · exact h r
  have gen : ∀ (b : Btw) (t : Tbl), (∀ r, (tget t r (zeros W)).length = W) → ∀ r, (tget (b.foldl (fun t p => addsT W t (scaled p.1 (madeT W nd p.2))) t) r (zeros W)).length = W := fun b => by
    induction b with
    | nil => intro t h; exact h
    | cons p s ih => intro t h; exact ih _ (step _ _ h)
  exact gen b [] (fun r => List.length_replicate) r
/-- the law's tree is the program's -/
theorem shaped_led {W : Nat} {one other : Nd} (hw : Wts MM W one) (b : Btw) : shN W (ledT W one b) other [] = ledBy W one other b := by
  unfold ledBy
  refine shN_led (ledT_len b) other [] _ fun i a r k hk => ?_
  rw [look_led hw _ hk]
  unfold cS startS
  rw [List.map_map]
  rfl
end K12
/-! M9: what is led is a right house of the same shape. -/
namespace K12
open PySem
/-! ### sums over what is told -/
theorem colsum_at {W k : Nat} {q : List An} {ws : List Rat} (h : colsum W q = ws) (hk : k < W) : sumR (q.map fun a => at0 a.2.1 k) = at0 ws k := by
  rw [← h]
  unfold colsum
  rw [at0_map (α := Nat) _ hk]
theorem sumR_zip {α β : Type} (f : α → Rat) : ∀ (as : List α) (bs : List β), bs.length = as.length → sumR ((as.zip bs).map fun x => f x.1) = sumR (as.map f)
  | [], _, _ => by rw [List.zip_nil_left]; rfl
  | a :: as, [], h => by cases h
  | a :: as, b :: bs, h => by
    exact congrArg (f a + ·) (sumR_zip f as bs (by simpa using h))
theorem tells_sum {A W D k : Nat} (hk : k < W) : ∀ {m : Nat} {mv : Mv} {nd : Nd} {q : List An} {ws : List Rat}, MvOk m nd q mv → (∃ n, Val A W D n ws nd) → sumR ((tells mv nd ws).map fun t => at0 t.ws k) = at0 ws k
  | 0, _, _, _, _, h, _ => h.elim
  | m + 1, .mk false kk rest, nd, q, ws, _, _ => by
    rw [tells]
    show at0 ws k + 0 = _
    rw [Rat.add_zero]
  | m + 1, .mk true kk rest, nd, q, ws, ⟨p, h1, h2, h3⟩, ⟨n, hv⟩ => by
    rw [tells]
    have e : nd.qs.getD kk [] = p := by rw [List.getD_eq_getElem?_getD, h1]; rfl
    have hp := List.mem_of_getElem? h1
    rw [e]
    cases n with
    | zero => rw [show nd.qs = [] from hv] at hp; cases hp
    | succ n =>
      obtain ⟨_, _, _, _, hc, hch⟩ := hv.2 p hp
      have eL : tellsL rest p = (p.zip rest).flatMap fun x => tells x.2 x.1.2.2 x.1.2.1 := by
        have gen : ∀ (rest : List Mv) (q : List An), tellsL rest q = (q.zip rest).flatMap fun p => tells p.2 p.1.2.2 p.1.2.1 := fun rest => by
          induction rest with
          | nil => intro q; rw [tellsL_nil_left, List.zip_nil_right]; rfl
          | cons mv r ih =>
            intro q
            cases q with
            | nil => rw [tellsL]; rfl; intro _ _ _ _ _ h; cases h
            | cons a as =>
              rw [tellsL, ih as]
              show _ = List.flatMap _ ((a, mv) :: as.zip r)
              rw [List.flatMap_cons]
        exact gen rest p
      rw [eL, sumR_flat, ← colsum_at hc hk, ← sumR_zip (fun a : An => at0 a.2.1 k) p rest h2]
      congr 1
      apply List.map_congr_left
      intro x hx
      obtain ⟨i, hi⟩ := List.getElem?_of_mem hx
      obtain ⟨z1, z2⟩ := List.getElem?_zip_eq_some.mp hi
      exact tells_sum hk (h3 i x.2 x.1 z2 z1) ⟨n, hch x.1 (List.mem_of_getElem? z1)⟩
theorem tells_val {A W D : Nat} : ∀ {m : Nat} {mv : Mv} {nd : Nd} {q : List An} {ws : List Rat}, MvOk m nd q mv → (∃ n, Val A W D n ws nd) → ∀ t ∈ tells mv nd ws, ∃ n, Val A W D n t.ws t.node
  | 0, _, _, _, _, h, _ => h.elim
  | m + 1, .mk false kk rest, nd, q, ws, _, hv => fun t ht => by
    rw [tells] at ht
    cases List.mem_singleton.mp ht
    exact hv
  | m + 1, .mk true kk rest, nd, q, ws, ⟨p, h1, h2, h3⟩, ⟨n, hv⟩ => fun t ht => by
    rw [tells] at ht
    have e : nd.qs.getD kk [] = p := by rw [List.getD_eq_getElem?_getD, h1]; rfl
    rw [e] at ht
    have hp := List.mem_of_getElem? h1
    obtain ⟨i, mv', a, e1, e2, h'⟩ := tellsL_mem ht
    cases n with
    | zero => rw [show nd.qs = [] from hv] at hp; cases hp
    | succ n => exact tells_val (h3 i mv' a e1 e2) ⟨n, (hv.2 p hp).2.2.2.2.2 a (List.mem_of_getElem? e2)⟩ t h'
/-- standings with right nodes -/
def SgV (A W D : Nat) (goal : Nd) (s : Sg) : Prop := SgOk BB D W goal s ∧ ∃ n, Val A W D n s.ws s.node
theorem told_v {A W : Nat} {goal : Nd} {S : List Sg} (h : ∀ s ∈ S, SgV A W MM goal s) {i : Nat} {q : List An} (hq : goal.qs[i]? = some q) : ∀ x ∈ told i S, ∃ a, q[x.1]? = some a ∧ SgV A W MM a.2.2 x.2 := by
  intro x hx
  obtain ⟨a, ha, hok⟩ := told_ok (fun s hs => (h s hs).1) hq x hx
  refine ⟨a, ha, hok, ?_⟩
  obtain ⟨s, hs, t, ht, rfl⟩ := told_mem hx
  obtain ⟨⟨_, _, _, _, ⟨m, hm, h5, h6⟩⟩, hv⟩ := h s hs
  have hlt : i < s.wait.length := by rw [h5]; exact (List.getElem?_eq_some_iff.mp hq).1
  have hmv : s.wait[i]? = some (s.wait.getD i noMv) := by rw [List.getD_eq_getElem?_getD, List.getElem?_eq_getElem hlt]; rfl
  exact tells_val (h6 i _ q hmv hq) hv t ht
theorem told_sum {A W k : Nat} (hk : k < W) {goal : Nd} {i : Nat} {q : List An} (hq : goal.qs[i]? = some q) : ∀ {S : List Sg}, (∀ s ∈ S, SgV A W MM goal s) → sumR ((told i S).map fun x => x.2.share * at0 x.2.ws k) = sumR (S.map fun s => s.share * at0 s.ws k)
  | [], _ => rfl
  | s :: r, h => by
    have ih := told_sum hk hq (S := r) fun x hx => h x (List.mem_cons_of_mem _ hx)
    unfold told at ih ⊢
    rw [List.flatMap_cons, List.map_append, sumR_append, ih, List.map_map]
    show sumR _ + _ = s.share * at0 s.ws k + _
    congr 1
    show sumR (List.map (fun t : Tl => s.share * at0 t.ws k) _) = _
    rw [sumR_mulL]
    obtain ⟨⟨_, _, _, _, ⟨m, hm, h5, h6⟩⟩, hv⟩ := h s List.mem_cons_self
    have hlt : i < s.wait.length := by rw [h5]; exact (List.getElem?_eq_some_iff.mp hq).1
    have hmv : s.wait[i]? = some (s.wait.getD i noMv) := by rw [List.getD_eq_getElem?_getD, List.getElem?_eq_getElem hlt]; rfl
    rw [tells_sum hk (h6 i _ q hmv hq) hv]
theorem sumR_addf {α : Type} (f g : α → Rat) : ∀ l : List α, sumR (l.map fun x => f x + g x) = sumR (l.map f) + sumR (l.map g)
  | [] => by show (0 : Rat) = 0 + 0; rw [Rat.add_zero]
  | a :: r => by
    show f a + g a + sumR _ = (f a + sumR _) + (g a + sumR _)
    rw [sumR_addf f g r]
    grind
theorem sumR_one (c : Rat) (j : Nat) : ∀ l : List Nat, l.Nodup → j ∈ l → sumR (l.map fun a => if a = j then c else 0) = c
  | [], _, h => nomatch h
  | a :: r, hn, h => by
    rw [List.nodup_cons] at hn
    show (if a = j then c else 0) + sumR _ = c
    by_cases e : a = j
    · rw [if_pos e]
      have hz : ∀ l : List Nat, j ∉ l → sumR (l.map fun a => if a = j then c else 0) = 0 := fun l => by
        induction l with
        | nil => intro _; rfl
        | cons b s ih =>
          intro hb
          rw [List.mem_cons, not_or] at hb
          show (if b = j then c else 0) + sumR _ = 0
          rw [if_neg (fun z => hb.1 z.symm), ih hb.2, Rat.zero_add]
      rw [hz r (by rw [← e]; exact hn.1), Rat.add_zero]
    · rw [if_neg e, Rat.zero_add]
      rcases List.mem_cons.mp h with z | z
      · exact absurd z.symm e
      · exact sumR_one c j r hn.2 z
theorem pick_sum (f : Sg → Rat) (n : Nat) : ∀ T : List (Nat × Sg), (∀ x ∈ T, x.1 < n) → sumR ((List.range n).map fun a => sumR ((pick a T).map f)) = sumR (T.map fun x => f x.2)
  | [], _ => by
    have : ∀ l : List Nat, sumR (l.map fun a => sumR ((pick a []).map f)) = 0 := fun l => by
      induction l with
      | nil => rfl
      | cons a r ih => show sumR _ + sumR _ = 0; rw [ih]; show (0 : Rat) + 0 = 0; rw [Rat.add_zero]
    rw [this]; rfl
  | x :: T, h => by
    have ih := pick_sum f n T fun y hy => h y (List.mem_cons_of_mem _ hy)
    have e : ((List.range n).map fun a => sumR ((pick a (x :: T)).map f)) = (List.range n).map fun a => (if a = x.1 then f x.2 else 0) + sumR ((pick a T).map f) := by
      apply List.map_congr_left
      intro a _
      unfold pick
      rw [List.filter_cons]
      by_cases e : x.1 = a
      · rw [if_pos (by simpa using e), if_pos e.symm]
        rfl
      · rw [if_neg (by simpa using e), if_neg (fun z => e z.symm), Rat.zero_add]
    rw [e, sumR_addf, ih, sumR_one _ _ _ List.nodup_range (List.mem_range.mpr (h x List.mem_cons_self))]
    rfl
theorem wsLed_at {W k : Nat} (hk : k < W) (S : List Sg) : at0 (wsLed W S) k = sumR (S.map fun s => s.share * at0 s.ws k) := by
  unfold wsLed
  exact at0_map (α := Nat) _ hk
theorem ledAs_colsum {A W : Nat} {goal : Nd} {S : List Sg} (h : ∀ s ∈ S, SgV A W MM goal s) {i : Nat} {q : List An} (hq : goal.qs[i]? = some q) : colsum W (ledAs W q 0 (told i S)) = wsLed W S := by
  unfold colsum
  show _ = (List.range W).map _
  apply List.map_congr_left
  intro k hk
  have hk' : k < W := by simpa using hk
  rw [← told_sum hk' hq h, ← pick_sum (fun s => s.share * at0 s.ws k) q.length (told i S) fun x hx => by
    obtain ⟨a, ha, _⟩ := told_v h hq x hx
    exact (List.getElem?_eq_some_iff.mp ha).1]
  have e := map_eq_range (fun a : An => at0 a.2.1 k) (fun j => sumR ((pick j (told i S)).map fun s => s.share * at0 s.ws k)) (ledAs W q 0 (told i S)) (fun j a hj => by
    have hlt := (List.getElem?_eq_some_iff.mp hj).1
    rw [ledAs_eq] at hj
    rw [List.getElem?_map, List.getElem?_zipIdx] at hj
    cases eq : q[j]? with
    | none => rw [eq] at hj; cases hj
    | some x =>
      rw [eq] at hj
      cases hj
      show at0 (wsLed W (pick (0 + j) (told i S))) k = _
      rw [Nat.zero_add]
      exact wsLed_at hk' _)
  rw [e]
  have : (ledAs W q 0 (told i S)).length = q.length := by rw [ledAs_eq, List.length_map, List.length_zipIdx]
  rw [this]
theorem sumR_mem_le {l : List Rat} (h : ∀ x ∈ l, 0 ≤ x) {x : Rat} (hx : x ∈ l) : x ≤ sumR l := by
  induction l with
  | nil => cases hx
  | cons a r ih =>
    have h0 := sumR_nonneg (l := r) fun y hy => h y (List.mem_cons_of_mem _ hy)
    have ha := h a List.mem_cons_self
    show x ≤ a + sumR r
    rcases List.mem_cons.mp hx with rfl | hx
    · grind
    · have := ih (fun y hy => h y (List.mem_cons_of_mem _ hy)) hx
      grind
theorem wsLed_nn {W D : Nat} {goal : Nd} {S : List Sg} (h : ∀ s ∈ S, SgOk BB MM W goal s) : (wsLed W S).length = W ∧ ∀ x ∈ wsLed W S, 0 ≤ x ∧ x.den ∣ BB * MM := by
  refine ⟨by unfold wsLed; rw [List.length_map, List.length_range], fun x hx => ?_⟩
  unfold wsLed at hx
  obtain ⟨k, _, rfl⟩ := List.mem_map.mp hx
  have hr : ∀ y ∈ S.map (fun s => s.share * at0 s.ws k), Rg (BB * MM) y := fun y hy => by
    obtain ⟨s, hs, rfl⟩ := List.mem_map.mp hy
    exact rg_mul bb_pos bot_mm.1 (h s hs).share (at0_rg (h s hs).ws.2)
  exact ⟨sumR_nonneg fun y hy => (hr y hy).1, sumR_over bot_bbmm.1 fun y hy => (hr y hy).2.2⟩
theorem led_val {A W A0 D0 : Nat} : ∀ {n : Nat} {ah : List Rat} {goal : Nd} {S : List Sg}, Val A0 W D0 n ah goal → (∀ s ∈ S, SgV A W MM goal s) → (∀ x ∈ wsLed W S, x ≤ 1) → Val A0 W (BB * MM) n (wsLed W S) (ledN W goal S)
  | 0, ah, goal, S, hv, _, _ => by
    show (ledN W goal S).qs = []
    rw [ledN_qs, show goal.qs = [] from hv]
    rfl
  | n + 1, ah, goal, S, ⟨h1, h2⟩, hS, hle => by
    refine ⟨by rw [ledN_qs, ledQs_len]; exact h1, fun q' hq' => ?_⟩
    rw [ledN_qs] at hq'
    obtain ⟨i, hi⟩ := List.getElem?_of_mem hq'
    rw [ledQs_eq, List.getElem?_map, List.getElem?_zipIdx] at hi
    cases eq : goal.qs[i]? with
    | none => rw [eq] at hi; cases hi
    | some q =>
      rw [eq] at hi
      cases hi
      show 1 ≤ (ledAs W q 0 (told (0 + i) S)).length ∧ _
      rw [Nat.zero_add]
      obtain ⟨a1, a2, a3, a4, a5, a6⟩ := h2 q (List.mem_of_getElem? eq)
      have hl : (ledAs W q 0 (told i S)).length = q.length := by rw [ledAs_eq, List.length_map, List.length_zipIdx]
      have hw : (ledAs W q 0 (told i S)).map (·.1) = q.map (·.1) := by
        rw [ledAs_eq, List.map_map]
        have : ∀ (q : List An) (a : Nat), (q.zipIdx a).map (fun x => x.1.1) = q.map (·.1) := fun q => by
          induction q with
          | nil => intro a; rfl
          | cons b r ih => intro a; rw [List.zipIdx_cons, List.map_cons, List.map_cons, ih]
        exact this q 0
      have hc := ledAs_colsum hS eq
      have hT := told_v hS eq
      have at_ : ∀ j a, (ledAs W q 0 (told i S))[j]? = some a → ∃ b, q[j]? = some b ∧ a = (b.1, wsLed W (pick j (told i S)), ledN W b.2.2 (pick j (told i S))) := fun j a hj => by
        rw [ledAs_eq, List.getElem?_map, List.getElem?_zipIdx] at hj
        cases ej : q[j]? with
        | none => rw [ej] at hj; cases hj
        | some b =>
          rw [ej] at hj
          cases hj
          refine ⟨b, rfl, ?_⟩
          show (b.1, wsLed W (pick (0 + j) _), _) = _
          rw [Nat.zero_add]
      have hpick : ∀ j b, q[j]? = some b → ∀ s ∈ pick j (told i S), SgV A W MM b.2.2 s := fun j b hj s hs => by
        obtain ⟨b', hb', h'⟩ := hT _ (pick_mem hs)
        have hb'' : q[j]? = some b' := hb'
        rw [hj] at hb''
        cases hb''
        exact h'
      have hnn : ∀ a ∈ ledAs W q 0 (told i S), a.2.1.length = W ∧ ∀ x ∈ a.2.1, 0 ≤ x ∧ x.den ∣ BB * MM := fun a ha => by
        obtain ⟨j, hj⟩ := List.getElem?_of_mem ha
        obtain ⟨b, hb, rfl⟩ := at_ j a hj
        exact wsLed_nn (D := 0) fun s hs => (hpick j b hb s hs).1
      have hle1 : ∀ a ∈ ledAs W q 0 (told i S), ∀ x ∈ a.2.1, x ≤ 1 := fun a ha x hx => by
        obtain ⟨k, hk⟩ := List.getElem?_of_mem hx
        have hkW : k < W := by rw [← (hnn a ha).1]; exact (List.getElem?_eq_some_iff.mp hk).1
        have ex : x = at0 a.2.1 k := by
          rw [at0_get (by rw [(hnn a ha).1]; exact hkW)]
          exact (List.getElem?_eq_some_iff.mp hk).2.symm
        have h3 := colsum_at hc hkW
        have h4 : at0 a.2.1 k ≤ sumR ((ledAs W q 0 (told i S)).map fun a => at0 a.2.1 k) := sumR_mem_le (fun y hy => by
          obtain ⟨b, hb, rfl⟩ := List.mem_map.mp hy
          exact ((hnn b hb).2 _ (at0_in (by rw [(hnn b hb).1]; exact hkW))).1) (List.mem_map_of_mem (f := fun a : An => at0 a.2.1 k) ha)
        rw [h3] at h4
        rw [ex]
        exact Rat.le_trans h4 (hle _ (at0_in (by rw [(wsLed_nn (D := 0) fun s hs => (hS s hs).1).1]; exact hkW)))
      refine ⟨by rw [hl]; exact a1, by rw [hl]; exact a2, by rw [hw]; exact a3, fun a ha => ⟨(hnn a ha).1, fun x hx => ⟨((hnn a ha).2 x hx).1, hle1 a ha x hx, ((hnn a ha).2 x hx).2⟩⟩, hc, fun a ha => ?_⟩
      obtain ⟨j, hj⟩ := List.getElem?_of_mem ha
      obtain ⟨b, hb, rfl⟩ := at_ j a hj
      exact led_val (a6 b (List.mem_of_getElem? hb)) (hpick j b hb) (fun x hx => hle1 _ ha x hx)
end K12
/-! M10: shapes kept, sizes. -/
namespace K12
open PySem
mutual
theorem shp_led (W : Nat) : ∀ (nd : Nd) (S : List Sg), shp (ledN W nd S) = shp nd
  | .mk qs, S => by
    rw [ledN, shp_eq, shp_eq]
    exact congrArg PyData.tuple (shpQs_led W qs 0 S)
theorem shpQs_led (W : Nat) : ∀ (qs : List (List (List Int × List Rat × Nd))) (i : Nat) (S : List Sg), (ledQs W qs i S).map (fun q => PyData.tuple (q.map fun a => .tuple [encW a.1, shp a.2.2])) = qs.map fun q => PyData.tuple (q.map fun a => .tuple [encW a.1, shp a.2.2])
  | [], _, _ => rfl
  | q :: r, i, S => by
    rw [ledQs, List.map_cons, List.map_cons, shpQs_led W r (i + 1) S, shpAs_led W q 0 (told i S)]
theorem shpAs_led (W : Nat) : ∀ (q : List (List Int × List Rat × Nd)) (a : Nat) (T : List (Nat × Sg)), (ledAs W q a T).map (fun a => PyData.tuple [encW a.1, shp a.2.2]) = q.map fun a => PyData.tuple [encW a.1, shp a.2.2]
  | [], _, _ => rfl
  | (w, u, n) :: r, a, T => by
    rw [ledAs, List.map_cons, List.map_cons, shpAs_led W r (a + 1) T]
    show PyData.tuple [encW w, shp (ledN W n (pick a T))] :: _ = PyData.tuple [encW w, shp n] :: _
    rw [shp_led W n (pick a T)]
end
mutual
theorem led_led (W : Nat) : ∀ (nd : Nd) (S' S : List Sg), ledN W (ledN W nd S') S = ledN W nd S
  | .mk qs, S', S => by rw [ledN, ledN, ledN, ledQs_led W qs 0 0 S' S]
theorem ledQs_led (W : Nat) : ∀ (qs : List (List (List Int × List Rat × Nd))) (i j : Nat) (S' S : List Sg), ledQs W (ledQs W qs i S') j S = ledQs W qs j S
  | [], _, _, _, _ => rfl
  | q :: r, i, j, S', S => by rw [ledQs, ledQs, ledQs, ledQs_led W r, ledAs_led W q]
theorem ledAs_led (W : Nat) : ∀ (q : List (List Int × List Rat × Nd)) (a b : Nat) (T' T : List (Nat × Sg)), ledAs W (ledAs W q a T') b T = ledAs W q b T
  | [], _, _, _, _ => rfl
  | (w, u, n) :: r, a, b, T', T => by
    rw [ledAs, ledAs, ledAs, ledAs_led W r, led_led W n]
end
theorem mv_led (W : Nat) : ∀ {m : Nat} {nd : Nd} {q : List An} {mv : Mv} (T : List (Nat × Sg)), MvOk m nd q mv → MvOk m nd (ledAs W q 0 T) mv
  | 0, _, _, _, _, h => h.elim
  | m + 1, nd, q, .mk false k rest, T, ⟨a, h1, h2, h3⟩ => by
    have e := ledAs_get (W := W) (a := 0) (T := T) h1
    rw [Nat.zero_add] at e
    refine ⟨_, e, by show rest.length = (ledN W a.2.2 (pick k T)).qs.length; rw [ledN_qs, ledQs_len]; exact h2, fun i mv q' e1 e2 => ?_⟩
    have e2' : (ledN W a.2.2 (pick k T)).qs[i]? = some q' := e2
    rw [ledN_qs, ledQs_eq, List.getElem?_map, List.getElem?_zipIdx] at e2'
    cases eq : a.2.2.qs[i]? with
    | none => rw [eq] at e2'; cases e2'
    | some q0 =>
      rw [eq] at e2'
      cases e2'
      exact mv_led W _ (h3 i mv q0 e1 eq)
  | m + 1, nd, q, .mk true k rest, T, ⟨p, h1, h2, h3⟩ => ⟨p, h1, h2, fun i mv a e1 e2 => mv_led W T (h3 i mv a e1 e2)⟩
theorem wait_led (W : Nat) {m : Nat} {nd goal : Nd} {w : List Mv} (S : List Sg) (h : WaitOk m nd goal w) : WaitOk m nd (ledN W goal S) w := by
  refine ⟨by rw [ledN_qs, ledQs_len]; exact h.1, fun i mv q' e1 e2 => ?_⟩
  rw [ledN_qs, ledQs_eq, List.getElem?_map, List.getElem?_zipIdx] at e2
  cases eq : goal.qs[i]? with
  | none => rw [eq] at e2; cases e2
  | some q0 =>
    rw [eq] at e2
    cases e2
    exact mv_led W _ (h.2 i mv q0 e1 eq)
theorem deep_le {A : Nat} : ∀ {n : Nat} {nd : Nd}, Shp A n nd → deep nd ≤ n
  | 0, nd, h => by rw [deep_eq, show nd.qs = [] from h]; exact Nat.le_refl _
  | n + 1, nd, h => by
    rw [deep_eq]
    refine foldMax_lub _ 0 _ (Nat.zero_le _) fun x hx => ?_
    obtain ⟨q, hq, hm⟩ := List.mem_flatMap.mp hx
    obtain ⟨a, ha, rfl⟩ := List.mem_map.mp hm
    have := deep_le ((h.2 q hq).2.2 a ha)
    omega
theorem pot_le {A : Nat} (hA : 1 ≤ A) : ∀ {n : Nat} {nd : Nd}, Shp A n nd → pot nd ≤ A ^ n
  | 0, nd, h => by rw [pot_eq, show nd.qs = [] from h]; exact Nat.le_refl _
  | n + 1, nd, h => by
    rw [pot_eq]
    refine foldMax_lub _ 1 _ (Nat.pow_pos hA) fun x hx => ?_
    obtain ⟨q, hq, rfl⟩ := List.mem_map.mp hx
    obtain ⟨_, h2, h3⟩ := h.2 q hq
    refine Nat.le_trans (sum_le_mul _ (A ^ n) q fun a ha => pot_le hA (h3 a ha)) ?_
    rw [Nat.pow_succ, Nat.mul_comm]
    exact Nat.mul_le_mul_left _ h2
/-! ### how much is emitted -/
def gB : Nat → Nat
  | 0 => 0
  | n + 1 => 2 * (1 + gB n)
theorem len_flat_le {α β : Type} (f : α → List β) (b : α → Nat) : ∀ l : List α, (∀ x ∈ l, (f x).length ≤ b x) → (l.flatMap f).length ≤ (l.map b).sum
  | [], _ => Nat.zero_le _
  | a :: r, h => by
    rw [List.flatMap_cons, List.length_append, List.map_cons, List.sum_cons]
    exact Nat.add_le_add (h a List.mem_cons_self) (len_flat_le f b r fun x hx => h x (List.mem_cons_of_mem _ hx))
theorem sum_zip_le {α β : Type} (f : α → Nat) : ∀ (as : List α) (bs : List β), ((as.zip bs).map fun x => f x.1).sum ≤ (as.map f).sum
  | [], _ => by rw [List.zip_nil_left]; exact Nat.le_refl _
  | a :: as, [] => Nat.zero_le _
  | a :: as, b :: bs => by
    show f a + _ ≤ f a + _
    exact Nat.add_le_add_left (sum_zip_le f as bs) _
theorem sum_mulR {α : Type} (f : α → Nat) (c : Nat) : ∀ l : List α, (l.map fun x => f x * c).sum = (l.map f).sum * c
  | [] => by rw [List.map_nil, List.sum_nil, List.map_nil, List.sum_nil, Nat.zero_mul]
  | a :: r => by rw [List.map_cons, List.map_cons, List.sum_cons, List.sum_cons, sum_mulR f c r, Nat.add_mul]
theorem emits_len {A : Nat} : ∀ {m n : Nat} {mv : Mv} {nd : Nd} {q : List An} {ws : List Rat} {p : Path} {i : Nat}, MvOk m nd q mv → (∀ a ∈ q, Shp A n a.2.2) → (emits mv nd ws p i).length ≤ pot nd * (1 + gB n)
  | 0, _, _, _, _, _, _, _, h, _ => h.elim
  | m + 1, n, .mk false k rest, nd, q, ws, p, i, ⟨a, h1, h2, h3⟩, hs => by
    rw [emits, List.length_cons, emitsW_eq]
    have ha := hs a (List.mem_of_getElem? h1)
    have hp := pot_pos nd
    have hb : ((rest.zipIdx 0).flatMap fun x => emits x.1 nd ws (p ++ [(i, k)]) x.2).length ≤ pot nd * gB n := by
      cases n with
      | zero =>
        have : rest = [] := List.eq_nil_of_length_eq_zero (by rw [h2, show a.2.2.qs = [] from ha]; rfl)
        subst this
        exact Nat.zero_le _
      | succ n =>
        refine Nat.le_trans (len_flat_le _ (fun _ => pot nd * (1 + gB n)) _ fun x hx => ?_) ?_
        · obtain ⟨j, hj⟩ := List.getElem?_of_mem hx
          rw [List.getElem?_zipIdx] at hj
          cases er : rest[j]? with
          | none => rw [er] at hj; cases hj
          | some mv' =>
            rw [er] at hj
            cases hj
            have hlt : j < a.2.2.qs.length := by rw [← h2]; exact (List.getElem?_eq_some_iff.mp er).1
            have hq := List.getElem?_eq_getElem hlt
            exact emits_len (h3 j mv' _ er hq) (ha.2 _ (List.getElem_mem hlt)).2.2
        · have hl : (rest.zipIdx 0).length ≤ 2 := by rw [List.length_zipIdx, h2]; exact ha.1
          have h4 := sum_le_mul (fun _ : Mv × Nat => pot nd * (1 + gB n)) (pot nd * (1 + gB n)) (rest.zipIdx 0) fun _ _ => Nat.le_refl _
          refine Nat.le_trans h4 (Nat.le_trans (Nat.mul_le_mul_right _ hl) ?_)
          show 2 * (pot nd * (1 + gB n)) ≤ pot nd * (2 * (1 + gB n))
          rw [Nat.mul_left_comm]
          exact Nat.le_refl _
    rw [Nat.mul_add, Nat.mul_one]
    omega
  | m + 1, n, .mk true k rest, nd, q, ws, p, i, ⟨pq, h1, h2, h3⟩, hs => by
    rw [emits]
    have e : nd.qs.getD k [] = pq := by rw [List.getD_eq_getElem?_getD, h1]; rfl
    rw [e, emitsL_eq]
    refine Nat.le_trans (len_flat_le _ (fun x : An × Mv => pot x.1.2.2 * (1 + gB n)) _ fun x hx => ?_) ?_
    · obtain ⟨j, hj⟩ := List.getElem?_of_mem hx
      obtain ⟨z1, z2⟩ := List.getElem?_zip_eq_some.mp hj
      exact emits_len (h3 j x.2 x.1 z2 z1) hs
    · refine Nat.le_trans (sum_zip_le (fun a : An => pot a.2.2 * (1 + gB n)) pq rest) ?_
      rw [sum_mulR]
      exact Nat.mul_le_mul_right _ (pot_q (List.mem_of_getElem? h1))
theorem emitsW_len {A m n : Nat} {nd goal : Nd} {plan : List Mv} {ws : List Rat} {p : Path} (h : WaitOk m nd goal plan) (hs : Shp A n goal) : (emitsW plan 0 nd ws p).length ≤ pot nd * gB n := by
  rw [emitsW_eq]
  cases n with
  | zero =>
    have : plan = [] := List.eq_nil_of_length_eq_zero (by rw [h.1, show goal.qs = [] from hs]; rfl)
    subst this
    exact Nat.zero_le _
  | succ n =>
    refine Nat.le_trans (len_flat_le _ (fun _ => pot nd * (1 + gB n)) _ fun x hx => ?_) ?_
    · obtain ⟨j, hj⟩ := List.getElem?_of_mem hx
      rw [List.getElem?_zipIdx] at hj
      cases er : plan[j]? with
      | none => rw [er] at hj; cases hj
      | some mv' =>
        rw [er] at hj
        cases hj
        have hlt : j < goal.qs.length := by rw [← h.1]; exact (List.getElem?_eq_some_iff.mp er).1
        have hq := List.getElem?_eq_getElem hlt
        exact emits_len (h.2 j mv' _ er hq) (hs.2 _ (List.getElem_mem hlt)).2.2
    · have hl : (plan.zipIdx 0).length ≤ 2 := by rw [List.length_zipIdx, h.1]; exact hs.1
      have h4 := sum_le_mul (fun _ : Mv × Nat => pot nd * (1 + gB n)) (pot nd * (1 + gB n)) (plan.zipIdx 0) fun _ _ => Nat.le_refl _
      refine Nat.le_trans h4 (Nat.le_trans (Nat.mul_le_mul_right _ hl) ?_)
      show 2 * (pot nd * (1 + gB n)) ≤ pot nd * (2 * (1 + gB n))
      rw [Nat.mul_left_comm]
      exact Nat.le_refl _
/-! ### what may be shown -/
structure Gd (N : Nat) (d : PyData) : Prop where
  able : d.showable = true
  nod : d.hasDict = false
  lay : d.canLay0 = true
  short : d.leavesShort 35 = true
  dep : d.depth ≤ N
theorem gd_all {N : Nat} : ∀ {l : List PyData}, (∀ d ∈ l, Gd N d) → PyData.showableAll l = true ∧ PyData.hasDictAll l = false ∧ PyData.canLayAll0 l = true ∧ PyData.leavesShortAll 35 l = true ∧ PyData.depthAll l ≤ N
  | [], _ => ⟨rfl, rfl, rfl, rfl, Nat.zero_le _⟩
  | d :: r, h => by
    obtain ⟨a1, a2, a3, a4, a5⟩ := h d List.mem_cons_self
    obtain ⟨b1, b2, b3, b4, b5⟩ := gd_all (l := r) fun x hx => h x (List.mem_cons_of_mem _ hx)
    refine ⟨?_, ?_, ?_, ?_, ?_⟩
    · rw [PyData.showableAll, a1, b1]; rfl
    · rw [PyData.hasDictAll, a2, b2]; rfl
    · rw [PyData.canLayAll0, a3, b3]; rfl
    · rw [PyData.leavesShortAll, a4, b4]; rfl
    · rw [PyData.depthAll]; exact Nat.max_le.mpr ⟨a5, b5⟩
theorem Gd.tup {N : Nat} {l : List PyData} (h : ∀ d ∈ l, Gd N d) : Gd (N + 1) (.tuple l) := by
  obtain ⟨b1, b2, b3, b4, b5⟩ := gd_all h
  refine ⟨?_, ?_, ?_, ?_, ?_⟩
  · rw [PyData.showable]; exact b1
  · rw [PyData.hasDict]; exact b2
  · rw [PyData.canLay0]; exact b3
  · rw [PyData.leavesShort]; exact b4
  · rw [PyData.depth]; omega
theorem Gd.up {N N' : Nat} {d : PyData} (h : Gd N d) (hn : N ≤ N') : Gd N' d := ⟨h.able, h.nod, h.lay, h.short, Nat.le_trans h.dep hn⟩
theorem log_lt {n k : Nat} (h : n < 2 ^ k) (hk : 0 < k) : n.log2 < k := by
  by_cases h0 : n = 0
  · subst h0; simpa using hk
  · exact (Nat.log2_lt h0).mpr h
theorem Gd.int {i : Int} (h : i.natAbs < 2 ^ 111) : Gd 0 (.int i) := by
  refine ⟨?_, rfl, rfl, ?_, Nat.le_refl _⟩
  · rw [PyData.showable]
    exact decide_eq_true (Nat.lt_trans (log_lt h (by decide)) (by decide))
  · rw [PyData.leavesShort]
    refine decide_eq_true ?_
    have e := int_text_length_le10 (k := 34) (by decide) (Nat.lt_trans h (by decide : 2 ^ 111 < 10 ^ 34))
    show (Str.ofString (toString i)).length ≤ 35
    rw [ofString_length]
    exact e
theorem wt_int {i : Int} (h : i.natAbs < 2 ^ 111) : (PyData.int i).weight ≤ 111 := by
  rw [PyData.weight]
  split
  · exact Nat.zero_le _
  · have := log_lt h (by decide)
    omega
theorem wt_all {α : Type} (f : α → PyData) (b : Nat) : ∀ l : List α, (∀ x ∈ l, (f x).weight ≤ b) → PyData.weightAll (l.map f) ≤ l.length * (b + 1)
  | [], _ => by rw [List.map_nil, PyData.weightAll]; exact Nat.zero_le _
  | a :: r, h => by
    have h1 := h a List.mem_cons_self
    have h2 := wt_all f b r fun x hx => h x (List.mem_cons_of_mem _ hx)
    rw [List.map_cons, PyData.weightAll, List.length_cons, Nat.add_mul]
    omega
theorem den_lt111 {x : Rat} (h : Rg (BB * MM) x) : x.num.natAbs < 2 ^ 111 ∧ ((x.den : Nat) : Int).natAbs < 2 ^ 111 := by
  have hle := Nat.le_of_dvd bot_bbmm.1 h.2.2
  have hb : BB * MM < 2 ^ 111 := by unfold MM BB; decide
  refine ⟨?_, by simpa using Nat.lt_of_le_of_lt hle hb⟩
  have e0 := Rat.num_nonneg.mpr h.1
  have e1 := (Rat.le_iff x 1).mp h.2.1
  have e2 : x.num ≤ x.den := by simpa using e1
  omega
theorem gd_encR {x : Rat} (h : Rg (BB * MM) x) : Gd 1 (encR x) ∧ (encR x).weight ≤ 224 := by
  obtain ⟨h1, h2⟩ := den_lt111 h
  refine ⟨.tup fun d hd => ?_, ?_⟩
  · rcases List.mem_cons.mp hd with rfl | hd
    · exact .int h1
    · cases List.mem_singleton.mp hd
      exact .int h2
  · unfold encR
    rw [PyData.weight, PyData.weightAll, PyData.weightAll, PyData.weightAll]
    have := wt_int h1
    have := wt_int h2
    omega
theorem gd_encWs {W : Nat} {ws : List Rat} (h : Good (BB * MM) W ws) (hW : W ≤ 3) : Gd 2 (encWs ws) ∧ (encWs ws).weight ≤ 675 := by
  refine ⟨.tup fun d hd => ?_, ?_⟩
  · obtain ⟨x, hx, rfl⟩ := List.mem_map.mp hd
    exact (gd_encR (h.2 x hx)).1
  · unfold encWs
    rw [PyData.weight]
    have := wt_all encR 224 ws fun x hx => (gd_encR (h.2 x hx)).2
    rw [h.1] at this
    have : W * 225 ≤ 3 * 225 := Nat.mul_le_mul_right _ hW
    omega
theorem gd_encW {w : List Int} (hl : w.length ≤ 8) (h : ∀ x ∈ w, 0 ≤ x ∧ x ≤ 99) : Gd 1 (encW w) ∧ (encW w).weight ≤ 64 := by
  have hb : ∀ x ∈ w, x.natAbs < 2 ^ 7 := fun x hx => by
    have := h x hx
    omega
  refine ⟨.tup fun d hd => ?_, ?_⟩
  · obtain ⟨x, hx, rfl⟩ := List.mem_map.mp hd
    exact .int (Nat.lt_trans (hb x hx) (by decide))
  · unfold encW
    rw [PyData.weight]
    have := wt_all PyData.int 7 w fun x hx => by
      rw [PyData.weight]
      split
      · exact Nat.zero_le _
      · have := log_lt (hb x hx) (by decide)
        omega
    have : w.length * 8 ≤ 8 * 8 := Nat.mul_le_mul_right _ hl
    omega
theorem wt_encQ (f : An → Nat) (q : List An) (h : ∀ a ∈ q, (encA a).weight + 1 ≤ f a) : (encQ q).weight ≤ (q.map f).sum := by
  unfold encQ
  rw [PyData.weight]
  induction q with
  | nil => rw [List.map_nil, PyData.weightAll]; exact Nat.zero_le _
  | cons a r ih =>
    rw [List.map_cons, PyData.weightAll, List.map_cons, List.sum_cons]
    have h1 := h a List.mem_cons_self
    have h2 := ih fun x hx => h x (List.mem_cons_of_mem _ hx)
    omega
theorem gd_encN {A W : Nat} (hW : W ≤ 3) : ∀ {n : Nat} {ah : List Rat} {nd : Nd}, Val A W (BB * MM) n ah nd → Gd (3 * n + 3) (encN nd) ∧ (encN nd).weight ≤ 750 * cnt nd
  | 0, ah, nd, h => by
    rw [encN_eq, show nd.qs = [] from h]
    exact ⟨(Gd.tup (N := 2) fun d hd => nomatch hd), by rw [List.map_nil, PyData.weight, PyData.weightAll]; exact Nat.zero_le _⟩
  | n + 1, ah, nd, ⟨h1, h2⟩ => by
    have an : ∀ q ∈ nd.qs, ∀ a ∈ q, Gd (3 * n + 4) (encA a) ∧ (encA a).weight + 2 ≤ 750 * (1 + cnt a.2.2) := fun q hq a ha => by
      obtain ⟨a1, a2, a3, a4, a5, a6⟩ := h2 q hq
      have gw := gd_encW (a3.1 a.1 (List.mem_map_of_mem ha)).1 (a3.1 a.1 (List.mem_map_of_mem ha)).2
      have gs := gd_encWs (a4 a ha) hW
      have gn := gd_encN hW (a6 a ha)
      refine ⟨.tup fun d hd => ?_, ?_⟩
      · rcases List.mem_cons.mp hd with rfl | hd
        · exact gw.1.up (by omega)
        rcases List.mem_cons.mp hd with rfl | hd
        · exact gs.1.up (by omega)
        · cases List.mem_singleton.mp hd
          exact gn.1.up (by omega)
      · unfold encA
        rw [PyData.weight, PyData.weightAll, PyData.weightAll, PyData.weightAll, PyData.weightAll]
        have := gw.2
        have := gs.2
        have := gn.2
        rw [Nat.mul_add]
        omega
    rw [encN_eq, cnt_q]
    refine ⟨Gd.up (N := 3 * n + 6) (.tup fun d hd => ?_) (by omega), ?_⟩
    · obtain ⟨q, hq, rfl⟩ := List.mem_map.mp hd
      refine .tup fun d hd => ?_
      obtain ⟨a, ha, rfl⟩ := List.mem_map.mp hd
      exact (an q hq a ha).1
    · rw [PyData.weight]
      have gen : ∀ l : List (List An), (∀ q ∈ l, q ∈ nd.qs) → PyData.weightAll (l.map encQ) ≤ 750 * (l.map qcnt).sum := fun l => by
        induction l with
        | nil => intro _; rw [List.map_nil, PyData.weightAll]; exact Nat.zero_le _
        | cons q r ih =>
          intro hl
          have hq := hl q List.mem_cons_self
          have ih := ih fun x hx => hl x (List.mem_cons_of_mem _ hx)
          have h3 : (encQ q).weight + q.length ≤ 750 * qcnt q := by
            have h4 := wt_encQ (fun a => 750 * (1 + cnt a.2.2) - 1) q fun a ha => by have := (an q hq a ha).2; omega
            have h5 : ∀ l : List An, (l.map fun a => 750 * (1 + cnt a.2.2) - 1).sum + l.length = 750 * qcnt l := fun l => by
              unfold qcnt
              induction l with
              | nil => rfl
              | cons a s ihs => rw [List.map_cons, List.map_cons, List.sum_cons, List.sum_cons, List.length_cons]; omega
            have := h5 q
            omega
          have := (h2 q hq).1
          rw [List.map_cons, PyData.weightAll, List.map_cons, List.sum_cons, Nat.mul_add]
          omega
      exact gen nd.qs fun q hq => hq
end K12
/-! M11: all that the law needs to know of one turn. -/
namespace K12
open PySem
theorem gd_shp {A W D : Nat} : ∀ {n : Nat} {ah : List Rat} {nd : Nd}, Val A W D n ah nd → Gd (3 * n + 3) (shp nd)
  | 0, ah, nd, h => by
    rw [shp_eq, show nd.qs = [] from h]
    exact (Gd.tup (N := 2) fun d hd => nomatch hd)
  | n + 1, ah, nd, ⟨h1, h2⟩ => by
    rw [shp_eq]
    refine Gd.up (N := 3 * n + 6) (.tup fun d hd => ?_) (by omega)
    obtain ⟨q, hq, rfl⟩ := List.mem_map.mp hd
    refine .tup fun d hd => ?_
    obtain ⟨a, ha, rfl⟩ := List.mem_map.mp hd
    obtain ⟨a1, a2, a3, a4, a5, a6⟩ := h2 q hq
    refine .tup fun d hd => ?_
    rcases List.mem_cons.mp hd with rfl | hd
    · exact (gd_encW (a3.1 a.1 (List.mem_map_of_mem ha)).1 (a3.1 a.1 (List.mem_map_of_mem ha)).2).1.up (by omega)
    · cases List.mem_singleton.mp hd
      exact gd_shp (a6 a ha)
theorem gd_shaped {N : Nat} {d : PyData} (h : Gd N d) (hN : N ≤ 60) : SeqAt.shaped d = true := by
  unfold SeqAt.shaped
  rw [h.lay, Bool.true_and]
  exact decide_eq_true (by have := h.dep; omega)
theorem gd_shows {N : Nat} {d : PyData} (h : Gd N d) (hN : N ≤ 60) (hw : d.weight ≤ 200000) : Shows d := by
  refine ⟨h.able, h.nod, Nat.le_trans h.dep hN, ?_, h.lay⟩
  have h1 := PyData.shown_le 35 (by decide) d h.short
  have h2 : (35 + 2) * d.weight ≤ 37 * 200000 := Nat.mul_le_mul_left _ hw
  have e : sizeLine = 16777216 := by decide
  omega
/-- one turn of the law -/
structure Turn1 (W : Nat) (one other : Nd) (b : Btw) : Prop where
  w1 : 1 ≤ W
  w3 : W ≤ 3
  vone : Val 4 W MM 4 (ones W) one
  cone : cnt one ≤ 1500
  vother : Val 3 W MM 3 (ones W) other
  plans : ∃ n, 1 ≤ n ∧ n ≤ 3 ∧ ShareOk n 1 (b.map (·.1))
  waits : ∀ p ∈ b, WaitOk 12 one other p.2
section
variable {W : Nat} {one other : Nd} {b : Btw} (h : Turn1 W one other b)
include h
theorem Turn1.blen : 1 ≤ b.length ∧ b.length ≤ 3 := by
  obtain ⟨n, h1, h3, h4, _⟩ := h.plans
  rw [List.length_map] at h4
  omega
theorem Turn1.share {p : Rat × List Mv} (hp : p ∈ b) : Rg BB p.1 ∧ 0 < p.1 := by
  obtain ⟨n, _, _, _, h5, _⟩ := h.plans
  obtain ⟨h6, h7⟩ := h5 p.1 (List.mem_map_of_mem (f := fun p : Rat × List Mv => p.1) hp)
  exact ⟨h6, h7 rfl⟩
theorem Turn1.sone : Shp 12 4 one := h.vone.shp.up (by decide) (by decide)
theorem Turn1.sother : Shp 12 3 other := h.vother.shp.up (by decide) (by decide)
theorem Turn1.sgv : ∀ s ∈ startS W one b, SgV 4 W MM other s := by
  intro s hs
  obtain ⟨p, hp, rfl⟩ := List.mem_map.mp hs
  exact ⟨⟨(h.share hp).1, ones_good, h.vone.wts, ⟨4, h.sone⟩, 12, Nat.le_refl _, h.waits p hp⟩, 4, h.vone⟩
theorem Turn1.ones_ : wsLed W (startS W one b) = ones W := by
  refine eq_at0 (by unfold wsLed; rw [List.length_map, List.length_range]) List.length_replicate fun k hk => ?_
  rw [wsLed_at hk]
  unfold startS
  rw [List.map_map]
  have e1 : at0 (ones W) k = 1 := by
    unfold ones
    rw [at0_get (by rw [List.length_replicate]; exact hk), List.getElem_replicate]
  show sumR (b.map fun p => p.1 * at0 (ones W) k) = _
  obtain ⟨n, _, _, _, _, h6⟩ := h.plans
  rw [e1]
  have : (b.map fun p => p.1 * 1) = b.map (·.1) := List.map_congr_left fun p _ => Rat.mul_one _
  rw [this, h6]
theorem Turn1.vdue : Val 3 W (BB * MM) 3 (ones W) (ledBy W one other b) := by
  have := led_val h.vother h.sgv (fun x hx => by
    rw [h.ones_] at hx
    rw [List.eq_of_mem_replicate (show x ∈ List.replicate W (1 : Rat) from hx)]
    exact Rat.le_refl)
  rw [h.ones_] at this
  exact this
theorem Turn1.cdue : cnt (ledBy W one other b) ≤ 258 := cnt_le h.vdue.shp
theorem Turn1.due_due : ledBy W one (ledBy W one other b) b = ledBy W one other b := led_led W other _ _
theorem Turn1.btw {goal : Nd} (hg : ∀ p ∈ b, WaitOk 12 one goal p.2) : BtwOk one goal b := by
  obtain ⟨n, h1, h3, h4, h5, h6⟩ := h.plans
  have := h.blen
  refine ⟨this.1, by omega, adds_of bot_bb (by rw [List.length_map]; omega) fun q hq => ?_, fun p hp => ⟨(h.share hp).2, (h.share hp).1.2.1⟩, h6, hg⟩
  exact (h5 q hq).1
theorem Turn1.wdue : ∀ p ∈ b, WaitOk 12 one (ledBy W one other b) p.2 := fun p hp => wait_led W _ (h.waits p hp)
theorem Turn1.leds {goal : Nd} (hg : ∀ p ∈ b, WaitOk 12 one goal p.2) (hs : Shp 12 3 goal) (he : ledBy W one goal b = ledBy W one other b) : LedOk W one goal b where
  n1 := h.w1
  dom := ⟨BB, MM, ⟨by have := h.w3; omega, bot_bb, bot_mm, bot_bbmm⟩, fun p hp => (h.share hp).1, h.vone.wts⟩
  btw := h.btw hg
  shp := ⟨4, h.sone⟩
  shp' := ⟨3, by decide, hs⟩
  pot := by
    have h1 := pot_le (by decide) h.vone.shp
    have h2 := h.blen.2
    have : b.length * pot one ≤ 3 * 4 ^ 4 := Nat.mul_le_mul h2 h1
    have e : 3 * 4 ^ 4 = 768 := by decide
    omega
  led := by
    rw [he]
    refine ⟨⟨3, 3, by decide, by decide, h.vdue.shp⟩, ?_, ?_⟩
    · have := deep_le h.vdue.shp
      omega
    · have := h.cdue
      omega
theorem Turn1.led1 : LedOk W one other b := h.leds h.waits h.sother rfl
theorem Turn1.led2 : LedOk W one (ledBy W one other b) b := h.leds h.wdue (h.vdue.shp.up (by decide) (by decide)) h.due_due
theorem Turn1.hone : HouseOk W one := ⟨h.w1, by have := h.w3; omega, 4, MM, 4, bot_mm, by decide, by decide, h.vone, h.cone⟩
theorem Turn1.hother : HouseOk W other := ⟨h.w1, by have := h.w3; omega, 3, MM, 3, bot_mm, by decide, by decide, h.vother, by
  have : cnt other ≤ 258 := cnt_le h.vother.shp
  omega⟩
theorem Turn1.hdue : HouseOk W (ledBy W one other b) := ⟨h.w1, by have := h.w3; omega, 3, BB * MM, 3, bot_bbmm, by decide, by decide, h.vdue, by have := h.cdue; omega⟩
theorem Turn1.gdue : Gd 12 (encN (ledBy W one other b)) ∧ (encN (ledBy W one other b)).weight ≤ 193500 := by
  obtain ⟨h1, h2⟩ := gd_encN h.w3 h.vdue
  refine ⟨h1, Nat.le_trans h2 ?_⟩
  have := h.cdue
  omega
theorem Turn1.show1 : Shows (encN (ledBy W one other b)) := gd_shows h.gdue.1 (by decide) (by have := h.gdue.2; omega)
theorem Turn1.show2 : Shows (.tuple [.int (W : Int), encN (ledBy W one other b)]) := by
  have hw : ((W : Int)).natAbs < 2 ^ 111 := by
    have := h.w3
    have : (2 : Nat) ^ 111 > 3 := by decide
    omega
  refine gd_shows (N := 13) (.tup fun d hd => ?_) (by decide) ?_
  · rcases List.mem_cons.mp hd with rfl | hd
    · exact (Gd.int hw).up (by decide)
    · cases List.mem_singleton.mp hd
      exact h.gdue.1
  · rw [PyData.weight, PyData.weightAll, PyData.weightAll, PyData.weightAll]
    have := wt_int hw
    have := h.gdue.2
    omega
theorem Turn1.shdue : SeqAt.shaped (encN (ledBy W one other b)) = true := gd_shaped h.gdue.1 (by decide)
theorem Turn1.shother : SeqAt.shaped (encN other) = true := by
  have hv : Val 3 W (BB * MM) 3 (ones W) other := by
    have up : ∀ {n : Nat} {ah : List Rat} {nd : Nd}, Val 3 W MM n ah nd → Val 3 W (BB * MM) n ah nd := fun {n} => by
      induction n with
      | zero => intro ah nd h; exact h
      | succ n ih =>
        intro ah nd h
        exact ⟨h.1, fun q hq => by
          obtain ⟨a1, a2, a3, a4, a5, a6⟩ := h.2 q hq
          exact ⟨a1, a2, a3, fun a ha => ⟨(a4 a ha).1, fun x hx => ((a4 a ha).2 x hx).up (Nat.dvd_mul_left _ _)⟩, a5, fun a ha => ih (a6 a ha)⟩⟩
    exact up h.vother
  exact gd_shaped (gd_encN h.w3 hv).1 (by decide)
theorem Turn1.shp_eq_ : shp (ledBy W one other b) = shp other := shp_led W other _
theorem Turn1.shshp : SeqAt.shaped (shp other) = true ∧ PyData.eqv (shp other) (shp other) = true := ⟨gd_shaped (gd_shp h.vother) (by decide), SeqAt.eqv_refl _ (gd_shp h.vother).lay⟩
theorem Turn1.eqv_due : PyData.eqv (encN (ledBy W one other b)) (encN (ledBy W one other b)) = true := SeqAt.eqv_refl _ h.gdue.1.lay
theorem Turn1.emits_ {p : Rat × List Mv} (hp : p ∈ b) : (emitsW p.2 0 one (ones W) []).length ≤ 100000 := by
  have h1 := emitsW_len (ws := ones W) (p := []) (h.waits p hp) h.vother.shp
  have h2 := pot_le (by decide) h.vone.shp
  have h3 : pot one * gB 3 ≤ 4 ^ 4 * gB 3 := Nat.mul_le_mul_right _ h2
  have e : 4 ^ 4 * gB 3 = 3584 := by decide
  omega
end
end K12
/-! E7: the law. -/
namespace K12
open PySem PySem.Spec PyProof.Rows L2
section
variable {X : Cx} {W : Wd} {e a b c : Expr} {es : List Expr} {σ : L2.St} {G G1 H : Hp} {R R' : Rl} {x y : Str} {p pos spos : Pos} {rest : List Stmt} {D : Ends}
/-- a call whose result is weakened -/
theorem ev_callWR {j l : Nat} {pre : Wd → Hp → List V → Rl → Prop} {Rs : Hp → List V → Prop} (c : C8.Cal X.prog X.w X.K X.mg X.base l x (SpGW pre) []) (hr : Room j X.A) (hk : l ≤ j) (ha : EvA X W (e :: es) σ G Rs) (hd : ∀ G' vs, Same G G' → Rs G' vs → ∃ R', pre W G' vs R' ∧ ∀ G v, R' G v → R G v) (hg : Gl X x := by rfl)
    (hdb : (x == ("__debug__" : Str)) = false := by decide) (he : starEach (e :: es) X.env = (false, eval e X.env) :: starEach es X.env := by rfl) (hpl : (backTo pos (starEach es X.env)).any (·.1) = false := by rfl) :
    Ev X W (.Call (.Name x p) (e :: es) [] pos) σ G R := fun G1 H Q s k1 q => useE (C8.pe_c c hr hk hg (pA _) hdb he hpl) <|
  ha G1 H _ s k1 fun vs G2 H2 s2 k2 r => by
    obtain ⟨R', h1, h2⟩ := hd G2 vs (s.trans s2) r
    exact ⟨W, G2, R', k2, by rw [List.append_nil]; exact h1, fun v G3 H3 s3 k3 r3 => q v G3 H3 (s2.trans s3) k3 (h2 _ _ r3)⟩
/-- a new dict as the last argument -/
def EvAd (X : Cx) (W : Wd) (es : List Expr) (σ : L2.St) (G : Hp) (t : Tbl) (R : Hp → List V → Addr → Prop) : Prop := ∀ (G1 H : Hp) (Q : List V → Hp → Prop), Same G G1 → W.ok G1 H → (∀ vs l xs G' H', Same G1 G' → (W.sep (.dict X l xs)).ok G' H' → Tb X.K G' t xs → R G' vs l → Q vs H') → wA X es σ H Q
theorem ead_dict {t : Tbl} (h : EvD X W e σ G t) (he : Pl X e [] := by rfl) : EvAd X W [e] σ G t (fun _ vs l => vs = [.ref l]) := fun G1 H Q s k q =>
  useA (pa_cons (pE _) pa_nil he) <| h G1 H _ s k fun l xs G2 H2 s2 k2 ht => q _ l xs G2 H2 s2 k2 ht rfl
theorem ead_cons {t : Tbl} {Rs : Hp → List V → Addr → Prop} (h : Ev X W e σ G R) (m : ∀ G G' v, Same G G' → R G v → R G' v) (hr : EvAd X W es σ G t Rs) (hs : Pl X e es := by rfl) : EvAd X W (e :: es) σ G t (fun G vs l => ∃ v r, vs = v :: r ∧ R G v ∧ Rs G r l) :=
  fun G1 H Q s k q => useA (pa_cons (pE e) (pA es) hs) <| h G1 H _ s k fun x G2 H2 s2 k2 r => hr G2 H2 _ (s.trans s2) k2 fun xs l ys G3 H3 s3 k3 ht rr => q _ l ys G3 H3 (s2.trans s3) k3 ht ⟨x, xs, rfl, m _ _ _ s3 r, rr⟩
theorem ev_callAd {j l : Nat} {t : Tbl} {pre : Wd → Hp → List V → Rl → Prop} {Rs : Hp → List V → Addr → Prop} (c : C8.Cal X.prog X.w X.K X.mg X.base l x (SpGW pre) []) (hr : Room j X.A) (hk : l ≤ j) (ha : EvAd X W (e :: es) σ G t Rs) (hd : ∀ G' vs l xs, Same G G' → Rs G' vs l → Tb X.K G' t xs → pre (W.sep (.dict X l xs)) G' vs R) (hg : Gl X x := by rfl)
    (hdb : (x == ("__debug__" : Str)) = false := by decide) (he : starEach (e :: es) X.env = (false, eval e X.env) :: starEach es X.env := by rfl) (hpl : (backTo pos (starEach es X.env)).any (·.1) = false := by rfl) :
    Ev X W (.Call (.Name x p) (e :: es) [] pos) σ G R := fun G1 H Q s k1 q => useE (C8.pe_c c hr hk hg (pA _) hdb he hpl) <|
  ha G1 H _ s k1 fun vs l xs G2 H2 s2 k2 ht r => ⟨W.sep (.dict X l xs), G2, R, k2, by rw [List.append_nil]; exact hd G2 vs l xs (s.trans s2) r ht, fun v G3 H3 s3 k3 r3 => q v G3 H3 (s2.trans s3) k3.left r3⟩
/-- a, b, .. = e, a tuple not wholly known -/
theorem ws_tupS {ts : List Expr} {kt : Nat} {pt : Pos} {P : PyData → Prop} (he : Ev X W e σ G (Sm X.K P)) (s : Same G G1) (k1 : W.ok G1 H) (q : ∀ d G' H', Same G1 G' → W.ok G' H' → P d → ∃ ds, d = .tuple ds ∧ ds.length = ts.length ∧ ∀ vs, DpAll X.K G' vs ds → wGs X ts vs σ H' (wSs X rest D))
    (hc : X.calm = true) (hn : (assignEach ts X.env).length = ts.length := by rfl) (hst : (assignEach ts X.env).findIdx? (·.1) = none := by rfl)
    (hs : swapsWithSole [.Tuple ts kt pt] e pos.line X.env = pure false := by rfl) (hw : swappedStores [.Tuple ts kt pt] e X.env = pure none := by rfl) (h1 : (assignEach [.Tuple ts kt pt] X.env).map (·.2) = [assign (.Tuple ts kt pt) X.env] := by rfl) :
    wSs X (.Assign [.Tuple ts kt pt] e pos :: rest) D σ H := useSs (pss_cons (ps_asg (pE e) (pG _) hs hw h1) (pSs rest)) <| he G1 H _ s k1 fun v G2 H2 s2 k2 ⟨d, hp, r⟩ => by
  obtain ⟨ds, rfl, hl, hq⟩ := q d G2 H2 s2 k2 hp
  exact wg_tup hc r k2.same hq hl hn hst
/-- x, y = a, b, any values -/
theorem ws_parR {px py pt : Pos} {kt k2 : Nat} {pt2 : Pos} {R1 R2 : Rl} (i j : Nat) (ha : Ev X W a σ G R1) (m : ∀ G G' v, Same G G' → R1 G v → R1 G' v) (hb : Ev X W b σ G R2) (s : Same G G1) (k1 : W.ok G1 H)
    (q : ∀ v1 v2 G' H', Same G1 G' → W.ok G' H' → R1 G' v1 → R2 G' v2 → wSs X rest D ((σ.set i (some v1)).set j (some v2)) H')
    (hc : X.calm = true) (hN : X.N.Nodup) (hi : X.N[i]? = some x := by rfl) (hj : X.N[j]? = some y := by rfl) (hij : i ≠ j := by decide) (hx : X.env.scope.names.lookup x = some .local := by rfl) (hy : X.env.scope.names.lookup y = some .local := by rfl)
    (hw : swappedStores [.Tuple [.Name x px, .Name y py] kt pt] (.Tuple [a, b] k2 pt2) X.env = pure (some [x, y]) := by rfl)
    (hs : swapsWithSole [.Tuple [.Name x px, .Name y py] kt pt] (.Tuple [a, b] k2 pt2) pos.line X.env = pure false := by rfl) (he : Pl X a [b] := by rfl) (he2 : Pl X b [] := by rfl) :
    wSs X (.Assign [.Tuple [.Name x px, .Name y py] kt pt] (.Tuple [a, b] k2 pt2) pos :: rest) D σ H :=
  useSs (pss_cons (ps_par hc hN hi hj hij hx hy (pA [a, b]) hw hs) (pSs rest)) <| (ea_any ha m (ea_any1 hb he2) he) G1 H _ s k1 fun vs G2 H2 s2 k2 r => by
    obtain ⟨v1, r, rfl, h1, v2, rfl, h2⟩ := r
    exact ⟨v1, v2, rfl, q v1 v2 G2 H2 s2 k2 h1 h2⟩
end
section
variable {P : Program} {w : World} {K : PySem.W.Frag} {mg : Str → Option Value} {base : Heap} {C R : Addr}
def preLawTwo (K : PySem.W.Frag) : Wd → Hp → List V → Rl → Prop := fun U G vs Z => ∃ b g n ans, Has U (bagW b g) ∧ vs = [.ref b, .int ((n : Nat) : Int), .int ans] ∧ 1 ≤ n ∧ n ≤ 3 ∧ Z = Sm K (fun d => ∃ W one other, 1 ≤ W ∧ W ≤ 3 ∧ Val 3 W MM n (ones W) one ∧ Val 3 W MM n (ones W) other ∧ d = .tuple [.int ((W : Nat) : Int), encN one, encN other])
/-- what the law calls -/
structure LawC (P : Program) (w : World) (K : PySem.W.Frag) (mg : Str → Option Value) (base : Heap) (C R : Addr) : Prop where
  bag : C8.Cal P w K mg base 1 "_law_bag" (SpBag K) []
  pick : C8.Cal P w K mg base 1 "_law_pick" (SpGW (prePick K)) []
  two : C8.Cal P w K mg base 22 "_law_two" (SpGW (preLawTwo K)) []
  hope : ∀ n, n ≤ 3 → C8.Cal P w K mg base 30 "_law_with_hopeless" (SpGW (preHope K n)) []
  btw : C8.Cal P w K mg base 41 "_law_between" (SpGW (preBtwL K)) []
  shaped : C8.Cal P w K mg base 30 "_law_shaped" (SpGW (preShaped P w K 3)) []
  lawled : C8.Cal P w K mg base 22 "_law_led" (SpLed P w K) []
  is : CalG P w K mg base 2 "_law_is" (SpD K 2 dmIs)
  flag : CalD P w K mg base 1 "_law_flag" 2 (fun ds d => ∃ m n : Bool, ds = [.bool m, .bool n] ∧ d = .bool (decide (m = n)))
  led : C8.Cal P w K mg base 52 "led" (SpG (preHHT K C R (outLedBy K R))) []
  isb : C8.Cal P w K mg base 52 "is_between" (SpG (preIsB K C R)) []
  isS : C8.Cal P w K mg base 32 "is_shaped" (SpG (preTwo K C R (outShaped K))) []
  init : ∀ f fd, L2.Fun K "__init__" "House.__init__" s_House_init f fd → FnOk P w K mg base CX0 31 f fd ["self", "worlds", "tree"] (spInit K C HouseOk)
def SpLaw (K : PySem.W.Frag) : Sp := fun vs H Q _ => ∃ (a : Addr) (ns : List Int), vs = [.ref a] ∧ SqL K H a (ns.map V.int) ∧ ns.length ≤ 63 ∧ ∀ H', Q (.bl true) H'
/-- the three numbers of a pick -/
theorem ev_one3 {X : Cx} {W : Wd} {σ : L2.St} {G : Hp} {b : Expr} {p pos p2 : Pos} {j : Nat} {bg g : Addr} {e3 a : Expr} (c : C8.Cal X.prog X.w X.K X.mg X.base 1 "_law_pick" (SpGW (prePick X.K)) []) (hr : Room j X.A) (hk : 1 ≤ j) (hw : Has W (bagW bg g)) (ha : Ev X W b σ G (Rf (.ref bg))) (h3 : Ev X W e3 σ G (Is X.K (.int 3)))
    (h1 : Ev X W a σ G (Is X.K (.int 1))) (hg : Gl X "_law_pick" := by rfl) (he : Pl X b [e3] := by rfl) (he2 : Pl X e3 [] := by rfl) (hpl : (backTo pos (starEach [e3] X.env)).any (·.1) = false := by rfl) :
    Ev X W (.BinOp a .Add (.Call (.Name "_law_pick" p) [b, e3] [] pos) p2) σ G (Sm X.K fun d => ∃ r : Nat, (1 ≤ r ∧ r ≤ 3) ∧ d = .int r) :=
  Ev.sms (ev_addS (P := fun d => ∃ r' : Nat, r' < 3 ∧ d = .int r') h1 (Ev.sms (ev_pick (n := 3) c hr hk hw ha h3 (by decide) (by decide) hg he he2 hpl) fun d ⟨r, h, e⟩ => ⟨r, ⟨r, h, rfl⟩, e⟩)) fun d ⟨r, ⟨r', h, e⟩, e2⟩ => (by
      cases e
      exact ⟨1 + r', ⟨by omega, by omega⟩, by rw [e2, Int.natCast_add]; rfl⟩)
end
end K12
/-! E8: the law itself. -/
namespace K12
open PySem PySem.Spec PyProof.Rows L2
section
variable {P : Program} {w : World} {K : PySem.W.Frag} {mg : Str → Option Value} {base : Heap} {C R : Addr}
theorem et_eqH {X : Cx} {W : Wd} {σ : L2.St} {G : Hp} {a b : Expr} {pos : Pos} {B B' : Addr} {n j : Nat} {nd nd' : Nd} (hc : HC X.K X.mg C R) {f : Addr} {fd : FuncData} (F : FnOk X.prog X.w X.K X.mg X.base CX0 2 f fd ["self", "other"] (SpG (preTwo X.K C R (outEq X.K))))
    (hf : ∀ B, B = C ∨ B = R → PySem.W.findIn X.K (.ref B) "__eq__" = some (some (.ref f))) (hi : PySem.W.isFn X.K (.ref f) = true) (hb : Binds X.K fd ["self", "other"] []) (hr : Room j X.A) (hk : 2 ≤ j)
    (hB : B = C ∨ B = R) (hB' : B' = C ∨ B' = R) (ha : Ev X W a σ G (HouB X.K B n nd)) (hb2 : Ev X W b σ G (HouB X.K B' n nd')) (z1 : SeqAt.shaped (encN nd) = true) (z2 : SeqAt.shaped (encN nd') = true) (hs : PyData.eqv (encN nd) (encN nd') = PyData.eqv (encN nd') (encN nd)) :
    EvT X W (.Compare a [.Eq] [b] pos) σ G (PyData.eqv (encN nd) (encN nd')) := fun G0 H0 Q s0 k0 q =>
  useT (pt_cmpR (op_ownEq F hi hb (hr.mono hk)) (pE a) (pE b) (nomark b)) <| ha G0 H0 _ s0 k0 fun x G1 H1 s1 k1 r1 => hb2 G1 H1 _ (s0.trans s1) k1 fun y G2 H s2 k h2 => by
    have h1 := houB_mono _ _ _ s2 r1
    have fin : ∀ v G' H', Same G2 G' → W.ok G' H' → Is X.K (.bool (PyData.eqv (encN nd) (encN nd'))) G' v → ∃ r, v = .bl r ∧ ∃ k, V.bl r = .bl k ∧ Q k H' := fun v G' H' s' k' r => ⟨_, Dp.bl_eq r, _, rfl, q G' H' ((s1.trans s2).trans s') k'⟩
    have g1 : Hou X.K C R n nd G2 x := ⟨B, hB, h1⟩
    have g2 : Hou X.K C R n nd' G2 y := ⟨B', hB', h2⟩
    obtain ⟨a1, dx, vt, rfl, e1, d1⟩ := id h1
    obtain ⟨b1, dy, vt', rfl, e2, d2⟩ := id h2
    have fin2 : ∀ v G' H', Same G2 G' → W.ok G' H' → Is X.K (.bool (PyData.eqv (encN nd) (encN nd'))) G' v → ∃ r, v = .bl r ∧ (∃ k, v = .bl k ∧ Q k H') := fun v G' H' s' k' r => by
      obtain ⟨r0, e, q0⟩ := fin v G' H' s' k' r
      subst e
      exact ⟨r0, rfl, q0⟩
    refine ⟨a1, b1, B, B', dx, dy, _, _, rfl, rfl, k.same _ _ e1, k.same _ _ e2, ?_⟩
    rcases hB with rfl | rfl
    · rcases hB' with rfl | rfl
      · exact .inl ⟨by simp [PySem.W.notFirst], hf _ (by first | exact .inl rfl | exact .inr rfl), W, G2, _, k, ⟨_, _, n, nd, nd', rfl, g1, g2, z1, z2, rfl⟩, fun v G' H' s' k' r => by
          obtain ⟨r0, e, q0⟩ := fin2 v G' H' s' k' r
          subst e
          exact ⟨_, rfl, q0⟩⟩
      · refine .inr ⟨hc.sub, hc.ne, hf _ (.inr rfl), W, G2, _, k, ⟨_, _, n, nd', nd, rfl, g2, g1, z2, z1, rfl⟩, fun v G' H' s' k' r => ?_⟩
        rw [← hs] at r
        obtain ⟨r0, e, q0⟩ := fin2 v G' H' s' k' r
        subst e
        exact ⟨_, rfl, q0⟩
    · rcases hB' with rfl | rfl
      · exact .inl ⟨hc.nf, hf _ (.inr rfl), W, G2, _, k, ⟨_, _, n, nd, nd', rfl, g1, g2, z1, z2, rfl⟩, fun v G' H' s' k' r => by
          obtain ⟨r0, e, q0⟩ := fin2 v G' H' s' k' r
          subst e
          exact ⟨_, rfl, q0⟩⟩
      · exact .inl ⟨by simp [PySem.W.notFirst], hf _ (by first | exact .inl rfl | exact .inr rfl), W, G2, _, k, ⟨_, _, n, nd, nd', rfl, g1, g2, z1, z2, rfl⟩, fun v G' H' s' k' r => by
          obtain ⟨r0, e, q0⟩ := fin2 v G' H' s' k' r
          subst e
          exact ⟨_, rfl, q0⟩⟩
theorem hope_le {n : Nat} (h : n ≤ 3) : hopeB n ≤ 1500 := by
  have : n = 0 ∨ n = 1 ∨ n = 2 ∨ n = 3 := by omega
  rcases this with rfl | rfl | rfl | rfl <;> decide
theorem f_law {f : Addr} {fd : FuncData} (F : L2.Fun K "law" "law" s_law f fd) (hc : HC K mg C R) (T : Txt K mg) (L : LawC P w K mg base C R) : FnG P w K mg base 53 f fd ["_law_script"] (SpLaw K) := by
  refine fnG_of F sc_law (fun vs H Q E ⟨_, _, h, _⟩ => by rw [h]; rfl) fun cdv A outer s H vs Q E hgu hr ⟨a, ns, e, hS, hlen, q⟩ => ?_
  subst e
  obtain ⟨fi, fdi, M, Fi, bi⟩ := hc.init
  obtain ⟨fe, fde, hfe, hie, Fe, be⟩ := hc.eq
  have hscr : Dp K H (.ref a) (.list (ns.map .int)) := .lst hS (dpInts _)
  refine ws_set 1 (useE (C8.pe_c L.bag hr (by decide) rfl (pA _)) <| (ea1 (ev_nm 0 rfl hscr)) H H _ (Same.refl _) Wd.ok.emp fun vs G1 H1 s1 k1 r => ?_) sc_law.nd
  obtain ⟨v, rfl, hv⟩ := dpAll_one r
  refine ⟨Wd.emp, G1, v, ns, k1, by rw [List.append_nil], hv, hlen, fun b g G2 H2 s2 k2 => ?_⟩
  have hb : Has (Wd.emp.sep (bagW b g)) (bagW b g) := Has.self _ _
  refine ws_for (fun i σ W' G' => ∃ x2 x3 x4 x5 x6 x7 x8 x9 x10, W' = Wd.emp.sep (bagW b g) ∧ σ = [some (.ref a), some (.ref b), x2, x3, x4, x5, x6, x7, x8, x9, x10])
    (ei_range (n := 3) T.range ev_int (by decide)) (Same.refl _) k2 (fun G' s' => ⟨none, none, none, none, none, none, none, none, none, rfl, rfl⟩)
    (fun Gb sb i d σ1 W1 G3 G4 H4 v hi s3 ⟨x2, x3, x4, x5, x6, x7, x8, x9, x10, eW, es⟩ s4 k4 hv4 => ?_) (fun σ1 W1 G3 H3 s3 k3 ⟨x2, x3, x4, x5, x6, x7, x8, x9, x10, eW, es⟩ => ?_) PassesOwn.never rfl
  · subst eW es
    have ed : d = .int (i : Int) := by
      have hi' : i < 3 := by
        have := (List.getElem?_eq_some_iff.mp hi).1
        unfold ints0 at this
        rw [List.length_map, List.length_range] at this
        exact this
      unfold ints0 at hi
      rw [List.getElem?_map, List.getElem?_range hi'] at hi
      cases hi
      rfl
    subst ed
    refine wg_nm 2 ?_ sc_law.nd
    -- worlds, one, other
    refine ws_tupS (P := fun d => ∃ (W : Nat) (one other : Nd), 1 ≤ W ∧ W ≤ 3 ∧ (∃ n, n ≤ 3 ∧ Val 3 W MM n (ones W) one) ∧ Val 3 W MM 3 (ones W) other ∧ d = .tuple [.int ((W : Nat) : Int), encN one, encN other])
      (ev_callWR L.two hr (by decide) (ea_any (ev_rf (v := .ref b) 1 rfl) rf_mono (ea_any (ev_one3 L.pick hr (by decide) hb (ev_rf (v := .ref b) 1 rfl) ev_int ev_int) (fun _ _ _ s ⟨d, p, h⟩ => ⟨d, p, h.sm s⟩) (ea_any1 ev_int)))
        fun G' vs s ⟨u1, r1, e1, z1, u2, r2, e2, ⟨d2, ⟨n, hn, ed⟩, z2⟩, ⟨u3, e3, z3⟩⟩ => ⟨_, ⟨b, g, n, 8, hb, by subst ed; rw [e1, e2, e3, show u1 = _ from z1, Dp.int_eq z2, Dp.int_eq z3], hn.1, hn.2, rfl⟩, fun G v ⟨d, ⟨W, one, other, h1, h2, h3, h4, h5⟩, hd⟩ => ⟨d, ⟨W, one, other, h1, h2, ⟨n, hn.2, h3⟩, Val.up1 (Nat.le_refl _) hn.2 h4, h5⟩, hd⟩⟩)
      (Same.refl _) k4 (fun d G5 H5 s5 k5 ⟨W, one0, other, hW1, hW3, ⟨n0, hn0, hone0⟩, hother, ed⟩ => ⟨_, ed, rfl, fun vs hvs => ?_⟩) rfl
    obtain ⟨v1, v2, v3, rfl, d1, d2, d3⟩ := dpAll_three hvs
    rw [d1.int_eq]
    refine wgs_cons (wg_nm 7 (wgs_cons (wg_nm 3 (wgs_cons (wg_nm 8 (wgs_nil ?_) sc_law.nd)) sc_law.nd)) sc_law.nd)
    -- one, with answers without hope
    refine ws_setE 3 (R := Sm K fun d => ∃ one, (Val 4 W MM 4 (ones W) one ∧ cnt one ≤ 1500) ∧ d = encN one) (ev_if (et_cmp (ev_nm 2 rfl (hv4.sm s5)) ev_int)
      (fun _ => Ev.sms (ev_callW (L.hope n0 hn0) hr (by decide) (ea_any (ev_rf (v := .ref b) 1 rfl) rf_mono (ea_any (ev_nm 7 rfl (.int (W : Int))) is_mono (ea_any1 (ev_nm 3 rfl d2)))) fun G' vs s ⟨u1, r1, e1, z1, u2, r2, e2, z2, ⟨u3, e3, z3⟩⟩ => ⟨b, g, W, ones W, one0, u3, hb, by rw [e1, e2, e3, show u1 = _ from z1, Dp.int_eq z2], z3, hW1, by omega, hone0, rfl⟩)
        fun d ⟨nd, ⟨h1, h2⟩, e⟩ => ⟨nd, ⟨Val.up1 (Nat.le_refl _) (by omega) h1, Nat.le_trans h2 (hope_le hn0)⟩, e⟩)
      (fun _ => Ev.sm (ev_nm 3 rfl d2) ⟨one0, ⟨Val.up1 (by decide) (by omega) hone0, by
        have h1 : cnt one0 ≤ 258 := cnt_le (Val.up1 (Nat.le_refl _) hn0 hone0).shp
        omega⟩, rfl⟩)) (Same.refl _) k5 (fun vone G6 H6 s6 k6 ⟨d, ⟨one, ⟨hone, hcone⟩, ed⟩, done⟩ => ?_) sc_law.nd
    subst ed
    have hok1 : HouseOk W one := ⟨hW1, by omega, 4, MM, 4, bot_mm, by decide, by decide, hone, hcone⟩
    have hok2 : HouseOk W other := ⟨hW1, by omega, 3, MM, 3, bot_mm, by decide, by decide, hother, by
      have : cnt other ≤ 258 := cnt_le hother.shp
      omega⟩
    have d3' := d3.sm s6
    -- house, second
    refine ws_parR 9 10 (ev_make M (L.init fi fdi Fi) bi hc.mgC hr (by decide) (ev_nm 7 rfl (.int (W : Int))) (ev_nm 3 rfl done) hok1) houB_mono (ev_make M (L.init fi fdi Fi) bi hc.mgC hr (by decide) (ev_nm 7 rfl (.int (W : Int))) (ev_nm 8 rfl d3') hok2) (Same.refl _) k6 (fun vh vs G7 H7 s7 k7 hh hs => ?_) rfl sc_law.nd
    -- between
    refine ws_setE 4 (R := Sm K fun d => ∃ bt : Btw, ((∃ n, 1 ≤ n ∧ n ≤ 3 ∧ ShareOk n 1 (bt.map (·.1))) ∧ ∀ p ∈ bt, WaitOk 12 one other p.2) ∧ d = encB bt)
      (ev_callWR L.btw hr (by decide) (ea_any (ev_rf (v := .ref b) 1 rfl) rf_mono (ea_any (ev_nm 3 rfl (done.sm s7)) is_mono (ea_any (ev_nm 8 rfl (d3'.sm s7)) is_mono (ea_any1 (ev_one3 L.pick hr (by decide) hb (ev_rf (v := .ref b) 1 rfl) ev_int ev_int)))))
        fun G' vs s ⟨u1, r1, e1, z1, u2, r2, e2, z2, u3, r3, e3, z3, ⟨u4, e4, ⟨d4, ⟨n, hn, ed⟩, z4⟩⟩⟩ => ⟨_, ⟨b, g, 4, 3, one, other, n, u2, u3, hb, by subst ed; rw [e1, e2, e3, e4, show u1 = _ from z1, Dp.int_eq z4], z2, z3, hone.shp.up (by decide) (by decide), hother.shp.up (by decide) (by decide), by decide, hn.1, hn.2, rfl⟩, fun G v ⟨d, ⟨bt, h1, h2, h3⟩, hd⟩ => ⟨d, ⟨bt, ⟨⟨n, hn.1, hn.2, h1⟩, h2⟩, h3⟩, hd⟩⟩)
      (Same.refl _) k7 (fun vb G8 H8 s8 k8 ⟨d, ⟨bt, ⟨hplans, hwaits⟩, ed⟩, db⟩ => ?_) sc_law.nd
    subst ed
    have U : Turn1 W one other bt := ⟨hW1, hW3, hone, hcone, hother, hplans, hwaits⟩
    have s78 := s7.trans s8
    have done8 := done.sm s78
    have d38 := d3'.sm s78
    have hh8 := houB_mono _ _ _ s8 hh
    have hs8 := houB_mono _ _ _ s8 hs
    -- due
    refine ws_setE 5 (R := Is K (encN (ledBy W one other bt))) (ev_callAd (t := ledT W one bt) L.shaped hr (by decide) (ead_cons (ev_nm 8 rfl d38) is_mono (ead_cons (ev_tup ea_nil) is_mono (ead_cons (ev_nm 7 rfl (.int (W : Int))) is_mono (ead_dict ?dict))))
      fun G' vs l xs s ⟨u1, r1, e1, z1, u2, r2, e2, z2, u3, r3, e3, z3, e4⟩ ht => ⟨l, xs, ledT W one bt, W, bt.length * 100000, bt.length * 10000000000, other, [], u1, u2, Has.self _ _, by rw [e1, e2, e3, e4, Dp.int_eq z3], z1, z2, ht, by
        have := led_tok hone.wts bt (fun p hp => ⟨(U.share hp).1, U.emits_ hp⟩) bt.length (Nat.le_refl _)
        rw [List.take_length] at this
        exact this, hother.shp.up (by decide) (by decide), hW1, by omega, by decide, by rw [shaped_led hone.wts]⟩) (Same.refl _) k8 (fun vd G9 H9 s9 k9 ddue => ?_) sc_law.nd
    case dict =>
      exact fun G9 H9 Q9 s9 k9 q9 =>
        useE (C8.pe_c L.lawled hr (by decide) rfl (pA _)) <| (ea_any (ev_nm 7 rfl (.int (W : Int))) is_mono (ea_any (ev_nm 3 rfl done8) is_mono (ea_any1 (ev_nm 4 rfl db)))) G9 H9 _ s9 k9 fun vs G10 H10 s10 k10 ⟨y1, r1, f1, g1, y2, r2, f2, g2, y3, f3, g3⟩ =>
          ⟨_, G10, W, one, other, bt, y2, y3, by rw [f1, f2, f3, Dp.int_eq g1]; rfl, k10, g2, g3, hone.wts, ⟨4, U.sone⟩, U.blen.2, fun p hp => ⟨(U.share hp).1, hwaits p hp, U.emits_ hp⟩, hW1, by omega, fun l2 xs2 G11 H11 s11 k11 tb11 => q9 l2 xs2 G11 H11 (s10.trans s11) k11 tb11⟩
    have hh9 := houB_mono _ _ _ s9 hh8
    have hs9 := houB_mono _ _ _ s9 hs8
    have db9 := db.sm s9
    have d39 := d38.sm s9
    -- led
    refine ws_setE 6 (R := HouB K R W (ledBy W one other bt)) (ev_callG L.led hr (by decide) (hou_three (ev_R 9 rfl fun G' s => (⟨C, .inl rfl, houB_mono _ _ _ s hh9⟩ : Hou K C R W one G' _)) hou_mono (ev_R 10 rfl fun G' s => (⟨C, .inl rfl, houB_mono _ _ _ s hs9⟩ : Hou K C R W other G' _)) hou_mono (ev_nm 4 rfl db9)) fun G' vs s ⟨y1, y2, y3, e, r1, r2, r3⟩ => ⟨y1, y2, y3, W, one, other, _, e, r1, r2, r3, bt, U.led1, rfl, rfl⟩) (Same.refl _) k9 (fun vt G10 H10 s10 k10 ht => ?_) sc_law.nd
    have ex : ∀ (σ : L2.St), True := fun _ => trivial
    have ddue10 := ddue.sm s10
    have gt : ∀ G', Same G10 G' → Hou K C R W (ledBy W one other bt) G' vt := fun G' s => ⟨R, .inr rfl, houB_mono _ _ _ s ht⟩
    refine ws_ifF (et_of (ew_orF (et_nT (ev_isHouse T.isi hc (ev_R 6 rfl gt))) (ew_or1 (et_nT (ev_callGd (d := .bool true) L.is hgu hr (by decide) (ea_cons (ev_tup (ea_cons (ev_worlds hc (ev_R 6 rfl gt)) (ea1 (ev_tree hc (ev_R 6 rfl gt))))) (ea1 (ev_tup (ea_cons (ev_nm 7 rfl (.int (W : Int))) (ea1 (ev_nm 5 rfl ddue10)))))) ⟨_, U.show2, rfl, rfl⟩))))) (Same.refl _) k10 fun G11 H11 s11 k11 => ?_
    have gt11 : ∀ G', Same G11 G' → HouB K R W (ledBy W one other bt) G' vt := fun G' s => houB_mono _ _ _ (s11.trans s) ht
    have gh11 : ∀ G', Same G11 G' → HouB K C W one G' vh := fun G' s => houB_mono _ _ _ ((s10.trans s11).trans s) hh9
    have gs11 : ∀ G', Same G11 G' → HouB K C W other G' vs := fun G' s => houB_mono _ _ _ ((s10.trans s11).trans s) hs9
    have db11 := db9.sm (s10.trans s11)
    refine ws_ifF (et_of (ew_orF (EvT.eq (et_notB (ev_callG L.isS hr (by decide) (hou_two K (ev_R 6 rfl fun G' s => (⟨R, .inr rfl, gt11 G' s⟩ : Hou K C R W _ G' _)) hou_mono (ev_R 10 rfl fun G' s => (⟨C, .inl rfl, gs11 G' s⟩ : Hou K C R W _ G' _))) fun G' vs s ⟨x, y, e, r1, r2⟩ => ⟨x, y, W, _, _, e, r1, r2, ⟨3, 3, by decide, by decide, U.vdue.shp⟩, ⟨3, 3, by decide, by decide, hother.shp⟩, by rw [U.shp_eq_]; exact U.shshp.1, U.shshp.1, rfl⟩) ev_bl) (by rw [U.shp_eq_, U.shshp.2]; rfl))
      (ew_or1 (EvT.eq (et_notB (ev_callG L.isb hr (by decide) (hou_three (ev_R 9 rfl fun G' s => (⟨C, .inl rfl, gh11 G' s⟩ : Hou K C R W _ G' _)) hou_mono (ev_R 6 rfl gt11) houB_mono (ev_nm 4 rfl db11)) fun G' vs s ⟨y1, y2, y3, e, r1, r2, r3⟩ => ⟨y1, y2, y3, W, one, _, bt, R, e, r1, .inr rfl, r2, r3, U.led2, by rw [U.due_due]; exact U.shdue, U.shdue, by rw [U.due_due], rfl⟩) ev_bl) (by rw [U.due_due, U.eqv_due]; rfl))))) (Same.refl _) k11 fun G12 H12 s12 k12 => ?_
    refine ws_ifF (et_nT (Ev.eq (ev_call L.flag hr (by decide) (ea_cons (ev_callG L.isb hr (by decide) (hou_three (ev_R 9 rfl fun G' s => (⟨C, .inl rfl, gh11 G' (s12.trans s)⟩ : Hou K C R W _ G' _)) hou_mono (ev_R 10 rfl fun G' s => gs11 G' (s12.trans s)) houB_mono (ev_nm 4 rfl (db11.sm s12))) fun G' vs s ⟨y1, y2, y3, e, r1, r2, r3⟩ => ⟨y1, y2, y3, W, one, _, bt, C, e, r1, .inl rfl, r2, r3, U.led1, U.shdue, U.shother, PySem.W.eqv_comm _ _, rfl⟩)
      (ea1 (ev_eqD hr.units (ev_nm 5 rfl (ddue10.sm (s11.trans s12))) (ev_nm 8 rfl (d39.sm ((s10.trans s11).trans s12))) U.shdue U.shother))) ⟨_, _, rfl, rfl⟩) (by simp))) (Same.refl _) k12 fun G13 H13 s13 k13 => ?_
    have sx := s12.trans s13
    have ddue13 := ddue10.sm ((s11.trans s12).trans s13)
    have ls := U.show1
    rw [encN_eq] at ls
    have hdim : dmIs [encN (ledBy W one (ledBy W one other bt) bt), encN (ledBy W one other bt)] (.bool true) := ⟨_, ls, by rw [U.due_due, encN_eq], rfl⟩
    refine ws_ifF (et_of (ew_orF (EvT.eq (et_not (et_eqH hc (f_eq hc T Fe) hfe hie be hr (by decide) (.inl rfl) (.inr rfl) (ev_make M (L.init fi fdi Fi) bi hc.mgC hr (by decide) (ev_nm 7 rfl (.int (W : Int))) (ev_nm 5 rfl ddue13) U.hdue) (ev_R 6 rfl fun G' s => gt11 G' (sx.trans s)) U.shdue U.shdue rfl)) (by rw [U.eqv_due]; rfl))
      (ew_or1 (et_nT (ev_callGd (d := .bool true) L.is hgu hr (by decide) (ea_cons (ev_tree hc (Ev.imp (R := HouB K R W (ledBy W one (ledBy W one other bt) bt)) (R' := Hou K C R W (ledBy W one (ledBy W one other bt) bt)) (ev_callG L.led hr (by decide) (hou_three (ev_R 9 rfl fun G' s => (⟨C, .inl rfl, gh11 G' (sx.trans s)⟩ : Hou K C R W one G' _)) hou_mono (ev_R 6 rfl fun G' s => (⟨R, .inr rfl, gt11 G' (sx.trans s)⟩ : Hou K C R W _ G' _)) hou_mono (ev_nm 4 rfl (db11.sm sx))) fun G' vs s ⟨y1, y2, y3, e, r1, r2, r3⟩ => ⟨y1, y2, y3, W, one, _, _, e, r1, r2, r3, bt, U.led2, rfl, rfl⟩) fun _ _ h => ⟨R, .inr rfl, h⟩)) (ea1 (ev_nm 5 rfl ddue13))) hdim))))) (Same.refl _) k13 fun G14 H14 s14 k14 => ?_
    refine ws_nil ⟨_, G14, ?_, k14, _, _, _, _, _, _, _, _, _, rfl, rfl⟩
    exact s3.trans (s4.trans (s5.trans (s6.trans (s7.trans (s8.trans (s9.trans (s10.trans (s11.trans (s12.trans (s13.trans s14))))))))))
  · subst eW es
    exact ws_retE ev_bl (Same.refl _) k3 fun v G' H' s' k' r => by
      rw [Dp.bl_eq r]
      exact q H'
end
end K12
/-! E9: the head of the law, its promise given where nothing is being shown. One heap of what is known: the script, unless the module holds it. -/
namespace K12
open PySem PySem.Spec PyProof.Rows L2
/-- what is known at the law's start -/
def oneH (K : PySem.W.Frag) (a : Addr) (ob : Obj) (xs : List V) : Hp := fun b => if b = a ∧ K.lookup a = none then some (HO.frz ob (.lst xs)) else none
section
variable {K : PySem.W.Frag} {a b : Addr} {ob : Obj} {xs : List V}
theorem oneH_some {u : HO} (e : oneH K a ob xs b = some u) : b = a ∧ K.lookup a = none ∧ u = .frz ob (.lst xs) := by
  unfold oneH at e
  by_cases c : b = a ∧ K.lookup a = none
  · rw [if_pos c] at e
    exact ⟨c.1, c.2, (Option.some.inj e).symm⟩
  · rw [if_neg c] at e
    cases e
theorem oneH_none (c : ¬ (b = a ∧ K.lookup a = none)) : oneH K a ob xs b = none := if_neg c
theorem oneH_at (c : K.lookup a = none) : oneH K a ob xs a = some (.frz ob (.lst xs)) := if_pos ⟨rfl, c⟩
end
section
variable {P : Program} {w : World} {K : PySem.W.Frag} {mg mb : Str → Option Value} {a : Addr} {st : Shared} {us : List Value} {ns : List Int}
abbrev scrO (us : List Value) : Obj := { cls := .type "list", data := .seq us.toArray }
/-- the law's frame: all that is there but the script -/
theorem env_start (X : K.In st.heap) (N : st.heap.Ns mainGlobals mg) (B : st.heap.Ns builtinsNs mb) (hB : ∀ x : Str, x ≠ "__name__" → mb x = bootBuiltins x) (L : st.heap.NoLimit) (gens : st.gens = #[]) (ha : st.heap.get? a = some (scrO us)) (hi : IntsAre us ns) (hl : ns.length ≤ sizeLine) :
    ∃ H : Hp, Env0 P w K mg (hidT st.heap H) callerA [] st H ∧ SqL K H a (ns.map V.int) ∧ (∀ b u, H b = some u → u = .frz (scrO us) (.lst (ns.map V.int)) ∧ b = a) := by
  refine ⟨oneH K a (scrO us) (ns.map V.int), ?env, ?sq, fun b u e => ⟨(oneH_some e).2.2, (oneH_some e).1⟩⟩
  case sq =>
    cases c : K.lookup a with
    | none => exact .inl (.inr ⟨_, oneH_at c⟩)
    | some o =>
      have same : o = scrO us := Option.some.inj ((X a o c).symm.trans ha)
      subst same
      exact .inr ⟨_, us.toArray, _, c, rfl, rfl, rfl, by rw [List.size_toArray, hi.length]; exact hl, by simpa using vals_ints hi⟩
  case env =>
    have seen : ∀ {b : Addr} {o : Obj}, st.heap.get? b = some o → b ≠ a → (hidT st.heap (oneH K a (scrO us) (ns.map V.int))).get? b = some o := fun e z => hidT_get e (oneH_none fun c => z c.1)
    have space : ∀ {b : Addr} {m : Str → Option Value}, st.heap.Ns b m → (hidT st.heap (oneH K a (scrO us) (ns.map V.int))).Ns b m := by
      rintro b m ⟨o, es, ep, e, d, r⟩
      refine ⟨o, es, ep, seen e fun z => ?_, d, r⟩
      subst z
      have same : o = scrO us := Option.some.inj (e.symm.trans ha)
      subst same
      cases d
    refine { frames := rfl, mod := ⟨fun b o e => ?_, space N, ⟨mb, space B, hB⟩, ?_⟩, bs := fun _ _ e => of_hidT e, bsz := by rw [hidT_size]; exact Nat.le_refl _, funs := trivial, frf := fun b z => (nomatch (show b ∈ ([] : List Addr) from z)), hok := fun b u e => ?_, bare := .of_eq gens }
    · exact hidT_get (X b o e) (oneH_none fun ⟨z, c⟩ => by
        subst z
        rw [c] at e
        cases e)
    · obtain ⟨mc, h1, h2⟩ := L
      exact ⟨mc, space h1, h2⟩
    · obtain ⟨z, _, rfl⟩ := oneH_some e
      subst z
      exact ⟨ha, by rw [List.length_map]; exact hl, us, _, vals_ints hi, ha⟩
theorem law_run {k : Nat} {fa : Addr} {fd : FuncData} {x : Str} {sp : Sp} (X : K.In st.heap) (N : st.heap.Ns mainGlobals mg) (B : st.heap.Ns builtinsNs mb) (hB : ∀ x : Str, x ≠ "__name__" → mb x = bootBuiltins x) (L : st.heap.NoLimit) (gens : st.gens = #[]) (ha : st.heap.get? a = some (scrO us)) (hi : IntsAre us ns) (hl : ns.length ≤ sizeLine) (hr : Room k callerA)
    (F : ∀ base : Heap, K.In base → base.Ns mainGlobals mg → FnG P w K mg base k fa fd [x] sp) (bind : ∀ (s : Shared) (u : Value), BindsTo s fd ⟨[u], []⟩ [(x, u)]) (hsp : ∀ H : Hp, SqL K H a (ns.map V.int) → sp [.ref a] H (fun v _ => v = .bl true) E0) :
    codeAny (model P w) callerA (.call (.ref fa) ⟨[.ref a], []⟩) (fun r s' => r = .ok (.ret (.bool true)) ∧ OldK st.heap s'.heap ∧ s'.os = st.os ∧ AllBare s'.gens) st := by
  obtain ⟨H, env, sq, only⟩ := env_start (P := P) (w := w) X N B hB L gens ha hi hl
  have run := (F _ env.mod.kin env.mod.glob).run callerA [] st H ⟨[.ref a], []⟩ [.ref a] [.ref a] (fun v _ => v = .bl true) E0 rfl hr env (bind st (.ref a)) (.cons rfl .nil) (hsp H sq)
  refine codeAny_mono run fun r s' out => ?_
  rcases r with e | fl
  · exact False.elim (show False from out)
  · rcases fl with _ | _ | _ | u
    all_goals first | exact False.elim (show False from out) | skip
    all_goals
      obtain ⟨v, H', os, bare, un, hok', rv, hv⟩ := out
      cases (show v = .bl true from hv)
      cases (show u = Value.bool true from rv)
      refine ⟨rfl, OldK.of_keep fun b o e => ?_, os, bare⟩
      rcases hb : H b with _ | t
      · exact un.keep b o e hb (fun z => nomatch (show b ∈ ([] : List Addr) from z)) (by simp)
      · obtain ⟨ht, rfl⟩ := only b t hb
        rw [ht] at hb
        have old := (env.hok _ _ hb).1
        have new := (hok' _ _ (un.frzs _ _ _ hb)).1
        exact new.trans (old.symm.trans e)
end
end K12
/-! Z1: every call's promise, from the defs of the top. -/
namespace K12
open PySem PySem.Spec PyProof.Rows L2
structure Ats (K : PySem.W.Frag) (mg : Str → Option Value) : Prop where
  xis_integer : At K mg "is_integer" s_is_integer ["thing"]
  xis_within : At K mg "is_within" s_is_within ["thing", "least", "most"]
  xis_sized : At K mg "is_sized" s_is_sized ["thing", "least", "most"]
  xis_pair : At K mg "is_pair" s_is_pair ["thing"]
  xis_triple : At K mg "is_triple" s_is_triple ["thing"]
  xare_rising : At K mg "are_rising" s_are_rising ["things"]
  xdivisor : At K mg "divisor" s_divisor ["one", "other"]
  xlowest : At K mg "lowest" s_lowest ["top", "bottom"]
  xplus : At K mg "plus" s_plus ["one", "other"]
  xtimes : At K mg "times" s_times ["one", "other"]
  xtotal : At K mg "total" s_total ["fractions"]
  xis_fraction : At K mg "is_fraction" s_is_fraction ["thing"]
  xis_chance : At K mg "is_chance" s_is_chance ["thing"]
  xis_share : At K mg "is_share" s_is_share ["thing"]
  xare_shares : At K mg "are_shares" s_are_shares ["things"]
  xis_word : At K mg "is_word" s_is_word ["thing"]
  xis_answer : At K mg "is_answer" s_is_answer ["worlds", "thing"]
  xadded_weights : At K mg "added_weights" s_added_weights ["worlds", "question"]
  xwrong_in_node : At K mg "wrong_in_node" s_wrong_in_node ["worlds", "node", "ahead", "place"]
  xwrong_in_question : At K mg "wrong_in_question" s_wrong_in_question ["worlds", "question", "ahead", "place"]
  xcount_answers : At K mg "count_answers" s_count_answers ["node"]
  xmost_rounds : At K mg "most_rounds" s_most_rounds ["node"]
  xshape_of : At K mg "shape_of" s_shape_of ["node"]
  xcheck_alike : At K mg "check_alike" s_check_alike ["one", "other"]
  xare_shaped : At K mg "are_shaped" s_are_shaped ["one", "other"]
  xis_shaped : At K mg "is_shaped" s_is_shaped ["house", "other"]
  xmade : At K mg "made" s_made ["worlds", "tree"]
  xis_wait : At K mg "is_wait" s_is_wait ["node", "goal", "thing"]
  xis_move : At K mg "is_move" s_is_move ["node", "question", "thing"]
  xis_plan_of : At K mg "is_plan_of" s_is_plan_of ["house", "other", "thing"]
  xis_between_of : At K mg "is_between_of" s_is_between_of ["house", "other", "thing"]
  xcheck_between : At K mg "check_between" s_check_between ["house", "other", "thing"]
  xtells_of : At K mg "tells_of" s_tells_of ["move", "share", "node", "weights"]
  xweights_led : At K mg "weights_led" s_weights_led ["worlds", "standings"]
  xquestion_led : At K mg "question_led" s_question_led ["worlds", "question", "told"]
  xnode_led : At K mg "node_led" s_node_led ["worlds", "goal", "standings"]
  xled_by : At K mg "led_by" s_led_by ["house", "other", "between"]
  xled : At K mg "led" s_led ["house", "other", "between"]
  xis_between : At K mg "is_between" s_is_between ["house", "other", "thing"]
  x_law_common : At K mg "_law_common" s_law_common ["_law_one", "_law_other"]
  x_law_low : At K mg "_law_low" s_law_low ["_law_top", "_law_bottom"]
  x_law_plus : At K mg "_law_plus" s_law_plus ["_law_one", "_law_other"]
  x_law_times : At K mg "_law_times" s_law_times ["_law_one", "_law_other"]
  x_law_bag : At K mg "_law_bag" s_law_bag ["_law_script"]
  x_law_pick : At K mg "_law_pick" s_law_pick ["_law_bag_here", "_law_many"]
  x_law_some : At K mg "_law_some" s_law_some ["_law_bag_here", "_law_things"]
  x_law_shares : At K mg "_law_shares" s_law_shares ["_law_bag_here", "_law_many", "_law_least"]
  x_law_question : At K mg "_law_question" s_law_question ["_law_bag_here", "_law_worlds", "_law_ahead", "_law_levels", "_law_left"]
  x_law_node : At K mg "_law_node" s_law_node ["_law_bag_here", "_law_worlds", "_law_ahead", "_law_levels", "_law_left"]
  x_law_tree : At K mg "_law_tree" s_law_tree ["_law_bag_here", "_law_worlds", "_law_levels", "_law_answers"]
  x_law_wait : At K mg "_law_wait" s_law_wait ["_law_bag_here", "_law_here", "_law_goal", "_law_left"]
  x_law_move : At K mg "_law_move" s_law_move ["_law_bag_here", "_law_here", "_law_question_here", "_law_left"]
  x_law_between : At K mg "_law_between" s_law_between ["_law_bag_here", "_law_one", "_law_other", "_law_plans"]
  x_law_with_hopeless : At K mg "_law_with_hopeless" s_law_with_hopeless ["_law_bag_here", "_law_worlds", "_law_node_here"]
  x_law_two : At K mg "_law_two" s_law_two ["_law_bag_here", "_law_levels", "_law_answers"]
  x_law_flag : At K mg "_law_flag" s_law_flag ["_law_told_here", "_law_due"]
  x_law_told : At K mg "_law_told" s_law_told ["_law_move_here", "_law_worlds", "_law_here", "_law_weights", "_law_path", "_law_q", "_law_found"]
  x_law_made_by : At K mg "_law_made_by" s_law_made_by ["_law_worlds", "_law_tree_here", "_law_plan"]
  x_law_led : At K mg "_law_led" s_law_led ["_law_worlds", "_law_tree_here", "_law_between_here"]
  x_law_shaped : At K mg "_law_shaped" s_law_shaped ["_law_node_here", "_law_path", "_law_worlds", "_law_found"]
  x_law_is : At K mg "_law_is" s_law_is ["_law_found", "_law_due"]

section
variable {P : Program} {w : World} {K : PySem.W.Frag} {mg : Str → Option Value} {base : Heap} {C R : Addr}
theorem all_calls (A : Ats K mg) (T : Txt K mg) (hc : HC K mg C R) : LawC P w K mg base C R := by
  have integer := c_is_integer (P := P) (w := w) (base := base) A.xis_integer T
  have within := c_is_within A.xis_within T integer
  have sized := c_is_sized (P := P) (w := w) (base := base) A.xis_sized T
  have pair := c_is_pair (P := P) (w := w) (base := base) A.xis_pair T
  have triple := c_is_triple (P := P) (w := w) (base := base) A.xis_triple T
  have rising := c_are_rising (P := P) (w := w) (base := base) A.xare_rising T
  have divisor := c_divisor (P := P) (w := w) (base := base) A.xdivisor T
  have lowest := c_lowest A.xlowest T divisor
  have plus := c_plus A.xplus T lowest
  have times := c_times A.xtimes T lowest
  have total := c_total A.xtotal T plus
  have fraction := c_is_fraction A.xis_fraction T pair integer divisor
  have chance := c_is_chance A.xis_chance T fraction
  have share := c_is_share A.xis_share T fraction
  have shares := c_are_shares A.xare_shares T share total
  have word := c_is_word A.xis_word T sized within
  have answer := c_is_answer A.xis_answer T triple word sized chance
  have added := c_added A.xadded_weights T total
  have wrongN : ∀ n, CalD P w K mg base (2 * n + 6) "wrong_in_node" 4 (dmWrongN n) := fun n => by
    induction n with
    | zero => exact c_wrongN (n := 0) (k1 := 5) A.xwrong_in_node T (by decide) sized (fun m e => nomatch e)
    | succ n ih => exact c_wrongN (n := n + 1) (k1 := 2 * n + 7) A.xwrong_in_node T (by omega) sized (fun m e => by
        cases e
        exact c_wrongQ (n := n) (k1 := 2 * n + 6) A.xwrong_in_question T (by omega) sized answer rising added ih)
  have wrong30 : ∀ n, n ≤ 8 → CalD P w K mg base 30 "wrong_in_node" 4 (dmWrongN n) := fun n h => Cal_mono (wrongN n) (by omega)
  have count : ∀ n, CalD P w K mg base (n + 1) "count_answers" 1 (dmCount n) := fun n => by
    induction n with
    | zero => exact c_count (n := 0) (k1 := 0) A.xcount_answers T (fun m e => nomatch e)
    | succ n ih => exact c_count (n := n + 1) (k1 := n + 1) A.xcount_answers T (fun m e => by cases e; exact ih)
  have count30 : ∀ n, n ≤ 8 → CalD P w K mg base 30 "count_answers" 1 (dmCount n) := fun n h => Cal_mono (count n) (by omega)
  have rounds : ∀ n, CalD P w K mg base (n + 1) "most_rounds" 1 (dmRounds n) := fun n => by
    induction n with
    | zero => exact c_rounds (n := 0) (k1 := 0) A.xmost_rounds T (fun m e => nomatch e)
    | succ n ih => exact c_rounds (n := n + 1) (k1 := n + 1) A.xmost_rounds T (fun m e => by cases e; exact ih)
  have rounds30 : ∀ n, n ≤ 8 → CalD P w K mg base 30 "most_rounds" 1 (dmRounds n) := fun n h => Cal_mono (rounds n) (by omega)
  have shape : ∀ n, CalD P w K mg base (n + 1) "shape_of" 1 (dmShape n) := fun n => by
    induction n with
    | zero => exact c_shape (n := 0) (k1 := 0) A.xshape_of T (fun m e => nomatch e)
    | succ n ih => exact c_shape (n := n + 1) (k1 := n + 1) A.xshape_of T (fun m e => by cases e; exact ih)
  have shape30 : ∀ n, n ≤ 8 → CalD P w K mg base 30 "shape_of" 1 (dmShape n) := fun n h => Cal_mono (shape n) (by omega)
  have alike := c_alike (P := P) (w := w) (base := base) A.xcheck_alike hc
  have areS := c_are_shaped A.xare_shaped hc shape30
  have isS := c_is_shaped A.xis_shaped hc areS
  have made := c_made A.xmade hc T rounds30 count30
  have move : ∀ m, CalD P w K mg base (2 * m + 3) "is_move" 3 (dmMove m) := fun m => by
    induction m with
    | zero => exact c_move (m := 0) (k1 := 2) A.xis_move T (by decide) triple within sized (fun m e => nomatch e)
    | succ m ih => exact c_move (m := m + 1) (k1 := 2 * m + 4) A.xis_move T (by omega) triple within sized (fun m' e => by
        cases e
        exact ⟨c_wait (m := m) (k1 := 2 * m + 3) A.xis_wait T (by omega) sized ih, Cal_mono ih (by omega)⟩)
  have wait : CalD P w K mg base 40 "is_wait" 3 (dmWait 12) := Cal_mono (c_wait (m := 12) (k1 := 27) A.xis_wait T (by decide) sized (move 12)) (by decide)
  have plan := c_is_plan A.xis_plan_of hc wait
  have btw := c_is_btw A.xis_between_of hc T pair shares plan
  have cbtw := c_check_btw A.xcheck_between hc T btw
  have tells : ∀ m, C8.Cal P w K mg base (m + 1) "tells_of" (SpG (preTells K m)) [] := fun m => by
    induction m with
    | zero => exact c_tells (m := 0) (k1 := 0) A.xtells_of T (fun m e => nomatch e)
    | succ m ih => exact c_tells (m := m + 1) (k1 := m + 1) A.xtells_of T (fun m' e => by cases e; exact ih)
  have weights := c_weights A.xweights_led T total times
  have node : ∀ n, CalD P w K mg base (2 * n + 14) "node_led" 3 (dmNode n) := fun n => by
    induction n with
    | zero => exact c_node (n := 0) (k1 := 13) A.xnode_led T (by decide) (tells 12) (fun m e => nomatch e)
    | succ n ih => exact c_node (n := n + 1) (k1 := 2 * n + 15) A.xnode_led T (by omega) (tells 12) (fun m e => by
        cases e
        exact c_question (n := n) (k1 := 2 * n + 14) A.xquestion_led T (by omega) weights ih)
  have node50 : ∀ n, n ≤ 8 → CalD P w K mg base 50 "node_led" 3 (dmNode n) := fun n h => Cal_mono (node n) (by omega)
  have ledby := c_led_by A.xled_by hc T node50 made
  have led := c_led A.xled hc T alike cbtw ledby
  have isb := c_is_between A.xis_between hc T alike btw ledby
  have lcommon := c_law_common (P := P) (w := w) (base := base) A.x_law_common
  have llow := c_law_low A.x_law_low T lcommon
  have lplus := c_law_plus A.x_law_plus llow
  have ltimes := c_law_times A.x_law_times llow
  have lbag := c_law_bag (P := P) (w := w) (base := base) A.x_law_bag T
  have lpick := c_law_pick (P := P) (w := w) (base := base) A.x_law_pick T
  have lsome := c_law_some A.x_law_some T lpick
  have lshares := c_law_shares A.x_law_shares T lpick llow
  have lnode : ∀ n, C8.Cal P w K mg base (2 * n + 4) "_law_node" (SpGW (preN K n)) [] := fun n => by
    induction n with
    | zero => exact c_law_node (n := 0) (k1 := 3) A.x_law_node T (by decide) lpick (fun m e => nomatch e)
    | succ n ih => exact c_law_node (n := n + 1) (k1 := 2 * n + 5) A.x_law_node T (by omega) lpick (fun m e => by
        cases e
        exact c_law_question (n := n) (k1 := 2 * n + 4) A.x_law_question T (by omega) lpick lshares lsome ltimes ih)
  have lq20 : ∀ n, n ≤ 3 → C8.Cal P w K mg base 20 "_law_question" (SpGW (preQ K n)) [] := fun n h => Cal_mono (c_law_question (n := n) (k1 := 2 * n + 4) A.x_law_question T (by omega) lpick lshares lsome ltimes (lnode n)) (by omega)
  have ltree := c_law_tree A.x_law_tree T lpick lq20
  have lmove : ∀ m, C8.Cal P w K mg base (2 * m + 3) "_law_move" (SpGW (preMoveL K m)) [] ∧ C8.Cal P w K mg base (2 * m + 2) "_law_wait" (SpGW (preWaitL K m)) [] := fun m => by
    induction m with
    | zero =>
      have w0 := c_law_wait (m := 0) (k1 := 1) (P := P) (w := w) (base := base) A.x_law_wait T (fun m e => nomatch e)
      exact ⟨c_law_move (m := 0) (k1 := 2) A.x_law_move T (by decide) lpick w0 (fun m e => nomatch e), w0⟩
    | succ m ih =>
      have w0 := c_law_wait (m := m + 1) (k1 := 2 * m + 3) (P := P) (w := w) (base := base) A.x_law_wait T (fun m' e => by cases e; exact ih.1)
      exact ⟨c_law_move (m := m + 1) (k1 := 2 * m + 4) A.x_law_move T (by omega) lpick w0 (fun m' e => by cases e; exact Cal_mono ih.1 (by omega)), w0⟩
  have lbtw := c_law_between A.x_law_between T lshares (fun m h => Cal_mono (lmove m).2 (by omega))
  have lhope : ∀ n, C8.Cal P w K mg base (n + 21) "_law_with_hopeless" (SpGW (preHope K n)) [] := fun n => by
    induction n with
    | zero => exact c_law_hope (n := 0) (k1 := 20) A.x_law_with_hopeless T (by decide) lpick (Cal_mono (lnode 1) (by decide)) (fun m e => nomatch e)
    | succ n ih => exact c_law_hope (n := n + 1) (k1 := n + 21) A.x_law_with_hopeless T (by omega) lpick (Cal_mono (lnode 1) (by decide)) (fun m e => by cases e; exact ih)
  have ltold : ∀ m, C8.Cal P w K mg base (m + 4) "_law_told" (SpTold P w K m) [] := fun m => by
    induction m with
    | zero => exact c_law_told (m := 0) (k1 := 3) A.x_law_told T (by decide) lplus (fun m e => nomatch e)
    | succ m ih => exact c_law_told (m := m + 1) (k1 := m + 4) A.x_law_told T (by omega) lplus (fun m' e => by cases e; exact ih)
  have lmade := c_law_made_by A.x_law_made_by T (Cal_mono (ltold 12) (by decide))
  have lshaped : ∀ n, C8.Cal P w K mg base (n + 1) "_law_shaped" (SpGW (preShaped P w K n)) [] := fun n => by
    induction n with
    | zero => exact c_law_shaped (n := 0) (k1 := 0) A.x_law_shaped T (fun m e => nomatch e)
    | succ n ih => exact c_law_shaped (n := n + 1) (k1 := n + 1) A.x_law_shaped T (fun m e => by cases e; exact ih)
  exact {
    bag := lbag
    pick := lpick
    two := c_law_two A.x_law_two lpick ltree
    hope := fun n h => Cal_mono (lhope n) (by omega)
    btw := lbtw
    shaped := Cal_mono (lshaped 3) (by decide)
    lawled := c_law_led A.x_law_led T lmade lplus ltimes
    is := c_law_is A.x_law_is T
    flag := c_law_flag A.x_law_flag T
    led := led
    isb := isb
    isS := isS
    init := fun f fd F => f_init hc T within wrong30 count30 F }
end
end K12
/-! Z2: what the top has written. Printed by gen_z2.py. -/
namespace K12
open PySem PySem.Spec PyProof.Rows L2
/-- a def of the top -/
def HasDef (K : PySem.W.Frag) (x : Str) (st : Stmt) : Prop := ∃ (f : Addr) (fd : FuncData), PySem.W.nsIn K mainGlobals x = some (some (.ref f)) ∧ L2.Fun K x x st f fd
theorem hasdef_mk {K : PySem.W.Frag} {x : Str} {st : Stmt} {f : Addr} {oc : Value} {od an : Option Addr} {osl : Array (Option Value)} {kV doc pm cdv ct : Value} (a : PySem.W.nsIn K mainGlobals x = some (some (.ref f)))
    (l : K.lookup f = some ⟨oc, od, .func (PySem.W.fnOf x x (defArgs st) (defBody st) (defScope st) .none kV doc pm an cdv ct), osl⟩) (c : PySem.W.codeIn K cdv x = true) (k : PySem.W.keepIn K (.ref f) = true) : HasDef K x st := ⟨f, _, a, fun_mk l c k⟩
/-- a method of a class -/
def HasMeth (K : PySem.W.Frag) (C : Addr) (m qual : Str) (st : Stmt) (f : Addr) : Prop := ∃ (fd : FuncData), PySem.W.findIn K (.ref C) m = some (some (.ref f)) ∧ PySem.W.isFn K (.ref f) = true ∧ L2.Fun K m qual st f fd
theorem hasmeth_mk {K : PySem.W.Frag} {C : Addr} {m qual : Str} {st : Stmt} {f : Addr} {oc : Value} {od an : Option Addr} {osl : Array (Option Value)} {kV doc pm cdv ct : Value} (a : PySem.W.findIn K (.ref C) m = some (some (.ref f))) (i : PySem.W.isFn K (.ref f) = true)
    (l : K.lookup f = some ⟨oc, od, .func (PySem.W.fnOf m qual (defArgs st) (defBody st) (defScope st) .none kV doc pm an cdv ct), osl⟩) (c : PySem.W.codeIn K cdv qual = true) (k : PySem.W.keepIn K (.ref f) = true) : HasMeth K C m qual st f := ⟨_, a, i, fun_mk l c k⟩
/-- a class of the top -/
structure HasCls (K : PySem.W.Frag) (x : Str) (C : Addr) : Prop where
  ns : PySem.W.nsIn K mainGlobals x = some (some (.ref C))
  cl : Cls K C
  nw : NoAttr K C "worlds"
  nt : NoAttr K C "tree"
  mks : PySem.W.makesIn K C = true
  kp : PySem.W.keepIn K (.ref C) = true
  ha : PySem.W.findIn K (.ref C) "__class__" = some (some (.builtin "object.__class__"))
  hm : PySem.W.mroIn K C (.type "object") = some true
theorem hascls_mk {K : PySem.W.Frag} {x : Str} {C : Addr} (ns : PySem.W.nsIn K mainGlobals x = some (some (.ref C))) (pg : PySem.W.plainGet K C Str.empty = true) (hd : PySem.W.hasDictIn K C = true) (po : PySem.W.plainOver K C = true) (sa : PySem.W.findIn K (.ref C) "__setattr__" = some (some (.builtin "object.__setattr__")))
    (nw : PySem.W.findIn K (.ref C) "worlds" = some none) (nt : PySem.W.findIn K (.ref C) "tree" = some none) (mk : PySem.W.makesIn K C = true) (kp : PySem.W.keepIn K (.ref C) = true) (ha : PySem.W.findIn K (.ref C) "__class__" = some (some (.builtin "object.__class__"))) (hm : PySem.W.mroIn K C (.type "object") = some true) : HasCls K x C :=
  ⟨ns, ⟨pg, hd, po, sa⟩, nw, nt, mk, kp, ha, hm⟩
/-- a whole number of the top -/
def HasInt (K : PySem.W.Frag) (x : Str) (i : Int) : Prop := ∃ t, PySem.W.nsIn K mainGlobals x = some (some (.int i t))
theorem hasint_mk {K : PySem.W.Frag} {x : Str} {i : Int} {t} (a : PySem.W.nsIn K mainGlobals x = some (some (.int i t))) : HasInt K x i := ⟨t, a⟩
/-- a fraction of the top -/
def HasFr (K : PySem.W.Frag) (x : Str) (i j : Int) : Prop := ∃ (a : Addr) (dd : Option Addr) (n : Nat) (sl : Array (Option Value)) (t u : _), PySem.W.nsIn K mainGlobals x = some (some (.ref a)) ∧ K.lookup a = some ⟨.type "tuple", dd, .seq #[.int i t, .int j u] n, sl⟩
theorem hasfr_mk {K : PySem.W.Frag} {x : Str} {i j : Int} {a : Addr} {dd : Option Addr} {n : Nat} {sl : Array (Option Value)} {t u} (h : PySem.W.nsIn K mainGlobals x = some (some (.ref a))) (l : K.lookup a = some ⟨.type "tuple", dd, .seq #[.int i t, .int j u] n, sl⟩) : HasFr K x i j := ⟨a, dd, n, sl, t, u, h, l⟩
section
variable {K : PySem.W.Frag} {h : Heap} {mg : Str → Option Value}
theorem at_of {x : Str} {st : Stmt} {ps : List Str} (X : K.In h) (G : h.Ns mainGlobals mg) (d : HasDef K x st) (b : ∀ f fd, L2.Fun K x x st f fd → Binds K fd ps []) : At K mg x st ps := by
  obtain ⟨f, fd, a, F⟩ := d
  exact ⟨f, fd, F, PySem.W.mg_of X G a, b f fd F⟩
theorem gc_int {x : Str} {i : Int} (X : K.In h) (G : h.Ns mainGlobals mg) (d : HasInt K x i) : GC K mg x (.int i) := by
  obtain ⟨t, a⟩ := d
  exact ⟨.int i, _, PySem.W.mg_of X G a, ⟨t, rfl⟩, fun _ => .int i⟩
theorem gc_fr {x : Str} {i j : Int} (X : K.In h) (G : h.Ns mainGlobals mg) (d : HasFr K x i j) : GC K mg x (.tuple [.int i, .int j]) := by
  obtain ⟨a, dd, n, sl, t, u, e, l⟩ := d
  exact ⟨.ref a, _, PySem.W.mg_of X G e, rfl, fun _ => .tup (xs := [.int i, .int j]) (.inr ⟨_, _, n, l, rfl, rfl, by show 2 ≤ sizeLine; decide, .cons ⟨t, rfl⟩ (.cons ⟨u, rfl⟩ .nil)⟩) (.cons (.int _) (.cons (.int _) .nil))⟩
end
structure Defs (K : PySem.W.Frag) : Prop where
  xis_integer : HasDef K "is_integer" s_is_integer
  xis_within : HasDef K "is_within" s_is_within
  xis_sized : HasDef K "is_sized" s_is_sized
  xis_pair : HasDef K "is_pair" s_is_pair
  xis_triple : HasDef K "is_triple" s_is_triple
  xare_rising : HasDef K "are_rising" s_are_rising
  xdivisor : HasDef K "divisor" s_divisor
  xlowest : HasDef K "lowest" s_lowest
  xplus : HasDef K "plus" s_plus
  xtimes : HasDef K "times" s_times
  xtotal : HasDef K "total" s_total
  xis_fraction : HasDef K "is_fraction" s_is_fraction
  xis_chance : HasDef K "is_chance" s_is_chance
  xis_share : HasDef K "is_share" s_is_share
  xare_shares : HasDef K "are_shares" s_are_shares
  xis_word : HasDef K "is_word" s_is_word
  xis_answer : HasDef K "is_answer" s_is_answer
  xadded_weights : HasDef K "added_weights" s_added_weights
  xwrong_in_node : HasDef K "wrong_in_node" s_wrong_in_node
  xwrong_in_question : HasDef K "wrong_in_question" s_wrong_in_question
  xcount_answers : HasDef K "count_answers" s_count_answers
  xmost_rounds : HasDef K "most_rounds" s_most_rounds
  xshape_of : HasDef K "shape_of" s_shape_of
  xcheck_alike : HasDef K "check_alike" s_check_alike
  xare_shaped : HasDef K "are_shaped" s_are_shaped
  xis_shaped : HasDef K "is_shaped" s_is_shaped
  xmade : HasDef K "made" s_made
  xis_wait : HasDef K "is_wait" s_is_wait
  xis_move : HasDef K "is_move" s_is_move
  xis_plan_of : HasDef K "is_plan_of" s_is_plan_of
  xis_between_of : HasDef K "is_between_of" s_is_between_of
  xcheck_between : HasDef K "check_between" s_check_between
  xtells_of : HasDef K "tells_of" s_tells_of
  xweights_led : HasDef K "weights_led" s_weights_led
  xquestion_led : HasDef K "question_led" s_question_led
  xnode_led : HasDef K "node_led" s_node_led
  xled_by : HasDef K "led_by" s_led_by
  xled : HasDef K "led" s_led
  xis_between : HasDef K "is_between" s_is_between
  x_law_common : HasDef K "_law_common" s_law_common
  x_law_low : HasDef K "_law_low" s_law_low
  x_law_plus : HasDef K "_law_plus" s_law_plus
  x_law_times : HasDef K "_law_times" s_law_times
  x_law_bag : HasDef K "_law_bag" s_law_bag
  x_law_pick : HasDef K "_law_pick" s_law_pick
  x_law_some : HasDef K "_law_some" s_law_some
  x_law_shares : HasDef K "_law_shares" s_law_shares
  x_law_question : HasDef K "_law_question" s_law_question
  x_law_node : HasDef K "_law_node" s_law_node
  x_law_tree : HasDef K "_law_tree" s_law_tree
  x_law_wait : HasDef K "_law_wait" s_law_wait
  x_law_move : HasDef K "_law_move" s_law_move
  x_law_between : HasDef K "_law_between" s_law_between
  x_law_with_hopeless : HasDef K "_law_with_hopeless" s_law_with_hopeless
  x_law_two : HasDef K "_law_two" s_law_two
  x_law_flag : HasDef K "_law_flag" s_law_flag
  x_law_told : HasDef K "_law_told" s_law_told
  x_law_made_by : HasDef K "_law_made_by" s_law_made_by
  x_law_led : HasDef K "_law_led" s_law_led
  x_law_shaped : HasDef K "_law_shaped" s_law_shaped
  x_law_is : HasDef K "_law_is" s_law_is
  bisi : PySem.W.nsIn K mainGlobals "isinstance" = some none
  bzint : PySem.W.nsIn K mainGlobals "int" = some none
  bzbool : PySem.W.nsIn K mainGlobals "bool" = some none
  bzstr : PySem.W.nsIn K mainGlobals "str" = some none
  bztuple : PySem.W.nsIn K mainGlobals "tuple" = some none
  blen : PySem.W.nsIn K mainGlobals "len" = some none
  babs : PySem.W.nsIn K mainGlobals "abs" = some none
  bsum : PySem.W.nsIn K mainGlobals "sum" = some none
  bmax : PySem.W.nsIn K mainGlobals "max" = some none
  ball : PySem.W.nsIn K mainGlobals "all" = some none
  brange : PySem.W.nsIn K mainGlobals "range" = some none
  bzip : PySem.W.nsIn K mainGlobals "zip" = some none
  benum : PySem.W.nsIn K mainGlobals "enumerate" = some none
  brepr : PySem.W.nsIn K mainGlobals "repr" = some none
  cworlds : HasInt K "MOST_WORLDS" 5
  cquestions : HasInt K "MOST_QUESTIONS" 5
  canswers : HasInt K "MOST_ANSWERS" 12
  cnumbers : HasInt K "MOST_NUMBERS" 8
  cnumber : HasInt K "MOST_NUMBER" 99
  crounds : HasInt K "MOST_ROUNDS" 8
  cinall : HasInt K "MOST_IN_ALL" 1500
  cmrounds : HasInt K "MADE_ROUNDS" 12
  cminall : HasInt K "MADE_IN_ALL" 3000
  cnought : HasFr K "NOUGHT" 0 1
  cone : HasFr K "ONE" 1 1
/-- the classes -/
structure Clss (K : PySem.W.Frag) (C R fi fr fe : Addr) : Prop where
  c : HasCls K "House" C
  r : HasCls K "RawHouse" R
  i : HasMeth K C "__init__" "House.__init__" s_House_init fi
  j : HasMeth K R "__init__" "RawHouse.__init__" s_RawHouse_init fr
  e : HasMeth K C "__eq__" "House.__eq__" s_House_eq fe
  er : PySem.W.findIn K (.ref R) "__eq__" = some (some (.ref fe))
  hn : PySem.W.specialIn K (.builtin "object.__class__") "__get__" = some (some (.builtin "getset_descriptor.__get__"))
  tk : PySem.W.takesIn K (.builtin "object.__class__") = some true
  ty : PySem.W.typeIn K (.ref C) = some (.type "type")
  sub : PySem.W.subIn K (.ref R) (.ref C) = some true
  nf : PySem.W.notFirst K R (.ref C) = true
theorem kit_self (K : PySem.W.Frag) (C : Addr) : PySem.W.kitOne K (.ref C) (.ref C) = some true := by
  have e : (Value.ref C == Value.ref C) = true := beq_self_eq_true _
  unfold PySem.W.kitOne
  rw [if_pos e]
theorem kit_sub {K : PySem.W.Frag} {R C : Addr} {b : Value} {z : Bool} (hm : PySem.W.mroIn K C b = some z) (ty : PySem.W.typeIn K (.ref C) = some (.type "type")) (sub : PySem.W.subIn K (.ref R) (.ref C) = some true) : PySem.W.kitOne K (.ref R) (.ref C) = some true := by
  unfold PySem.W.kitOne
  by_cases e : (Value.ref R == Value.ref C) = true
  · rw [if_pos e]
  · rw [if_neg e]
    have i : (PySem.W.clsIn K C).isSome = true := by
      unfold PySem.W.mroIn at hm
      cases q : PySem.W.clsIn K C with
      | none =>
        rw [q] at hm
        cases hm
      | some cd => rfl
    have j : (PySem.W.typeIn K (.ref C) == some (.type "type")) = true := by
      rw [ty]
      decide
    show (if ((PySem.W.clsIn K C).isSome && PySem.W.typeIn K (.ref C) == some (.type "type")) = true then PySem.W.subIn K (.ref R) (.ref C) else none) = some true
    rw [i, j]
    exact sub
section
variable {K : PySem.W.Frag} {h : Heap} {mg : Str → Option Value}
theorem ats_of (X : K.In h) (G : h.Ns mainGlobals mg) (D : Defs K) : Ats K mg where
  xis_integer := at_of X G D.xis_integer fun _ _ F => F.binds (ps := ["thing"]) fun _ _ _ _ _ _ us hl => match us, hl with | [_], _ => rfl
  xis_within := at_of X G D.xis_within fun _ _ F => F.binds (ps := ["thing", "least", "most"]) fun _ _ _ _ _ _ us hl => match us, hl with | [_, _, _], _ => rfl
  xis_sized := at_of X G D.xis_sized fun _ _ F => F.binds (ps := ["thing", "least", "most"]) fun _ _ _ _ _ _ us hl => match us, hl with | [_, _, _], _ => rfl
  xis_pair := at_of X G D.xis_pair fun _ _ F => F.binds (ps := ["thing"]) fun _ _ _ _ _ _ us hl => match us, hl with | [_], _ => rfl
  xis_triple := at_of X G D.xis_triple fun _ _ F => F.binds (ps := ["thing"]) fun _ _ _ _ _ _ us hl => match us, hl with | [_], _ => rfl
  xare_rising := at_of X G D.xare_rising fun _ _ F => F.binds (ps := ["things"]) fun _ _ _ _ _ _ us hl => match us, hl with | [_], _ => rfl
  xdivisor := at_of X G D.xdivisor fun _ _ F => F.binds (ps := ["one", "other"]) fun _ _ _ _ _ _ us hl => match us, hl with | [_, _], _ => rfl
  xlowest := at_of X G D.xlowest fun _ _ F => F.binds (ps := ["top", "bottom"]) fun _ _ _ _ _ _ us hl => match us, hl with | [_, _], _ => rfl
  xplus := at_of X G D.xplus fun _ _ F => F.binds (ps := ["one", "other"]) fun _ _ _ _ _ _ us hl => match us, hl with | [_, _], _ => rfl
  xtimes := at_of X G D.xtimes fun _ _ F => F.binds (ps := ["one", "other"]) fun _ _ _ _ _ _ us hl => match us, hl with | [_, _], _ => rfl
  xtotal := at_of X G D.xtotal fun _ _ F => F.binds (ps := ["fractions"]) fun _ _ _ _ _ _ us hl => match us, hl with | [_], _ => rfl
  xis_fraction := at_of X G D.xis_fraction fun _ _ F => F.binds (ps := ["thing"]) fun _ _ _ _ _ _ us hl => match us, hl with | [_], _ => rfl
  xis_chance := at_of X G D.xis_chance fun _ _ F => F.binds (ps := ["thing"]) fun _ _ _ _ _ _ us hl => match us, hl with | [_], _ => rfl
  xis_share := at_of X G D.xis_share fun _ _ F => F.binds (ps := ["thing"]) fun _ _ _ _ _ _ us hl => match us, hl with | [_], _ => rfl
  xare_shares := at_of X G D.xare_shares fun _ _ F => F.binds (ps := ["things"]) fun _ _ _ _ _ _ us hl => match us, hl with | [_], _ => rfl
  xis_word := at_of X G D.xis_word fun _ _ F => F.binds (ps := ["thing"]) fun _ _ _ _ _ _ us hl => match us, hl with | [_], _ => rfl
  xis_answer := at_of X G D.xis_answer fun _ _ F => F.binds (ps := ["worlds", "thing"]) fun _ _ _ _ _ _ us hl => match us, hl with | [_, _], _ => rfl
  xadded_weights := at_of X G D.xadded_weights fun _ _ F => F.binds (ps := ["worlds", "question"]) fun _ _ _ _ _ _ us hl => match us, hl with | [_, _], _ => rfl
  xwrong_in_node := at_of X G D.xwrong_in_node fun _ _ F => F.binds (ps := ["worlds", "node", "ahead", "place"]) fun _ _ _ _ _ _ us hl => match us, hl with | [_, _, _, _], _ => rfl
  xwrong_in_question := at_of X G D.xwrong_in_question fun _ _ F => F.binds (ps := ["worlds", "question", "ahead", "place"]) fun _ _ _ _ _ _ us hl => match us, hl with | [_, _, _, _], _ => rfl
  xcount_answers := at_of X G D.xcount_answers fun _ _ F => F.binds (ps := ["node"]) fun _ _ _ _ _ _ us hl => match us, hl with | [_], _ => rfl
  xmost_rounds := at_of X G D.xmost_rounds fun _ _ F => F.binds (ps := ["node"]) fun _ _ _ _ _ _ us hl => match us, hl with | [_], _ => rfl
  xshape_of := at_of X G D.xshape_of fun _ _ F => F.binds (ps := ["node"]) fun _ _ _ _ _ _ us hl => match us, hl with | [_], _ => rfl
  xcheck_alike := at_of X G D.xcheck_alike fun _ _ F => F.binds (ps := ["one", "other"]) fun _ _ _ _ _ _ us hl => match us, hl with | [_, _], _ => rfl
  xare_shaped := at_of X G D.xare_shaped fun _ _ F => F.binds (ps := ["one", "other"]) fun _ _ _ _ _ _ us hl => match us, hl with | [_, _], _ => rfl
  xis_shaped := at_of X G D.xis_shaped fun _ _ F => F.binds (ps := ["house", "other"]) fun _ _ _ _ _ _ us hl => match us, hl with | [_, _], _ => rfl
  xmade := at_of X G D.xmade fun _ _ F => F.binds (ps := ["worlds", "tree"]) fun _ _ _ _ _ _ us hl => match us, hl with | [_, _], _ => rfl
  xis_wait := at_of X G D.xis_wait fun _ _ F => F.binds (ps := ["node", "goal", "thing"]) fun _ _ _ _ _ _ us hl => match us, hl with | [_, _, _], _ => rfl
  xis_move := at_of X G D.xis_move fun _ _ F => F.binds (ps := ["node", "question", "thing"]) fun _ _ _ _ _ _ us hl => match us, hl with | [_, _, _], _ => rfl
  xis_plan_of := at_of X G D.xis_plan_of fun _ _ F => F.binds (ps := ["house", "other", "thing"]) fun _ _ _ _ _ _ us hl => match us, hl with | [_, _, _], _ => rfl
  xis_between_of := at_of X G D.xis_between_of fun _ _ F => F.binds (ps := ["house", "other", "thing"]) fun _ _ _ _ _ _ us hl => match us, hl with | [_, _, _], _ => rfl
  xcheck_between := at_of X G D.xcheck_between fun _ _ F => F.binds (ps := ["house", "other", "thing"]) fun _ _ _ _ _ _ us hl => match us, hl with | [_, _, _], _ => rfl
  xtells_of := at_of X G D.xtells_of fun _ _ F => F.binds (ps := ["move", "share", "node", "weights"]) fun _ _ _ _ _ _ us hl => match us, hl with | [_, _, _, _], _ => rfl
  xweights_led := at_of X G D.xweights_led fun _ _ F => F.binds (ps := ["worlds", "standings"]) fun _ _ _ _ _ _ us hl => match us, hl with | [_, _], _ => rfl
  xquestion_led := at_of X G D.xquestion_led fun _ _ F => F.binds (ps := ["worlds", "question", "told"]) fun _ _ _ _ _ _ us hl => match us, hl with | [_, _, _], _ => rfl
  xnode_led := at_of X G D.xnode_led fun _ _ F => F.binds (ps := ["worlds", "goal", "standings"]) fun _ _ _ _ _ _ us hl => match us, hl with | [_, _, _], _ => rfl
  xled_by := at_of X G D.xled_by fun _ _ F => F.binds (ps := ["house", "other", "between"]) fun _ _ _ _ _ _ us hl => match us, hl with | [_, _, _], _ => rfl
  xled := at_of X G D.xled fun _ _ F => F.binds (ps := ["house", "other", "between"]) fun _ _ _ _ _ _ us hl => match us, hl with | [_, _, _], _ => rfl
  xis_between := at_of X G D.xis_between fun _ _ F => F.binds (ps := ["house", "other", "thing"]) fun _ _ _ _ _ _ us hl => match us, hl with | [_, _, _], _ => rfl
  x_law_common := at_of X G D.x_law_common fun _ _ F => F.binds (ps := ["_law_one", "_law_other"]) fun _ _ _ _ _ _ us hl => match us, hl with | [_, _], _ => rfl
  x_law_low := at_of X G D.x_law_low fun _ _ F => F.binds (ps := ["_law_top", "_law_bottom"]) fun _ _ _ _ _ _ us hl => match us, hl with | [_, _], _ => rfl
  x_law_plus := at_of X G D.x_law_plus fun _ _ F => F.binds (ps := ["_law_one", "_law_other"]) fun _ _ _ _ _ _ us hl => match us, hl with | [_, _], _ => rfl
  x_law_times := at_of X G D.x_law_times fun _ _ F => F.binds (ps := ["_law_one", "_law_other"]) fun _ _ _ _ _ _ us hl => match us, hl with | [_, _], _ => rfl
  x_law_bag := at_of X G D.x_law_bag fun _ _ F => F.binds (ps := ["_law_script"]) fun _ _ _ _ _ _ us hl => match us, hl with | [_], _ => rfl
  x_law_pick := at_of X G D.x_law_pick fun _ _ F => F.binds (ps := ["_law_bag_here", "_law_many"]) fun _ _ _ _ _ _ us hl => match us, hl with | [_, _], _ => rfl
  x_law_some := at_of X G D.x_law_some fun _ _ F => F.binds (ps := ["_law_bag_here", "_law_things"]) fun _ _ _ _ _ _ us hl => match us, hl with | [_, _], _ => rfl
  x_law_shares := at_of X G D.x_law_shares fun _ _ F => F.binds (ps := ["_law_bag_here", "_law_many", "_law_least"]) fun _ _ _ _ _ _ us hl => match us, hl with | [_, _, _], _ => rfl
  x_law_question := at_of X G D.x_law_question fun _ _ F => F.binds (ps := ["_law_bag_here", "_law_worlds", "_law_ahead", "_law_levels", "_law_left"]) fun _ _ _ _ _ _ us hl => match us, hl with | [_, _, _, _, _], _ => rfl
  x_law_node := at_of X G D.x_law_node fun _ _ F => F.binds (ps := ["_law_bag_here", "_law_worlds", "_law_ahead", "_law_levels", "_law_left"]) fun _ _ _ _ _ _ us hl => match us, hl with | [_, _, _, _, _], _ => rfl
  x_law_tree := at_of X G D.x_law_tree fun _ _ F => F.binds (ps := ["_law_bag_here", "_law_worlds", "_law_levels", "_law_answers"]) fun _ _ _ _ _ _ us hl => match us, hl with | [_, _, _, _], _ => rfl
  x_law_wait := at_of X G D.x_law_wait fun _ _ F => F.binds (ps := ["_law_bag_here", "_law_here", "_law_goal", "_law_left"]) fun _ _ _ _ _ _ us hl => match us, hl with | [_, _, _, _], _ => rfl
  x_law_move := at_of X G D.x_law_move fun _ _ F => F.binds (ps := ["_law_bag_here", "_law_here", "_law_question_here", "_law_left"]) fun _ _ _ _ _ _ us hl => match us, hl with | [_, _, _, _], _ => rfl
  x_law_between := at_of X G D.x_law_between fun _ _ F => F.binds (ps := ["_law_bag_here", "_law_one", "_law_other", "_law_plans"]) fun _ _ _ _ _ _ us hl => match us, hl with | [_, _, _, _], _ => rfl
  x_law_with_hopeless := at_of X G D.x_law_with_hopeless fun _ _ F => F.binds (ps := ["_law_bag_here", "_law_worlds", "_law_node_here"]) fun _ _ _ _ _ _ us hl => match us, hl with | [_, _, _], _ => rfl
  x_law_two := at_of X G D.x_law_two fun _ _ F => F.binds (ps := ["_law_bag_here", "_law_levels", "_law_answers"]) fun _ _ _ _ _ _ us hl => match us, hl with | [_, _, _], _ => rfl
  x_law_flag := at_of X G D.x_law_flag fun _ _ F => F.binds (ps := ["_law_told_here", "_law_due"]) fun _ _ _ _ _ _ us hl => match us, hl with | [_, _], _ => rfl
  x_law_told := at_of X G D.x_law_told fun _ _ F => F.binds (ps := ["_law_move_here", "_law_worlds", "_law_here", "_law_weights", "_law_path", "_law_q", "_law_found"]) fun _ _ _ _ _ _ us hl => match us, hl with | [_, _, _, _, _, _, _], _ => rfl
  x_law_made_by := at_of X G D.x_law_made_by fun _ _ F => F.binds (ps := ["_law_worlds", "_law_tree_here", "_law_plan"]) fun _ _ _ _ _ _ us hl => match us, hl with | [_, _, _], _ => rfl
  x_law_led := at_of X G D.x_law_led fun _ _ F => F.binds (ps := ["_law_worlds", "_law_tree_here", "_law_between_here"]) fun _ _ _ _ _ _ us hl => match us, hl with | [_, _, _], _ => rfl
  x_law_shaped := at_of X G D.x_law_shaped fun _ _ F => F.binds (ps := ["_law_node_here", "_law_path", "_law_worlds", "_law_found"]) fun _ _ _ _ _ _ us hl => match us, hl with | [_, _, _, _], _ => rfl
  x_law_is := at_of X G D.x_law_is fun _ _ F => F.binds (ps := ["_law_found", "_law_due"]) fun _ _ _ _ _ _ us hl => match us, hl with | [_, _], _ => rfl
theorem txt_of (X : K.In h) (G : h.Ns mainGlobals mg) (D : Defs K) : Txt K mg where
  isi := PySem.W.mg_none_of X G D.bisi
  zint := PySem.W.mg_none_of X G D.bzint
  zbool := PySem.W.mg_none_of X G D.bzbool
  zstr := PySem.W.mg_none_of X G D.bzstr
  ztuple := PySem.W.mg_none_of X G D.bztuple
  len := PySem.W.mg_none_of X G D.blen
  abs := PySem.W.mg_none_of X G D.babs
  sum := PySem.W.mg_none_of X G D.bsum
  max := PySem.W.mg_none_of X G D.bmax
  all := PySem.W.mg_none_of X G D.ball
  range := PySem.W.mg_none_of X G D.brange
  zip := PySem.W.mg_none_of X G D.bzip
  enum := PySem.W.mg_none_of X G D.benum
  repr := PySem.W.mg_none_of X G D.brepr
  nought := gc_fr X G D.cnought
  one := gc_fr X G D.cone
  worlds := gc_int X G D.cworlds
  questions := gc_int X G D.cquestions
  answers := gc_int X G D.canswers
  numbers := gc_int X G D.cnumbers
  number := gc_int X G D.cnumber
  rounds := gc_int X G D.crounds
  inall := gc_int X G D.cinall
  mrounds := gc_int X G D.cmrounds
  minall := gc_int X G D.cminall
theorem hc_of {C R fi fr fe : Addr} (X : K.In h) (G : h.Ns mainGlobals mg) (D : Clss K C R fi fr fe) : HC K mg C R := by
  obtain ⟨fdi, i1, i2, Fi⟩ := D.i
  obtain ⟨fdj, j1, j2, Fj⟩ := D.j
  obtain ⟨fde, e1, e2, Fe⟩ := D.e
  have ne : R ≠ C := by
    intro z
    subst z
    have hf : fi = fr := by
      have := i1.symm.trans j1
      injection this with this
      injection this with this
      injection this
    subst hf
    obtain ⟨oc, od, kV, doc, pm, an, cdv, ct, osl, rfl, lk, _⟩ := Fi.ex
    obtain ⟨oc', od', kV', doc', pm', an', cdv', ct', osl', rfl, lk', _⟩ := Fj.ex
    have q := lk.symm.trans lk'
    injection q with q
    injection q with _ _ q _
    injection q with q
    have q2 : ("House.__init__" : Str) = "RawHouse.__init__" := congrArg FuncData.qualname q
    exact absurd q2 (by decide +kernel)
  exact {
    cl := fun B hB => by
      rcases hB with rfl | rfl
      · exact D.c.cl
      · exact D.r.cl
    nw := fun B hB => by
      rcases hB with rfl | rfl
      · exact D.c.nw
      · exact D.r.nw
    nt := fun B hB => by
      rcases hB with rfl | rfl
      · exact D.c.nt
      · exact D.r.nt
    mgC := PySem.W.mg_of X G D.c.ns
    mgR := PySem.W.mg_of X G D.r.ns
    init := ⟨fi, fdi, ⟨D.c.mks, i1, i2, D.c.kp⟩, Fi, Fi.binds (ps := ["self", "worlds", "tree"]) fun _ _ _ _ _ _ us hl => match us, hl with | [_, _, _], _ => rfl⟩
    initR := ⟨fr, fdj, ⟨D.r.mks, j1, j2, D.r.kp⟩, Fj, Fj.binds (ps := ["self", "worlds", "tree"]) fun _ _ _ _ _ _ us hl => match us, hl with | [_, _, _], _ => rfl⟩
    eq := ⟨fe, fde, fun B hB => (by
      rcases hB with rfl | rfl
      · exact e1
      · exact D.er), e2, Fe, Fe.binds (ps := ["self", "other"]) fun _ _ _ _ _ _ us hl => match us, hl with | [_, _], _ => rfl⟩
    isi := fun B hB H a dx fs e => by
      rcases hB with rfl | rfl
      · exact .base (.ins e D.c.cl D.c.ha D.hn D.tk D.c.hm)
      · exact .base (.ins e D.r.cl D.r.ha D.hn D.tk D.r.hm)
    kit := fun B hB => by
      rcases hB with rfl | rfl
      · exact kit_self K _
      · exact kit_sub D.c.hm D.ty D.sub
    sub := D.sub
    nf := D.nf
    ne := ne }
theorem all_mk {l : PySem.W.OpenLaw} {w : World} {fa C R fi fr fe f : Addr} {oc : Value} {od an : Option Addr} {osl : Array (Option Value)} {kV doc pm cdv ct : Value} (X : K.In h) (G : h.Ns mainGlobals mg) (hfa : mg "law" = some (.ref fa))
    (a : PySem.W.nsIn K mainGlobals "law" = some (some (.ref f))) (ll : K.lookup f = some ⟨oc, od, .func (PySem.W.fnOf "law" "law" (defArgs s_law) (defBody s_law) (defScope s_law) .none kV doc pm an cdv ct), osl⟩) (c : PySem.W.codeIn K cdv "law" = true) (k : PySem.W.keepIn K (.ref f) = true)
    (D : Defs K) (D2 : Clss K C R fi fr fe) :
    ∃ fd : FuncData, (∀ (s : Shared) (v : Value), BindsTo s fd ⟨[v], []⟩ [("_law_script", v)]) ∧ ∀ base : Heap, K.In base → base.Ns mainGlobals mg → FnG l.prog w K mg base 53 fa fd ["_law_script"] (SpLaw K) := by
  have e := hfa.symm.trans (PySem.W.mg_of X G a)
  cases e
  have T := txt_of X G D
  have hc := hc_of X G D2
  exact ⟨_, fun s v => .of_eq rfl, fun base _ _ => f_law (fun_mk (st := s_law) ll c k) hc T (all_calls (ats_of X G D) T hc)⟩
end
theorem walk {l : PySem.W.OpenLaw} {q : Program} {loose : List Str} {XP : (Str → Option Value) → Heap → Prop} {YP : World → Heap → Prop} {d : DefRec} {K : Params → PySem.W.Frag} (hn : l.most = some 63) (hdf : d.params.defaults = [])
    (hY : ∀ (w : World) (h : Heap), YP w h → (K w.params).In h)
    (F : ∀ (w : World) (mg : Str → Option Value) (fa : Addr) (h : Heap), (K w.params).In h → h.Ns mainGlobals mg → mg d.name = some (.ref fa) →
      ∃ fd : FuncData, (∀ (s : Shared) (u : Value), BindsTo s fd ⟨[u], []⟩ [("_law_script", u)]) ∧ ∀ base : Heap, (K w.params).In base → base.Ns mainGlobals mg → FnG l.prog w (K w.params) mg base 53 fa fd ["_law_script"] (SpLaw (K w.params))) :
    PySem.W.WalkO q loose XP YP l.row.toRowW d [] (fun f vs => PySem.call f vs) :=
  Att.attach_call hn hdf fun w s₀ s₁ mg mb fa o pm cd doc a vs ns G Y ho hd hcd hmg hobj hints hlen hg => by
    obtain ⟨fd, hb, hF⟩ := F w mg fa _ (hY w _ Y) G.T.g hmg
    exact law_run (hY w _ Y) G.T.g G.T.b G.T.builtins G.T.nolimit hg hobj hints (Nat.le_trans hlen (by decide)) ⟨rfl, by decide, by decide⟩ hF hb fun H hS => ⟨a, ns, rfl, hS, hlen, fun _ => rfl⟩
end K12

open PySem PySem.W PyProof.Rows in
set_option maxRecDepth 100000 in
set_option maxHeartbeats 0 in
theorem PySem.Challenge.cw_tellsless_k12_whole_led_by_own_sums_holds : PySem.Challenge.rw_tellsless_k12_whole_led_by_own_sums.Holds := by
  w_on; o_law; k_head; (case hw => w_witness2)
  k_fill
  refine K12.walk (l := PySem.Challenge.rw_tellsless_k12_whole_led_by_own_sums) rfl rfl (fun w h Y => PySem.W.kIn_of Y) ?F
  case F =>
    intro w mg fa h KX G hmg
    refine' K12.all_mk KX G hmg ?a ?l ?c ?k ?D ?D2
    (case a => k_is)
    (case l => k_is)
    (case c => k_is)
    (case k => k_is)
    (case D =>
      refine' K12.Defs.mk ?d0 ?d1 ?d2 ?d3 ?d4 ?d5 ?d6 ?d7 ?d8 ?d9 ?d10 ?d11 ?d12 ?d13 ?d14 ?d15 ?d16 ?d17 ?d18 ?d19 ?d20 ?d21 ?d22 ?d23 ?d24 ?d25 ?d26 ?d27 ?d28 ?d29 ?d30 ?d31 ?d32 ?d33 ?d34 ?d35 ?d36 ?d37 ?d38 ?d39 ?d40 ?d41 ?d42 ?d43 ?d44 ?d45 ?d46 ?d47 ?d48 ?d49 ?d50 ?d51 ?d52 ?d53 ?d54 ?d55 ?d56 ?d57 ?d58 ?d59 ?d60 ?b0 ?b1 ?b2 ?b3 ?b4 ?b5 ?b6 ?b7 ?b8 ?b9 ?b10 ?b11 ?b12 ?b13 ?c0 ?c1 ?c2 ?c3 ?c4 ?c5 ?c6 ?c7 ?c8 ?z0 ?z1
      (case d0 => refine' K12.hasdef_mk ?a ?l ?c ?k; (case a => k_is); (case l => k_is); (case c => k_is); (case k => k_is))
      (case d1 => refine' K12.hasdef_mk ?a ?l ?c ?k; (case a => k_is); (case l => k_is); (case c => k_is); (case k => k_is))
      (case d2 => refine' K12.hasdef_mk ?a ?l ?c ?k; (case a => k_is); (case l => k_is); (case c => k_is); (case k => k_is))
      (case d3 => refine' K12.hasdef_mk ?a ?l ?c ?k; (case a => k_is); (case l => k_is); (case c => k_is); (case k => k_is))
      (case d4 => refine' K12.hasdef_mk ?a ?l ?c ?k; (case a => k_is); (case l => k_is); (case c => k_is); (case k => k_is))
      (case d5 => refine' K12.hasdef_mk ?a ?l ?c ?k; (case a => k_is); (case l => k_is); (case c => k_is); (case k => k_is))
      (case d6 => refine' K12.hasdef_mk ?a ?l ?c ?k; (case a => k_is); (case l => k_is); (case c => k_is); (case k => k_is))
      (case d7 => refine' K12.hasdef_mk ?a ?l ?c ?k; (case a => k_is); (case l => k_is); (case c => k_is); (case k => k_is))
      (case d8 => refine' K12.hasdef_mk ?a ?l ?c ?k; (case a => k_is); (case l => k_is); (case c => k_is); (case k => k_is))
      (case d9 => refine' K12.hasdef_mk ?a ?l ?c ?k; (case a => k_is); (case l => k_is); (case c => k_is); (case k => k_is))
      (case d10 => refine' K12.hasdef_mk ?a ?l ?c ?k; (case a => k_is); (case l => k_is); (case c => k_is); (case k => k_is))
      (case d11 => refine' K12.hasdef_mk ?a ?l ?c ?k; (case a => k_is); (case l => k_is); (case c => k_is); (case k => k_is))
      (case d12 => refine' K12.hasdef_mk ?a ?l ?c ?k; (case a => k_is); (case l => k_is); (case c => k_is); (case k => k_is))
      (case d13 => refine' K12.hasdef_mk ?a ?l ?c ?k; (case a => k_is); (case l => k_is); (case c => k_is); (case k => k_is))
      (case d14 => refine' K12.hasdef_mk ?a ?l ?c ?k; (case a => k_is); (case l => k_is); (case c => k_is); (case k => k_is))
      (case d15 => refine' K12.hasdef_mk ?a ?l ?c ?k; (case a => k_is); (case l => k_is); (case c => k_is); (case k => k_is))
      (case d16 => refine' K12.hasdef_mk ?a ?l ?c ?k; (case a => k_is); (case l => k_is); (case c => k_is); (case k => k_is))
      (case d17 => refine' K12.hasdef_mk ?a ?l ?c ?k; (case a => k_is); (case l => k_is); (case c => k_is); (case k => k_is))
      (case d18 => refine' K12.hasdef_mk ?a ?l ?c ?k; (case a => k_is); (case l => k_is); (case c => k_is); (case k => k_is))
      (case d19 => refine' K12.hasdef_mk ?a ?l ?c ?k; (case a => k_is); (case l => k_is); (case c => k_is); (case k => k_is))
      (case d20 => refine' K12.hasdef_mk ?a ?l ?c ?k; (case a => k_is); (case l => k_is); (case c => k_is); (case k => k_is))
      (case d21 => refine' K12.hasdef_mk ?a ?l ?c ?k; (case a => k_is); (case l => k_is); (case c => k_is); (case k => k_is))
      (case d22 => refine' K12.hasdef_mk ?a ?l ?c ?k; (case a => k_is); (case l => k_is); (case c => k_is); (case k => k_is))
      (case d23 => refine' K12.hasdef_mk ?a ?l ?c ?k; (case a => k_is); (case l => k_is); (case c => k_is); (case k => k_is))
      (case d24 => refine' K12.hasdef_mk ?a ?l ?c ?k; (case a => k_is); (case l => k_is); (case c => k_is); (case k => k_is))
      (case d25 => refine' K12.hasdef_mk ?a ?l ?c ?k; (case a => k_is); (case l => k_is); (case c => k_is); (case k => k_is))
      (case d26 => refine' K12.hasdef_mk ?a ?l ?c ?k; (case a => k_is); (case l => k_is); (case c => k_is); (case k => k_is))
      (case d27 => refine' K12.hasdef_mk ?a ?l ?c ?k; (case a => k_is); (case l => k_is); (case c => k_is); (case k => k_is))
      (case d28 => refine' K12.hasdef_mk ?a ?l ?c ?k; (case a => k_is); (case l => k_is); (case c => k_is); (case k => k_is))
      (case d29 => refine' K12.hasdef_mk ?a ?l ?c ?k; (case a => k_is); (case l => k_is); (case c => k_is); (case k => k_is))
      (case d30 => refine' K12.hasdef_mk ?a ?l ?c ?k; (case a => k_is); (case l => k_is); (case c => k_is); (case k => k_is))
      (case d31 => refine' K12.hasdef_mk ?a ?l ?c ?k; (case a => k_is); (case l => k_is); (case c => k_is); (case k => k_is))
      (case d32 => refine' K12.hasdef_mk ?a ?l ?c ?k; (case a => k_is); (case l => k_is); (case c => k_is); (case k => k_is))
      (case d33 => refine' K12.hasdef_mk ?a ?l ?c ?k; (case a => k_is); (case l => k_is); (case c => k_is); (case k => k_is))
      (case d34 => refine' K12.hasdef_mk ?a ?l ?c ?k; (case a => k_is); (case l => k_is); (case c => k_is); (case k => k_is))
      (case d35 => refine' K12.hasdef_mk ?a ?l ?c ?k; (case a => k_is); (case l => k_is); (case c => k_is); (case k => k_is))
      (case d36 => refine' K12.hasdef_mk ?a ?l ?c ?k; (case a => k_is); (case l => k_is); (case c => k_is); (case k => k_is))
      (case d37 => refine' K12.hasdef_mk ?a ?l ?c ?k; (case a => k_is); (case l => k_is); (case c => k_is); (case k => k_is))
      (case d38 => refine' K12.hasdef_mk ?a ?l ?c ?k; (case a => k_is); (case l => k_is); (case c => k_is); (case k => k_is))
      (case d39 => refine' K12.hasdef_mk ?a ?l ?c ?k; (case a => k_is); (case l => k_is); (case c => k_is); (case k => k_is))
      (case d40 => refine' K12.hasdef_mk ?a ?l ?c ?k; (case a => k_is); (case l => k_is); (case c => k_is); (case k => k_is))
      (case d41 => refine' K12.hasdef_mk ?a ?l ?c ?k; (case a => k_is); (case l => k_is); (case c => k_is); (case k => k_is))
      (case d42 => refine' K12.hasdef_mk ?a ?l ?c ?k; (case a => k_is); (case l => k_is); (case c => k_is); (case k => k_is))
      (case d43 => refine' K12.hasdef_mk ?a ?l ?c ?k; (case a => k_is); (case l => k_is); (case c => k_is); (case k => k_is))
      (case d44 => refine' K12.hasdef_mk ?a ?l ?c ?k; (case a => k_is); (case l => k_is); (case c => k_is); (case k => k_is))
      (case d45 => refine' K12.hasdef_mk ?a ?l ?c ?k; (case a => k_is); (case l => k_is); (case c => k_is); (case k => k_is))
      (case d46 => refine' K12.hasdef_mk ?a ?l ?c ?k; (case a => k_is); (case l => k_is); (case c => k_is); (case k => k_is))
      (case d47 => refine' K12.hasdef_mk ?a ?l ?c ?k; (case a => k_is); (case l => k_is); (case c => k_is); (case k => k_is))
      (case d48 => refine' K12.hasdef_mk ?a ?l ?c ?k; (case a => k_is); (case l => k_is); (case c => k_is); (case k => k_is))
      (case d49 => refine' K12.hasdef_mk ?a ?l ?c ?k; (case a => k_is); (case l => k_is); (case c => k_is); (case k => k_is))
      (case d50 => refine' K12.hasdef_mk ?a ?l ?c ?k; (case a => k_is); (case l => k_is); (case c => k_is); (case k => k_is))
      (case d51 => refine' K12.hasdef_mk ?a ?l ?c ?k; (case a => k_is); (case l => k_is); (case c => k_is); (case k => k_is))
      (case d52 => refine' K12.hasdef_mk ?a ?l ?c ?k; (case a => k_is); (case l => k_is); (case c => k_is); (case k => k_is))
      (case d53 => refine' K12.hasdef_mk ?a ?l ?c ?k; (case a => k_is); (case l => k_is); (case c => k_is); (case k => k_is))
      (case d54 => refine' K12.hasdef_mk ?a ?l ?c ?k; (case a => k_is); (case l => k_is); (case c => k_is); (case k => k_is))
      (case d55 => refine' K12.hasdef_mk ?a ?l ?c ?k; (case a => k_is); (case l => k_is); (case c => k_is); (case k => k_is))
      (case d56 => refine' K12.hasdef_mk ?a ?l ?c ?k; (case a => k_is); (case l => k_is); (case c => k_is); (case k => k_is))
      (case d57 => refine' K12.hasdef_mk ?a ?l ?c ?k; (case a => k_is); (case l => k_is); (case c => k_is); (case k => k_is))
      (case d58 => refine' K12.hasdef_mk ?a ?l ?c ?k; (case a => k_is); (case l => k_is); (case c => k_is); (case k => k_is))
      (case d59 => refine' K12.hasdef_mk ?a ?l ?c ?k; (case a => k_is); (case l => k_is); (case c => k_is); (case k => k_is))
      (case d60 => refine' K12.hasdef_mk ?a ?l ?c ?k; (case a => k_is); (case l => k_is); (case c => k_is); (case k => k_is))
      (case b0 => k_is)
      (case b1 => k_is)
      (case b2 => k_is)
      (case b3 => k_is)
      (case b4 => k_is)
      (case b5 => k_is)
      (case b6 => k_is)
      (case b7 => k_is)
      (case b8 => k_is)
      (case b9 => k_is)
      (case b10 => k_is)
      (case b11 => k_is)
      (case b12 => k_is)
      (case b13 => k_is)
      (case c0 => refine' K12.hasint_mk ?a; (case a => k_is))
      (case c1 => refine' K12.hasint_mk ?a; (case a => k_is))
      (case c2 => refine' K12.hasint_mk ?a; (case a => k_is))
      (case c3 => refine' K12.hasint_mk ?a; (case a => k_is))
      (case c4 => refine' K12.hasint_mk ?a; (case a => k_is))
      (case c5 => refine' K12.hasint_mk ?a; (case a => k_is))
      (case c6 => refine' K12.hasint_mk ?a; (case a => k_is))
      (case c7 => refine' K12.hasint_mk ?a; (case a => k_is))
      (case c8 => refine' K12.hasint_mk ?a; (case a => k_is))
      (case z0 => refine' K12.hasfr_mk ?a ?l; (case a => k_is); (case l => k_is))
      (case z1 => refine' K12.hasfr_mk ?a ?l; (case a => k_is); (case l => k_is)))
    (case D2 =>
      refine' K12.Clss.mk ?c ?r ?i ?j ?e ?er ?hn ?tk ?ty ?sub ?nf
      (case c => refine' K12.hascls_mk ?ns ?pg ?hd ?po ?sa ?nw ?nt ?mk ?kp ?ha ?hm; (case ns => k_is); (case pg => k_is); (case hd => k_is); (case po => k_is); (case sa => k_is); (case nw => k_is); (case nt => k_is); (case mk => k_is); (case kp => k_is); (case ha => k_is); (case hm => k_is))
      (case r => refine' K12.hascls_mk ?ns ?pg ?hd ?po ?sa ?nw ?nt ?mk ?kp ?ha ?hm; (case ns => k_is); (case pg => k_is); (case hd => k_is); (case po => k_is); (case sa => k_is); (case nw => k_is); (case nt => k_is); (case mk => k_is); (case kp => k_is); (case ha => k_is); (case hm => k_is))
      (case i => refine' K12.hasmeth_mk ?a ?i ?l ?c ?k; (case a => k_is); (case i => k_is); (case l => k_is); (case c => k_is); (case k => k_is))
      (case j => refine' K12.hasmeth_mk ?a ?i ?l ?c ?k; (case a => k_is); (case i => k_is); (case l => k_is); (case c => k_is); (case k => k_is))
      (case e => refine' K12.hasmeth_mk ?a ?i ?l ?c ?k; (case a => k_is); (case i => k_is); (case l => k_is); (case c => k_is); (case k => k_is))
      (case er => k_is)
      (case hn => k_is)
      (case tk => k_is)
      (case ty => k_is)
      (case sub => k_is)
      (case nf => k_is))
