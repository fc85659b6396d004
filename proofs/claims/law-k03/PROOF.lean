import PyProof.Rows.All
import Wide.All
import OpenK.AllK
import Wide.FinOn
import HandS.ForMost
import HandS.IsInst
import HandS.TupAny
import HandS.Zip
import HandS.More
import HandS.Defaults
import KE.KDictKeyed
import HandS.SortOrd
import HandS.Dict
import HandS.SetFor
import HandS.Style
import PyProof.ReprBulk
import KE.LtSeq
import KE.KEqDict
import HandS.List
import HandS.Base
import KE.KStateDown
import Lean
import HandS.Call
import HandS.Ends
import HandS.Words
import HandS.WordsExc
import HandS.Head0
import HandS.Head1
import HandS.Head2
import HandS.HeadEnd
import HandS.HeadHook1
import HandS.HeadHook2
import HandS.HeadHook3
import HandS.HeadHook4
import PySem.Challenge.RW_changewise_k03_whole_values_order_sums_a
import PyProof.EqAt
import PyProof.NeKinds
import HandS.CallLocal
import KE.KRevSl
import PyProof.ReprRoads
import PyProof.CallFns
import KE.KDictPairs
import KE.GoesMore
import PyProof.Draws
import PyProof.EnumMake
import KE.KDictCopyH
import KE.KDictSum
import KE.KSortTupAny
set_option Elab.async false
set_option linter.all false
set_option maxRecDepth 100000
set_option maxHeartbeats 0
set_option allowUnsafeReducibility true
/-! PA1 -/
/-! the data layer, part 1: data in the heap, names as data, what an expression and a block come to -/
namespace Lay
open PySem L2
/-- a list or a dict, whatever it holds -/
def isLD : HO → Bool
  | .lst _ => true
  | .dK _ => true
  | _ => false
/-- a tuple stands at a, without a dict of its own -/
def Tp (H : Hp) (a : Addr) (xs : List V) : Prop := ∃ o, H a = some (.frz o (.tup xs)) ∧ o.dict = none
theorem Tp.sq {K : PySem.W.Frag} {H : Hp} {a : Addr} {xs : List V} (h : Tp H a xs) : SqT K H a xs := by
  obtain ⟨o, h, _⟩ := h
  exact .inl (.inr ⟨o, h⟩)
theorem Tp.new {H : Hp} {a : Addr} {xs : List V} {o : Obj} (h : o.dict = none) : Tp (upd H a (.frz o (.tup xs))) a xs := ⟨o, upd_same, h⟩
mutual
/-- v stands for the datum d; .dict [] is any list or dict that is never looked into -/
inductive Dn (H : Hp) : V → PyData → Prop
  | non : Dn H .non .none
  | bl (b : Bool) : Dn H (.bl b) (.bool b)
  | int (i : Int) : Dn H (.int i) (.int i)
  | str (x : Str) : Dn H (.str x) (.str x)
  | tup {a : Addr} {xs : List V} {ds : List PyData} : Tp H a xs → DnA H xs ds → Dn H (.ref a) (.tuple ds)
  | oth {a : Addr} {o : HO} : H a = some o → isLD o = true → Dn H (.ref a) (.dict [])
inductive DnA (H : Hp) : List V → List PyData → Prop
  | nil : DnA H [] []
  | cons {v : V} {vs : List V} {d : PyData} {ds : List PyData} : Dn H v d → DnA H vs ds → DnA H (v :: vs) (d :: ds)
end
/-- tuples stay, lists and dicts stay some list or dict -/
structure Kp (H H' : Hp) : Prop where
  t : ∀ a xs, Tp H a xs → Tp H' a xs
  l : ∀ a o, H a = some o → isLD o = true → ∃ o', H' a = some o' ∧ isLD o' = true
mutual
theorem Dn.keep {H H' : Hp} (k : Kp H H') : ∀ {v : V} {d : PyData}, Dn H v d → Dn H' v d
  | _, _, .non => .non
  | _, _, .bl b => .bl b
  | _, _, .int i => .int i
  | _, _, .str x => .str x
  | _, _, .tup h t => .tup (k.t _ _ h) (DnA.keep k t)
  | _, _, .oth h l => by
    obtain ⟨o', h', l'⟩ := k.l _ _ h l
    exact .oth h' l'
theorem DnA.keep {H H' : Hp} (k : Kp H H') : ∀ {vs : List V} {ds : List PyData}, DnA H vs ds → DnA H' vs ds
  | _, _, .nil => .nil
  | _, _, .cons h t => .cons (Dn.keep k h) (DnA.keep k t)
end
section
variable {H H' : Hp} {vs ws : List V} {ds es : List PyData} {v : V} {d : PyData}
theorem DnA.len : ∀ {vs : List V} {ds : List PyData}, DnA H vs ds → vs.length = ds.length
  | _, _, .nil => rfl
  | _, _, .cons _ t => congrArg Nat.succ (DnA.len t)
theorem DnA.get : ∀ {vs : List V} {ds : List PyData} {i : Nat} {d : PyData}, DnA H vs ds → ds[i]? = some d → ∃ v, vs[i]? = some v ∧ Dn H v d
  | _, _, _, _, .nil, e => by simp at e
  | _, _, 0, _, .cons r _, e => by
    simp at e
    subst e
    exact ⟨_, rfl, r⟩
  | _, _, i + 1, d, .cons _ t, e => by
    obtain ⟨u, h1, h2⟩ := DnA.get (i := i) (d := d) t (by simpa using e)
    exact ⟨u, by simpa using h1, h2⟩
theorem DnA.getV : ∀ {vs : List V} {ds : List PyData} {i : Nat} {v : V}, DnA H vs ds → vs[i]? = some v → ∃ d, ds[i]? = some d ∧ Dn H v d
  | _, _, _, _, .nil, e => by simp at e
  | _, _, 0, _, .cons r _, e => by
    simp at e
    subst e
    exact ⟨_, rfl, r⟩
  | _, _, i + 1, v, .cons _ t, e => by
    obtain ⟨u, h1, h2⟩ := DnA.getV (i := i) (v := v) t (by simpa using e)
    exact ⟨u, by simpa using h1, h2⟩
theorem DnA.app : ∀ {vs ws : List V} {ds es : List PyData}, DnA H vs ds → DnA H ws es → DnA H (vs ++ ws) (ds ++ es)
  | _, _, _, _, .nil, s => s
  | _, _, _, _, .cons r t, s => .cons r (DnA.app t s)
theorem DnA.one (h : Dn H v d) : DnA H [v] [d] := .cons h .nil
theorem DnA.take : ∀ {vs : List V} {ds : List PyData} (n : Nat), DnA H vs ds → DnA H (vs.take n) (ds.take n)
  | _, _, 0, _ => .nil
  | _, _, _ + 1, .nil => .nil
  | _, _, n + 1, .cons r t => .cons r (DnA.take n t)
theorem DnA.drop : ∀ {vs : List V} {ds : List PyData} (n : Nat), DnA H vs ds → DnA H (vs.drop n) (ds.drop n)
  | _, _, 0, r => r
  | _, _, _ + 1, .nil => .nil
  | _, _, n + 1, .cons _ t => DnA.drop n t
theorem DnA.rev : ∀ {vs : List V} {ds : List PyData}, DnA H vs ds → DnA H vs.reverse ds.reverse
  | _, _, .nil => .nil
  | _, _, .cons r t => by
    rw [List.reverse_cons, List.reverse_cons]
    exact (DnA.rev t).app (.one r)
theorem DnA.set : ∀ {vs : List V} {ds : List PyData} (n : Nat), Dn H v d → DnA H vs ds → DnA H (vs.set n v) (ds.set n d)
  | _, _, _, _, .nil => .nil
  | _, _, 0, h, .cons _ t => .cons h t
  | _, _, n + 1, h, .cons r t => .cons r (DnA.set n h t)
theorem DnA.ints : ∀ (ns : List Int), DnA H (ns.map V.int) (ns.map PyData.int)
  | [] => .nil
  | n :: ns => .cons (.int n) (DnA.ints ns)
theorem DnA.bls : ∀ (ns : List Bool), DnA H (ns.map V.bl) (ns.map PyData.bool)
  | [] => .nil
  | n :: ns => .cons (.bl n) (DnA.bls ns)
theorem DnA.ints_of : ∀ {vs : List V} {ns : List Int}, DnA H vs (ns.map PyData.int) → vs = ns.map V.int
  | _, [], h => by cases h; rfl
  | _, n :: ns, h => by
    cases h with
    | cons r t =>
      cases r
      rw [DnA.ints_of t]
      rfl
theorem DnA.bls_of : ∀ {vs : List V} {ns : List Bool}, DnA H vs (ns.map PyData.bool) → vs = ns.map V.bl
  | _, [], h => by cases h; rfl
  | _, n :: ns, h => by
    cases h with
    | cons r t =>
      cases r
      rw [DnA.bls_of t]
      rfl
theorem DnA.nil_iff (h : DnA H vs ds) : vs = [] ↔ ds = [] := by
  cases h <;> simp
end
/-! ### what may change: the well alone -/
/-- all that was tracked stands as it was, but the well -/
def SB (W : Option Addr) (H H' : Hp) : Prop := ∀ a o, W ≠ some a → H a = some o → H' a = some o
/-- the well is a list of four ints -/
def Wl (W : Option Addr) (H : Hp) : Prop := ∀ w, W = some w → ∃ a b c d : Int, H w = some (.lst [.int a, .int b, .int c, .int d])
section
variable {W : Option Addr} {H H1 H2 H' : Hp} {p : Addr} {o : HO}
theorem SB.refl : SB W H H := fun _ _ _ h => h
theorem SB.trans (a : SB W H H1) (b : SB W H1 H2) : SB W H H2 := fun x o w h => b x o w (a x o w h)
theorem SB.new (h : H p = none) : SB W H (upd H p o) := fun a u _ e => by
  rw [upd_ne (ne_of_none e h)]
  exact e
theorem SB.mut (s : SB W H H') (h : H p = none) : SB W H (upd H' p o) := fun a u w e => by
  rw [upd_ne (ne_of_none e h)]
  exact s a u w e
/-- what is fresh now was fresh before, unless it is the well -/
theorem SB.fresh (s : SB W H H') (hw : Wl W H') (h : H' p = none) : H p = none := by
  cases e : H p with
  | none => rfl
  | some u =>
    by_cases hp : W = some p
    · obtain ⟨a, b, c, d, q⟩ := hw p hp
      rw [q] at h
      cases h
    · rw [s p u hp e] at h
      cases h
theorem Wl.ne (hw : Wl W H) (h : H p = none) : W ≠ some p := fun e => by
  obtain ⟨a, b, c, d, q⟩ := hw p e
  rw [q] at h
  cases h
theorem Wl.upd (hw : Wl W H) (h : W ≠ some p) : Wl W (upd H p o) := fun w e => by
  obtain ⟨a, b, c, d, q⟩ := hw w e
  refine ⟨a, b, c, d, ?_⟩
  rw [upd_ne (fun z => h (by rw [← z]; exact e))]
  exact q
theorem Wl.none : Wl .none H := fun _ e => by cases e
theorem kp_of (s : SB W H H') (w : Wl W H) (w' : Wl W H') : Kp H H' := by
  refine ⟨fun a xs ⟨o, e, d⟩ => ?_, fun a o e l => ?_⟩
  · by_cases hp : W = some a
    · obtain ⟨_, _, _, _, q⟩ := w a hp
      rw [q] at e
      cases e
    · exact ⟨o, s a _ hp e, d⟩
  · by_cases hp : W = some a
    · obtain ⟨_, _, _, _, q⟩ := w' a hp
      exact ⟨_, q, rfl⟩
    · exact ⟨o, s a _ hp e, l⟩
theorem Kp.refl : Kp H H := ⟨fun _ _ e => e, fun _ o e l => ⟨o, e, l⟩⟩
theorem Kp.trans (a : Kp H H1) (b : Kp H1 H2) : Kp H H2 := ⟨fun x y e => b.t x y (a.t x y e), fun x o e l => by
  obtain ⟨o', e', l'⟩ := a.l x o e l
  exact b.l x o' e' l'⟩
theorem Kp.new (h : H p = .none) : Kp H (L2.upd H p o) := ⟨fun a xs ⟨o, e, d⟩ => ⟨o, by rw [upd_ne (ne_of_none e h)]; exact e, d⟩, fun a u e l => ⟨u, by rw [upd_ne (ne_of_none e h)]; exact e, l⟩⟩
/-- a list or dict becomes another -/
theorem Kp.mut {u : HO} (h : H p = some u) (lu : isLD u = true) (lo : isLD o = true) : Kp H (L2.upd H p o) := by
  refine ⟨fun a xs ⟨o', e, d⟩ => ⟨o', ?_, d⟩, fun a z e l => ?_⟩
  · have : a ≠ p := fun z => by
      rw [z, h] at e
      cases e
      cases lu
    rw [upd_ne this]
    exact e
  · by_cases hp : a = p
    · rw [hp]
      exact ⟨o, upd_same, lo⟩
    · exact ⟨z, by rw [upd_ne hp]; exact e, l⟩
end
/-! ### names as data -/
/-- what may be changed: a list of data; a dict of ints by data (its hashes are w's) -/
inductive Ct where
  | ls (xs : List PyData)
  | dk (w : World) (t : Bool) (kvs : List (PyData × Int))
/-- what a name holds: a datum; a list or a dict (m: made in this frame); an address (the well, a def) -/
inductive S where
  | d (x : PyData)
  | c (m : Bool) (c : Ct)
  | o (a : Addr)
abbrev S.l (m : Bool) (xs : List PyData) : S := .c m (.ls xs)
abbrev Rho := List (Option S)
/-- a datum as a key -/
def nkD : PyData → NestedKey
  | .int i => .num i
  | .str x => .text x
  | .tuple ds => .tup (nkA ds)
  | _ => .none
where nkA : List PyData → List NestedKey
  | [] => []
  | d :: ds => nkD d :: nkA ds
mutual
/-- ints, texts, tuples of such -/
def keyD : PyData → Bool
  | .int _ => true
  | .str _ => true
  | .tuple ds => keyA ds
  | _ => false
def keyA : List PyData → Bool
  | [] => true
  | d :: ds => keyD d && keyA ds
end
/-- the dict at p, its keys' tuples at as, the data and ints of kvs -/
def DctRaw (w : World) (p : Addr) (as : List Addr) (kvs : List (PyData × Int)) (h : Heap) : Prop :=
  ∃ o es ep, h.get? p = some o ∧ o.ExactDict ∧ o.data = .dict es ep ∧ ∃ xs : List (NestedKey × Addr × Value), es.toList = xs.map (fun x => (⟨x.1.hash w, .ref x.2.1, x.2.2⟩ : DictEntry)) ∧
    xs.map (·.1) = kvs.map (fun x => nkD x.1) ∧ xs.map (·.2.1) = as ∧ Vals (kvs.map fun x => V.int x.2) (xs.map (·.2.2)) ∧ (xs.map (·.1)).Nodup
def intKey : PyData → Bool
  | .int _ => true
  | _ => false
def tupKey : PyData → Bool
  | .tuple _ => true
  | _ => false
/-- t: the keys are tuples; else ints -/
def CtOk (H : Hp) (p : Addr) : Ct → Prop
  | .ls xs => ∃ vs, H p = some (.lst vs) ∧ DnA H vs xs
  | .dk w t kvs => kvs.length ≤ 100000 ∧ match t with
    | false => ∃ ns : List (Int × Int), kvs = ns.map (fun x => (.int x.1, x.2)) ∧ H p = some (.dK (ns.map fun x => (.inl x.1, .int x.2)))
    | true => (p == sysModules) = false ∧ ∃ as, H p = some (.ext (DctRaw w p as kvs)) ∧ DnA H (as.map V.ref) (kvs.map (·.1)) ∧ ∀ x ∈ kvs, tupKey x.1 = true ∧ keyD x.1 = true ∧ (nkD x.1).depth ≤ 8
theorem CtOk.keep {H H' : Hp} {p : Addr} {c : Ct} (x : CtOk H p c) (k : Kp H H') (e : ∀ o, H p = some o → H' p = some o) : CtOk H' p c := by
  cases c with
  | ls xs =>
    obtain ⟨vs, q, r⟩ := x
    exact ⟨vs, e _ q, DnA.keep k r⟩
  | dk w t kvs =>
    cases t with
    | false =>
      obtain ⟨l, ns, e1, q⟩ := x
      exact ⟨l, ns, e1, e _ q⟩
    | true =>
      obtain ⟨l, s, us, q, r, d⟩ := x
      exact ⟨l, s, us, e _ q, DnA.keep k r, d⟩
theorem CtOk.has {H : Hp} {p : Addr} {c : Ct} (x : CtOk H p c) : ∃ o, H p = some o := by
  cases c with
  | ls xs =>
    obtain ⟨vs, q, r⟩ := x
    exact ⟨_, q⟩
  | dk w t kvs =>
    cases t with
    | false =>
      obtain ⟨l, ns, e1, q⟩ := x
      exact ⟨_, q⟩
    | true =>
      obtain ⟨l, s, us, q, r, d⟩ := x
      exact ⟨_, q⟩
def Sv (W : Option Addr) (H : Hp) (v : V) : S → Prop
  | .d x => Dn H v x
  | .c _ c => ∃ p, v = .ref p ∧ W ≠ some p ∧ CtOk H p c
  | .o a => v = .ref a
theorem Sv.keep {W : Option Addr} {H H' : Hp} {v : V} {s : S} (h : Sv W H v s) (sb : SB W H H') (w : Wl W H) (w' : Wl W H') : Sv W H' v s := by
  cases s with
  | d x => exact Dn.keep (kp_of sb w w') h
  | c m c =>
    obtain ⟨p, e, hp, q⟩ := h
    exact ⟨p, e, hp, q.keep (kp_of sb w w') fun o z => sb _ _ hp z⟩
  | o a => exact h
abbrev SvA (W : Option Addr) (H : Hp) : List V → List S → Prop := Paired (Sv W H)
theorem SvA.keep {W : Option Addr} {H H' : Hp} (sb : SB W H H') (w : Wl W H) (w' : Wl W H') : ∀ {vs : List V} {ss : List S}, SvA W H vs ss → SvA W H' vs ss
  | _, _, .nil => .nil
  | _, _, .cons r t => .cons (Sv.keep r sb w w') (SvA.keep sb w w' t)
/-- where a frame stands: its well, the heap at its entry -/
structure Bs where
  W : Option Addr
  H0 : Hp
structure EnvOk (b : Bs) (H : Hp) (σ : St) (ρ : Rho) : Prop where
  base : SB b.W b.H0 H
  wl0 : Wl b.W b.H0
  wl : Wl b.W H
  len : σ.length = ρ.length
  at_ : ∀ (i : Nat) (s : S), ρ[i]? = some (some s) → ∃ v, σ[i]? = some (some v) ∧ Sv b.W H v s
  own : ∀ (i : Nat) (ds : Ct) (p : Addr), ρ[i]? = some (some (.c true ds)) → σ[i]? = some (some (.ref p)) → b.H0 p = none
  inj : ∀ (i j : Nat) (ds : Ct) (m : Bool) (es : Ct) (p : Addr), i ≠ j → ρ[i]? = some (some (.c true ds)) → ρ[j]? = some (some (.c m es)) → σ[i]? = some (some (.ref p)) → σ[j]? ≠ some (some (.ref p))
theorem EnvOk.go {b : Bs} {H H' : Hp} {σ : St} {ρ : Rho} (e : EnvOk b H σ ρ) (s : SB b.W H H') (w : Wl b.W H') : EnvOk b H' σ ρ :=
  ⟨e.base.trans s, e.wl0, w, e.len, fun i x h => by
    obtain ⟨v, h1, h2⟩ := e.at_ i x h
    exact ⟨v, h1, h2.keep s e.wl w⟩, e.own, e.inj⟩
/-! ### what an expression comes to -/
def Exp (X : Cx) (e : Expr) (σ : St) (H : Hp) (Q : VK) : Prop := ∀ (pins : List (Addr × Obj)) (s : Shared), Inv X pins σ H s → wpAny (model X.prog X.w) X.A (eval e X.env) (EP X pins σ Q) X.xe s
def wE (X : Cx) (e : Expr) : TE := fun σ H Q => Exp X e σ H Q
theorem peW {X : Cx} {e : Expr} : PE X e (wE X e) := ⟨fun pins s _ _ _ I h => h pins s I⟩
theorem Exp.of {X : Cx} {e : Expr} {t : TE} {σ : St} {H : Hp} {Q : VK} (h : PE X e t) (q : t σ H Q) : Exp X e σ H Q := fun pins s I => h.run pins s σ H Q I q
def Tst (X : Cx) (e : Expr) (σ : St) (H : Hp) (Q : Bool → Hp → Prop) : Prop := ∀ (pins : List (Addr × Obj)) (s : Shared), Inv X pins σ H s → wpAny (model X.prog X.w) X.A (isTrue e X.env (eval e X.env)) (TP X pins σ Q) X.xe s
def wT (X : Cx) (e : Expr) : TT := fun σ H Q => Tst X e σ H Q
theorem ptW {X : Cx} {e : Expr} : PT X e (wT X e) := ⟨fun pins s _ _ _ I h => h pins s I⟩
theorem Tst.of {X : Cx} {e : Expr} {t : TT} {σ : St} {H : Hp} {Q : Bool → Hp → Prop} (h : PT X e t) (q : t σ H Q) : Tst X e σ H Q := fun pins s I => h.run pins s σ H Q I q
/-- .. whatever its 'whole' is -/
def TstW (X : Cx) (e : Expr) (σ : St) (H : Hp) (Q : Bool → Hp → Prop) : Prop := ∀ (wh : Sem Value) (pins : List (Addr × Obj)) (s : Shared), Inv X pins σ H s → wpAny (model X.prog X.w) X.A (isTrue e X.env wh) (TP X pins σ Q) X.xe s
def wW (X : Cx) (e : Expr) : TT := fun σ H Q => TstW X e σ H Q
theorem pwW {X : Cx} {e : Expr} : PW X e (wW X e) := ⟨fun wh pins s _ _ _ I h => h wh pins s I⟩
theorem TstW.of {X : Cx} {e : Expr} {t : TT} {σ : St} {H : Hp} {Q : Bool → Hp → Prop} (h : PW X e t) (q : t σ H Q) : TstW X e σ H Q := fun wh pins s I => h.run wh pins s σ H Q I q
def Exa (X : Cx) (es : List Expr) (σ : St) (H : Hp) (Q : List V → Hp → Prop) : Prop := ∀ (pos : Pos) (pins : List (Addr × Obj)) (s : Shared), Inv X pins σ H s → wpAny (model X.prog X.w) X.A (spliced (backTo pos (starEach es X.env))) (AP X pins σ Q) X.xe s
def wA (X : Cx) (es : List Expr) : TA := fun σ H Q => Exa X es σ H Q
theorem paW {X : Cx} {es : List Expr} : PA X es (wA X es) := ⟨fun pos pins s _ _ _ I h => h pos pins s I⟩
theorem Exa.of {X : Cx} {es : List Expr} {t : TA} {σ : St} {H : Hp} {Q : List V → Hp → Prop} (h : PA X es t) (q : t σ H Q) : Exa X es σ H Q := fun pos pins s I => h.run pos pins s σ H Q I q
section
variable (X : Cx) (b : Bs)
namespace Quiet
/-- a datum of which P holds -/
@[scoped irreducible] def _root_.Lay.Ev (e : Expr) (ρ : Rho) (P : PyData → Prop) : Prop := ∀ σ H, EnvOk b H σ ρ → ∀ Q : VK, (∀ v H' d, SB b.W H H' → Wl b.W H' → Dn H' v d → P d → Q v H') → Exp X e σ H Q
end Quiet
namespace Quiet
/-- a new list -/
@[scoped irreducible] def _root_.Lay.EvL (e : Expr) (ρ : Rho) (P : List PyData → Prop) : Prop := ∀ σ H, EnvOk b H σ ρ → ∀ Q : VK, (∀ p H' vs ds, H p = none → SB b.W H H' → Wl b.W H' → H' p = some (.lst vs) → DnA H' vs ds → P ds → Q (.ref p) H') → Exp X e σ H Q
end Quiet
namespace Quiet
/-- a list that may be read -/
@[scoped irreducible] def _root_.Lay.EvR (e : Expr) (ρ : Rho) (P : List PyData → Prop) : Prop := ∀ σ H, EnvOk b H σ ρ → ∀ Q : VK, (∀ p H' vs ds, b.W ≠ some p → SB b.W H H' → Wl b.W H' → H' p = some (.lst vs) → DnA H' vs ds → P ds → Q (.ref p) H') → Exp X e σ H Q
end Quiet
namespace Quiet
/-- any of these -/
@[scoped irreducible] def _root_.Lay.EvS (e : Expr) (ρ : Rho) (P : S → Prop) : Prop := ∀ σ H, EnvOk b H σ ρ → ∀ Q : VK, (∀ v H' s, SB b.W H H' → Wl b.W H' → Sv b.W H' v s → P s → Q v H') → Exp X e σ H Q
end Quiet
namespace Quiet
@[scoped irreducible] def _root_.Lay.EvT (e : Expr) (ρ : Rho) (P : Bool → Prop) : Prop := ∀ σ H, EnvOk b H σ ρ → ∀ Q : Bool → Hp → Prop, (∀ k H', SB b.W H H' → Wl b.W H' → P k → Q k H') → Tst X e σ H Q
end Quiet
namespace Quiet
@[scoped irreducible] def _root_.Lay.EvW (e : Expr) (ρ : Rho) (P : Bool → Prop) : Prop := ∀ σ H, EnvOk b H σ ρ → ∀ Q : Bool → Hp → Prop, (∀ k H', SB b.W H H' → Wl b.W H' → P k → Q k H') → TstW X e σ H Q
end Quiet
namespace Quiet
@[scoped irreducible] def _root_.Lay.EvA (es : List Expr) (ρ : Rho) (P : List S → Prop) : Prop := ∀ σ H, EnvOk b H σ ρ → ∀ Q : List V → Hp → Prop, (∀ vs H' ss, SB b.W H H' → Wl b.W H' → SvA b.W H' vs ss → P ss → Q vs H') → Exa X es σ H Q
end Quiet
/-- it comes to d -/
def Ed (e : Expr) (ρ : Rho) (d : PyData) : Prop := Ev X b e ρ fun x => x = d
def EdT (e : Expr) (ρ : Rho) (k : Bool) : Prop := EvT X b e ρ fun x => x = k
def EdA (es : List Expr) (ρ : Rho) (ss : List S) : Prop := EvA X b es ρ fun x => x = ss
def EdL (e : Expr) (ρ : Rho) (ds : List PyData) : Prop := EvL X b e ρ fun x => x = ds
end
section
variable {X : Cx} {b : Bs} {e e2 : Expr} {es : List Expr} {ρ : Rho} {P P' : PyData → Prop} {PS PS' : S → Prop} {PL PL' : List PyData → Prop} {PB PB' : Bool → Prop} {PA : List S → Prop}
theorem Ev.imp (h : Ev X b e ρ P) (k : ∀ d, P d → P' d) : Ev X b e ρ P' := fun σ H ok Q q => h σ H ok Q fun v H' d s w r p => q v H' d s w r (k d p)
theorem EvT.imp (h : EvT X b e ρ PB) (k : ∀ d, PB d → PB' d) : EvT X b e ρ PB' := fun σ H ok Q q => h σ H ok Q fun v H' s w p => q v H' s w (k v p)
theorem EvL.imp (h : EvL X b e ρ PL) (k : ∀ d, PL d → PL' d) : EvL X b e ρ PL' := fun σ H ok Q q => h σ H ok Q fun p H' vs ds hn s w hp r z => q p H' vs ds hn s w hp r (k ds z)
theorem EvR.imp (h : EvR X b e ρ PL) (k : ∀ d, PL d → PL' d) : EvR X b e ρ PL' := fun σ H ok Q q => h σ H ok Q fun p H' vs ds hn s w hp r z => q p H' vs ds hn s w hp r (k ds z)
theorem Ev.s (h : Ev X b e ρ P) : EvS X b e ρ fun s => ∃ d, s = .d d ∧ P d := fun σ H ok Q q => h σ H ok Q fun v H' d s w r p => q v H' (.d d) s w r ⟨d, rfl, p⟩
theorem Ed.s {d : PyData} (h : Ed X b e ρ d) : EvS X b e ρ fun s => s = .d d := fun σ H ok Q q => h σ H ok Q fun v H' d' s w r p => q v H' (.d d) s w (by rw [← p]; exact r) rfl
theorem EvL.r (h : EvL X b e ρ PL) : EvR X b e ρ PL := fun σ H ok Q q => h σ H ok Q fun p H' vs ds hn s w hp r z => q p H' vs ds (ok.wl.ne hn) s w hp r z
theorem EvR.s (h : EvR X b e ρ PL) : EvS X b e ρ fun s => ∃ ds, s = .l false ds ∧ PL ds := fun σ H ok Q q => h σ H ok Q fun p H' vs ds hn s w hp r z => q _ H' (.l false ds) s w ⟨p, rfl, hn, vs, hp, r⟩ ⟨ds, rfl, z⟩
/-! ### names, constants -/
theorem evs_var {i : Nat} {x : Str} {pos : Pos} {s : S} (h : ρ[i]? = some (some s)) (hN : X.N[i]? = some x) (hv : Vis X.env.scope x) (hd : (x == ("__debug__" : Str)) = false := by decide) (hcd : (x == ("__classdict__" : Str)) = false := by decide) : EvS X b (.Name x pos) ρ fun z => z = s := by
  intro σ H ok Q q
  obtain ⟨v, h1, h2⟩ := ok.at_ i s h
  exact .of (pe_var hN hv hd hcd) ⟨v, h1, q v H s .refl ok.wl h2 rfl⟩
theorem ed_var {i : Nat} {x : Str} {pos : Pos} {d : PyData} (h : ρ[i]? = some (some (.d d))) (hN : X.N[i]? = some x) (hv : Vis X.env.scope x) (hd : (x == ("__debug__" : Str)) = false := by decide) (hcd : (x == ("__classdict__" : Str)) = false := by decide) : Ed X b (.Name x pos) ρ d := by
  intro σ H ok Q q
  obtain ⟨v, h1, h2⟩ := ok.at_ i _ h
  exact .of (pe_var hN hv hd hcd) ⟨v, h1, q v H d .refl ok.wl h2 rfl⟩
theorem evr_var {i : Nat} {x : Str} {pos : Pos} {m : Bool} {ds : List PyData} (h : ρ[i]? = some (some (.l m ds))) (hN : X.N[i]? = some x) (hv : Vis X.env.scope x) (hd : (x == ("__debug__" : Str)) = false := by decide) (hcd : (x == ("__classdict__" : Str)) = false := by decide) : EvR X b (.Name x pos) ρ fun z => z = ds := by
  intro σ H ok Q q
  obtain ⟨v, h1, p, e, hp, vs, hl, r⟩ := ok.at_ i _ h
  exact .of (pe_var hN hv hd hcd) ⟨v, h1, by rw [e]; exact q p H vs ds hp .refl ok.wl hl r rfl⟩
theorem ed_int {i j pos} : Ed X b (.Constant (.int i) j pos) ρ (.int i) := fun σ H ok Q q => .of pe_int (q _ H _ .refl ok.wl (.int i) rfl)
theorem ed_bl {i j pos} : Ed X b (.Constant (.bool i) j pos) ρ (.bool i) := fun σ H ok Q q => .of pe_bl (q _ H _ .refl ok.wl (.bl i) rfl)
theorem ed_non {j pos} : Ed X b (.Constant .none j pos) ρ .none := fun σ H ok Q q => .of pe_non (q _ H _ .refl ok.wl .non rfl)
theorem ed_str {i j pos} : Ed X b (.Constant (.str i) j pos) ρ (.str i) := fun σ H ok Q q => .of pe_str (q _ H _ .refl ok.wl (.str i) rfl)
/-- a def's name as a value -/
theorem evs_glob {x : Str} {a : Addr} {pos : Pos} (hg : Gl X x) (hm : X.mg x = some (.ref a)) (hd : (x == ("__debug__" : Str)) = false := by decide) : EvS X b (.Name x pos) ρ fun z => z = .o a := fun σ H ok Q q =>
  .of (pe_glob (v := .ref a) hg hm rfl hd) (q _ H (.o a) .refl ok.wl rfl rfl)
/-! ### arguments, displays -/
theorem eva_nil : EvA X b [] ρ fun z => z = [] := fun σ H ok Q q => .of pa_nil (q [] H [] .refl ok.wl .nil rfl)
theorem eva_cons (h : EvS X b e ρ PS) (t : EvA X b es ρ PA) (hs : starEach (e :: es) X.env = (false, eval e X.env) :: starEach es X.env := by rfl) : EvA X b (e :: es) ρ fun z => ∃ s r, z = s :: r ∧ PS s ∧ PA r := by
  intro σ H ok Q q
  refine .of (pa_cons peW paW hs) (h σ H ok _ fun v H1 s s1 w1 r1 p1 => ?_)
  refine t σ H1 (ok.go s1 w1) _ fun vs H2 ss s2 w2 r2 p2 => ?_
  exact q _ H2 (s :: ss) (s1.trans s2) w2 (.cons (r1.keep s2 w1 w2) r2) ⟨s, ss, rfl, p1, p2⟩
theorem EvA.imp {PA PA' : List S → Prop} (h : EvA X b es ρ PA) (k : ∀ d, PA d → PA' d) : EvA X b es ρ PA' := fun σ H ok Q q => h σ H ok Q fun v H' d s w r p => q v H' d s w r (k d p)
theorem eda_nil : EdA X b [] ρ [] := eva_nil
theorem eda_cons {s : S} {ss : List S} (h : EvS X b e ρ fun z => z = s) (t : EdA X b es ρ ss) (hs : starEach (e :: es) X.env = (false, eval e X.env) :: starEach es X.env := by rfl) : EdA X b (e :: es) ρ (s :: ss) :=
  (eva_cons h t hs).imp fun z ⟨s', r, h1, h2, h3⟩ => by rw [h1, h2, h3]
theorem eda_d {d : PyData} {ss : List S} (h : Ed X b e ρ d) (t : EdA X b es ρ ss) (hs : starEach (e :: es) X.env = (false, eval e X.env) :: starEach es X.env := by rfl) : EdA X b (e :: es) ρ (.d d :: ss) := eda_cons h.s t hs
/-- the data among the arguments -/
def dats (ds : List PyData) : List S := ds.map S.d
theorem dna_of {W : Option Addr} {H : Hp} : ∀ {vs : List V} {ds : List PyData}, SvA W H vs (dats ds) → DnA H vs ds
  | _, [], h => by cases h; exact .nil
  | _, d :: ds, h => by
    cases h with
    | cons r t => exact .cons r (dna_of t)
theorem sva_of {W : Option Addr} {H : Hp} : ∀ {vs : List V} {ds : List PyData}, DnA H vs ds → SvA W H vs (dats ds)
  | _, _, .nil => .nil
  | _, _, .cons r t => .cons r (sva_of t)
theorem SvA.len {W : Option Addr} {H : Hp} : ∀ {vs : List V} {ss : List S}, SvA W H vs ss → vs.length = ss.length
  | _, _, .nil => rfl
  | _, _, .cons _ t => congrArg Nat.succ (SvA.len t)
/-- a tuple is made -/
theorem tup_made {X : Cx} {pins : List (Addr × Obj)} {σ : St} {H : Hp} {s : Shared} {Q : VK} {xs : List V} {us : List Value} (I : Inv X pins σ H s) (r : Vals xs us) (z : xs.length ≤ sizeLine)
    (q : ∀ t o, o.dict = none → H t = none → Q (.ref t) (upd H t (.frz o (.tup xs)))) : EP X pins σ Q (.ref s.heap.objs.size) { s with heap := s.heap.push { cls := .type "tuple", data := .seq us.toArray } } :=
  ⟨.ref s.heap.objs.size, upd H s.heap.objs.size (.frz { cls := .type "tuple", data := .seq us.toArray } (.tup xs)),
    I.laid (t' := s.toks) (fun b u e => Heap.get?_push_of_some _ e) (Nat.le_refl _) ⟨Heap.get?_push_size _ rfl, z, us, r, ⟨_, Heap.get?_push_size _ rfl, rfl, _, rfl⟩⟩, rfl, q _ _ rfl (I.hok.fresh (Nat.le_refl _))⟩
def tTupF (t : TA) : TE := fun σ H Q => t σ H fun xs H1 => xs.length ≤ sizeLine ∧ ∀ p o, o.dict = none → H1 p = none → Q (.ref p) (upd H1 p (.frz o (.tup xs)))
theorem pe_tupF {X : Cx} {es : List Expr} {pos : Pos} {t : TA} {x1} (h : L2.PA X es t) : PE X (.Tuple es x1 pos) (tTupF t) := by
  refine ⟨fun pins s σ H Q I hq => wpAny_Tuple_spliced (thn (h.run pos pins s σ H _ I hq) fun us s1 ⟨xs, H1, I1, r, z, q⟩ => ⟨?_, tup_made I1 r z q⟩)⟩
  rw [← r.length]
  exact z
theorem ev_tup {x1} {pos : Pos} (h : EvA X b es ρ fun z => ∃ ds, z = dats ds ∧ ds.length ≤ 100000 ∧ P (.tuple ds)) : Ev X b (.Tuple es x1 pos) ρ P := by
  intro σ H ok Q q
  refine .of (pe_tupF paW) (h σ H ok _ fun vs H1 ss s1 w1 r ⟨ds, e, l, p⟩ => ?_)
  subst e
  have r' := dna_of r
  refine ⟨by rw [r'.len]; exact Nat.le_trans l (by decide), fun t o ho ht => ?_⟩
  exact q _ _ (.tuple ds) (s1.trans (.new ht)) (w1.upd (w1.ne ht)) (.tup (.new ho) (r'.keep (.new ht))) p
theorem ed_tup {x1} {pos : Pos} {ds : List PyData} (h : EdA X b es ρ (dats ds)) (l : ds.length ≤ 100000 := by decide) : Ed X b (.Tuple es x1 pos) ρ (.tuple ds) := ev_tup (h.imp fun z e => ⟨ds, e, l, rfl⟩)
theorem evl_lst {pos : Pos} (h : EvA X b es ρ fun z => ∃ ds, z = dats ds ∧ ds.length ≤ 100000 ∧ PL ds) : EvL X b (.List es pos) ρ PL := by
  intro σ H ok Q q
  refine .of (pe_lst paW) (h σ H ok _ fun vs H1 ss s1 w1 r ⟨ds, e, l, p⟩ => ?_)
  subst e
  have r' := dna_of r
  refine ⟨by rw [r'.len]; exact Nat.le_trans l (by decide), fun t ht => ?_⟩
  exact q t _ vs ds (s1.fresh w1 ht) (s1.trans (.new ht)) (w1.upd (w1.ne ht)) upd_same (r'.keep (.new ht)) p
theorem edl_lst {pos : Pos} {ds : List PyData} (h : EdA X b es ρ (dats ds)) (l : ds.length ≤ 100000 := by decide) : EdL X b (.List es pos) ρ ds := evl_lst (h.imp fun z e => ⟨ds, e, l, rfl⟩)
end
end Lay
/-! PA2 -/
/-! the data layer, part 2: operators, comparisons, places, slices, tests -/
namespace Lay
open PySem L2
section
variable {X : Cx} {b : Bs} {e e2 c : Expr} {es : List Expr} {ρ : Rho} {P Pa Pb : PyData → Prop} {pos : Pos}
/-! ### operators -/
theorem ev_op {op : Operator} {r : R2} (ho : OpR X (binaryOp op) r) (ha : Ev X b e ρ Pa) (hb : Ev X b e2 ρ Pb)
    (h : ∀ (H : Hp) (x y : V) (d d2 : PyData) (Q : VK), Wl b.W H → Dn H x d → Dn H y d2 → Pa d → Pb d2 → (∀ v H' z, SB b.W H H' → Wl b.W H' → Dn H' v z → P z → Q v H') → r x y H Q) : Ev X b (.BinOp e op e2 pos) ρ P := by
  intro σ H ok Q q
  refine .of (pe_op ho peW peW) (ha σ H ok _ fun x H1 d s1 w1 r1 p1 => ?_)
  refine hb σ H1 (ok.go s1 w1) _ fun y H2 d2 s2 w2 r2 p2 => ?_
  exact h H2 x y d d2 Q w2 (r1.keep (kp_of s2 w1 w2)) r2 p1 p2 fun v H' z s3 w3 r3 p3 => q v H' z ((s1.trans s2).trans s3) w3 r3 p3
/-- two ints to an int -/
theorem ev_opI {op : Operator} {C : Int → Int → Prop} {g : Int → Int → Int} (ho : OpR X (binaryOp op) (rI C fun i j => .int (g i j))) (ha : Ev X b e ρ Pa) (hb : Ev X b e2 ρ Pb)
    (h : ∀ d d2, Pa d → Pb d2 → ∃ i j, d = .int i ∧ d2 = .int j ∧ C i j ∧ P (.int (g i j))) : Ev X b (.BinOp e op e2 pos) ρ P := by
  refine ev_op ho ha hb fun H x y d d2 Q w r1 r2 p1 p2 q => ?_
  obtain ⟨i, j, rfl, rfl, hc, hp⟩ := h d d2 p1 p2
  cases r1
  cases r2
  exact ⟨i, j, rfl, rfl, hc, q _ H _ .refl w (.int _) hp⟩
theorem ev_opI0 {op : Operator} {g : Int → Int → Int} (ho : OpR X (binaryOp op) (rI0 fun i j => .int (g i j))) (ha : Ev X b e ρ Pa) (hb : Ev X b e2 ρ Pb)
    (h : ∀ d d2, Pa d → Pb d2 → ∃ i j, d = .int i ∧ d2 = .int j ∧ P (.int (g i j))) : Ev X b (.BinOp e op e2 pos) ρ P := by
  refine ev_op ho ha hb fun H x y d d2 Q w r1 r2 p1 p2 q => ?_
  obtain ⟨i, j, rfl, rfl, hp⟩ := h d d2 p1 p2
  cases r1
  cases r2
  exact ⟨i, j, rfl, rfl, q _ H _ .refl w (.int _) hp⟩
theorem ed_add {i j : Int} (ha : Ed X b e ρ (.int i)) (hb : Ed X b e2 ρ (.int j)) : Ed X b (.BinOp e .Add e2 pos) ρ (.int (i + j)) := ev_opI0 op_add ha hb fun _ _ h1 h2 => ⟨i, j, h1, h2, rfl⟩
theorem ed_sub {i j : Int} (ha : Ed X b e ρ (.int i)) (hb : Ed X b e2 ρ (.int j)) : Ed X b (.BinOp e .Sub e2 pos) ρ (.int (i - j)) := ev_opI0 op_sub ha hb fun _ _ h1 h2 => ⟨i, j, h1, h2, rfl⟩
theorem ed_mul {i j : Int} (hc : CMul i j) (ha : Ed X b e ρ (.int i)) (hb : Ed X b e2 ρ (.int j)) : Ed X b (.BinOp e .Mult e2 pos) ρ (.int (i * j)) := ev_opI op_mul ha hb fun _ _ h1 h2 => ⟨i, j, h1, h2, hc, rfl⟩
theorem ed_mod {i j : Int} (hc : 0 < j) (ha : Ed X b e ρ (.int i)) (hb : Ed X b e2 ρ (.int j)) : Ed X b (.BinOp e .Mod e2 pos) ρ (.int (i % j)) := ev_opI op_mod ha hb fun _ _ h1 h2 => ⟨i, j, h1, h2, hc, rfl⟩
theorem ed_pow {i j : Int} (hc : CPow i j) (ha : Ed X b e ρ (.int i)) (hb : Ed X b e2 ρ (.int j)) : Ed X b (.BinOp e .Pow e2 pos) ρ (.int (i ^ j.toNat)) := ev_opI op_pow ha hb fun _ _ h1 h2 => ⟨i, j, h1, h2, hc, rfl⟩
theorem ed_neg {i : Int} (ha : Ed X b e ρ (.int i)) : Ed X b (.UnaryOp .USub e pos) ρ (.int (-i)) := by
  intro σ H ok Q q
  refine .of (pe_un un_neg peW) (ha σ H ok _ fun x H1 d s1 w1 r1 p1 => ?_)
  subst p1
  cases r1
  exact ⟨i, rfl, q _ H1 _ s1 w1 (.int _) rfl⟩
/-- tuple + tuple -/
def rCatF (K : PySem.W.Frag) : R2 := fun x y H Q => ∃ a c xs ys, x = .ref a ∧ y = .ref c ∧ SqT K H a xs ∧ SqT K H c ys ∧ xs.length + ys.length ≤ sizeLine ∧
  (xs = [] → Q y H) ∧ (ys = [] → Q x H) ∧ ∀ p o, o.dict = none → H p = none → Q (.ref p) (upd H p (.frz o (.tup (xs ++ ys))))
theorem op_catF : OpR X (binaryOp .Add) (rCatF X.K) := by
  rintro pins s σ H x y v u Q I rx ry ⟨a, c, xs, ys, rfl, rfl, ha, hc, hz, q0, q1, q2⟩
  cases rx
  cases ry
  obtain ⟨its, r1, p1, _⟩ := I.tuple ha
  obtain ⟨its2, r2, p2, _⟩ := I.tuple hc
  by_cases hx : xs = []
  · subst hx
    cases r1
    exact cat_tup0 p1 p2 ⟨.ref c, H, I, rfl, q0 rfl⟩
  · refine HT.cat_tup p1 p2 (fun z => hx (r1.nil_iff.mp z)) (fun z => ⟨.ref a, H, I, rfl, q1 (r2.nil_iff.mp z)⟩) (fun _ => ?_) (by rw [← r1.length, ← r2.length]; exact hz)
    exact tup_made I (r1.append r2) (by rw [List.length_append]; exact hz) q2
theorem ev_cat (ha : Ev X b e ρ Pa) (hb : Ev X b e2 ρ Pb) (h : ∀ d d2, Pa d → Pb d2 → ∃ ds ds2, d = .tuple ds ∧ d2 = .tuple ds2 ∧ ds.length + ds2.length ≤ 100000 ∧ P (.tuple (ds ++ ds2))) : Ev X b (.BinOp e .Add e2 pos) ρ P := by
  refine ev_op op_catF ha hb fun H x y d d2 Q w r1 r2 p1 p2 q => ?_
  obtain ⟨ds, ds2, rfl, rfl, hl, hp⟩ := h d d2 p1 p2
  cases r1 with
  | tup h1 t1 =>
    cases r2 with
    | tup h2 t2 =>
      refine ⟨_, _, _, _, rfl, rfl, h1.sq, h2.sq, by rw [t1.len, t2.len]; exact Nat.le_trans hl (by decide), fun z => ?_, fun z2 => ?_, fun p o ho hn => ?_⟩
      · have e1 := t1.nil_iff.mp z
        subst e1
        exact q _ H _ .refl w (.tup h2 t2) hp
      · have e2 := t2.nil_iff.mp z2
        subst e2
        rw [List.append_nil] at hp
        exact q _ H _ .refl w (.tup h1 t1) hp
      · exact q _ _ _ (.new hn) (w.upd (w.ne hn)) (.tup (.new ho) ((t1.app t2).keep (.new hn))) hp
theorem ed_cat {ds ds2 : List PyData} (ha : Ed X b e ρ (.tuple ds)) (hb : Ed X b e2 ρ (.tuple ds2)) (hl : ds.length + ds2.length ≤ 100000) : Ed X b (.BinOp e .Add e2 pos) ρ (.tuple (ds ++ ds2)) := ev_cat ha hb fun _ _ h1 h2 => ⟨ds, ds2, h1, h2, hl, rfl⟩
/-- list + list -/
theorem evl_cat {PA PB : List PyData → Prop} {PL : List PyData → Prop} (ha : EvR X b e ρ PA) (hb : EvR X b e2 ρ PB) (h : ∀ d d2, PA d → PB d2 → d.length + d2.length ≤ 100000 ∧ PL (d ++ d2)) : EvL X b (.BinOp e .Add e2 pos) ρ PL := by
  intro σ H ok Q q
  refine .of (pe_op op_cat peW peW) (ha σ H ok _ fun p H1 vs ds n1 s1 w1 h1 r1 p1 => ?_)
  refine hb σ H1 (ok.go s1 w1) _ fun p2 H2 vs2 ds2 n2 s2 w2 h2 r2 p2' => ?_
  obtain ⟨hl, hp⟩ := h ds ds2 p1 p2'
  refine ⟨p, p2, vs, vs2, rfl, rfl, s2 _ _ n1 h1, h2, by rw [r1.len, r2.len]; exact Nat.le_trans hl (by decide), fun t ht => ?_⟩
  exact q t _ _ _ ((s1.trans s2).fresh w2 ht) ((s1.trans s2).trans (.new ht)) (w2.upd (w2.ne ht)) upd_same (((r1.keep (kp_of s2 w1 w2)).app r2).keep (.new ht)) hp
/-- list * n -/
theorem evl_rep {PA : List PyData → Prop} {PL : List PyData → Prop} {n : Int} (ha : EvR X b e ρ PA) (hb : Ed X b e2 ρ (.int n)) (hn : 0 ≤ n ∧ n ≤ 100) (h : ∀ d, PA d → d.length ≤ 1000 ∧ PL (List.replicate n.toNat d).flatten) : EvL X b (.BinOp e .Mult e2 pos) ρ PL := by
  intro σ H ok Q q
  refine .of (pe_op op_rep peW peW) (ha σ H ok _ fun p H1 vs ds n1 s1 w1 h1 r1 p1 => ?_)
  refine hb σ H1 (ok.go s1 w1) _ fun y H2 d2 s2 w2 r2 p2 => ?_
  subst p2
  cases r2
  obtain ⟨hl, hp⟩ := h ds p1
  have h63 : n < 2 ^ 63 := by omega
  have hz : vs.length * n.toNat ≤ sizeLine := by
    have e1 := r1.len
    have : vs.length * n.toNat ≤ 1000 * 100 := Nat.mul_le_mul (by omega) (by omega)
    exact Nat.le_trans this (by decide)
  refine ⟨p, n, vs, rfl, rfl, s2 _ _ n1 h1, by omega, h63, hz, fun t ht => ?_⟩
  have rr : ∀ k, DnA (upd H2 t (.lst (List.replicate n.toNat vs).flatten)) (List.replicate k vs).flatten (List.replicate k ds).flatten := fun k => by
    induction k with
    | zero => exact .nil
    | succ k ih =>
      rw [List.replicate_succ, List.replicate_succ, List.flatten_cons, List.flatten_cons]
      exact ((r1.keep (kp_of s2 w1 w2)).keep (.new ht)).app ih
  exact q t _ _ _ ((s1.trans s2).fresh w2 ht) ((s1.trans s2).trans (.new ht)) (w2.upd (w2.ne ht)) upd_same (rr _) hp
/-! ### places -/
theorem atI_dn {H : Hp} {vs : List V} {ds : List PyData} {i : Int} {y : PyData} (r : DnA H vs ds) (h : atI ds i = some y) : ∃ v, atI vs i = some v ∧ Dn H v y := by
  unfold atI at h ⊢
  rw [r.len]
  cases e : ixN ds.length i with
  | none =>
    rw [e] at h
    cases h
  | some j =>
    rw [e] at h
    exact r.get h
theorem ev_ix (ha : Ev X b e ρ Pa) (hb : Ev X b e2 ρ Pb) (h : ∀ d d2, Pa d → Pb d2 → ∃ ds j y, d = .tuple ds ∧ d2 = .int j ∧ atI ds j = some y ∧ P y) (hs : PlainIx e2 := by exact fun _ _ => rfl) : Ev X b (.Subscript e e2 pos) ρ P := by
  intro σ H ok Q q
  refine .of (pe_ix ix_tup peW peW hs) (ha σ H ok _ fun x H1 d s1 w1 r1 p1 => ?_)
  refine hb σ H1 (ok.go s1 w1) _ fun y H2 d2 s2 w2 r2 p2 => ?_
  obtain ⟨ds, j, z, rfl, rfl, hz, hp⟩ := h d d2 p1 p2
  cases r2
  cases r1.keep (kp_of s2 w1 w2) with
  | tup h1 t1 =>
    obtain ⟨v, hv, rv⟩ := atI_dn t1 hz
    exact ⟨_, _, j, v, rfl, rfl, h1.sq, hv, q v H2 z (s1.trans s2) w2 rv hp⟩
theorem ed_ix {ds : List PyData} {j : Int} {y : PyData} (ha : Ed X b e ρ (.tuple ds)) (hb : Ed X b e2 ρ (.int j)) (h : atI ds j = some y) (hs : PlainIx e2 := by exact fun _ _ => rfl) : Ed X b (.Subscript e e2 pos) ρ y := ev_ix ha hb (fun _ _ h1 h2 => ⟨ds, j, y, h1, h2, h, rfl⟩) hs
theorem ev_ixL {PA : List PyData → Prop} (ha : EvR X b e ρ PA) (hb : Ev X b e2 ρ Pb) (h : ∀ ds d2, PA ds → Pb d2 → ∃ j y, d2 = .int j ∧ atI ds j = some y ∧ P y) (hs : PlainIx e2 := by exact fun _ _ => rfl) : Ev X b (.Subscript e e2 pos) ρ P := by
  intro σ H ok Q q
  refine .of (pe_ix ix_list peW peW hs) (ha σ H ok _ fun p H1 vs ds n1 s1 w1 h1 r1 p1 => ?_)
  refine hb σ H1 (ok.go s1 w1) _ fun y H2 d2 s2 w2 r2 p2 => ?_
  obtain ⟨j, z, rfl, hz, hp⟩ := h ds d2 p1 p2
  cases r2
  obtain ⟨v, hv, rv⟩ := atI_dn (r1.keep (kp_of s2 w1 w2)) hz
  exact ⟨_, _, j, v, rfl, rfl, SqL.of (s2 _ _ n1 h1), hv, q v H2 z (s1.trans s2) w2 rv hp⟩
/-- well[0 .. 3] -/
theorem ev_well {w : Addr} {j : Int} (hw : b.W = some w) (ha : EvS X b e ρ fun s => s = .o w) (hb : Ed X b e2 ρ (.int j)) (hj : 0 ≤ j ∧ j < 4) (h : ∀ i, P (.int i)) (hs : PlainIx e2 := by exact fun _ _ => rfl) : Ev X b (.Subscript e e2 pos) ρ P := by
  intro σ H ok Q q
  refine .of (pe_ix ix_list peW peW hs) (ha σ H ok _ fun x H1 s s1 w1 r1 p1 => ?_)
  subst p1
  cases (show x = .ref w from r1)
  refine hb σ H1 (ok.go s1 w1) _ fun y H2 d2 s2 w2 r2 p2 => ?_
  subst p2
  cases r2
  obtain ⟨a0, a1, a2, a3, q4⟩ := w2 w hw
  obtain ⟨k, hk, hk4⟩ : ∃ k : Nat, j = (k : Int) ∧ k < 4 := ⟨j.toNat, by omega, by omega⟩
  have : ∃ i : Int, ([V.int a0, .int a1, .int a2, .int a3] : List V)[k]? = some (.int i) := by
    match k, hk4 with
    | 0, _ => exact ⟨a0, rfl⟩
    | 1, _ => exact ⟨a1, rfl⟩
    | 2, _ => exact ⟨a2, rfl⟩
    | 3, _ => exact ⟨a3, rfl⟩
  obtain ⟨i, hi⟩ := this
  exact ⟨_, _, j, .int i, rfl, rfl, SqL.of q4, at_of hk hi, q _ H2 _ (s1.trans s2) w2 (.int i) (h i)⟩
/-! ### slices -/
/-- the data of ds[lo:hi] -/
def cutD (ds : List PyData) (lo hi : Option Int) : List PyData := (ds.drop (HT.sIx ds.length 0 lo)).take (HT.sIx ds.length ds.length hi - HT.sIx ds.length 0 lo)
theorem DnA.cut {H : Hp} {vs : List V} {ds : List PyData} (r : DnA H vs ds) (lo hi : Option Int) : DnA H (cutV vs lo hi) (cutD ds lo hi) := by
  unfold cutV cutD
  rw [r.len]
  exact (r.drop _).take _
/-- a part of a slice -/
def EvO (X : Cx) (b : Bs) (o : Option Expr) (ρ : Rho) (P : Option Int → Prop) : Prop := ∃ t : TO, PO X o t ∧ ∀ σ H, EnvOk b H σ ρ → ∀ Q : Option Int → Hp → Prop, (∀ i H', SB b.W H H' → Wl b.W H' → P i → Q i H') → t σ H Q
theorem evo_none : EvO X b none ρ fun i => i = none := ⟨_, po_none, fun σ H ok Q q => q none H .refl ok.wl rfl⟩
theorem evo_some {PO' : Option Int → Prop} (h : Ev X b e ρ Pa) (k : ∀ d, Pa d → ∃ i, d = .int i ∧ PO' (some i)) : EvO X b (some e) ρ PO' := by
  refine ⟨_, po_some peW, fun σ H ok Q q => h σ H ok _ fun v H1 d s1 w1 r1 p1 => ?_⟩
  obtain ⟨i, rfl, hp⟩ := k d p1
  cases r1
  exact ⟨i, rfl, q _ H1 s1 w1 hp⟩
theorem edo_some {i : Int} (h : Ed X b e ρ (.int i)) : EvO X b (some e) ρ fun o => o = some i := evo_some h fun d hd => ⟨i, hd, rfl⟩
/-- a tuple's slice -/
def rSlF (K : PySem.W.Frag) : V → Option Int → Option Int → Hp → VK → Prop := fun x lo hi H Q => ∃ a xs, x = .ref a ∧ SqT K H a xs ∧ (HT.sIx xs.length 0 lo = 0 ∧ HT.sIx xs.length xs.length hi = xs.length → Q x H) ∧ ∀ p o, o.dict = none → H p = none → Q (.ref p) (upd H p (.frz o (.tup (cutV xs lo hi))))
theorem sl_tupF : SlR X (rSlF X.K) := by
  rintro pins s σ H x v vl vu lo hi sl Q I rx hs pl pu ⟨a, xs, rfl, hx, q1, q2⟩
  cases rx
  obtain ⟨its, r, ht, hz⟩ := I.tuple hx
  have hl : its.toArray.size = xs.length := by rw [List.size_toArray, r.length]
  refine ⟨"tuple", _, PyProof.Rows.slot_tuple_getitem.lookup, ht.typeIs, ?_⟩
  by_cases hw : HT.sIx xs.length 0 lo = 0 ∧ HT.sIx xs.length xs.length hi = xs.length
  · exact getItem_tuple_whole ht hs pl pu (by rw [hl]; exact hw) ⟨.ref a, H, I, rfl, q1 hw⟩
  · refine HT.getItem_tuple_cut ht hs pl pu (by rw [hl]; exact hw) ?_ (by rw [hl]; exact hz)
    rw [hl]
    exact tup_made I ((r.drop _).take _) (Nat.le_trans (cutV_length xs lo hi) hz) q2
theorem ev_slice {lo hi : Option Expr} {p2 : Pos} {Pl Ph : Option Int → Prop} (ha : Ev X b e ρ Pa) (hl : EvO X b lo ρ Pl) (hh : EvO X b hi ρ Ph) (h : ∀ d l u, Pa d → Pl l → Ph u → ∃ ds, d = .tuple ds ∧ P (.tuple (cutD ds l u))) : Ev X b (.Subscript e (.Slice lo hi none p2) pos) ρ P := by
  obtain ⟨tl, pl, fl⟩ := hl
  obtain ⟨th, ph, fh⟩ := hh
  intro σ H ok Q q
  refine .of (pe_slice sl_tupF peW pl ph) (ha σ H ok _ fun x H1 d s1 w1 r1 p1 => ?_)
  refine fl σ H1 (ok.go s1 w1) _ fun l H2 s2 w2 p2' => ?_
  refine fh σ H2 ((ok.go s1 w1).go s2 w2) _ fun u H3 s3 w3 p3 => ?_
  obtain ⟨ds, rfl, hp⟩ := h d l u p1 p2' p3
  have r3 := (r1.keep (kp_of s2 w1 w2)).keep (kp_of s3 w2 w3)
  cases r3 with
  | tup h1 t1 =>
    refine ⟨_, _, rfl, h1.sq, fun z => ?_, fun p o ho hn => ?_⟩
    · have e1 : cutD ds l u = ds := by
        unfold cutD
        rw [← t1.len, z.1, z.2, t1.len]
        simp
      rw [e1] at hp
      exact q _ H3 _ ((s1.trans s2).trans s3) w3 (.tup h1 t1) hp
    · exact q _ _ _ (((s1.trans s2).trans s3).trans (.new hn)) (w3.upd (w3.ne hn)) (.tup (.new ho) ((t1.cut l u).keep (.new hn))) hp
theorem ed_slice {lo hi : Option Expr} {p2 : Pos} {ds : List PyData} {l u : Option Int} (ha : Ed X b e ρ (.tuple ds)) (hl : EvO X b lo ρ fun o => o = l) (hh : EvO X b hi ρ fun o => o = u) : Ed X b (.Subscript e (.Slice lo hi none p2) pos) ρ (.tuple (cutD ds l u)) :=
  ev_slice ha hl hh fun _ _ _ h1 h2 h3 => ⟨ds, h1, by rw [h2, h3]⟩
theorem evl_slice {lo hi : Option Expr} {p2 : Pos} {PA PL : List PyData → Prop} {Pl Ph : Option Int → Prop} (ha : EvR X b e ρ PA) (hl : EvO X b lo ρ Pl) (hh : EvO X b hi ρ Ph) (h : ∀ d l u, PA d → Pl l → Ph u → PL (cutD d l u)) : EvL X b (.Subscript e (.Slice lo hi none p2) pos) ρ PL := by
  obtain ⟨tl, pl, fl⟩ := hl
  obtain ⟨th, ph, fh⟩ := hh
  intro σ H ok Q q
  refine .of (pe_slice sl_list peW pl ph) (ha σ H ok _ fun p H1 vs d n1 s1 w1 h1 r1 p1 => ?_)
  refine fl σ H1 (ok.go s1 w1) _ fun l H2 s2 w2 p2' => ?_
  refine fh σ H2 ((ok.go s1 w1).go s2 w2) _ fun u H3 s3 w3 p3 => ?_
  have r3 := (r1.keep (kp_of s2 w1 w2)).keep (kp_of s3 w2 w3)
  refine ⟨p, vs, rfl, SqL.of (s3 _ _ n1 (s2 _ _ n1 h1)), fun t ht => ?_⟩
  have s4 := (s1.trans s2).trans s3
  exact q t _ _ _ (s4.fresh w3 ht) (s4.trans (.new ht)) (w3.upd (w3.ne ht)) upd_same ((r3.cut l u).keep (.new ht)) (h d l u p1 p2' p3)
theorem evl_rev {k : Nat} {p1 p2 p3 : Pos} {PA PL : List PyData → Prop} (ha : EvR X b e ρ PA) (h : ∀ d, PA d → PL d.reverse) : EvL X b (.Subscript e (.Slice none none (some (.UnaryOp .USub (.Constant (.int 1) k p1) p2)) p3) pos) ρ PL := by
  intro σ H ok Q q
  refine .of (pe_revL peW) (ha σ H ok _ fun p H1 vs d n1 s1 w1 h1 r1 p1' => ?_)
  refine ⟨p, vs, rfl, SqL.of h1, fun t ht => ?_⟩
  exact q t _ _ _ (s1.fresh w1 ht) (s1.trans (.new ht)) (w1.upd (w1.ne ht)) upd_same ((r1.rev).keep (.new ht)) (h d p1')
theorem cut_from (ds : List PyData) (k : Nat) : cutD ds (some (k : Int)) none = ds.drop k := by
  unfold cutD
  rw [HT.sIx_nat, HT.sIx_none]
  by_cases h : k ≤ ds.length
  · rw [Nat.min_eq_left h]
    exact List.take_of_length_le (by rw [List.length_drop]; exact Nat.le_refl _)
  · rw [Nat.min_eq_right (by omega), List.drop_of_length_le (Nat.le_refl _), List.drop_of_length_le (by omega)]
    simp
theorem cut_to (ds : List PyData) (k : Nat) : cutD ds none (some (k : Int)) = ds.take k := by
  unfold cutD
  rw [HT.sIx_nat, HT.sIx_none]
  by_cases h : k ≤ ds.length
  · rw [Nat.min_eq_left h]
    simp
  · rw [Nat.min_eq_right (by omega), List.take_of_length_le (by simp), List.take_of_length_le (by omega)]
    simp
/-! ### comparisons -/
/-- a comparison, as a value and as a test -/
def EvC (X : Cx) (b : Bs) (op : CmpOp) (e e2 : Expr) (ρ : Rho) (P : Bool → Prop) : Prop := ∃ r : R2, OpR X (compareOp op) r ∧ behindInMarks op e2 = false ∧
  ∀ σ H, EnvOk b H σ ρ → ∀ Q : VK, (∀ k H', SB b.W H H' → Wl b.W H' → P k → Q (.bl k) H') → tOp r (wE X e) (wE X e2) σ H Q
theorem EvC.v {op : CmpOp} {PB : Bool → Prop} (h : EvC X b op e e2 ρ PB) : Ev X b (.Compare e [op] [e2] pos) ρ fun d => ∃ k, d = .bool k ∧ PB k := by
  obtain ⟨r, ho, hm, f⟩ := h
  intro σ H ok Q q
  exact .of (pe_cmpR ho peW peW hm) (f σ H ok Q fun k H' s w p => q _ H' _ s w (.bl k) ⟨k, rfl, p⟩)
theorem EvC.t {op : CmpOp} {PB : Bool → Prop} (h : EvC X b op e e2 ρ PB) : EvT X b (.Compare e [op] [e2] pos) ρ PB := by
  obtain ⟨r, ho, hm, f⟩ := h
  intro σ H ok Q q
  exact .of (pt_cmpR ho peW peW hm) (f σ H ok _ fun k H' s w p => ⟨k, rfl, q k H' s w p⟩)
def EdC (X : Cx) (b : Bs) (op : CmpOp) (e e2 : Expr) (ρ : Rho) (k : Bool) : Prop := EvC X b op e e2 ρ fun x => x = k
theorem EdC.v {op : CmpOp} {k : Bool} (h : EdC X b op e e2 ρ k) : Ed X b (.Compare e [op] [e2] pos) ρ (.bool k) := (EvC.v h).imp fun d ⟨j, h1, h2⟩ => by rw [h1, h2]
theorem EdC.t {op : CmpOp} {k : Bool} (h : EdC X b op e e2 ρ k) : EdT X b (.Compare e [op] [e2] pos) ρ k := EvC.t h
theorem evc_of {op : CmpOp} {r : R2} {PB : Bool → Prop} (ho : OpR X (compareOp op) r) (hm : behindInMarks op e2 = false) (ha : Ev X b e ρ Pa) (hb : Ev X b e2 ρ Pb)
    (h : ∀ (H : Hp) (x y : V) (d d2 : PyData) (Q : VK), Wl b.W H → Dn H x d → Dn H y d2 → Pa d → Pb d2 → (∀ k, PB k → Q (.bl k) H) → r x y H Q) : EvC X b op e e2 ρ PB := by
  refine ⟨r, ho, hm, fun σ H ok Q q => ?_⟩
  refine ha σ H ok _ fun x H1 d s1 w1 r1 p1 => ?_
  refine hb σ H1 (ok.go s1 w1) _ fun y H2 d2 s2 w2 r2 p2 => ?_
  exact h H2 x y d d2 Q w2 (r1.keep (kp_of s2 w1 w2)) r2 p1 p2 fun k hk => q k H2 (s1.trans s2) w2 hk
theorem evc_I {op : CmpOp} {g : Int → Int → Bool} {PB : Bool → Prop} (ho : OpR X (compareOp op) (rI0 fun i j => .bl (g i j))) (hm : behindInMarks op e2 = false) (ha : Ev X b e ρ Pa) (hb : Ev X b e2 ρ Pb)
    (h : ∀ d d2, Pa d → Pb d2 → ∃ i j, d = .int i ∧ d2 = .int j ∧ PB (g i j)) : EvC X b op e e2 ρ PB := by
  refine evc_of ho hm ha hb fun H x y d d2 Q w r1 r2 p1 p2 q => ?_
  obtain ⟨i, j, rfl, rfl, hp⟩ := h d d2 p1 p2
  cases r1
  cases r2
  exact ⟨i, j, rfl, rfl, q _ hp⟩
theorem edc_lt {i j : Int} (ha : Ed X b e ρ (.int i)) (hb : Ed X b e2 ρ (.int j)) : EdC X b .Lt e e2 ρ (decide (i < j)) := evc_I op_lt (nomark _) ha hb fun _ _ h1 h2 => ⟨i, j, h1, h2, rfl⟩
theorem edc_le {i j : Int} (ha : Ed X b e ρ (.int i)) (hb : Ed X b e2 ρ (.int j)) : EdC X b .LtE e e2 ρ (decide (i ≤ j)) := evc_I op_le (nomark _) ha hb fun _ _ h1 h2 => ⟨i, j, h1, h2, rfl⟩
theorem edc_gt {i j : Int} (ha : Ed X b e ρ (.int i)) (hb : Ed X b e2 ρ (.int j)) : EdC X b .Gt e e2 ρ (decide (j < i)) := evc_I op_gt (nomark _) ha hb fun _ _ h1 h2 => ⟨i, j, h1, h2, rfl⟩
theorem edc_ge {i j : Int} (ha : Ed X b e ρ (.int i)) (hb : Ed X b e2 ρ (.int j)) : EdC X b .GtE e e2 ρ (decide (j ≤ i)) := evc_I op_ge (nomark _) ha hb fun _ _ h1 h2 => ⟨i, j, h1, h2, rfl⟩
/-- a datum of one kind, told by == -/
def sclD : PyData → PyData → Bool
  | .int _, .int _ => true
  | .str _, .str _ => true
  | .bool _, .bool _ => true
  | _, _ => false
def eqD : PyData → PyData → Bool
  | .int i, .int j => decide (i = j)
  | .str i, .str j => decide (i = j)
  | .bool i, .bool j => decide (i = j)
  | _, _ => false
theorem edc_eq {d d2 : PyData} (ha : Ed X b e ρ d) (hb : Ed X b e2 ρ d2) (hs : sclD d d2 = true) : EdC X b .Eq e e2 ρ (eqD d d2) := by
  refine evc_of op_eq (nomark _) ha hb fun H x y a c Q w r1 r2 p1 p2 q => ?_
  subst p1 p2
  cases r1 with
  | int i => cases r2 with
    | int j => exact ⟨rfl, by rw [show decide (V.int i = V.int j) = decide (i = j) by simp]; exact q _ rfl⟩
    | _ => cases hs
  | str i => cases r2 with
    | str j => exact ⟨rfl, by rw [show decide (V.str i = V.str j) = decide (i = j) by simp]; exact q _ rfl⟩
    | _ => cases hs
  | bl i => cases r2 with
    | bl j => exact ⟨rfl, by rw [show decide (V.bl i = V.bl j) = decide (i = j) by simp]; exact q _ rfl⟩
    | _ => cases hs
  | _ => cases hs
theorem edc_ne {d d2 : PyData} (ha : Ed X b e ρ d) (hb : Ed X b e2 ρ d2) (hs : sclD d d2 = true) : EdC X b .NotEq e e2 ρ (!eqD d d2) := by
  refine evc_of op_ne (nomark _) ha hb fun H x y a c Q w r1 r2 p1 p2 q => ?_
  subst p1 p2
  cases r1 with
  | int i => cases r2 with
    | int j => exact ⟨rfl, by rw [show decide (V.int i = V.int j) = decide (i = j) by simp]; exact q _ rfl⟩
    | _ => cases hs
  | str i => cases r2 with
    | str j => exact ⟨rfl, by rw [show decide (V.str i = V.str j) = decide (i = j) by simp]; exact q _ rfl⟩
    | _ => cases hs
  | bl i => cases r2 with
    | bl j => exact ⟨rfl, by rw [show decide (V.bl i = V.bl j) = decide (i = j) by simp]; exact q _ rfl⟩
    | _ => cases hs
  | _ => cases hs
/-! ### whole data: == -/
mutual
theorem Dn.dp {K : PySem.W.Frag} {H : Hp} : ∀ {v : V} {d : PyData}, Dn H v d → d.canLay0 = true → Dp K H v d
  | _, _, .non, _ => .non
  | _, _, .bl b, _ => .bl b
  | _, _, .int i, _ => .int i
  | _, _, .str x, _ => .str x
  | _, _, .tup h t, c => .tup h.sq (DnA.dp t (by simpa [PyData.canLay0] using c))
  | _, _, .oth _ _, c => by simp [PyData.canLay0] at c
theorem DnA.dp {K : PySem.W.Frag} {H : Hp} : ∀ {vs : List V} {ds : List PyData}, DnA H vs ds → PyData.canLayAll0 ds = true → DpAll K H vs ds
  | _, _, .nil, _ => .nil
  | _, d :: ds, .cons h t, c => by
    have c' : d.canLay0 = true ∧ PyData.canLayAll0 ds = true := by simpa [PyData.canLayAll0] using c
    exact .cons (Dn.dp h c'.1) (DnA.dp t c'.2)
end
theorem edc_eqD {d d2 : PyData} (hu : X.A.units + 64 < cLine) (ha : Ed X b e ρ d) (hb : Ed X b e2 ρ d2) (h1 : SeqAt.shaped d = true) (h2 : SeqAt.shaped d2 = true) : EdC X b .Eq e e2 ρ (PyData.eqv d d2) := by
  refine evc_of (op_eqD hu) (nomark _) ha hb fun H x y a c Q w r1 r2 p1 p2 q => ?_
  subst p1 p2
  exact ⟨_, _, r1.dp (SeqAt.canLay_of_shaped h1), r2.dp (SeqAt.canLay_of_shaped h2), h1, h2, q _ rfl⟩
theorem edc_neD {d d2 : PyData} (hu : X.A.units + 64 < cLine) (ha : Ed X b e ρ d) (hb : Ed X b e2 ρ d2) (h1 : SeqAt.shaped d = true) (h2 : SeqAt.shaped d2 = true) : EdC X b .NotEq e e2 ρ (!PyData.eqv d d2) := by
  refine evc_of (op_neD hu) (nomark _) ha hb fun H x y a c Q w r1 r2 p1 p2 q => ?_
  subst p1 p2
  exact ⟨_, _, r1.dp (SeqAt.canLay_of_shaped h1), r2.dp (SeqAt.canLay_of_shaped h2), h1, h2, q _ rfl⟩
/-! ### in a tuple of flat data -/
def flatD : PyData → Bool
  | .int _ => true
  | .str _ => true
  | _ => false
def inD (d : PyData) (ds : List PyData) : Bool := ds.any fun x => eqD x d
theorem flat_of {H : Hp} {v : V} {d : PyData} (r : Dn H v d) (h : flatD d = true) : flatV v = true := by
  cases r <;> first | rfl | cases h
theorem eqV_of {H : Hp} {v u : V} {d d2 : PyData} (r : Dn H v d) (r2 : Dn H u d2) (h : flatD d = true) (h2 : flatD d2 = true) : eqV v u = eqD d d2 := by
  cases r <;> first | cases h | skip
  all_goals (cases r2 <;> first | cases h2 | skip)
  all_goals first | rfl | (simp [eqV, eqD])
theorem inV_of {H : Hp} {v : V} {d : PyData} (r : Dn H v d) (h : flatD d = true) : ∀ {vs : List V} {ds : List PyData}, DnA H vs ds → ds.all flatD = true → vs.all flatV = true ∧ inV v vs = inD d ds
  | _, _, .nil, _ => ⟨rfl, rfl⟩
  | _, d2 :: ds2, .cons r2 t, c => by
    have c' : flatD d2 = true ∧ ds2.all flatD = true := by
      rw [List.all_cons] at c
      exact Bool.and_eq_true_iff.mp c
    obtain ⟨h1, h2⟩ := inV_of r h t c'.2
    refine ⟨?_, ?_⟩
    · rw [List.all_cons, flat_of r2 c'.1, h1]
      rfl
    · unfold inV inD at *
      rw [List.any_cons, List.any_cons, h2, eqV_of r2 r c'.1 h]
theorem edc_in {d : PyData} {ds : List PyData} (ha : Ed X b e ρ d) (hb : Ed X b e2 ρ (.tuple ds)) (h1 : flatD d = true) (h2 : ds.all flatD = true) (hm : behindInMarks .In e2 = false := by rfl) : EdC X b .In e e2 ρ (inD d ds) := by
  refine evc_of op_in_seq hm ha hb fun H x y a c Q w r1 r2 p1 p2 q => ?_
  subst p1 p2
  cases r2 with
  | tup h t =>
    obtain ⟨f1, f2⟩ := inV_of r1 h1 t h2
    exact ⟨_, _, rfl, .inr h.sq, flat_of r1 h1, f1, by rw [if_neg Bool.false_ne_true, f2]; exact q _ rfl⟩
theorem edc_nin {d : PyData} {ds : List PyData} (ha : Ed X b e ρ d) (hb : Ed X b e2 ρ (.tuple ds)) (h1 : flatD d = true) (h2 : ds.all flatD = true) (hm : behindInMarks .NotIn e2 = false := by rfl) : EdC X b .NotIn e e2 ρ (!inD d ds) := by
  refine evc_of op_notIn_seq hm ha hb fun H x y a c Q w r1 r2 p1 p2 q => ?_
  subst p1 p2
  cases r2 with
  | tup h t =>
    obtain ⟨f1, f2⟩ := inV_of r1 h1 t h2
    exact ⟨_, _, rfl, .inr h.sq, flat_of r1 h1, f1, by rw [if_pos rfl, f2]; exact q _ rfl⟩
/-- x in a list -/
theorem edc_inL {d : PyData} {ds : List PyData} (ha : Ed X b e ρ d) (hb : EvR X b e2 ρ fun z => z = ds) (h1 : flatD d = true) (h2 : ds.all flatD = true) (hm : behindInMarks .In e2 = false := by rfl) : EdC X b .In e e2 ρ (inD d ds) := by
  refine ⟨_, op_in_seq, hm, fun σ H ok Q q => ?_⟩
  refine ha σ H ok _ fun x H1 d' s1 w1 r1 p1 => ?_
  refine hb σ H1 (ok.go s1 w1) _ fun p H2 vs ds' n2 s2 w2 hl r2 p2 => ?_
  subst p1 p2
  obtain ⟨f1, f2⟩ := inV_of (r1.keep (kp_of s2 w1 w2)) h1 r2 h2
  exact ⟨_, _, rfl, .inl (SqL.of hl), flat_of r1 h1, f1, by rw [if_neg Bool.false_ne_true, f2]; exact q _ H2 (s1.trans s2) w2 rfl⟩
/-! ### tests, and, or, not -/
theorem edt_val {k : Bool} (h : Ed X b e ρ (.bool k)) (he : ∀ whole, isTrue e X.env whole = (do let v ← whole; standAt e.pos; holding [v] (truthy v)) := by intro _; rfl) : EdT X b e ρ k := by
  intro σ H ok Q q
  refine .of (pt_val peW he) (h σ H ok _ fun v H' d s w r p => ?_)
  subst p
  cases r
  exact ⟨k, rfl, q k H' s w rfl⟩
theorem evt_val {PB : Bool → Prop} (h : Ev X b e ρ fun d => ∃ k, d = .bool k ∧ PB k) (he : ∀ whole, isTrue e X.env whole = (do let v ← whole; standAt e.pos; holding [v] (truthy v)) := by intro _; rfl) : EvT X b e ρ PB := by
  intro σ H ok Q q
  refine .of (pt_val peW he) (h σ H ok _ fun v H' d s w r ⟨k, p1, p2⟩ => ?_)
  subst p1
  cases r
  exact ⟨k, rfl, q k H' s w p2⟩
def EdW (X : Cx) (b : Bs) (e : Expr) (ρ : Rho) (k : Bool) : Prop := EvW X b e ρ fun x => x = k
theorem EvW.t {PB : Bool → Prop} (h : EvW X b e ρ PB) : EvT X b e ρ PB := fun σ H ok Q q => fun pins s I => h σ H ok Q q (eval e X.env) pins s I
theorem EdW.t {k : Bool} (h : EdW X b e ρ k) : EdT X b e ρ k := EvW.t h
variable {a : Expr} {rest : List Expr} {k j : Bool} {PB PC : Bool → Prop}
theorem evw_and1 (h : EvT X b a ρ PB) : EvW X b (.BoolOp .And [a] pos) ρ PB := fun σ H ok Q q => .of (pw_and1 ptW) (h σ H ok Q q)
theorem evw_or1 (h : EvT X b a ρ PB) : EvW X b (.BoolOp .Or [a] pos) ρ PB := fun σ H ok Q q => .of (pw_or1 ptW) (h σ H ok Q q)
theorem evw_and {PD : Bool → Prop} (h : EvT X b a ρ PB) (hr : PB true → EvW X b (.BoolOp .And (e :: rest) pos) ρ PC) (h1 : ∀ k, PB true → PC k → PD k) (h2 : PB false → PD false) : EvW X b (.BoolOp .And (a :: e :: rest) pos) ρ PD := by
  intro σ H ok Q q
  refine .of (pw_and ptW pwW) (h σ H ok _ fun k H1 s1 w1 p1 => ?_)
  cases k with
  | true => exact iteT (hr p1 σ H1 (ok.go s1 w1) Q fun j H2 s2 w2 p2 => q j H2 (s1.trans s2) w2 (h1 j p1 p2))
  | false => exact iteF (q false H1 s1 w1 (h2 p1))
theorem evw_or {PD : Bool → Prop} (h : EvT X b a ρ PB) (hr : PB false → EvW X b (.BoolOp .Or (e :: rest) pos) ρ PC) (h1 : ∀ k, PB false → PC k → PD k) (h2 : PB true → PD true) : EvW X b (.BoolOp .Or (a :: e :: rest) pos) ρ PD := by
  intro σ H ok Q q
  refine .of (pw_or ptW pwW) (h σ H ok _ fun k H1 s1 w1 p1 => ?_)
  cases k with
  | false => exact iteF (hr p1 σ H1 (ok.go s1 w1) Q fun j H2 s2 w2 p2 => q j H2 (s1.trans s2) w2 (h1 j p1 p2))
  | true => exact iteT (q true H1 s1 w1 (h2 p1))
theorem edw_and1 (h : EdT X b a ρ k) : EdW X b (.BoolOp .And [a] pos) ρ k := evw_and1 h
theorem edw_or1 (h : EdT X b a ρ k) : EdW X b (.BoolOp .Or [a] pos) ρ k := evw_or1 h
theorem edw_and (h : EdT X b a ρ k) (hr : k = true → EdW X b (.BoolOp .And (e :: rest) pos) ρ j) : EdW X b (.BoolOp .And (a :: e :: rest) pos) ρ (k && j) :=
  evw_and h (fun z => hr z.symm) (fun i h1 h2 => by rw [h2, ← h1]; rfl) fun h1 => by rw [← h1]; rfl
theorem edw_or (h : EdT X b a ρ k) (hr : k = false → EdW X b (.BoolOp .Or (e :: rest) pos) ρ j) : EdW X b (.BoolOp .Or (a :: e :: rest) pos) ρ (k || j) :=
  evw_or h (fun z => hr z.symm) (fun i h1 h2 => by rw [h2, ← h1]; rfl) fun h1 => by rw [← h1]; rfl
theorem evt_not {PD : Bool → Prop} (h : EvT X b a ρ PB) (h1 : ∀ k, PB k → PD (!k)) : EvT X b (.UnaryOp .Not a pos) ρ PD := fun σ H ok Q q => .of (pt_not ptW) (h σ H ok _ fun k H1 s1 w1 p1 => q (!k) H1 s1 w1 (h1 k p1))
theorem edt_not (h : EdT X b a ρ k) : EdT X b (.UnaryOp .Not a pos) ρ (!k) := evt_not h fun z hz => by rw [hz]
/-- as values -/
theorem ed_one {op} {d : PyData} (h : Ed X b a ρ d) : Ed X b (.BoolOp op [a] pos) ρ d := fun σ H ok Q q => .of (pe_one peW) (h σ H ok Q q)
theorem ed_and (h : Ed X b a ρ (.bool k)) (hr : k = true → Ed X b (.BoolOp .And (e :: rest) pos) ρ (.bool j)) : Ed X b (.BoolOp .And (a :: e :: rest) pos) ρ (.bool (k && j)) := by
  intro σ H ok Q q
  refine .of (pe_and peW peW) (h σ H ok _ fun v H1 d s1 w1 r1 p1 => ?_)
  subst p1
  cases r1
  refine ⟨k, rfl, ?_⟩
  cases k with
  | true => exact iteT (hr rfl σ H1 (ok.go s1 w1) Q fun v H2 d s2 w2 r2 p2 => q v H2 d (s1.trans s2) w2 r2 p2)
  | false => exact iteF (q _ H1 _ s1 w1 (.bl false) rfl)
theorem ed_or (h : Ed X b a ρ (.bool k)) (hr : k = false → Ed X b (.BoolOp .Or (e :: rest) pos) ρ (.bool j)) : Ed X b (.BoolOp .Or (a :: e :: rest) pos) ρ (.bool (k || j)) := by
  intro σ H ok Q q
  refine .of (pe_or peW peW) (h σ H ok _ fun v H1 d s1 w1 r1 p1 => ?_)
  subst p1
  cases r1
  refine ⟨k, rfl, ?_⟩
  cases k with
  | false => exact iteF (hr rfl σ H1 (ok.go s1 w1) Q fun v H2 d s2 w2 r2 p2 => q v H2 d (s1.trans s2) w2 r2 p2)
  | true => exact iteT (q _ H1 _ s1 w1 (.bl true) rfl)
theorem ed_not (h : Ed X b a ρ (.bool k)) : Ed X b (.UnaryOp .Not a pos) ρ (.bool (!k)) := by
  intro σ H ok Q q
  refine .of (pe_not peW) (h σ H ok _ fun v H1 d s1 w1 r1 p1 => ?_)
  subst p1
  cases r1
  exact ⟨k, rfl, q _ H1 _ s1 w1 (.bl _) rfl⟩
/-- a if t else c -/
theorem ev_if (h : EvT X b c ρ PB) (h1 : PB true → Ev X b e ρ P) (h2 : PB false → Ev X b e2 ρ P) : Ev X b (.IfExp c e e2 pos) ρ P := by
  intro σ H ok Q q
  refine .of (pe_ifExp ptW peW peW) (h σ H ok _ fun k H1 s1 w1 p1 => ?_)
  cases k with
  | true => exact iteT (h1 p1 σ H1 (ok.go s1 w1) Q fun v H2 d s2 w2 r2 p2 => q v H2 d (s1.trans s2) w2 r2 p2)
  | false => exact iteF (h2 p1 σ H1 (ok.go s1 w1) Q fun v H2 d s2 w2 r2 p2 => q v H2 d (s1.trans s2) w2 r2 p2)
theorem ed_if {d d2 : PyData} (h : EdT X b c ρ k) (h1 : k = true → Ed X b e ρ d) (h2 : k = false → Ed X b e2 ρ d2) : Ed X b (.IfExp c e e2 pos) ρ (if k then d else d2) :=
  ev_if h (fun z => (h1 z.symm).imp fun x hx => by rw [hx, ← z]; rfl) fun z => (h2 z.symm).imp fun x hx => by rw [hx, ← z]; rfl
end
end Lay
/-! PA3 -/
/-! the data layer, part 3: defs of the text and their promises over data; calls; statements -/
namespace Lay
open PySem PySem.Spec PyProof.Rows L2
/-! ### statements -/
def Exs (X : Cx) (ss : List Stmt) (σ : L2.St) (H : Hp) (D : Ends) : Prop := ∀ (pins : List (Addr × Obj)) (s : Shared), Inv X pins σ H s → wpAny (model X.prog X.w) X.A (execs ss X.env) (SP X pins D) X.xe s
def wB (X : Cx) (ss : List Stmt) : TS := fun D σ H => Exs X ss σ H D
theorem pbW {X : Cx} {ss : List Stmt} : PSs X ss (wB X ss) := ⟨fun pins s _ _ _ I h => h pins s I⟩
theorem Exs.of {X : Cx} {ss : List Stmt} {t : TS} {σ : L2.St} {H : Hp} {D : Ends} (h : PSs X ss t) (q : t D σ H) : Exs X ss σ H D := fun pins s I => h.run pins s σ H D I q
def Exo (X : Cx) (st : Stmt) (σ : L2.St) (H : Hp) (D : Ends) : Prop := ∀ (pins : List (Addr × Obj)) (s : Shared), Inv X pins σ H s → wpAny (model X.prog X.w) X.A (exec st X.env) (SP X pins D) X.xe s
def wO (X : Cx) (st : Stmt) : TS := fun D σ H => Exo X st σ H D
theorem poW {X : Cx} {st : Stmt} : PS X st (wO X st) := ⟨fun pins s _ _ _ I h => h pins s I⟩
theorem Exo.of {X : Cx} {st : Stmt} {t : TS} {σ : L2.St} {H : Hp} {D : Ends} (h : PS X st t) (q : t D σ H) : Exo X st σ H D := fun pins s I => h.run pins s σ H D I q
/-! ### a def's promise, known where no repr is under way -/
structure Fok (P : Program) (w : World) (K : PySem.W.Frag) (mg : Str → Option Value) (base : Heap) (k : Nat) (f : Addr) (fd : FuncData) (ps : List Str) (sp : List V → Hp → VK → Prop) : Prop where
  len : ∀ vs H Q, sp vs H Q → vs.length = ps.length
  run : ∀ (A : Around) (outer : List Env) (s : Shared) (H : Hp) (args : Args) (us : List Value) (vs : List V) (Q : VK), Room k A → A.guards = some [] → Env0 P w K mg base A outer s H → BindsTo s fd args (ps.zip us) → Vals vs us → sp vs H Q →
    codeAny (model P w) A (.call (.ref f) args) (fun r s' => ∃ u, r = .ok (.ret u) ∧ CE outer P w H s Q u s') s
section
variable {P : Program} {w : World} {K : PySem.W.Frag} {mg : Str → Option Value} {base : Heap} {k : Nat} {f : Addr} {fd : FuncData} {ps : List Str} {sp sp' : List V → Hp → VK → Prop}
theorem Fok.mono {j : Nat} (F : Fok P w K mg base j f fd ps sp) (h : j ≤ k) : Fok P w K mg base k f fd ps sp := ⟨F.len, fun A outer s H args us vs Q hr => F.run A outer s H args us vs Q (hr.mono h)⟩
theorem Fok.imp (F : Fok P w K mg base k f fd ps sp) (h : ∀ vs H Q, sp' vs H Q → sp vs H Q) : Fok P w K mg base k f fd ps sp' :=
  ⟨fun vs H Q q => F.len vs H Q (h _ _ _ q), fun A outer s H args us vs Q hr hg he hb hv hs => F.run A outer s H args us vs Q hr hg he hb hv (h _ _ _ hs)⟩
/-- the context of a def's body -/
abbrev bodyX (P : Program) (w : World) (K : PySem.W.Frag) (mg : Str → Option Value) (base : Heap) (N : List Str) (qual : Str) (scope : Scope) (f : Addr) (cd : Value) (A : Around) (outer : List Env) (s : Shared) (H : Hp) : Cx :=
  (cxOf CX0 P w K mg base N qual scope f cd A outer s H E0).nox
theorem fok_of {x qual : Str} {params : Arguments} {body : List Stmt} {scope : Scope} {dvs : List V} {kws : List (Str × V)} {N : List Str} (F : FunD K x qual params body scope dvs kws f fd) (S : FnScope N ps scope) (len : ∀ vs H Q, sp vs H Q → vs.length = ps.length)
    (hbody : ∀ (cdv : Value) (A : Around) (outer : List Env) (s : Shared) (H : Hp) (vs : List V) (Q : VK), Room k (A.deeper (envOfC qual scope s.heap.objs.size f cdv)) → A.guards = some [] → sp vs H Q →
      Exs (bodyX P w K mg base N qual scope f cdv A outer s H) body (L2.start N vs) H { nx := fun _ H' => Q .non H', rt := Q }) : Fok P w K mg base (k + 1) f fd ps sp := by
  obtain ⟨oc, od, dV, kV, doc, pm, an, cdv, ct, osl, rfl, lk, hcd, _, _⟩ := F.ex
  refine ⟨len, fun A outer s H args us vs Q room quiet here binds vals prom => ?_⟩
  have in_ : K.In s.heap := here.mod.kin.keeps fun b o e => (here.bs b o e).1
  have free_ : s.heap.NoLimit := here.mod.nolimit.keeps fun b o e => (here.bs b o e).1
  have parts : ∀ y ∈ ps.zip us, scope.names.lookup y.1 = some .local ∨ (scope.names.lookup y.1 = some .cell ∧ ((cellsFrom (s.heap.objs.size + 1) scope.names []).lookup y.1).isSome = true) := by
    rintro ⟨n, v⟩ hy
    cases S.par n (List.of_mem_zip hy).1 with
    | inl q => exact .inl q
    | inr q => exact .inr ⟨q, PySem.W.cellsFrom_some _ _ _ (.inl q)⟩
  have rec_ := PySem.W.codeRec_of in_ hcd
  refine codeAny_call_function room.depth (in_ _ _ lk) rfl S.co S.gen rfl rec_ ?_
  refine binds _ _ _ _ ?_
  refine wpAny_newFunctionEnv_cells S.kind parts fun env he s1 x => ?_
  cases he
  refine ⟨free_.keeps x.toInCall.keep, codeAny_func ?_⟩
  have I0 := inv_start (CX := CX0) (E := E0) S room.hd here (len _ _ _ prom) vals x
  have go := hbody cdv A outer s H vs Q (room.deeper _) quiet prom [] s1 (I0.wish _)
  refine wpAny_mono go (fun fl s' hs => ?_) fun e s' hs => False.elim hs
  cases fl with
  | brk =>
    obtain ⟨_, _, _, q⟩ := hs
    cases q
  | cont =>
    obtain ⟨_, _, _, q⟩ := hs
    cases q
  | next =>
    obtain ⟨σ', H', J, q⟩ := hs
    exact ⟨_, rfl, V.non, H', J.os, J.bare, J.base, J.hok, rfl, q⟩
  | ret u =>
    obtain ⟨v, σ', H', J, rv, q⟩ := hs
    exact ⟨u, rfl, v, H', J.os, J.bare, J.base, J.hok, rv, q⟩
end
/-! ### promises over data -/
/-- asked: the arguments are those of a thing a with pre (of the well, too); told: a datum with post, all but the well as it was -/
def Pr {α : Type} (enc : α → List S) (pre : Option Addr → α → Prop) (post : α → PyData → Prop) : List V → Hp → VK → Prop := fun vs H Q =>
  ∃ W a, SvA W H vs (enc a) ∧ Wl W H ∧ pre W a ∧ ∀ v H' d, SB W H H' → Wl W H' → Dn H' v d → post a d → Q v H'
/-- a def of the text by name: what it promises, at level k -/
structure Kn (P : Program) (w : World) (K : PySem.W.Frag) (mg : Str → Option Value) (base : Heap) (x : Str) (k : Nat) (ps : List Str) {α : Type} (enc : α → List S) (pre : Option Addr → α → Prop) (post : α → PyData → Prop) : Prop where
  ex : ∃ f fd, Fok P w K mg base k f fd ps (Pr enc pre post) ∧ mg x = some (.ref f) ∧ PySem.W.keepIn K (.ref f) = true ∧ Binds K fd ps [] ∧ ∃ o, K.lookup f = some o ∧ o.data = .func fd
section
variable {P : Program} {w : World} {K : PySem.W.Frag} {mg : Str → Option Value} {base : Heap} {x : Str} {k : Nat} {ps : List Str} {α β : Type} {enc : α → List S} {enc' : β → List S} {pre : Option Addr → α → Prop} {pre' : Option Addr → β → Prop} {post : α → PyData → Prop} {post' : β → PyData → Prop}
theorem Kn.mono {j : Nat} (h : Kn P w K mg base x j ps enc pre post) (hj : j ≤ k) : Kn P w K mg base x k ps enc pre post := by
  obtain ⟨f, fd, F, r⟩ := h.ex
  exact ⟨f, fd, F.mono hj, r⟩
theorem Kn.imp (h : Kn P w K mg base x k ps enc pre post) (hp : ∀ W y, pre' W y → ∃ a, enc' y = enc a ∧ pre W a ∧ ∀ d, post a d → post' y d) : Kn P w K mg base x k ps enc' pre' post' := by
  obtain ⟨f, fd, F, r⟩ := h.ex
  refine ⟨f, fd, F.imp fun vs H Q ⟨W, y, h1, h2, h3, h4⟩ => ?_, r⟩
  obtain ⟨a, e, pa, q⟩ := hp W y h3
  exact ⟨W, a, by rw [← e]; exact h1, h2, pa, fun v H' d s w' r p => h4 v H' d s w' r (q d p)⟩
/-- the start of a frame -/
theorem start_ok {W : Option Addr} {H : Hp} {N : List Str} {vs : List V} {ss : List S} (h : SvA W H vs ss) (hw : Wl W H) (hm : ∀ s ∈ ss, ∀ ds, s ≠ .c true ds) (hn : ss.length ≤ N.length) : EnvOk ⟨W, H⟩ H (L2.start N vs) (ss.map some ++ List.replicate (N.length - ss.length) none) := by
  have hl : vs.length = ss.length := h.len
  have own : ∀ (i : Nat) (ds : Ct), (ss.map some ++ List.replicate (N.length - ss.length) none)[i]? ≠ some (some (.c true ds)) := by
    intro i ds e
    by_cases hi : i < ss.length
    · rw [List.getElem?_append_left (by simpa using hi), List.getElem?_map] at e
      cases e1 : ss[i]? with
      | none => rw [e1] at e; cases e
      | some s =>
        rw [e1] at e
        cases e
        exact hm _ (List.mem_of_getElem? e1) ds rfl
    · rw [List.getElem?_append_right (by simpa using hi), List.getElem?_replicate] at e
      split at e <;> cases e
  refine ⟨.refl, hw, hw, ?_, fun i s e => ?_, fun i ds p e _ => (own i ds e).elim, fun i j ds m es p _ e _ _ _ => (own i ds e).elim⟩
  · unfold L2.start
    simp [hl]
  · by_cases hi : i < ss.length
    · rw [List.getElem?_append_left (by simpa using hi), List.getElem?_map] at e
      cases e1 : ss[i]? with
      | none => rw [e1] at e; cases e
      | some s' =>
        rw [e1] at e
        cases e
        have : ∀ {vs : List V} {ss : List S} {i : Nat} {s : S}, SvA W H vs ss → ss[i]? = some s → ∃ v, vs[i]? = some v ∧ Sv W H v s := by
          intro vs ss i s r
          induction r generalizing i with
          | nil => intro z; simp at z
          | cons a t ih =>
            intro z
            cases i with
            | zero =>
              simp at z
              subst z
              exact ⟨_, rfl, a⟩
            | succ i =>
              obtain ⟨v, q1, q2⟩ := ih (i := i) (by simpa using z)
              exact ⟨v, by simpa using q1, q2⟩
        obtain ⟨v, q1, q2⟩ := this h e1
        refine ⟨v, ?_, q2⟩
        unfold L2.start
        rw [List.getElem?_append_left (by rw [List.length_map, hl]; exact hi), List.getElem?_map, q1]
        rfl
    · rw [List.getElem?_append_right (by simpa using hi), List.getElem?_replicate] at e
      split at e <;> cases e
end
/-! ### calls -/
section
variable {X : Cx} {b : Bs} {e e2 c : Expr} {es : List Expr} {ρ : Rho} {PP Pa Pb : PyData → Prop} {pos p : Pos} {x : Str} {k : Nat} {ps : List Str} {α : Type} {enc : α → List S} {pre : Option Addr → α → Prop} {post : α → PyData → Prop} {PA : List S → Prop}
theorem run_fok {f : Addr} {fd : FuncData} {sp : List V → Hp → VK → Prop} {pins : List (Addr × Obj)} {σ : L2.St} {H : Hp} {s : Shared} {Q : VK} {args : Args} {us : List Value} {vs : List V} (F : Fok X.prog X.w X.K X.mg X.base k f fd ps sp) (hr : Room k X.A) (hq : X.A.guards = some [])
    (I : Inv X pins σ H s) (hb : BindsTo s fd args (ps.zip us)) (r : Vals vs us) (h : sp vs H Q) : codeAny (model X.prog X.w) X.A (.call (.ref f) args) (fun z s' => ∃ u, z = .ok (.ret u) ∧ EP X pins σ Q u s') s :=
  codeAny_mono (F.run X.A X.stack s H args us vs Q hr hq I.env0 hb r h) fun z s' ⟨u, h1, h2⟩ => ⟨u, h1, I.after h2⟩
/-- f(e, ..) of a def of the text -/
theorem ev_call (F : Kn X.prog X.w X.K X.mg X.base x k ps enc pre post) (hr : Room k X.A) (hq : X.A.guards = some []) (hg : Gl X x) (ha : EvA X b (e :: es) ρ PA) (hp : ∀ ss, PA ss → ∃ a, ss = enc a ∧ pre b.W a ∧ ∀ d, post a d → PP d)
    (hdb : (x == ("__debug__" : Str)) = false := by decide) (he : starEach (e :: es) X.env = (false, eval e X.env) :: starEach es X.env := by rfl) (hpl : (backTo pos (starEach es X.env)).any (·.1) = false := by rfl) :
    Ev X b (.Call (.Name x p) (e :: es) [] pos) ρ PP := by
  obtain ⟨f, fd, G, hm, hk, hb, _⟩ := F.ex
  intro σ H ok Q q pins s I
  refine wpAny_Call_Name_kw (ld_glob I hg hm ?_ hdb)
  refine PySem.W.callWith_K (h₀ := X.base) I.ok.mod.kin hk ?_ he hpl
  refine thn (ha σ H ok (fun vs H1 => Pr enc pre post vs H1 Q) (fun vs H1 ss s1 w1 r1 p1 => ?_) pos pins s I) fun us s1 ⟨vs, H1, I1, r, pr⟩ => ⟨I1.kIn, ?_⟩
  · obtain ⟨a, ea, pa, h⟩ := hp ss p1
    exact ⟨b.W, a, by rw [← ea]; exact r1, w1, pa, fun v H' d s2 w2 rv pv => q v H' d (s1.trans s2) w2 rv (h d pv)⟩
  · have hl : us.length = ps.length := by rw [← r.length]; exact G.len _ _ _ pr
    have hbd := hb s1 us I1.kIn (by rw [List.append_nil]; exact hl)
    rw [List.append_nil] at hbd
    refine wpAny_call (codeAny_mono (run_fok G hr hq I1 hbd r pr) fun z s' ⟨u, h1, h2⟩ => ?_)
    subst h1
    exact h2
theorem ed_call (a : α) {d : PyData} (F : Kn X.prog X.w X.K X.mg X.base x k ps enc pre post) (hr : Room k X.A) (hq : X.A.guards = some []) (hg : Gl X x) (ha : EdA X b (e :: es) ρ (enc a)) (hp : pre b.W a) (h : ∀ y, post a y → y = d)
    (hdb : (x == ("__debug__" : Str)) = false := by decide) (he : starEach (e :: es) X.env = (false, eval e X.env) :: starEach es X.env := by rfl) (hpl : (backTo pos (starEach es X.env)).any (·.1) = false := by rfl) :
    Ed X b (.Call (.Name x p) (e :: es) [] pos) ρ d := ev_call F hr hq hg ha (fun z hz => ⟨a, hz, hp, h⟩) hdb he hpl
end
end Lay
/-! PA4 -/
/-! the data layer, part 4: blocks, what is walked, loops, comprehensions -/
namespace Lay
open PySem L2
/-! ### from one point of a frame to a later one -/
/-- p is the list of an own name -/
def Own (ρ : Rho) (σ : L2.St) (p : Addr) : Prop := ∃ (i : Nat) (ds : Ct), ρ[i]? = some (some (S.c true ds)) ∧ σ[i]? = some (some (V.ref p))
structure Go (b : Bs) (ρ : Rho) (σ : L2.St) (H : Hp) (ρ' : Rho) (σ' : L2.St) (H' : Hp) : Prop where
  kp : Kp H H'
  st : ∀ p o, b.W ≠ some p → H p = some o → ¬ Own ρ σ p → H' p = some o
  ow : ∀ p, Own ρ' σ' p → H p = none ∨ Own ρ σ p
section
variable {b : Bs} {ρ ρ' ρ2 : Rho} {σ σ' σ2 : L2.St} {H H' H2 : Hp} {v : V} {d : PyData} {i : Nat}
theorem Go.refl : Go b ρ σ H ρ σ H := ⟨.refl, fun _ _ _ e _ => e, fun _ h => .inr h⟩
theorem Go.trans (w : Wl b.W H') (x : Go b ρ σ H ρ' σ' H') (y : Go b ρ' σ' H' ρ2 σ2 H2) : Go b ρ σ H ρ2 σ2 H2 := by
  refine ⟨x.kp.trans y.kp, fun p o hw e hn => ?_, fun p h => ?_⟩
  · refine y.st p o hw (x.st p o hw e hn) fun h => ?_
    rcases x.ow p h with z | z
    · rw [e] at z
      cases z
    · exact hn z
  · rcases y.ow p h with z | z
    · by_cases hw : b.W = some p
      · obtain ⟨_, _, _, _, q⟩ := w p hw
        rw [q] at z
        cases z
      · by_cases ho : Own ρ σ p
        · exact .inr ho
        · refine .inl ?_
          cases e : H p with
          | none => rfl
          | some o =>
            rw [x.st p o hw e ho] at z
            cases z
    · exact x.ow p z
theorem Go.sb (w : Wl b.W H) (w' : Wl b.W H') (s : SB b.W H H') : Go b ρ σ H ρ σ H' := ⟨kp_of s w w', fun p o hw e _ => s p o hw e, fun _ h => .inr h⟩
/-- a name takes a datum -/
theorem EnvOk.setD (ok : EnvOk b H σ ρ) (r : Dn H v d) : EnvOk b H (σ.set i (some v)) (ρ.set i (some (.d d))) := by
  have no : ∀ {j : Nat} {m : Bool} {ds : Ct}, (ρ.set i (some (.d d)))[j]? = some (some (.c m ds)) → j ≠ i ∧ ρ[j]? = some (some (.c m ds)) := fun {j m ds} e => by
    by_cases hj : j = i
    · subst hj
      by_cases hl : j < ρ.length
      · rw [List.getElem?_set_self hl] at e
        cases e
      · rw [List.getElem?_eq_none (by simpa using hl)] at e
        cases e
    · rw [List.getElem?_set_ne (Ne.symm hj)] at e
      exact ⟨hj, e⟩
  refine ⟨ok.base, ok.wl0, ok.wl, by rw [List.length_set, List.length_set]; exact ok.len, fun j s e => ?_, fun j ds p e e2 => ?_, fun j k ds m es p hjk e1 e2 e3 => ?_⟩
  · by_cases hj : j = i
    · subst hj
      by_cases hl : j < ρ.length
      · rw [List.getElem?_set_self hl] at e
        cases e
        exact ⟨v, List.getElem?_set_self (by rw [ok.len]; exact hl), r⟩
      · rw [List.getElem?_eq_none (by simpa using hl)] at e
        cases e
    · rw [List.getElem?_set_ne (Ne.symm hj)] at e
      rw [List.getElem?_set_ne (Ne.symm hj)]
      exact ok.at_ j s e
  · obtain ⟨n, q⟩ := no e
    rw [List.getElem?_set_ne (Ne.symm n)] at e2
    exact ok.own j ds p q e2
  · obtain ⟨n1, q1⟩ := no e1
    obtain ⟨n2, q2⟩ := no e2
    rw [List.getElem?_set_ne (Ne.symm n1)] at e3
    rw [List.getElem?_set_ne (Ne.symm n2)]
    exact ok.inj j k ds m es p hjk q1 q2 e3
theorem Go.setD (i : Nat) (v : V) (d : PyData) : Go b ρ σ H (ρ.set i (some (.d d))) (σ.set i (some v)) H := by
  refine ⟨.refl, fun _ _ _ e _ => e, fun p ⟨j, ds, e, e2⟩ => .inr ?_⟩
  by_cases hj : j = i
  · subst hj
    by_cases hl : j < ρ.length
    · rw [List.getElem?_set_self hl] at e
      cases e
    · rw [List.getElem?_eq_none (by simpa using hl)] at e
      cases e
  · rw [List.getElem?_set_ne (Ne.symm hj)] at e e2
    exact ⟨j, ds, e, e2⟩
/-- a name takes a new list -/
theorem EnvOk.setC {p : Addr} {ds : Ct} (ok0 : EnvOk b H σ ρ) (ok : EnvOk b H' σ ρ) (hn : H p = none) (r : CtOk H' p ds) : EnvOk b H' (σ.set i (some (.ref p))) (ρ.set i (some (.c true ds))) := by
  have hw : b.W ≠ some p := ok0.wl.ne hn
  have far : ∀ {j : Nat} {m : Bool} {es : Ct}, ρ[j]? = some (some (.c m es)) → σ[j]? ≠ some (some (.ref p)) := fun {j m es} e z => by
    obtain ⟨v, e1, p', e2, _, e4⟩ := ok0.at_ j _ e
    obtain ⟨o3, e3⟩ := e4.has
    rw [z] at e1
    cases e1
    cases e2
    rw [hn] at e3
    cases e3
  have cas : ∀ {j : Nat} {s : S}, (ρ.set i (some (.c true ds)))[j]? = some (some s) → (j = i ∧ s = .c true ds ∧ j < σ.length) ∨ (j ≠ i ∧ ρ[j]? = some (some s)) := fun {j s} e => by
    by_cases hj : j = i
    · subst hj
      by_cases hl : j < ρ.length
      · rw [List.getElem?_set_self hl] at e
        cases e
        exact .inl ⟨rfl, rfl, by rw [ok.len]; exact hl⟩
      · rw [List.getElem?_eq_none (by simpa using hl)] at e
        cases e
    · rw [List.getElem?_set_ne (Ne.symm hj)] at e
      exact .inr ⟨hj, e⟩
  refine ⟨ok.base, ok.wl0, ok.wl, by rw [List.length_set, List.length_set]; exact ok.len, fun j s e => ?_, fun j es q e e2 => ?_, fun j k es m fs q hjk e1 e2 e3 => ?_⟩
  · rcases cas e with ⟨rfl, rfl, hl⟩ | ⟨hj, e⟩
    · exact ⟨_, List.getElem?_set_self hl, p, rfl, hw, r⟩
    · rw [List.getElem?_set_ne (Ne.symm hj)]
      exact ok.at_ j s e
  · rcases cas e with ⟨rfl, _, hl⟩ | ⟨hj, e⟩
    · rw [List.getElem?_set_self hl] at e2
      cases e2
      cases z : b.H0 p with
      | none => rfl
      | some o =>
        rw [ok0.base p o hw z] at hn
        cases hn
    · rw [List.getElem?_set_ne (Ne.symm hj)] at e2
      exact ok.own j es q e e2
  · rcases cas e1 with ⟨hj, _, hl⟩ | ⟨hj, f1⟩
    · rw [hj, List.getElem?_set_self (by rw [← hj]; exact hl)] at e3
      cases e3
      rcases cas e2 with ⟨hk, _, _⟩ | ⟨hk, f2⟩
      · exact absurd (hj.trans hk.symm) hjk
      · rw [List.getElem?_set_ne (Ne.symm hk)]
        exact far f2
    · rw [List.getElem?_set_ne (Ne.symm hj)] at e3
      rcases cas e2 with ⟨hk, _, hl⟩ | ⟨hk, f2⟩
      · rw [hk, List.getElem?_set_self (by rw [← hk]; exact hl)]
        intro z
        cases z
        exact far f1 e3
      · rw [List.getElem?_set_ne (Ne.symm hk)]
        exact ok.inj j k es m fs q hjk f1 f2 e3
theorem EnvOk.setL {p : Addr} {vs : List V} {ds : List PyData} (ok0 : EnvOk b H σ ρ) (ok : EnvOk b H' σ ρ) (hn : H p = none) (hp : H' p = some (.lst vs)) (r : DnA H' vs ds) : EnvOk b H' (σ.set i (some (.ref p))) (ρ.set i (some (.l true ds))) := ok0.setC ok hn ⟨vs, hp, r⟩
theorem Go.setL {p : Addr} {ds : Ct} (hn : H p = none) (i : Nat) (kp : Kp H H') (s : SB b.W H H') : Go b ρ σ H (ρ.set i (some (.c true ds))) (σ.set i (some (.ref p))) H' := by
  refine ⟨kp, fun q o hw e _ => s q o hw e, fun q ⟨j, es, e, e2⟩ => ?_⟩
  by_cases hj : j = i
  · subst hj
    by_cases hl : j < σ.length
    · rw [List.getElem?_set_self hl] at e2
      cases e2
      exact .inl hn
    · rw [List.getElem?_eq_none (by simpa using hl)] at e2
      cases e2
  · rw [List.getElem?_set_ne (Ne.symm hj)] at e e2
    exact .inr ⟨j, es, e, e2⟩
/-- an own list is changed -/
theorem EnvOk.mutC {p : Addr} {o' : HO} {ds ds' : Ct} (ok : EnvOk b H σ ρ) (hi : ρ[i]? = some (some (.c true ds))) (hs : σ[i]? = some (some (.ref p))) (kp : Kp H (upd H p o')) (r : CtOk (upd H p o') p ds') : EnvOk b (upd H p o') σ (ρ.set i (some (.c true ds'))) := by
  obtain ⟨v0, e1, p', e2, hw, e3⟩ := ok.at_ i _ hi
  rw [hs] at e1
  cases e1
  cases e2
  have h0 := ok.own i ds p hi hs
  have hl : i < ρ.length := (List.getElem?_eq_some_iff.mp hi).1
  have cas : ∀ {j : Nat} {s : S}, (ρ.set i (some (.c true ds')))[j]? = some (some s) → (j = i ∧ s = .c true ds') ∨ (j ≠ i ∧ ρ[j]? = some (some s)) := fun {j s} e => by
    by_cases hj : j = i
    · subst hj
      rw [List.getElem?_set_self hl] at e
      cases e
      exact .inl ⟨rfl, rfl⟩
    · rw [List.getElem?_set_ne (Ne.symm hj)] at e
      exact .inr ⟨hj, e⟩
  refine ⟨ok.base.mut h0, ok.wl0, ok.wl.upd hw, by rw [List.length_set]; exact ok.len, fun j s e => ?_, fun j es q e e2 => ?_, fun j k es m fs q hjk e1 e2 e3 => ?_⟩
  · rcases cas e with ⟨rfl, rfl⟩ | ⟨hj, e⟩
    · exact ⟨_, hs, p, rfl, hw, r⟩
    · obtain ⟨v, e1, e2⟩ := ok.at_ j s e
      refine ⟨v, e1, ?_⟩
      cases s with
      | d x => exact Dn.keep kp e2
      | o a => exact e2
      | c m es =>
        obtain ⟨q, rfl, hq, hq2⟩ := e2
        have hne : q ≠ p := fun z => by
          subst z
          exact ok.inj i j ds m es q (Ne.symm hj) hi e hs e1
        exact ⟨q, rfl, hq, hq2.keep kp fun o z => by rw [upd_ne hne]; exact z⟩
  · rcases cas e with ⟨rfl, _⟩ | ⟨hj, e⟩
    · rw [hs] at e2
      cases e2
      exact h0
    · exact ok.own j es q e e2
  · rcases cas e1 with ⟨hj, _⟩ | ⟨hj, f1⟩
    · rcases cas e2 with ⟨hk, _⟩ | ⟨hk, f2⟩
      · exact absurd (hj.trans hk.symm) hjk
      · exact ok.inj j k ds m fs q hjk (by rw [hj]; exact hi) f2 e3
    · rcases cas e2 with ⟨hk, hm⟩ | ⟨hk, f2⟩
      · intro z
        exact ok.inj k j ds true es q (Ne.symm hjk) (by rw [hk]; exact hi) f1 z e3
      · exact ok.inj j k es m fs q hjk f1 f2 e3
theorem EnvOk.mutL {p : Addr} {vs vs' : List V} {ds : Ct} {ds' : List PyData} (ok : EnvOk b H σ ρ) (hi : ρ[i]? = some (some (.c true ds))) (hs : σ[i]? = some (some (.ref p))) (hp : H p = some (.lst vs)) (r : DnA H vs' ds') : EnvOk b (upd H p (.lst vs')) σ (ρ.set i (some (.l true ds'))) :=
  ok.mutC hi hs (.mut hp rfl rfl) ⟨vs', upd_same, r.keep (.mut hp rfl rfl)⟩
theorem Go.mutC {p : Addr} {o' : HO} {ds ds' : Ct} (hi : ρ[i]? = some (some (.c true ds))) (hs : σ[i]? = some (some (.ref p))) (kp : Kp H (upd H p o')) : Go b ρ σ H (ρ.set i (some (.c true ds'))) σ (upd H p o') := by
  have hl : i < ρ.length := (List.getElem?_eq_some_iff.mp hi).1
  refine ⟨kp, fun q o hw e hn => ?_, fun q ⟨j, es, e, e2⟩ => .inr ?_⟩
  · have : q ≠ p := fun z => hn (by rw [z]; exact ⟨i, ds, hi, hs⟩)
    rw [upd_ne this]
    exact e
  · by_cases hj : j = i
    · rw [hj] at e2
      rw [hs] at e2
      cases e2
      exact ⟨i, ds, hi, hs⟩
    · rw [List.getElem?_set_ne (Ne.symm hj)] at e
      exact ⟨j, es, e, e2⟩
theorem Go.mutL {p : Addr} {vs vs' : List V} {ds : Ct} {ds' : List PyData} (hi : ρ[i]? = some (some (.c true ds))) (hs : σ[i]? = some (some (.ref p))) (hp : H p = some (.lst vs)) : Go b ρ σ H (ρ.set i (some (.l true ds'))) σ (upd H p (.lst vs')) := .mutC hi hs (.mut hp rfl rfl)
/-- an own list is own no more -/
theorem EnvOk.cool {ds : Ct} (ok : EnvOk b H σ ρ) (hi : ρ[i]? = some (some (.c true ds))) : EnvOk b H σ (ρ.set i (some (.c false ds))) := by
  have hl : i < ρ.length := (List.getElem?_eq_some_iff.mp hi).1
  have cas : ∀ {j : Nat} {s : S}, (ρ.set i (some (.c false ds)))[j]? = some (some s) → (j = i ∧ s = .c false ds) ∨ (j ≠ i ∧ ρ[j]? = some (some s)) := fun {j s} e => by
    by_cases hj : j = i
    · subst hj
      rw [List.getElem?_set_self hl] at e
      cases e
      exact .inl ⟨rfl, rfl⟩
    · rw [List.getElem?_set_ne (Ne.symm hj)] at e
      exact .inr ⟨hj, e⟩
  refine ⟨ok.base, ok.wl0, ok.wl, by rw [List.length_set]; exact ok.len, fun j s e => ?_, fun j es q e e2 => ?_, fun j k es m fs q hjk e1 e2 e3 => ?_⟩
  · rcases cas e with ⟨rfl, rfl⟩ | ⟨hj, e⟩
    · obtain ⟨v, z1, z2⟩ := ok.at_ j _ hi
      exact ⟨v, z1, z2⟩
    · exact ok.at_ j s e
  · rcases cas e with ⟨_, h⟩ | ⟨hj, e⟩
    · cases h
    · exact ok.own j es q e e2
  · rcases cas e1 with ⟨_, h⟩ | ⟨hj, f1⟩
    · cases h
    · rcases cas e2 with ⟨hk, _⟩ | ⟨hk, f2⟩
      · exact ok.inj j k es true ds q hjk f1 (by rw [hk]; exact hi) e3
      · exact ok.inj j k es m fs q hjk f1 f2 e3
theorem Go.cool {ds : Ct} (hi : ρ[i]? = some (some (.c true ds))) : Go b ρ σ H (ρ.set i (some (.c false ds))) σ H := by
  have hl : i < ρ.length := (List.getElem?_eq_some_iff.mp hi).1
  refine ⟨.refl, fun _ _ _ e _ => e, fun q ⟨j, es, e, e2⟩ => .inr ?_⟩
  by_cases hj : j = i
  · subst hj
    rw [List.getElem?_set_self hl] at e
    cases e
  · rw [List.getElem?_set_ne (Ne.symm hj)] at e
    exact ⟨j, es, e, e2⟩
end
/-! ### what a block comes to -/
structure Post where
  nx : Rho → Prop := fun _ => False
  rt : PyData → Prop := fun _ => False
  bk : Rho → Prop := fun _ => False
  rl : List PyData → Prop := fun _ => False
/-- D takes every way out that K allows from here -/
structure Takes (b : Bs) (ρ : Rho) (σ : L2.St) (H : Hp) (K : Post) (D : Ends) : Prop where
  nx : ∀ σ' H' ρ', Go b ρ σ H ρ' σ' H' → EnvOk b H' σ' ρ' → K.nx ρ' → D.nx σ' H'
  rt : ∀ v H' d, SB b.W b.H0 H' → Wl b.W H' → Dn H' v d → K.rt d → D.rt v H'
  bk : ∀ σ' H' ρ', Go b ρ σ H ρ' σ' H' → EnvOk b H' σ' ρ' → K.bk ρ' → D.bk σ' H'
  rl : ∀ p H' vs ds, SB b.W b.H0 H' → Wl b.W H' → b.H0 p = none → H' p = some (.lst vs) → DnA H' vs ds → K.rl ds → D.rt (.ref p) H'
namespace Quiet
@[scoped irreducible] def _root_.Lay.Sts (X : Cx) (b : Bs) (ss : List Stmt) (ρ : Rho) (K : Post) : Prop := ∀ σ H, EnvOk b H σ ρ → ∀ D : Ends, Takes b ρ σ H K D → Exs X ss σ H D
end Quiet
namespace Quiet
@[scoped irreducible] def _root_.Lay.Sto (X : Cx) (b : Bs) (st : Stmt) (ρ : Rho) (K : Post) : Prop := ∀ σ H, EnvOk b H σ ρ → ∀ D : Ends, Takes b ρ σ H K D → Exo X st σ H D
end Quiet
section
variable {X : Cx} {b : Bs} {ρ ρ' : Rho} {σ σ' : L2.St} {H H' : Hp} {K : Post} {D : Ends} {rest : List Stmt} {st : Stmt} {e c : Expr} {P : PyData → Prop} {PB : Bool → Prop} {PL : List PyData → Prop} {pos : Pos} {i : Nat}
theorem Takes.go (w : Wl b.W H') (t : Takes b ρ σ H K D) (g : Go b ρ σ H ρ' σ' H') : Takes b ρ' σ' H' K D :=
  ⟨fun σ2 H2 ρ2 y ok k => t.nx σ2 H2 ρ2 (g.trans w y) ok k, t.rt, fun σ2 H2 ρ2 y ok k => t.bk σ2 H2 ρ2 (g.trans w y) ok k, t.rl⟩
theorem sts_nil (h : K.nx ρ) : Sts X b [] ρ K := fun σ H ok D t => .of pss_nil (t.nx σ H ρ .refl ok h)
/-- one statement, then the rest -/
theorem sts_cons (h : Sto X b st ρ { K with nx := fun ρ' => Sts X b rest ρ' K }) : Sts X b (st :: rest) ρ K := by
  intro σ H ok D t
  refine .of (pss_cons poW pbW) (h σ H ok _ ⟨fun σ' H' ρ' g ok' k => ?_, t.rt, t.bk, t.rl⟩)
  exact k σ' H' ok' D (t.go ok'.wl g)
theorem sts_ret {es : List Stmt} (h : Ev X b e ρ K.rt) : Sts X b (.Return (some e) pos :: es) ρ K := by
  refine sts_cons fun σ H ok D t => ?_
  exact .of (ps_ret peW) (h σ H ok _ fun v H' d s w r p => t.rt v H' d (ok.base.trans s) w r p)
/-- return a new list -/
theorem sts_retL {es : List Stmt} (h : EvL X b e ρ K.rl) : Sts X b (.Return (some e) pos :: es) ρ K := by
  refine sts_cons fun σ H ok D t => ?_
  refine .of (ps_ret peW) (h σ H ok _ fun p H' vs ds hn s w hp r k => t.rl p H' vs ds (ok.base.trans s) w ?_ hp r k)
  cases e0 : b.H0 p with
  | none => rfl
  | some o =>
    rw [ok.base p o (ok.wl.ne hn) e0] at hn
    cases hn
theorem sts_if {sa sb : List Stmt} (h : EvT X b c ρ PB) (h1 : PB true → Sts X b sa ρ { K with nx := fun ρ' => Sts X b rest ρ' K }) (h2 : PB false → Sts X b sb ρ { K with nx := fun ρ' => Sts X b rest ρ' K }) : Sts X b (.If c sa sb pos :: rest) ρ K := by
  refine sts_cons fun σ H ok D t => ?_
  refine .of (ps_if ptW pbW pbW) (h σ H ok _ fun k H1 s w p => ?_)
  have ok1 := ok.go s w
  have t1 := t.go w (Go.sb ok.wl w s)
  cases k with
  | true => exact iteT (h1 p σ H1 ok1 D t1)
  | false => exact iteF (h2 p σ H1 ok1 D t1)
/-- if c: (a way out), then the rest: c is false, or true -/
theorem sts_ifT {sa sb : List Stmt} (h : EdT X b c ρ true) (h1 : Sts X b sa ρ { K with nx := fun ρ' => Sts X b rest ρ' K }) : Sts X b (.If c sa sb pos :: rest) ρ K := sts_if h (fun _ => h1) fun z => by cases z
theorem sts_ifF {sa sb : List Stmt} (h : EdT X b c ρ false) (h1 : Sts X b sb ρ { K with nx := fun ρ' => Sts X b rest ρ' K }) : Sts X b (.If c sa sb pos :: rest) ρ K := sts_if h (fun z => by cases z) fun _ => h1
/-- .. an if without else that is not taken -/
theorem sts_skip {sa : List Stmt} (h : EdT X b c ρ false) (h1 : Sts X b rest ρ K) : Sts X b (.If c sa [] pos :: rest) ρ K := sts_ifF h (sts_nil h1)
theorem sts_when {sa : List Stmt} (h : EvT X b c ρ PB) (h1 : PB true → Sts X b sa ρ { K with nx := fun ρ' => Sts X b rest ρ' K }) (h2 : PB false → Sts X b rest ρ K) : Sts X b (.If c sa [] pos :: rest) ρ K := sts_if h h1 fun z => sts_nil (h2 z)
theorem sts_set {x : Str} {pos' : Pos} (hN : X.N.Nodup) (hi : X.N[i]? = some x) (hx : Loc X.env.scope x) (h : Ev X b e ρ P) (k : ∀ d, P d → Sts X b rest (ρ.set i (some (.d d))) K) (hs : swapsWith e (some (.Name x pos')) pos.line X.env = pure false := by rfl)
    (hf : X.fn x = true ∨ X.env.scope.names.lookup x = some .local := by first | exact .inl rfl | exact .inr rfl | assumption) : Sts X b (.Assign [.Name x pos'] e pos :: rest) ρ K := by
  refine sts_cons fun σ H ok D t => ?_
  refine .of (ps_set hN hi hx peW hs hf) (h σ H ok _ fun v H1 d s w r p => ?_)
  exact t.nx _ _ _ ((Go.sb ok.wl w s).trans w (.setD i v d)) ((ok.go s w).setD r) (k d p)
theorem sts_setL {x : Str} {pos' : Pos} (hN : X.N.Nodup) (hi : X.N[i]? = some x) (hx : Loc X.env.scope x) (h : EvL X b e ρ PL) (k : ∀ ds, PL ds → Sts X b rest (ρ.set i (some (.l true ds))) K) (hs : swapsWith e (some (.Name x pos')) pos.line X.env = pure false := by rfl)
    (hf : X.fn x = true ∨ X.env.scope.names.lookup x = some .local := by first | exact .inl rfl | exact .inr rfl | assumption) : Sts X b (.Assign [.Name x pos'] e pos :: rest) ρ K := by
  refine sts_cons fun σ H ok D t => ?_
  refine .of (ps_set hN hi hx peW hs hf) (h σ H ok _ fun p H1 vs ds hn s w hp r z => ?_)
  exact t.nx _ _ _ (.setL hn i (kp_of s ok.wl w) s) (ok.setL (ok.go s w) hn hp r) (k ds z)
/-- an expression whose value is dropped -/
theorem sts_drop (h : Ev X b e ρ P) (k : ∀ d, P d → Sts X b rest ρ K) (hs : swapsWith e none pos.line X.env = pure false := by rfl) : Sts X b (.Expr e pos :: rest) ρ K := by
  refine sts_cons fun σ H ok D t => ?_
  refine .of (ps_expr peW hs) (h σ H ok _ fun v H1 d s w r p => ?_)
  exact t.nx _ _ _ (Go.sb ok.wl w s) (ok.go s w) (k d p)
theorem sts_cool {ss : List Stmt} {ds : Ct} (hi : ρ[i]? = some (some (.c true ds))) (h : Sts X b ss (ρ.set i (some (.c false ds))) K) : Sts X b ss ρ K := fun σ H ok D t =>
  h σ H (ok.cool hi) D (t.go ok.wl (.cool hi))
theorem sts_break {es : List Stmt} (h : K.bk ρ) : Sts X b (.Break pos :: es) ρ K := by
  refine sts_cons fun σ H ok D t => ?_
  exact .of ps_break (t.bk σ H ρ .refl ok h)
/-- xs.append(e), xs an own list -/
theorem sts_append {x : Str} {apos p2 : Pos} {ds : List PyData} (hN : X.N[i]? = some x) (hv : Vis X.env.scope x) (hi : ρ[i]? = some (some (.l true ds))) (h : Ev X b e ρ P) (hz : ds.length < 100000) (k : ∀ d, P d → Sts X b rest (ρ.set i (some (.l true (ds ++ [d])))) K)
    (hd : (x == ("__debug__" : Str)) = false := by decide) (hcd : (x == ("__classdict__" : Str)) = false := by decide)
    (hpe : ∀ t, PE X e t → PE X (.Call (.Attribute (.Name x p2) "append" apos) [e] [] pos) (tBM X.K "list" rAppend (tVar i) (tCons t tNil)) := by
      intro t h
      exact pe_bm PySem.F.plainAttrs_list PySem.F.slot_list_append PySem.F.type_list_append mt_append (pe_var (by assumption) (by assumption) (by assumption) (by assumption)) (pa_cons h pa_nil))
    (hs : swapsWith (.Call (.Attribute (.Name x p2) "append" apos) [e] [] pos) none pos.line X.env = pure false := by rfl) : Sts X b (.Expr (.Call (.Attribute (.Name x p2) "append" apos) [e] [] pos) pos :: rest) ρ K := by
  refine sts_cons fun σ H ok D t => ?_
  obtain ⟨v0, e0, p, rfl, hw, vs, hp, r⟩ := ok.at_ i _ hi
  refine .of (ps_expr (hpe _ peW) hs) ⟨_, e0, .inl ⟨rfl, _, SqL.of hp⟩, h σ H ok _ fun v H1 d s w rv pv => ?_⟩
  have hp1 := s _ _ hw hp
  have ok1 := ok.go s w
  have r1 := r.keep (kp_of s ok.wl w)
  refine ⟨p, vs, v, rfl, rfl, hp1, by rw [r.len]; exact Nat.lt_of_lt_of_le hz (by decide), ?_⟩
  exact t.nx _ _ _ ((Go.sb ok.wl w s).trans w (.mutL hi e0 hp1)) (ok1.mutL hi e0 hp1 (r1.app (.one rv))) (k d pv)
end
end Lay
/-! PA5 -/
/-! the data layer, part 5: what is walked, targets, loops, comprehensions -/
namespace Lay
open PySem PySem.Spec PyProof.Rows L2
/-- as long as Gd holds, J walks the data ds -/
def Src (b : Bs) (J : It) (Gd : Hp → Prop) (ds : List PyData) : Prop := ∀ H, Gd H → Wl b.W H →
  (∀ i, i < ds.length → J.go i H) ∧ J.stop ds.length H ∧ ∀ i x H', i < ds.length → J.yld i H x H' → SB b.W H H' ∧ Wl b.W H' ∧ ∃ d, ds[i]? = some d ∧ Dn H' x d
namespace Quiet
/-- what is walked: data of which P holds; nn: no own list of the frame is walked -/
@[scoped irreducible] def _root_.Lay.EvI (X : Cx) (b : Bs) (nn : Bool) (tg iter : Expr) (ρ : Rho) (P : List PyData → Prop) : Prop := ∃ wi : TI, PI X tg iter wi ∧ ∀ σ H, EnvOk b H σ ρ → ∀ R : It → Hp → Prop,
  (∀ J H1 Gd ds (kp : Addr → Prop), SB b.W H H1 → Wl b.W H1 → P ds → Src b J Gd ds → (∀ H', Kp H1 H' → (∀ p o, kp p → H1 p = some o → H' p = some o) → Gd H') → (∀ p, kp p → b.W ≠ some p ∧ (nn = true → ¬ Own ρ σ p)) → R J H1) → wi σ H R
end Quiet
section
variable {X : Cx} {b : Bs} {nn : Bool} {tg iter e e2 : Expr} {ρ : Rho} {P PL : List PyData → Prop} {p pos tpos : Pos} {elts : List Expr} {kk : Nat}
theorem evi_tup (h : Ev X b iter ρ fun d => ∃ ds, d = .tuple ds ∧ P ds) : EvI X b nn tg iter ρ P := by
  refine ⟨_, pi_tup peW, fun σ H ok R q => h σ H ok _ fun v H1 d s w r ⟨ds, e1, pd⟩ => ?_⟩
  subst e1
  cases r with
  | @tup a vs _ h1 t1 =>
    refine ⟨a, rfl, ⟨vs, h1.sq⟩, ?_⟩
    refine q _ H1 (fun H' => ∃ vs, Tp H' a vs ∧ DnA H' vs ds) ds (fun _ => False) s w pd (fun H' ⟨vs, g1, g2⟩ w' => ?_) (fun H' k _ => ⟨vs, k.t _ _ h1, t1.keep k⟩) fun _ z => z.elim
    refine ⟨fun i hi => ?_, ⟨vs, g1.sq, by rw [g2.len]; exact Nat.le_refl _⟩, fun i x H2 hi ⟨e2, y⟩ => ?_⟩
    · obtain ⟨u, h2, _⟩ := g2.get (List.getElem?_eq_getElem hi)
      exact ⟨vs, u, g1.sq, h2⟩
    · subst e2
      obtain ⟨d, h3, h4⟩ := g2.getV (y vs (g1.sq))
      exact ⟨.refl, w', d, h3, h4⟩
theorem src_list {K : PySem.W.Frag} {a : Addr} {ds : List PyData} : Src b (Itl K a) (fun H' => ∃ vs, H' a = some (.lst vs) ∧ DnA H' vs ds) ds := by
  intro H' ⟨vs, g1, g2⟩ w'
  refine ⟨fun i hi => ?_, ⟨vs, SqL.of g1, by rw [g2.len]; exact Nat.le_refl _⟩, fun i x H2 hi ⟨e2, y⟩ => ?_⟩
  · obtain ⟨u, h2, _⟩ := g2.get (List.getElem?_eq_getElem hi)
    exact ⟨vs, u, SqL.of g1, h2⟩
  · subst e2
    obtain ⟨d, h3, h4⟩ := g2.getV (y vs (SqL.of g1))
    exact ⟨.refl, w', d, h3, h4⟩
theorem evi_R (h : EvR X b iter ρ P) : EvI X b false tg iter ρ P := by
  refine ⟨_, pi_list peW, fun σ H ok R q => h σ H ok _ fun a H1 vs ds hw s w h1 r pd => ?_⟩
  refine ⟨a, rfl, ⟨vs, SqL.of h1⟩, ?_⟩
  exact q _ H1 _ ds (fun z => z = a) s w pd src_list (fun H' k st => ⟨vs, st a _ rfl h1, r.keep k⟩) fun z hz => ⟨by rw [hz]; exact hw, fun n => by cases n⟩
theorem evi_L (h : EvL X b iter ρ P) : EvI X b nn tg iter ρ P := by
  refine ⟨_, pi_list peW, fun σ H ok R q => h σ H ok _ fun a H1 vs ds hn s w h1 r pd => ?_⟩
  refine ⟨a, rfl, ⟨vs, SqL.of h1⟩, ?_⟩
  refine q _ H1 _ ds (fun z => z = a) s w pd src_list (fun H' k st => ⟨vs, st a _ rfl h1, r.keep k⟩) fun z hz => ⟨by rw [hz]; exact ok.wl.ne hn, fun _ ⟨i, es, q1, q2⟩ => ?_⟩
  subst hz
  obtain ⟨v, f1, p', f2, _, f4⟩ := ok.at_ i _ q1
  obtain ⟨o3, f3⟩ := f4.has
  rw [q2] at f1
  cases f1
  cases f2
  rw [hn] at f3
  cases f3
/-- a name that holds a list, not an own one -/
theorem evi_var {i : Nat} {x : Str} {ds : List PyData} (h : ρ[i]? = some (some (.l false ds))) (hN : X.N[i]? = some x) (hv : Vis X.env.scope x) (hd : (x == ("__debug__" : Str)) = false := by decide) (hcd : (x == ("__classdict__" : Str)) = false := by decide) : EvI X b nn tg (.Name x pos) ρ fun z => z = ds := by
  refine ⟨_, pi_list (pe_var hN hv hd hcd), fun σ H ok R q => ?_⟩
  obtain ⟨v, h1, a, e, hp, vs, hl, r⟩ := ok.at_ i _ h
  subst e
  refine ⟨_, h1, a, rfl, ⟨vs, SqL.of hl⟩, ?_⟩
  refine q _ H _ ds (fun z => z = a) .refl ok.wl rfl src_list (fun H' k st => ⟨vs, st a _ rfl hl, r.keep k⟩) fun z hz => ⟨by rw [hz]; exact hp, fun _ ⟨j, es, q1, q2⟩ => ?_⟩
  subst hz
  have hji : j ≠ i := fun z => by
    subst z
    rw [q1] at h
    cases h
  exact ok.inj j i es false (.ls ds) z hji q1 h q2 h1
def rangeD (lo : Int) (n : Nat) : List PyData := (List.range n).map fun i => PyData.int (lo + (i : Nat))
theorem rangeD_len (lo : Int) (n : Nat) : (rangeD lo n).length = n := by
  unfold rangeD
  rw [List.length_map, List.length_range]
theorem rangeD_get {lo : Int} {n i : Nat} (h : i < n) : (rangeD lo n)[i]? = some (.int (lo + (i : Nat))) := by
  unfold rangeD
  rw [List.getElem?_map, List.getElem?_range h]
  rfl
theorem src_range {lo : Int} {n : Nat} : Src b (Itr lo n) (fun _ => True) (rangeD lo n) := by
  intro H' _ w'
  rw [rangeD_len]
  refine ⟨fun i hi => hi, Nat.le_refl _, fun i x H2 hi ⟨e2, y⟩ => ?_⟩
  subst e2 y
  exact ⟨.refl, w', _, rangeD_get hi, .int _⟩
theorem evi_range1 (hg : Gl X "range") (hm : X.mg "range" = none) (h : Ev X b e ρ fun d => ∃ n : Nat, d = .int n ∧ n ≤ 1000000 ∧ P (rangeD 0 n)) (hs : starEach [e] X.env = [(false, eval e X.env)] := by rfl) (hs1 : starEach [e] X.env = (false, eval e X.env) :: starEach [] X.env := by rfl) :
    EvI X b nn tg (.Call (.Name "range" p) [e] [] pos) ρ P := by
  refine ⟨_, pi_range1 hg hm (pa_cons peW pa_nil hs1) hs, fun σ H ok R q => h σ H ok _ fun v H1 d s w r ⟨n, e1, hn, pd⟩ => ?_⟩
  subst e1
  cases r
  refine ⟨(n : Int), rfl, by omega, by omega, ?_⟩
  rw [Int.toNat_natCast]
  exact q _ H1 _ _ (fun _ => False) s w pd src_range (fun _ _ _ => trivial) fun _ z => z.elim
theorem evi_range2 (hg : Gl X "range") (hm : X.mg "range" = none) {Pa : PyData → Prop} (ha : Ev X b e ρ Pa) (h : Ev X b e2 ρ fun d => ∃ n : Nat, d = .int n ∧ n ≤ 1000000 ∧ ∀ a, Pa a → ∃ lo : Nat, a = .int lo ∧ lo ≤ 1000000 ∧ P (rangeD lo (n - lo))) (hs : starEach [e, e2] X.env = [(false, eval e X.env), (false, eval e2 X.env)] := by rfl)
    (hs2 : starEach [e2] X.env = [(false, eval e2 X.env)] := by rfl) (hs3 : starEach [e, e2] X.env = (false, eval e X.env) :: starEach [e2] X.env := by rfl) (hs4 : starEach [e2] X.env = (false, eval e2 X.env) :: starEach [] X.env := by rfl) :
    EvI X b nn tg (.Call (.Name "range" p) [e, e2] [] pos) ρ P := by
  refine ⟨_, pi_range2 hg hm (pa_cons peW (pa_cons peW pa_nil hs4) hs3) hs hs2, fun σ H ok R q => ha σ H ok _ fun u H0 a s0 w0 r0 pa => h σ H0 (ok.go s0 w0) _ fun v H1 d s w r ⟨n, e1, hn, pd⟩ => ?_⟩
  obtain ⟨lo, e0, hlo, pd⟩ := pd a pa
  subst e1 e0
  cases r
  cases r0
  refine ⟨(lo : Int), (n : Int), rfl, ⟨by omega, by omega, by omega, by omega⟩, ?_⟩
  have : ((n : Int) - (lo : Int)).toNat = n - lo := by omega
  rw [this]
  exact q _ H1 _ _ (fun _ => False) (s0.trans s) w pd src_range (fun _ _ _ => trivial) fun _ z => z.elim
def zipD (xs ys : List PyData) : List PyData := List.zipWith (fun x y => PyData.tuple [x, y]) xs ys
/-- zip over two tuples: at each turn what stands in them, in a new pair -/
def Iz2 (K : PySem.W.Frag) (a c : Addr) : It where
  go i H := ∃ (xs ys : List V) (x y : V), SqT K H a xs ∧ SqT K H c ys ∧ xs[i]? = some x ∧ ys[i]? = some y
  yld i H v H' := ∃ T x y o, v = .ref T ∧ o.dict = none ∧ H T = none ∧ H' = upd H T (.frz o (.tup [x, y])) ∧ (∀ xs, SqT K H a xs → xs[i]? = some x) ∧ ∀ ys, SqT K H c ys → ys[i]? = some y
  stop i H := ∃ xs ys : List V, SqT K H a xs ∧ SqT K H c ys ∧ (xs.length ≤ i ∨ ys.length ≤ i)
/-- the cells of such a walk -/
structure Z2 (z u o p q a c : Addr) (i : Nat) (h : Heap) : Prop where
  z : IsZip h z u o .none
  u : IsPair h u (.ref p) (.ref q)
  o : ∃ x y, IsPair h o x y
  p : h.IsTupleIter p a i
  q : h.IsTupleIter q c i
theorem five {z u o p q b : Addr} {R : Addr → Prop} (hb : b ∈ [z, u, o, p, q]) (h1 : R z) (h2 : R u) (h3 : R o) (h4 : R p) (h5 : R q) : R b := by
  simp only [List.mem_cons, List.not_mem_nil, or_false] at hb
  rcases hb with rfl | rfl | rfl | rfl | rfl
  · exact h1
  · exact h2
  · exact h3
  · exact h4
  · exact h5
theorem turn_zip2 {P : Program} {w : World} {K : PySem.W.Frag} {elts : List Expr} {kk : Nat} {tpos : Pos} {a c z u o p q : Addr} (D : ZipApart z u o p q a c) : Turn P w K (.Tuple elts kk tpos) (Iz2 K a c) [z, u, o, p, q] z (Z2 z u o p q a c) where
  mem := List.mem_cons_self
  obj := fun i h st b hb => by
    obtain ⟨s1, s2, ⟨x, y, s3⟩, ⟨o4, s4, _, t4⟩, ⟨o5, s5, _, t5⟩⟩ := st
    refine five (R := fun b => ∃ ob, h.get? b = some ob ∧ ∀ v, ob.data ≠ .cell v) hb ⟨_, s1, fun v n => nomatch n⟩ ⟨_, s2, fun v n => nomatch n⟩ ⟨_, s3, fun v n => nomatch n⟩ ⟨o4, s4, fun v n => ?_⟩ ⟨o5, s5, fun v n => ?_⟩
    · rw [t4] at n
      cases n
    · rw [t5] at n
      cases n
  keep := fun i h h' st k => by
    obtain ⟨s1, s2, ⟨x, y, s3⟩, s4, s5⟩ := st
    refine ⟨k z (by simp) _ s1, k u (by simp) _ s2, ⟨x, y, k o (by simp) _ s3⟩, s4.at fun ob e => k p (by simp) ob e, s5.at fun ob e => k q (by simp) ob e⟩
  item := by
    intro X hP hw hK hc i pins s σ H E I hf st hg
    subst hP hw hK
    obtain ⟨s1, s2, ⟨x0, y0, s3⟩, s4, s5⟩ := st
    obtain ⟨xs, ys, x, y, qa, qc, hx, hy⟩ := hg
    obtain ⟨l1, rv1, t1, _⟩ := I.tuple qa
    obtain ⟨l2, rv2, t2, _⟩ := I.tuple qc
    obtain ⟨v1, hv1, r1⟩ := rv1.get hx
    obtain ⟨v2, hv2, r2⟩ := rv2.get hy
    have lz := Heap.lt_size s1
    refine RZ.pyNext_zipT_item D s1 s2 s3 s4 s5 t1 t2 (x := v1) (y := v2) (by simpa using hv1) (by simpa using hv2) fun h1 m1 m3 m4 m5 mT sz kp => ?_
    have kp' : ∀ b ob, b ∉ [z, u, o, p, q] → s.heap.get? b = some ob → h1.get? b = some ob := fun b ob hb e => by
      simp only [List.mem_cons, List.not_mem_nil, or_false, not_or] at hb
      exact kp b ob hb.1 hb.2.2.1 hb.2.2.2.1 hb.2.2.2.2 e
    refine ⟨_, rfl, wpAny_letOwnedTupleGo_zip (s := { s with heap := h1 }) m1 fun h2 n1 sb => ?_⟩
    have eT : h2.get? s.heap.objs.size = some { cls := .type "tuple", data := .seq [v1, v2].toArray } := (sb.2 _ (Nat.ne_of_gt lz)).trans mT
    have new : ObjOk X.prog X.w (upd H s.heap.objs.size (.frz { cls := .type "tuple", data := .seq [v1, v2].toArray } (.tup [x, y]))) h2 s.heap.objs.size (.frz { cls := .type "tuple", data := .seq [v1, v2].toArray } (.tup [x, y])) :=
      ⟨eT, Nat.le_trans (show [x, y].length ≤ 2 from Nat.le_refl 2) (by decide), [v1, v2], .cons r1 (.cons r2 .nil), ⟨_, eT, rfl, _, rfl⟩⟩
    have I1 := I.turnedNew (t' := s.toks) (ch := [z, u, o, p, q]) (h' := h2) (fun b ob hb e => (sb.2 b fun n => hb (by rw [n]; exact List.mem_cons_self)).trans (kp' b ob hb e)) hf (Nat.le_refl _) new
    refine ⟨.ref s.heap.objs.size, _, I1, rfl, ⟨_, x, y, _, rfl, rfl, I.hok.fresh (Nat.le_refl _), rfl, fun l hl => by rw [I.tuple_inj hl qa]; exact hx, fun l hl => by rw [I.tuple_inj hl qc]; exact hy⟩, ⟨n1, (sb.2 _ D.TIz).trans (kp _ _ D.TIz D.TITO D.TIi1 D.TIi2 s2), ⟨_, _, (sb.2 _ D.TOz).trans m3⟩, m4.at fun ob e => (sb.2 _ D.i1z).trans e, m5.at fun ob e => (sb.2 _ D.i2z).trans e⟩, fun b hb => ?_⟩
    have lb : b < s.heap.objs.size := by
      obtain ⟨_, e4, _⟩ := s4
      obtain ⟨_, e5, _⟩ := s5
      exact five (R := fun b => b < s.heap.objs.size) hb lz (Heap.lt_size s2) (Heap.lt_size s3) (Heap.lt_size e4) (Heap.lt_size e5)
    rw [upd_ne (Nat.ne_of_lt lb)]
    exact (hf b hb).1
  done := by
    intro X hP hw hK hc i pins s σ H E I hf st hg
    subst hP hw hK
    obtain ⟨s1, s2, ⟨x0, y0, s3⟩, s4, s5⟩ := st
    obtain ⟨xs, ys, qa, qc, hend⟩ := hg
    obtain ⟨l1, rv1, t1, _⟩ := I.tuple qa
    obtain ⟨l2, rv2, t2, _⟩ := I.tuple qc
    have e1 := rv1.length
    have e2 := rv2.length
    have none_at : l1.toArray[i]? = none ∨ l2.toArray[i]? = none := hend.imp (fun n => by simp; omega) fun n => by simp; omega
    refine RZ.pyNext_zipT_end (I.ok.hd hc) D s1 s2 s3 s4 s5 t1 t2 none_at fun h1 kp => ⟨rfl, I.turnedL (t' := s.toks) (ch := [z, u, o, p, q]) (fun b ob hb e => ?_) hf⟩
    simp only [List.mem_cons, List.not_mem_nil, or_false, not_or] at hb
    exact kp b ob hb.1 hb.2.2.1 hb.2.2.2.1 hb.2.2.2.2 e
  self := fun A i s Q E st h => wpAny_pyIter_zip st.z h
theorem pi_zipF {ta : TA} {elts : List Expr} {tpos : Pos} (hg : Gl X "zip") (hm : X.mg "zip" = none) (ha : PA X [e, e2] ta) (hs : starEach [e, e2] X.env = (false, eval e X.env) :: starEach [e2] X.env := by rfl) (hpl : (backTo pos (starEach [e2] X.env)).any (·.1) = false := by rfl) :
    PI X (.Tuple elts kk tpos) (.Call (.Name "zip" p) [e, e2] [] pos) (fun σ H R => ta σ H fun vs H1 => ∃ a c xs ys, vs = [.ref a, .ref c] ∧ SqT X.K H1 a xs ∧ SqT X.K H1 c ys ∧ R (Iz2 X.K a c) H1) := by
  refine ⟨fun pins s σ H R I h => Call_ (ld_blt I hg hm PyProof.Rows.boot_zip (PyProof.Rows.callWith_type1 (thn (ha.run pos pins s σ H _ I h) fun us s1 ⟨vs, H1, I1, r1, a, c, xs, ys, ev, qa, qc, go⟩ => ?_) hs hpl))⟩
  subst ev
  obtain ⟨u1, u2, rfl, ra, rc⟩ := vals2 r1
  cases ra
  cases rc
  obtain ⟨l1, rv1, t1, _⟩ := I1.tuple qa
  obtain ⟨l2, rv2, t2, _⟩ := I1.tuple qc
  refine RZ.call_zipT t1 t2 fun h1 m1 m2 m3 m4 m5 sz kp => wpAny_pyIter_zip m1 ?_
  have I2 : Inv X pins σ H1 { s1 with heap := h1 } := I1.kept (t' := s1.toks) kp
  have fr : ∀ n, FpOk X pins H1 (s1.heap.objs.size + n) := fun n => I1.fpOk (Nat.le_add_right _ _) (I1.hok.fresh (Nat.le_add_right _ _))
  refine ⟨s1.heap.objs.size + 4, [s1.heap.objs.size + 4, s1.heap.objs.size + 2, s1.heap.objs.size + 3, s1.heap.objs.size, s1.heap.objs.size + 1], _, _, H1, rfl, I2, turn_zip2 (PySem.W.ktu_apart s1.heap.objs.size a c t1.lt t2.lt), ⟨m1, m2, ⟨_, _, m3⟩, m4, m5⟩, fun b hb => five (R := FpOk X pins H1) hb (fr 4) (fr 2) (fr 3) (fr 0) (fr 1), go⟩
theorem evi_zip (hg : Gl X "zip") (hm : X.mg "zip" = none) {xs ys : List PyData} (ha : Ed X b e ρ (.tuple xs)) (hb : Ed X b e2 ρ (.tuple ys)) (hs : starEach [e, e2] X.env = (false, eval e X.env) :: starEach [e2] X.env := by rfl)
    (hs2 : starEach [e2] X.env = (false, eval e2 X.env) :: starEach [] X.env := by rfl) (hpl : (backTo pos (starEach [e2] X.env)).any (·.1) = false := by rfl) : EvI X b nn (.Tuple elts kk tpos) (.Call (.Name "zip" p) [e, e2] [] pos) ρ fun z => z = zipD xs ys := by
  refine ⟨_, pi_zipF hg hm (pa_cons peW (pa_cons peW pa_nil hs2) hs) hs hpl, fun σ H ok R q => ha σ H ok _ fun u H0 d0 s0 w0 r0 p0 => hb σ H0 (ok.go s0 w0) _ fun v H1 d s w r p1 => ?_⟩
  subst p0 p1
  have r0' := r0.keep (kp_of s w0 w)
  cases r0' with
  | @tup a vs _ h1 t1 =>
    cases r with
    | @tup c us _ h2 t2 =>
      refine ⟨a, c, vs, us, rfl, h1.sq, h2.sq, ?_⟩
      have hlen : (zipD xs ys).length = min xs.length ys.length := by
        unfold zipD
        rw [List.length_zipWith]
      refine q _ H1 (fun H' => ∃ vs us, Tp H' a vs ∧ DnA H' vs xs ∧ Tp H' c us ∧ DnA H' us ys) _ (fun _ => False) (s0.trans s) w rfl (fun H' ⟨vs, us, g1, g2, g3, g4⟩ w' => ?_) (fun H' k _ => ⟨vs, us, k.t _ _ h1, t1.keep k, k.t _ _ h2, t2.keep k⟩) fun _ z => z.elim
      have lx := g2.len
      have ly := g4.len
      rw [hlen]
      refine ⟨fun i hi => ?_, ⟨vs, us, g1.sq, g3.sq, ?_⟩, fun i x H2 hi ⟨T, x1, y1, o, e1, ho, hT, e2, f1, f2⟩ => ?_⟩
      · have hx : i < vs.length := by omega
        have hy : i < us.length := by omega
        exact ⟨vs, us, _, _, g1.sq, g3.sq, List.getElem?_eq_getElem hx, List.getElem?_eq_getElem hy⟩
      · rcases Nat.le_total xs.length ys.length with z | z
        · rw [Nat.min_eq_left z]
          exact .inl (by omega)
        · rw [Nat.min_eq_right z]
          exact .inr (by omega)
      · subst e1 e2
        obtain ⟨d1, q1, q2⟩ := g2.getV (f1 vs (g1.sq))
        obtain ⟨d2, q3, q4⟩ := g4.getV (f2 us (g3.sq))
        refine ⟨.new hT, w'.upd (w'.ne hT), .tuple [d1, d2], ?_, .tup (.new ho) (.cons (q2.keep (.new hT)) (.cons (q4.keep (.new hT)) .nil))⟩
        unfold zipD
        rw [List.getElem?_zipWith, q1, q3]
theorem EvI.imp {P' : List PyData → Prop} (h : EvI X b nn tg iter ρ P) (k : ∀ ds, P ds → P' ds) : EvI X b nn tg iter ρ P' := by
  obtain ⟨wi, pi, f⟩ := h
  exact ⟨wi, pi, fun σ H ok R q => f σ H ok R fun J H1 Gd ds kp s w pd => q J H1 Gd ds kp s w (k ds pd)⟩
end
/-! ### targets -/
/-- the target g stores a datum as F says, in the names sl -/
def TgOk (b : Bs) (g : TG) (F : PyData → Rho → Rho → Prop) (sl : List Nat) : Prop := ∀ σ H ρ v d ρ', EnvOk b H σ ρ → Dn H v d → F d ρ ρ' → ∀ Q : L2.St → Hp → Prop,
  (∀ σ', EnvOk b H σ' ρ' → Go b ρ σ H ρ' σ' H → (∀ vs : List Nat, (∀ i ∈ sl, i ∈ vs) → wipe σ' vs = wipe σ vs) → Q σ' H) → g v σ H Q
theorem wipe_set {σ : L2.St} {i : Nat} {x : Option V} : ∀ {vs : List Nat}, i ∈ vs → wipe (σ.set i x) vs = wipe σ vs
  | [], h => by cases h
  | v :: vs, h => by
    by_cases hv : i ∈ vs
    · unfold wipe
      rw [wipe_set hv]
    · have e : i = v := by
        rcases List.mem_cons.mp h with z | z
        · exact z
        · exact absurd z hv
      subst e
      have key : ∀ ws : List Nat, i ∉ ws → wipe (σ.set i x) ws = (wipe σ ws).set i x := by
        intro ws
        induction ws with
        | nil => intro _; rfl
        | cons u us ih =>
          intro hn
          unfold wipe
          rw [ih (fun z => hn (List.mem_cons_of_mem _ z)), List.set_comm _ _ (fun z => hn (by rw [z]; exact List.mem_cons_self))]
      unfold wipe
      rw [key vs hv, List.set_set]
section
variable {b : Bs}
def FName (i : Nat) : PyData → Rho → Rho → Prop := fun d ρ ρ' => ρ' = ρ.set i (some (.d d))
theorem tg_name (i : Nat) : TgOk b (gName i) (FName i) [i] := by
  intro σ H ρ v d ρ' ok r e Q q
  cases e
  exact q _ (ok.setD r) (.setD i v d) fun vs h => wipe_set (h i (List.mem_cons_self ..))
def FTwo (i j : Nat) : PyData → Rho → Rho → Prop := fun d ρ ρ' => ∃ x y, d = .tuple [x, y] ∧ ρ' = (ρ.set i (some (.d x))).set j (some (.d y))
theorem tg_two {K : PySem.W.Frag} (i j : Nat) : TgOk b (gTup K 2 (gCons (gName i) (gCons (gName j) gNil))) (FTwo i j) [i, j] := by
  intro σ H ρ v d ρ' ok r ⟨x, y, e1, e2⟩ Q q
  subst e1 e2
  cases r with
  | @tup a vs _ h1 t1 =>
    cases t1 with
    | cons r1 t2 =>
      cases t2 with
      | cons r2 t3 =>
        cases t3
        refine ⟨a, _, rfl, h1.sq, rfl, _, _, rfl, _, _, rfl, rfl, ?_⟩
        have ok1 := ok.setD (i := i) r1
        refine q _ (ok1.setD (i := j) r2) (Go.trans ok.wl (.setD i _ x) (.setD j _ y)) fun vs h => ?_
        rw [wipe_set (h j (by simp)), wipe_set (h i (by simp))]
end
/-! ### for -/
section
variable {X : Cx} {b : Bs} {ρ : Rho} {K : Post} {rest body : List Stmt} {tg iter : Expr} {P : List PyData → Prop} {pos : Pos} {g : TG} {F : PyData → Rho → Rho → Prop} {sl : List Nat}
theorem sts_for (hi : EvI X b true tg iter ρ P) (hc : X.calm = true) (hp : PassesOwn (model X.prog X.w) X.A X.env X.xe) (hg : PG X tg g) (ht : TgOk b g F sl)
    (loop : ∀ ds, P ds → ∃ I : Nat → Rho → Prop, I 0 ρ ∧ (∀ i d ρ', ds[i]? = some d → I i ρ' → ∃ ρ2, F d ρ' ρ2 ∧ Sts X b body ρ2 ⟨I (i + 1), K.rt, fun ρ3 => Sts X b rest ρ3 K, K.rl⟩) ∧ ∀ ρ', I ds.length ρ' → Sts X b rest ρ' K)
    (hs : ∀ x, foldedSetIterable iter X.env x = pure x := by intro _; rfl) : Sts X b (.For tg iter body [] pos :: rest) ρ K := by
  obtain ⟨wi, pi, f⟩ := hi
  refine sts_cons fun σ H ok D t => ?_
  refine .of (ps_for hp hc pi hg pbW hs) (f σ H ok _ fun J H1 Gd ds kp s w pd src good own => ?_)
  obtain ⟨I, i0, turn, fin⟩ := loop ds pd
  have ok1 := ok.go s w
  have t1 := t.go w (Go.sb ok.wl w s)
  refine ⟨fun i m σ' H' => m = ds.length - i ∧ i ≤ ds.length ∧ ∃ ρ', EnvOk b H' σ' ρ' ∧ Go b ρ σ H1 ρ' σ' H' ∧ I i ρ', ⟨ds.length, by simp, Nat.zero_le _, ρ, ok1, .refl, i0⟩, ?_⟩
  rintro i m σ' H' ⟨rfl, hle, ρ', ok', go', ii⟩
  have gd : Gd H' := good H' go'.kp fun p o hk e => go'.st p o (own p hk).1 e ((own p hk).2 rfl)
  obtain ⟨s1, s2, s3⟩ := src H' gd ok'.wl
  by_cases hlt : i < ds.length
  · refine .inr ⟨s1 i hlt, fun σ3 H3 => ∃ ρ3, EnvOk b H3 σ3 ρ3 ∧ Go b ρ σ H1 ρ3 σ3 H3 ∧ I (i + 1) ρ3, fun σ3 H3 ⟨ρ3, z1, z2, z3⟩ => ⟨ds.length - (i + 1), by omega, rfl, hlt, ρ3, z1, z2, z3⟩, fun x H2 y => ?_⟩
    obtain ⟨sb2, w2, d, hd, rd⟩ := s3 i x H2 hlt y
    obtain ⟨ρ2, hF, hB⟩ := turn i d ρ' hd ii
    have ok2 := ok'.go sb2 w2
    refine ht σ' H2 ρ' x d ρ2 ok2 rd hF _ fun σ2 ok3 go3 _ => ?_
    have goA : Go b ρ σ H1 ρ2 σ2 H2 := (go'.trans ok'.wl (Go.sb ok'.wl w2 sb2)).trans w2 go3
    exact hB σ2 H2 ok3 _ ⟨fun σ4 H4 ρ4 g4 ok4 k4 => ⟨ρ4, ok4, goA.trans w2 g4, k4⟩, t1.rt, fun σ4 H4 ρ4 g4 ok4 k4 => t1.nx σ4 H4 ρ4 (goA.trans w2 g4) ok4 k4, t1.rl⟩
  · have e : i = ds.length := by omega
    subst e
    exact .inl ⟨s2, t1.nx σ' H' ρ' go' ok' (fin ρ' ii)⟩
end
/-! ### comprehensions -/
def wipeR (ρ : Rho) : List Nat → Rho
  | [] => ρ
  | v :: vs => (wipeR ρ vs).set v none
theorem wipeR_some {ρ : Rho} {i : Nat} {x : S} : ∀ {vs : List Nat}, (wipeR ρ vs)[i]? = some (some x) → ρ[i]? = some (some x) ∧ i ∉ vs
  | [], h => ⟨h, by simp⟩
  | v :: vs, h => by
    unfold wipeR at h
    by_cases hi : v = i
    · subst hi
      by_cases hv : v < (wipeR ρ vs).length
      · rw [List.getElem?_set_self hv] at h
        cases h
      · rw [List.getElem?_eq_none (by simpa using hv)] at h
        cases h
    · rw [List.getElem?_set_ne hi] at h
      obtain ⟨h1, h2⟩ := wipeR_some h
      exact ⟨h1, by simp only [List.mem_cons, not_or]; exact ⟨fun e => hi e.symm, h2⟩⟩
theorem wipeR_len (ρ : Rho) : ∀ vs : List Nat, (wipeR ρ vs).length = ρ.length
  | [] => rfl
  | v :: vs => by
    unfold wipeR
    rw [List.length_set, wipeR_len ρ vs]
theorem wipe_at {σ : L2.St} {i : Nat} {x : V} (h : σ[i]? = some (some x)) : ∀ {vs : List Nat}, i ∉ vs → (wipe σ vs)[i]? = some (some x)
  | [], _ => h
  | v :: vs, hn => by
    unfold wipe
    rw [List.getElem?_set_ne (fun z => hn (by rw [z]; exact List.mem_cons_self))]
    exact wipe_at h fun z => hn (List.mem_cons_of_mem _ z)
theorem EnvOk.wipe {b : Bs} {H : Hp} {σ : L2.St} {ρ : Rho} (ok : EnvOk b H σ ρ) (vs : List Nat) : EnvOk b H (L2.wipe σ vs) (wipeR ρ vs) :=
  ⟨ok.base, ok.wl0, ok.wl, by rw [wipe_length, wipeR_len]; exact ok.len, fun i s e => by
    obtain ⟨h1, h2⟩ := wipeR_some e
    obtain ⟨v, z1, z2⟩ := ok.at_ i s h1
    exact ⟨v, wipe_at z1 h2, z2⟩, fun i ds p e e2 => ok.own i ds p (wipeR_some e).1 (wipe_some e2).1, fun i j ds m es p hij e1 e2 e3 z => ok.inj i j ds m es p hij (wipeR_some e1).1 (wipeR_some e2).1 (wipe_some e3).1 (wipe_some z).1⟩
def Tss (X : Cx) (ifs : List Expr) (σ : L2.St) (H : Hp) (Q : Bool → Hp → Prop) : Prop := ∀ (pins : List (Addr × Obj)) (s : Shared), Inv X pins σ H s →
  wpAny (model X.prog X.w) X.A (forIn ifs true fun c r => if r = true then do let ok ← isTrue c X.env (eval c X.env); pure (ForInStep.yield ok) else pure (ForInStep.yield r)) (TP X pins σ Q) X.xe s
/-- the tests behind a comprehension's for -/
def EdTs (X : Cx) (b : Bs) (ifs : List Expr) (ρ : Rho) (k : Bool) : Prop := ∀ σ H, EnvOk b H σ ρ → ∀ Q : Bool → Hp → Prop, (∀ H', SB b.W H H' → Wl b.W H' → Q k H') → Tss X ifs σ H Q
theorem edts_nil {X : Cx} {b : Bs} {ρ : Rho} : EdTs X b [] ρ true := fun σ H ok Q q pins s I => pts_nil.run pins s σ H Q I (q H .refl ok.wl)
theorem edts_one {X : Cx} {b : Bs} {ρ : Rho} {c : Expr} {k : Bool} (h : EdT X b c ρ k) : EdTs X b [c] ρ k := fun σ H ok Q q pins s I => (pts_one ptW).run pins s σ H Q I (h σ H ok Q fun j H' s w e => by rw [e]; exact q H' s w)
section
variable {X : Cx} {b : Bs} {ρ : Rho} {tg iter elt : Expr} {ifs : List Expr} {scope : Scope} {own : List (Str × Nat)} {P PL : List PyData → Prop} {pos : Pos} {g : TG} {F : PyData → Rho → Rho → Prop} {sl : List Nat}
/-- the comprehension's inside -/
theorem tlc_go {wi : TI} (fi : ∀ σ H, EnvOk b H σ ρ → ∀ R : It → Hp → Prop,
  (∀ J H1 Gd ds (kp : Addr → Prop), SB b.W H H1 → Wl b.W H1 → P ds → Src b J Gd ds → (∀ H', Kp H1 H' → (∀ p o, kp p → H1 p = some o → H' p = some o) → Gd H') → (∀ p, kp p → b.W ≠ some p ∧ (false = true → ¬ Own ρ σ p)) → R J H1) → wi σ H R)
    (ht : TgOk b g F sl) (hsl : ∀ i ∈ sl, i ∈ own.map (·.2))
    (body : ∀ ds, P ds → ds.length ≤ 50000 ∧ ∃ ys : List (Option PyData), ys.length = ds.length ∧ PL (ys.filterMap id) ∧ ∀ (i : Nat) (d : PyData) (o : Option PyData), ds[i]? = some d → ys[i]? = some o → ∃ ρ2, F d (wipeR ρ (own.map (·.2))) ρ2 ∧
      ∀ (s : Shared) (H : Hp) (C : Addr) (cl : List (Str × Addr)) (fp : List Addr), EdTs (X.blk s H scope (compEnvC scope cl C X.env) fp) b ifs ρ2 o.isSome ∧ ∀ y, o = some y → Ed (X.blk s H scope (compEnvC scope cl C X.env) fp) b elt ρ2 y)
    (σ : L2.St) (H : Hp) (ok : EnvOk b H σ ρ) (Q : VK) (q : ∀ p H' vs ds, H p = none → SB b.W H H' → Wl b.W H' → H' p = some (.lst vs) → DnA H' vs ds → PL ds → Q (.ref p) H') :
    tLc wi g (fun σ H Q => ∀ (s0 : Shared) (H0 : Hp) (C : Addr) (cl : List (Str × Addr)) (fp : List Addr), Tss (X.blk s0 H0 scope (compEnvC scope cl C X.env) fp) ifs σ H Q)
      (fun σ H Q => ∀ (s0 : Shared) (H0 : Hp) (C : Addr) (cl : List (Str × Addr)) (fp : List Addr), Exp (X.blk s0 H0 scope (compEnvC scope cl C X.env) fp) elt σ H Q) (own.map (·.2)) σ H Q := by
  refine fi σ H ok _ fun J H1 Gd ds kp s w pd src good ow => ?_
  obtain ⟨hlen, ys, hyl, hPL, turn⟩ := body ds pd
  intro L hL
  have hWL : b.W ≠ some L := w.ne hL
  refine ⟨fun i m H' => m = ds.length - i ∧ i ≤ ds.length ∧ SB b.W H1 H' ∧ Wl b.W H' ∧ ∃ acc, H' L = some (.lst acc) ∧ acc.length ≤ i ∧ DnA H' acc ((ys.take i).filterMap id),
    ⟨ds.length, by simp, Nat.zero_le _, .new hL, w.upd hWL, [], upd_same, Nat.le_refl _, by simpa using DnA.nil⟩, ?_⟩
  rintro i m H' ⟨rfl, hle, sb, w', acc, hacc, lacc, racc⟩
  have gd : Gd H' := good H' (kp_of sb w w') fun p o hk e => sb p o (ow p hk).1 e
  obtain ⟨s1, s2, s3⟩ := src H' gd w'
  by_cases hlt : i < ds.length
  · refine .inr ⟨s1 i hlt, fun H3 => SB b.W H1 H3 ∧ Wl b.W H3 ∧ ∃ acc, H3 L = some (.lst acc) ∧ acc.length ≤ i + 1 ∧ DnA H3 acc ((ys.take (i + 1)).filterMap id), fun H3 ⟨z1, z2, z3⟩ => ⟨ds.length - (i + 1), by omega, rfl, hlt, z1, z2, z3⟩, fun x H2 y => ?_⟩
    obtain ⟨sb2, w2, d, hd, rd⟩ := s3 i x H2 hlt y
    have hget : ds[i]? = some d := hd
    obtain ⟨o, ho⟩ : ∃ o, ys[i]? = some o := ⟨_, List.getElem?_eq_getElem (by rw [hyl]; exact hlt)⟩
    have htk : ys.take (i + 1) = ys.take i ++ [o] := by
      rw [List.take_succ, ho]
      rfl
    obtain ⟨ρ2, hF, hB⟩ := turn i d o hget ho
    have okw : EnvOk b H2 (L2.wipe σ (own.map (·.2))) (wipeR ρ (own.map (·.2))) := ((ok.go s w).wipe _).go (sb.trans sb2) w2
    refine ht _ H2 _ x d ρ2 okw rd hF _ fun σ2 ok3 _ wp => ?_
    refine ⟨?_, fun s0 H0 C cl fp => (hB s0 H0 C cl fp).1 σ2 H2 ok3 _ fun H3 sb3 w3 => ?_⟩
    · have e1 := wp (own.map (·.2)) hsl
      have key : ∀ (vs : List Nat), L2.wipe (L2.wipe σ vs) vs = L2.wipe σ vs := by
        have aux : ∀ (us vs : List Nat), (∀ i ∈ us, i ∈ vs) → L2.wipe (L2.wipe σ us) vs = L2.wipe σ vs := by
          intro us
          induction us with
          | nil => intro vs _; rfl
          | cons u us ih =>
            intro vs h
            show L2.wipe ((L2.wipe σ us).set u none) vs = L2.wipe σ vs
            rw [wipe_set (h u List.mem_cons_self), ih vs fun i hi => h i (List.mem_cons_of_mem _ hi)]
        exact fun vs => aux vs vs fun i hi => hi
      rw [e1, key]
    · have ok4 := ok3.go sb3 w3
      have sbA : SB b.W H1 H3 := (sb.trans sb2).trans sb3
      have hacc3 : H3 L = some (.lst acc) := sb3 _ _ hWL (sb2 _ _ hWL hacc)
      have racc3 := racc.keep ((kp_of sb2 w' w2).trans (kp_of sb3 w2 w3))
      cases o with
      | some y =>
        refine iteT fun s0 H0 C cl fp => (hB s0 H0 C cl fp).2 y rfl σ2 H3 ok4 _ fun v H4 d' sb4 w4 rv ev => ?_
        subst ev
        have hacc4 := sb4 _ _ hWL hacc3
        have racc4 := racc3.keep (kp_of sb4 w3 w4)
        have hz : acc.length < sizeLine := Nat.lt_of_le_of_lt (Nat.le_trans lacc (Nat.le_trans hle hlen)) (by decide)
        refine ⟨acc, hacc4, hz, (sbA.trans sb4).mut hL, w4.upd hWL, _, upd_same, by rw [List.length_append]; exact Nat.succ_le_succ lacc, ?_⟩
        rw [htk, List.filterMap_append]
        exact (racc4.app (.one rv)).keep (.mut hacc4 rfl rfl)
      | none =>
        refine iteF ⟨sbA, w3, acc, hacc3, Nat.le_succ_of_le lacc, ?_⟩
        rw [htk, List.filterMap_append]
        simpa using racc3
  · have e : i = ds.length := by omega
    subst e
    rw [← hyl, List.take_length] at racc
    exact .inl ⟨s2, q L H' acc _ (s.fresh w hL) (s.trans sb) w' hacc racc hPL⟩
theorem evl_lc (hc : X.calm = true) (hN : X.N.Nodup) (bk : BlkOk X.N X.env.scope scope own) (hi : EvI X b false tg iter ρ P)
    (hg : ∀ (s : Shared) (H : Hp) (C : Addr) (cl : List (Str × Addr)) (fp : List Addr), PG (X.blk s H scope (compEnvC scope cl C X.env) fp) tg g) (ht : TgOk b g F sl) (hsl : ∀ i ∈ sl, i ∈ own.map (·.2))
    (body : ∀ ds, P ds → ds.length ≤ 50000 ∧ ∃ ys : List (Option PyData), ys.length = ds.length ∧ PL (ys.filterMap id) ∧ ∀ (i : Nat) (d : PyData) (o : Option PyData), ds[i]? = some d → ys[i]? = some o → ∃ ρ2, F d (wipeR ρ (own.map (·.2))) ρ2 ∧
      ∀ (s : Shared) (H : Hp) (C : Addr) (cl : List (Str × Addr)) (fp : List Addr), EdTs (X.blk s H scope (compEnvC scope cl C X.env) fp) b ifs ρ2 o.isSome ∧ ∀ y, o = some y → Ed (X.blk s H scope (compEnvC scope cl C X.env) fp) b elt ρ2 y)
    (hs : ∀ x, foldedSetIterable iter X.env x = pure x := by intro _; rfl) : EvL X b (.ListComp elt [⟨tg, iter, ifs, 0⟩] scope pos) ρ PL := by
  obtain ⟨wi, pi, fi⟩ := hi
  exact fun σ H ok Q q => .of (pe_lc hc hN pi bk hg (fun s H C cl fp => ⟨fun pins s' σ H' Q I h => h s H C cl fp pins s' I⟩) (fun s H C cl fp => ⟨fun pins s' σ H' Q I h => h s H C cl fp pins s' I⟩) hs) (tlc_go fi ht hsl body σ H ok Q q)
/-- name = [..] -/
theorem sts_lc {i : Nat} {y : Str} {py spos : Pos} {rest : List Stmt} {K : Post} (hc : X.calm = true) (hN : X.N.Nodup) (bk : BlkOk X.N X.env.scope scope own) (hi : EvI X b false tg iter ρ P)
    (hg : ∀ (s : Shared) (H : Hp) (C : Addr) (cl : List (Str × Addr)) (fp : List Addr), PG (X.blk s H scope (compEnvC scope cl C X.env) fp) tg g) (ht : TgOk b g F sl) (hsl : ∀ i ∈ sl, i ∈ own.map (·.2))
    (body : ∀ ds, P ds → ds.length ≤ 50000 ∧ ∃ ys : List (Option PyData), ys.length = ds.length ∧ PL (ys.filterMap id) ∧ ∀ (i : Nat) (d : PyData) (o : Option PyData), ds[i]? = some d → ys[i]? = some o → ∃ ρ2, F d (wipeR ρ (own.map (·.2))) ρ2 ∧
      ∀ (s : Shared) (H : Hp) (C : Addr) (cl : List (Str × Addr)) (fp : List Addr), EdTs (X.blk s H scope (compEnvC scope cl C X.env) fp) b ifs ρ2 o.isSome ∧ ∀ y, o = some y → Ed (X.blk s H scope (compEnvC scope cl C X.env) fp) b elt ρ2 y)
    (hy : X.N[i]? = some y) (hyl : X.env.scope.names.lookup y = some .local) (hsw : swapsWith (.ListComp elt [⟨tg, iter, ifs, 0⟩] scope pos) (some (.Name y py)) spos.line X.env = pure true)
    (k : ∀ ds, PL ds → Sts X b rest (ρ.set i (some (.l true ds))) K) (hs : ∀ x, foldedSetIterable iter X.env x = pure x := by intro _; rfl) : Sts X b (.Assign [.Name y py] (.ListComp elt [⟨tg, iter, ifs, 0⟩] scope pos) spos :: rest) ρ K := by
  obtain ⟨wi, pi, fi⟩ := hi
  refine sts_cons fun σ H ok D t => ?_
  refine .of (ps_setLc (i := i) hc hN hy hyl hsw pi bk hg (fun s H C cl fp => ⟨fun pins s' σ H' Q I h => h s H C cl fp pins s' I⟩) (fun s H C cl fp => ⟨fun pins s' σ H' Q I h => h s H C cl fp pins s' I⟩) hs) (tlc_go fi ht hsl body σ H ok _ fun p H1 vs ds hn s w hp r z => ?_)
  exact t.nx _ _ _ (.setL hn i (kp_of s ok.wl w) s) (ok.setL (ok.go s w) hn hp r) (k ds z)
/-- of things told one by one -/
theorem map_body {α : Type} {xs : List α} {gd : α → PyData} (kf : α → Bool) (f : α → PyData) (hl : xs.length ≤ 50000)
    (body : ∀ x ∈ xs, ∃ ρ2, F (gd x) (wipeR ρ (own.map (·.2))) ρ2 ∧
      ∀ (s : Shared) (H : Hp) (C : Addr) (cl : List (Str × Addr)) (fp : List Addr), EdTs (X.blk s H scope (compEnvC scope cl C X.env) fp) b ifs ρ2 (kf x) ∧ (kf x = true → Ed (X.blk s H scope (compEnvC scope cl C X.env) fp) b elt ρ2 (f x))) (ds : List PyData) (e : ds = xs.map gd) :
    ds.length ≤ 50000 ∧ ∃ ys : List (Option PyData), ys.length = ds.length ∧ (fun z => z = (xs.filter kf).map f) (ys.filterMap id) ∧ ∀ (i : Nat) (d : PyData) (o : Option PyData), ds[i]? = some d → ys[i]? = some o → ∃ ρ2, F d (wipeR ρ (own.map (·.2))) ρ2 ∧
      ∀ (s : Shared) (H : Hp) (C : Addr) (cl : List (Str × Addr)) (fp : List Addr), EdTs (X.blk s H scope (compEnvC scope cl C X.env) fp) b ifs ρ2 o.isSome ∧ ∀ y, o = some y → Ed (X.blk s H scope (compEnvC scope cl C X.env) fp) b elt ρ2 y := by
  subst e
  refine ⟨by rw [List.length_map]; exact hl, xs.map fun x => if kf x then some (f x) else none, by rw [List.length_map, List.length_map], ?_, fun i d o h1 h2 => ?_⟩
  · clear hl body
    induction xs with
    | nil => rfl
    | cons x xs ih =>
      rw [List.map_cons, List.filter_cons]
      cases hk : kf x with
      | true =>
        rw [if_pos rfl, if_pos rfl, List.filterMap_cons]
        show f x :: _ = f x :: _
        rw [ih]
      | false =>
        rw [if_neg Bool.false_ne_true, if_neg Bool.false_ne_true, List.filterMap_cons]
        exact ih
  · rw [List.getElem?_map] at h1 h2
    cases e : xs[i]? with
    | none => rw [e] at h1; cases h1
    | some x =>
      rw [e] at h1 h2
      cases h1
      cases h2
      obtain ⟨ρ2, hF, hB⟩ := body x (List.mem_of_getElem? e)
      refine ⟨ρ2, hF, fun s H C cl fp => ?_⟩
      obtain ⟨h3, h4⟩ := hB s H C cl fp
      cases hk : kf x with
      | true =>
        rw [hk] at h3
        simp only [hk, if_pos]
        exact ⟨h3, fun y hy => by cases hy; exact h4 hk⟩
      | false =>
        rw [hk] at h3
        simp only [hk, Bool.false_eq_true, if_false]
        exact ⟨h3, fun y hy => by cases hy⟩
/-- .. over the data g x of the things xs, by what is told of each x -/
theorem evl_map {α : Type} {xs : List α} {gd : α → PyData} (kf : α → Bool) (f : α → PyData) (hc : X.calm = true) (hN : X.N.Nodup) (bk : BlkOk X.N X.env.scope scope own) (hi : EvI X b false tg iter ρ fun z => z = xs.map gd)
    (hg : ∀ (s : Shared) (H : Hp) (C : Addr) (cl : List (Str × Addr)) (fp : List Addr), PG (X.blk s H scope (compEnvC scope cl C X.env) fp) tg g) (ht : TgOk b g F sl) (hsl : ∀ i ∈ sl, i ∈ own.map (·.2)) (hl : xs.length ≤ 50000)
    (body : ∀ x ∈ xs, ∃ ρ2, F (gd x) (wipeR ρ (own.map (·.2))) ρ2 ∧
      ∀ (s : Shared) (H : Hp) (C : Addr) (cl : List (Str × Addr)) (fp : List Addr), EdTs (X.blk s H scope (compEnvC scope cl C X.env) fp) b ifs ρ2 (kf x) ∧ (kf x = true → Ed (X.blk s H scope (compEnvC scope cl C X.env) fp) b elt ρ2 (f x)))
    (hs : ∀ x, foldedSetIterable iter X.env x = pure x := by intro _; rfl) : EdL X b (.ListComp elt [⟨tg, iter, ifs, 0⟩] scope pos) ρ ((xs.filter kf).map f) := by
  exact evl_lc hc hN bk hi hg ht hsl (map_body kf f hl body) hs
end
end Lay
/-! PA6 -/
/-! the data layer, part 6: built-ins, methods, stores -/
namespace Lay
open PySem PySem.Spec PyProof.Rows L2
section
variable {X : Cx} {b : Bs} {ρ : Rho} {e e2 e3 : Expr} {es : List Expr} {P Pa Pb : PyData → Prop} {PA PL : List PyData → Prop} {PS : List S → Prop} {p p2 pos : Pos} {x : Str}
/-! ### built-ins by values -/
theorem exp_callB {id : String} {r : List V → Hp → VK → Prop} {σ : L2.St} {H : Hp} {Q : VK} (hc : CallR X (.builtin id) r) (hg : Gl X x) (hm : X.mg x = none) (hv : bootBuiltins x = some (.builtin id)) (h : Exa X (e :: es) σ H fun vs H1 => r vs H1 Q) (hn : x ≠ "__name__" := by decide) (hdb : (x == ("__debug__" : Str)) = false := by decide)
    (he : starEach (e :: es) X.env = (false, eval e X.env) :: starEach es X.env := by rfl) (hpl : (backTo pos (starEach es X.env)).any (·.1) = false := by rfl) : Exp X (.Call (.Name x p) (e :: es) [] pos) σ H Q := .of (pe_callB hc hg hm hv paW hn hdb he hpl) h
theorem exp_callT {T : String} {r : List V → Hp → VK → Prop} {σ : L2.St} {H : Hp} {Q : VK} (hc : CallR X (.type T) r) (hg : Gl X x) (hm : X.mg x = none) (hv : bootBuiltins x = some (.type T)) (h : Exa X (e :: es) σ H fun vs H1 => r vs H1 Q) (hn : x ≠ "__name__" := by decide) (hdb : (x == ("__debug__" : Str)) = false := by decide)
    (he : starEach (e :: es) X.env = (false, eval e X.env) :: starEach es X.env := by rfl) (hpl : (backTo pos (starEach es X.env)).any (·.1) = false := by rfl) : Exp X (.Call (.Name x p) (e :: es) [] pos) σ H Q := .of (pe_callTy hc hg hm hv paW hn hdb he hpl) h
/-- one argument -/
theorem exa_one {σ : L2.St} {H : Hp} {Q : List V → Hp → Prop} (h : Exp X e σ H fun v H1 => Q [v] H1) (hs : starEach [e] X.env = (false, eval e X.env) :: starEach [] X.env := by rfl) : Exa X [e] σ H Q := .of (pa_cons peW pa_nil hs) h
theorem exa_two {σ : L2.St} {H : Hp} {Q : List V → Hp → Prop} (h : Exp X e σ H fun v H1 => Exp X e2 σ H1 fun u H2 => Q [v, u] H2) (hs : starEach [e, e2] X.env = (false, eval e X.env) :: starEach [e2] X.env := by rfl) (hs1 : starEach [e2] X.env = (false, eval e2 X.env) :: starEach [] X.env := by rfl) : Exa X [e, e2] σ H Q := .of (pa_cons peW (pa_cons peW pa_nil hs1) hs) h
theorem ed_len {ds : List PyData} (hg : Gl X "len") (hm : X.mg "len" = none) (h : Ed X b e ρ (.tuple ds)) (hs : starEach [e] X.env = (false, eval e X.env) :: starEach [] X.env := by rfl) : Ed X b (.Call (.Name "len" p) [e] [] pos) ρ (.int ds.length) := by
  intro σ H ok Q q
  refine exp_callB call_len_seq hg hm (by decide +kernel) (exa_one (h σ H ok _ fun v H1 d s w r e1 => ?_) hs) (he := hs)
  subst e1
  cases r with
  | tup h1 t1 => exact ⟨_, _, rfl, .inr (h1.sq), by rw [t1.len]; exact q _ H1 _ s w (.int _) rfl⟩
theorem ed_lenL {ds : List PyData} (hg : Gl X "len") (hm : X.mg "len" = none) (h : EvR X b e ρ fun z => z = ds) (hs : starEach [e] X.env = (false, eval e X.env) :: starEach [] X.env := by rfl) : Ed X b (.Call (.Name "len" p) [e] [] pos) ρ (.int ds.length) := by
  intro σ H ok Q q
  refine exp_callB call_len_seq hg hm (by decide +kernel) (exa_one (h σ H ok _ fun a H1 vs d hw s w h1 r e1 => ?_) hs) (he := hs)
  subst e1
  exact ⟨_, _, rfl, .inl (SqL.of h1), by rw [r.len]; exact q _ H1 _ s w (.int _) rfl⟩
theorem ed_all {bs : List Bool} (hg : Gl X "all") (hm : X.mg "all" = none) (hc : X.calm = true) (h : EvR X b e ρ fun z => z = bs.map .bool) (hs : starEach [e] X.env = (false, eval e X.env) :: starEach [] X.env := by rfl) : Ed X b (.Call (.Name "all" p) [e] [] pos) ρ (.bool (bs.all id)) := by
  intro σ H ok Q q
  refine exp_callB (cr_all hc) hg hm (by decide +kernel) (exa_one (h σ H ok _ fun a H1 vs d hw s w h1 r e1 => ?_) hs) (he := hs)
  subst e1
  have := r.bls_of
  subst this
  exact ⟨a, bs, rfl, SqL.of h1, q _ H1 _ s w (.bl _) rfl⟩
theorem ed_sum {ns : List Int} (hg : Gl X "sum") (hm : X.mg "sum" = none) (hc : X.calm = true) (h : EvR X b e ρ fun z => z = ns.map .int) (hs : starEach [e] X.env = (false, eval e X.env) :: starEach [] X.env := by rfl) : Ed X b (.Call (.Name "sum" p) [e] [] pos) ρ (.int ns.sum) := by
  intro σ H ok Q q
  refine exp_callB (cr_sum hc) hg hm (by decide +kernel) (exa_one (h σ H ok _ fun a H1 vs d hw s w h1 r e1 => ?_) hs) (he := hs)
  subst e1
  have := r.ints_of
  subst this
  exact ⟨a, ns, rfl, SqL.of h1, q _ H1 _ s w (.int _) rfl⟩
theorem ev_abs (hg : Gl X "abs") (hm : X.mg "abs" = none) (h : Ev X b e ρ fun d => ∃ i, d = .int i ∧ P (.int (if i < 0 then -i else i))) (hs : starEach [e] X.env = (false, eval e X.env) :: starEach [] X.env := by rfl) : Ev X b (.Call (.Name "abs" p) [e] [] pos) ρ P := by
  intro σ H ok Q q
  refine exp_callB call_abs hg hm (by decide +kernel) (exa_one (h σ H ok _ fun v H1 d s w r ⟨i, e1, e2⟩ => ?_) hs) (he := hs)
  subst e1
  cases r
  exact ⟨i, rfl, q _ H1 _ s w (.int _) e2⟩
theorem call_divmodF : CallR X (.builtin "divmod") (fun xs H Q => ∃ i j, xs = [.int i, .int j] ∧ CDiv i j ∧ ∀ p o, o.dict = none → H p = none → Q (.ref p) (upd H p (.frz o (.tup [.int (i / j), .int (i % j)])))) := by
  rintro pins s σ H xs us Q I r ⟨i, j, rfl, ⟨h1, h2⟩, q⟩
  obtain ⟨_, _, rfl, ⟨t, rfl⟩, ⟨t', rfl⟩⟩ := vals2 r
  refine divmod_int (by omega) ?_ (.inl (PyProof.noPylong_small (by omega)))
  rw [Int.fdiv_eq_ediv_of_nonneg i (by omega), Int.fmod_eq_emod_of_nonneg i (by omega)]
  have I2 : Inv X pins σ H { s with toks := s.toks + 1 + 1 } := I.tok _
  exact tup_made (xs := [.int (i / j), .int (i % j)]) (us := [.int (i / j) s.toks, .int (i % j) (s.toks + 1)]) I2 (.cons ⟨_, rfl⟩ (.cons ⟨_, rfl⟩ .nil)) (Nat.le_trans (show 2 ≤ 2 from Nat.le_refl 2) (by decide)) q
theorem ev_divmod (hg : Gl X "divmod") (hm : X.mg "divmod" = none) (ha : Ev X b e ρ Pa) (hb : Ev X b e2 ρ Pb) (h : ∀ d d2, Pa d → Pb d2 → ∃ i j, d = .int i ∧ d2 = .int j ∧ CDiv i j ∧ P (.tuple [.int (i / j), .int (i % j)]))
    (hs : starEach [e, e2] X.env = (false, eval e X.env) :: starEach [e2] X.env := by rfl) (hs1 : starEach [e2] X.env = (false, eval e2 X.env) :: starEach [] X.env := by rfl) (hpl : (backTo pos (starEach [e2] X.env)).any (·.1) = false := by rfl) : Ev X b (.Call (.Name "divmod" p) [e, e2] [] pos) ρ P := by
  intro σ H ok Q q
  refine exp_callB call_divmodF hg hm (by decide +kernel) (exa_two (ha σ H ok _ fun v H1 d s w r p1 => hb σ H1 (ok.go s w) _ fun u H2 d2 s2 w2 r2 p2 => ?_) hs hs1) (he := hs) (hpl := hpl)
  obtain ⟨i, j, e1, e2, hc, hp⟩ := h d d2 p1 p2
  subst e1 e2
  cases r
  cases r2
  refine ⟨i, j, rfl, hc, fun t o ho ht => ?_⟩
  exact q _ _ _ ((s.trans s2).trans (.new ht)) (w2.upd (w2.ne ht)) (.tup (.new ho) (.cons (.int _) (.cons (.int _) .nil))) hp
/-- int(i), int(flag) -/
theorem ed_int1 {i : Int} (hg : Gl X "int") (hm : X.mg "int" = none) (h : Ed X b e ρ (.int i)) (hs : starEach [e] X.env = (false, eval e X.env) :: starEach [] X.env := by rfl) : Ed X b (.Call (.Name "int" p) [e] [] pos) ρ (.int i) := by
  intro σ H ok Q q
  refine exp_callT call_int1 hg hm (by decide +kernel) (exa_one (h σ H ok _ fun v H1 d s w r e1 => ?_) hs) (he := hs)
  subst e1
  cases r
  exact .inl ⟨i, rfl, q _ H1 _ s w (.int _) rfl⟩
theorem ev_int1 (hg : Gl X "int") (hm : X.mg "int" = none) (h : Ev X b e ρ fun d => ∃ i, d = .int i ∧ P (.int i)) (hs : starEach [e] X.env = (false, eval e X.env) :: starEach [] X.env := by rfl) : Ev X b (.Call (.Name "int" p) [e] [] pos) ρ P := by
  intro σ H ok Q q
  refine exp_callT call_int1 hg hm (by decide +kernel) (exa_one (h σ H ok _ fun v H1 d s w r ⟨i, e1, hp⟩ => ?_) hs) (he := hs)
  subst e1
  cases r
  exact .inl ⟨i, rfl, q _ H1 _ s w (.int _) hp⟩
theorem ed_intb {k : Bool} (hg : Gl X "int") (hm : X.mg "int" = none) (h : Ed X b e ρ (.bool k)) (hs : starEach [e] X.env = (false, eval e X.env) :: starEach [] X.env := by rfl) : Ed X b (.Call (.Name "int" p) [e] [] pos) ρ (.int (if k then 1 else 0)) := by
  intro σ H ok Q q
  refine exp_callT call_int1 hg hm (by decide +kernel) (exa_one (h σ H ok _ fun v H1 d s w r e1 => ?_) hs) (he := hs)
  subst e1
  cases r
  exact .inr ⟨k, rfl, q _ H1 _ s w (.int _) rfl⟩
/-- tuple(a list) -/
theorem call_tupleF : CallR X (.type "tuple") (fun xs H Q => ∃ p ys, xs = [.ref p] ∧ SqL X.K H p ys ∧ ∀ l o, o.dict = none → H l = none → Q (.ref l) (upd H l (.frz o (.tup ys)))) := by
  rintro pins s σ H xs us Q I r ⟨p, ys, rfl, hq, q⟩
  obtain ⟨u, rfl, rx⟩ := vals1 r
  cases rx
  obtain ⟨its, r', pl, hz⟩ := I.list hq
  refine call_tuple_list pl.isList (fun h1 kp => tup_made (I.kept (t' := s.toks) kp) r' hz q) ?_
  rw [List.size_toArray, ← r'.length]
  exact hz
theorem ev_tupleL (hg : Gl X "tuple") (hm : X.mg "tuple" = none) (h : EvR X b e ρ fun ds => P (.tuple ds)) (hs : starEach [e] X.env = (false, eval e X.env) :: starEach [] X.env := by rfl) : Ev X b (.Call (.Name "tuple" p) [e] [] pos) ρ P := by
  intro σ H ok Q q
  refine exp_callT call_tupleF hg hm (by decide +kernel) (exa_one (h σ H ok _ fun a H1 vs ds hw s w h1 r hp => ?_) hs) (he := hs)
  exact ⟨a, vs, rfl, SqL.of h1, fun t o ho ht => q _ _ _ (s.trans (.new ht)) (w.upd (w.ne ht)) (.tup (.new ho) (r.keep (.new ht))) hp⟩
/-- list(a tuple), never looked into -/
theorem ev_listT (hg : Gl X "list") (hm : X.mg "list" = none) (h : Ev X b e ρ fun d => ∃ ds, d = .tuple ds) (hp : P (.dict [])) (hs : starEach [e] X.env = (false, eval e X.env) :: starEach [] X.env := by rfl) : Ev X b (.Call (.Name "list" p) [e] [] pos) ρ P := by
  intro σ H ok Q q
  refine exp_callT call_list_of hg hm (by decide +kernel) (exa_one (h σ H ok _ fun v H1 d s w r ⟨ds, e1⟩ => ?_) hs) (he := hs)
  subst e1
  cases r with
  | tup h1 t1 => exact ⟨_, _, rfl, .inr (h1.sq), fun t ht => q _ _ _ (s.trans (.new ht)) (w.upd (w.ne ht)) (.oth upd_same rfl) hp⟩
/-! ### isinstance -/
def isD (C : String) : PyData → Bool
  | .int _ => C == "int"
  | .bool _ => C == "int" || C == "bool"
  | .str _ => C == "str"
  | .tuple _ => C == "tuple"
  | _ => false
theorem isB_ok {K : PySem.W.Frag} {H : Hp} {v : V} {d : PyData} {C : String} (hC : C = "int" ∨ C = "bool" ∨ C = "str" ∨ C = "tuple") (r : Dn H v d) : ∃ t, TyX K H v (.type t) ∧ kitB t C = some (isD C d) := by
  cases r with
  | non => exact ⟨"NoneType", .base .non, by rcases hC with h | h | h | h <;> subst h <;> simp only [isD] <;> decide +kernel⟩
  | bl x => exact ⟨"bool", .base (.bl x), by rcases hC with h | h | h | h <;> subst h <;> simp only [isD] <;> decide +kernel⟩
  | int x => exact ⟨"int", .base (.int x), by rcases hC with h | h | h | h <;> subst h <;> simp only [isD] <;> decide +kernel⟩
  | str x => exact ⟨"str", .base (.str x), by rcases hC with h | h | h | h <;> subst h <;> simp only [isD] <;> decide +kernel⟩
  | tup h1 _ => exact ⟨"tuple", (let ⟨_, q, _⟩ := h1; .fTuple q), by rcases hC with h | h | h | h <;> subst h <;> simp only [isD] <;> decide +kernel⟩
  | @oth a o h1 l =>
    cases o with
    | lst xs => exact ⟨"list", .base (.lst h1), by rcases hC with h | h | h | h <;> subst h <;> simp only [isD] <;> decide +kernel⟩
    | dK kvs => exact ⟨"dict", .base (.dK h1), by rcases hC with h | h | h | h <;> subst h <;> simp only [isD] <;> decide +kernel⟩
    | _ => cases l
theorem ed_isi {d : PyData} {C : String} (hg : Gl X "isinstance") (hm : X.mg "isinstance" = none) {xc : Str} (hgc : Gl X xc) (hmc : X.mg xc = none) (hvc : bootBuiltins xc = some (.type C)) (hC : C = "int" ∨ C = "bool" ∨ C = "str" ∨ C = "tuple") (h : Ed X b e ρ d)
    (hn : xc ≠ "__name__" := by decide) (hdb : (xc == ("__debug__" : Str)) = false := by decide) (hs : starEach [e, .Name xc p2] X.env = (false, eval e X.env) :: starEach [.Name xc p2] X.env := by rfl) (hs1 : starEach [.Name xc p2] X.env = (false, eval (.Name xc p2) X.env) :: starEach [] X.env := by rfl)
    (hpl : (backTo pos (starEach [.Name xc p2] X.env)).any (·.1) = false := by rfl) : Ed X b (.Call (.Name "isinstance" p) [e, .Name xc p2] [] pos) ρ (.bool (isD C d)) := by
  intro σ H ok Q q
  refine exp_callB call_isi hg hm (by decide +kernel) (exa_two (h σ H ok _ fun v H1 d' s w r e1 => ?_) hs hs1) (he := hs) (hpl := hpl)
  subst e1
  refine .of (pe_bltn (v := .ty C) hgc hmc hvc rfl hn hdb) ?_
  obtain ⟨t, ty, k⟩ := isB_ok (K := X.K) hC r
  exact ⟨v, .ty C, .type t, .type C, isD C d', rfl, .ty C, ty, k, q _ H1 _ s w (.bl _) rfl⟩
/-! ### methods -/
theorem ed_count {ns : List Int} {k : Int} {apos : Pos} (h : EvR X b e ρ fun z => z = ns.map .int) (ha : Ed X b e2 ρ (.int k))
    (hpe : ∀ t u, PE X e t → PE X e2 u → PE X (.Call (.Attribute e "count" apos) [e2] [] pos) (tBM X.K "list" (rCntI X.K) t (tCons u tNil))) : Ed X b (.Call (.Attribute e "count" apos) [e2] [] pos) ρ (.int (ns.count k : Nat)) := by
  intro σ H ok Q q
  refine .of (hpe _ _ peW peW) (h σ H ok _ fun a H1 vs d hw s w h1 r e1 => ?_)
  subst e1
  have := r.ints_of
  subst this
  refine ⟨.inl ⟨rfl, _, SqL.of h1⟩, ha σ H1 (ok.go s w) _ fun v H2 d2 s2 w2 r2 e2 => ?_⟩
  subst e2
  cases r2
  exact ⟨a, ns, k, rfl, rfl, SqL.of (s2 _ _ hw h1), q _ H2 _ (s.trans s2) w2 (.int _) rfl⟩
variable {K : Post} {rest : List Stmt} {i : Nat}
/-- xs.insert(k, e), xs an own list -/
theorem sts_insert {apos : Pos} {ds : List PyData} {k : Nat} (hN : X.N[i]? = some x) (hv : Vis X.env.scope x) (hi : ρ[i]? = some (some (.l true ds))) (hk : Ed X b e ρ (.int k)) (hkn : k ≤ 1000000) (h : Ev X b e2 ρ P) (hz : ds.length < 100000)
    (kk : ∀ d, P d → Sts X b rest (ρ.set i (some (.l true (ds.take k ++ [d] ++ ds.drop k)))) K)
    (hpe : ∀ t u, PE X e t → PE X e2 u → PE X (.Call (.Attribute (.Name x p2) "insert" apos) [e, e2] [] pos) (tBM X.K "list" (fun x vs H Q => ∃ (l : Addr) (xs : List V) (i : Int) (y : V), x = .ref l ∧ vs = [.int i, y] ∧ H l = some (.lst xs) ∧ xs.length < sizeLine ∧ 0 ≤ i ∧ i < 2 ^ 63 ∧ Q .non (upd H l (.lst (xs.take i.toNat ++ [y] ++ xs.drop i.toNat)))) (tVar i) (tCons t (tCons u tNil))))
    (hs : swapsWith (.Call (.Attribute (.Name x p2) "insert" apos) [e, e2] [] pos) none pos.line X.env = pure false := by rfl) : Sts X b (.Expr (.Call (.Attribute (.Name x p2) "insert" apos) [e, e2] [] pos) pos :: rest) ρ K := by
  refine sts_cons fun σ H ok D t => ?_
  obtain ⟨v0, e0, a, rfl, hw, vs, hp, r⟩ := ok.at_ i _ hi
  refine .of (ps_expr (hpe _ _ peW peW) hs) ⟨_, e0, .inl ⟨rfl, _, SqL.of hp⟩, hk σ H ok _ fun v1 H1 d1 s1 w1 r1 q1 => ?_⟩
  subst q1
  cases r1
  refine h σ H1 (ok.go s1 w1) _ fun v H2 d s2 w2 rv pv => ?_
  have s := s1.trans s2
  have hp2 := s _ _ hw hp
  have ok2 := ok.go s w2
  have r2 := r.keep (kp_of s ok.wl w2)
  refine ⟨a, vs, k, v, rfl, rfl, hp2, by rw [r.len]; exact Nat.lt_of_lt_of_le hz (by decide), by omega, by omega, ?_⟩
  rw [Int.toNat_natCast]
  exact t.nx _ _ _ ((Go.sb ok.wl w2 s).trans w2 (.mutL hi e0 hp2)) (ok2.mutL hi e0 hp2 (((r2.take k).app (.one rv)).app (r2.drop k))) (kk d pv)
/-- xs[k] = e, xs an own list -/
theorem sts_setitem {ds : List PyData} {k : Nat} {p3 : Pos} (hN : X.N[i]? = some x) (hv : Vis X.env.scope x) (hi : ρ[i]? = some (some (.l true ds))) (h : Ev X b e2 ρ P) (hk : Ed X b e ρ (.int k)) (hkn : k < ds.length) (kk : ∀ d, P d → Sts X b rest (ρ.set i (some (.l true (ds.set k d)))) K)
    (hd : (x == ("__debug__" : Str)) = false := by decide) (hcd : (x == ("__classdict__" : Str)) = false := by decide)
    (ha : ∀ v, assign (.Subscript (.Name x p2) e p3) X.env v = (do
      let ov ← holding [v] (eval (.Name x p2) X.env)
      let iv ← holding [v, ov] (eval e X.env)
      standAt p3
      holding [v, ov, iv] (setItem ov iv v)
      release [v, ov, iv] []) := by intro _; rfl)
    (hs : swapsWithSole [.Subscript (.Name x p2) e p3] e2 pos.line X.env = pure false := by rfl) (hw : swappedStores [.Subscript (.Name x p2) e p3] e2 X.env = pure none := by rfl)
    (h1 : (assignEach [.Subscript (.Name x p2) e p3] X.env).map (·.2) = [assign (.Subscript (.Name x p2) e p3) X.env] := by rfl) : Sts X b (.Assign [.Subscript (.Name x p2) e p3] e2 pos :: rest) ρ K := by
  refine sts_cons fun σ H ok D t => ?_
  obtain ⟨v0, e0, a, rfl, hwl, vs, hp, r⟩ := ok.at_ i _ hi
  refine .of (ps_asg peW (pg_sub (pe_var hN hv hd hcd) peW set_list ha) hs hw h1) (h σ H ok _ fun v H1 d s1 w1 rv pv => ?_)
  refine ⟨_, e0, hk σ H1 (ok.go s1 w1) _ fun v2 H2 d2 s2 w2 r2 q2 => ?_⟩
  subst q2
  cases r2
  have s := s1.trans s2
  have hp2 := s _ _ hwl hp
  have ok2 := ok.go s w2
  have rr := r.keep (kp_of s ok.wl w2)
  have hix : ixN vs.length (k : Int) = some k := by
    unfold ixN
    rw [if_pos (by omega), if_pos (by rw [r.len]; omega)]
    simp
  refine ⟨a, vs, k, k, rfl, rfl, hp2, hix, ?_⟩
  exact t.nx _ _ _ ((Go.sb ok.wl w2 s).trans w2 (.mutL hi e0 hp2)) (ok2.mutL hi e0 hp2 (rr.set k (rv.keep (kp_of s2 w1 w2)))) (kk d pv)
/-! ### the well is written -/
theorem wl_set {w : Addr} {H : Hp} {a0 a1 a2 a3 v : Int} {k : Nat} (hk : k < 4) : ∃ b0 b1 b2 b3 : Int, ([V.int a0, .int a1, .int a2, .int a3] : List V).set k (.int v) = [.int b0, .int b1, .int b2, .int b3] := by
  match k, hk with
  | 0, _ => exact ⟨v, a1, a2, a3, rfl⟩
  | 1, _ => exact ⟨a0, v, a2, a3, rfl⟩
  | 2, _ => exact ⟨a0, a1, v, a3, rfl⟩
  | 3, _ => exact ⟨a0, a1, a2, v, rfl⟩
/-- the well is another list of four ints -/
theorem EnvOk.well {H : Hp} {σ : L2.St} {w : Addr} {vs : List V} (ok : EnvOk b H σ ρ) (hw : b.W = some w) (hv : ∃ b0 b1 b2 b3 : Int, vs = [.int b0, .int b1, .int b2, .int b3]) : SB b.W H (upd H w (.lst vs)) ∧ Wl b.W (upd H w (.lst vs)) := by
  obtain ⟨b0, b1, b2, b3, rfl⟩ := hv
  refine ⟨fun a o hn e => ?_, fun w' e => ?_⟩
  · rw [upd_ne (fun z => hn (by rw [hw, z]))]
    exact e
  · rw [hw] at e
    cases e
    exact ⟨b0, b1, b2, b3, upd_same⟩
/-- well[k] = e -/
theorem sts_well {w : Addr} {k : Nat} {p3 : Pos} (hW : b.W = some w) (hN : X.N[i]? = some x) (hv : Vis X.env.scope x) (hi : ρ[i]? = some (some (.o w))) (h : Ev X b e2 ρ fun d => ∃ j, d = .int j) (hk : Ed X b e ρ (.int k)) (hk4 : k < 4) (kk : Sts X b rest ρ K)
    (hd : (x == ("__debug__" : Str)) = false := by decide) (hcd : (x == ("__classdict__" : Str)) = false := by decide)
    (ha : ∀ v, assign (.Subscript (.Name x p2) e p3) X.env v = (do
      let ov ← holding [v] (eval (.Name x p2) X.env)
      let iv ← holding [v, ov] (eval e X.env)
      standAt p3
      holding [v, ov, iv] (setItem ov iv v)
      release [v, ov, iv] []) := by intro _; rfl)
    (hs : swapsWithSole [.Subscript (.Name x p2) e p3] e2 pos.line X.env = pure false := by rfl) (hw : swappedStores [.Subscript (.Name x p2) e p3] e2 X.env = pure none := by rfl)
    (h1 : (assignEach [.Subscript (.Name x p2) e p3] X.env).map (·.2) = [assign (.Subscript (.Name x p2) e p3) X.env] := by rfl) : Sts X b (.Assign [.Subscript (.Name x p2) e p3] e2 pos :: rest) ρ K := by
  refine sts_cons fun σ H ok D t => ?_
  obtain ⟨v0, e0, ev0⟩ := ok.at_ i _ hi
  cases (show v0 = .ref w from ev0)
  refine .of (ps_asg peW (pg_sub (pe_var hN hv hd hcd) peW set_list ha) hs hw h1) (h σ H ok _ fun v H1 d s1 w1 rv ⟨j, pv⟩ => ?_)
  subst pv
  cases rv
  refine ⟨_, e0, hk σ H1 (ok.go s1 w1) _ fun v2 H2 d2 s2 w2 r2 q2 => ?_⟩
  subst q2
  cases r2
  obtain ⟨a0, a1, a2, a3, hp2⟩ := w2 w hW
  have ok2 := (ok.go s1 w1).go s2 w2
  have hix : ixN ([V.int a0, .int a1, .int a2, .int a3] : List V).length (k : Int) = some k := by
    unfold ixN
    rw [if_pos (by omega), if_pos (by show (k : Int) < ((4 : Nat) : Int); omega)]
    simp
  obtain ⟨s3, w3⟩ := ok2.well hW (wl_set (w := w) (H := H2) (a0 := a0) (a1 := a1) (a2 := a2) (a3 := a3) (v := j) hk4)
  refine ⟨w, _, k, k, rfl, rfl, hp2, hix, ?_⟩
  have sA := (s1.trans s2).trans s3
  exact t.nx _ _ _ (Go.sb ok.wl w3 sA) (ok.go sA w3) kk
/-- well[k], x = e (a new pair of ints) -/
theorem sts_well2 {w : Addr} {k j : Nat} {y : Str} {p3 p4 p5 : Pos} {kt : Nat} (hc : X.calm = true) (hW : b.W = some w) (hN : X.N[i]? = some x) (hv : Vis X.env.scope x) (hi : ρ[i]? = some (some (.o w))) (hk : Ed X b e ρ (.int k)) (hk4 : k < 4)
    (hNd : X.N.Nodup) (hj : X.N[j]? = some y) (hy : Loc X.env.scope y) (h : Ev X b e2 ρ fun d => ∃ m n, d = .tuple [.int m, .int n] ∧ P (.int n)) (kk : ∀ d, P d → Sts X b rest (ρ.set j (some (.d d))) K)
    (hd : (x == ("__debug__" : Str)) = false := by decide) (hcd : (x == ("__classdict__" : Str)) = false := by decide) (hf : X.fn y = true ∨ X.env.scope.names.lookup y = some .local := by first | exact .inl rfl | exact .inr rfl | assumption)
    (ha : ∀ v, assign (.Subscript (.Name x p2) e p3) X.env v = (do
      let ov ← holding [v] (eval (.Name x p2) X.env)
      let iv ← holding [v, ov] (eval e X.env)
      standAt p3
      holding [v, ov, iv] (setItem ov iv v)
      release [v, ov, iv] []) := by intro _; rfl)
    (hz : (assignEach [.Subscript (.Name x p2) e p3, .Name y p4] X.env).map (·.2) = assign (.Subscript (.Name x p2) e p3) X.env :: (assignEach [.Name y p4] X.env).map (·.2) := by rfl)
    (hz2 : (assignEach [.Name y p4] X.env).map (·.2) = assign (.Name y p4) X.env :: (assignEach [] X.env).map (·.2) := by rfl)
    (hn : (assignEach [.Subscript (.Name x p2) e p3, .Name y p4] X.env).length = 2 := by rfl) (hst : (assignEach [.Subscript (.Name x p2) e p3, .Name y p4] X.env).findIdx? (·.1) = none := by rfl)
    (hs : swapsWithSole [.Tuple [.Subscript (.Name x p2) e p3, .Name y p4] kt p5] e2 pos.line X.env = pure false := by rfl) (hw : swappedStores [.Tuple [.Subscript (.Name x p2) e p3, .Name y p4] kt p5] e2 X.env = pure none := by rfl)
    (h1 : (assignEach [.Tuple [.Subscript (.Name x p2) e p3, .Name y p4] kt p5] X.env).map (·.2) = [assign (.Tuple [.Subscript (.Name x p2) e p3, .Name y p4] kt p5) X.env] := by rfl) :
    Sts X b (.Assign [.Tuple [.Subscript (.Name x p2) e p3, .Name y p4] kt p5] e2 pos :: rest) ρ K := by
  refine sts_cons fun σ H ok D t => ?_
  obtain ⟨v0, e0, ev0⟩ := ok.at_ i _ hi
  cases (show v0 = .ref w from ev0)
  refine .of (ps_asg peW (pg_tup hc (pgs_cons (pg_sub (pe_var hN hv hd hcd) peW set_list ha) (pgs_cons (pg_name hNd hj hy hf) pgs_nil hz2) hz) hn hst) hs hw h1) (h σ H ok _ fun v H1 d s1 w1 rv ⟨m, n, pv, hP⟩ => ?_)
  subst pv
  cases rv with
  | tup hT tT =>
    cases tT with
    | cons r1 tT =>
      cases tT with
      | cons r2 tT =>
        cases tT
        cases r1
        cases r2
        refine ⟨_, _, rfl, hT.sq, rfl, _, _, rfl, ?_⟩
        refine ⟨_, e0, hk σ H1 (ok.go s1 w1) _ fun v2 H2 d2 s2 w2 r2 q2 => ?_⟩
        subst q2
        cases r2
        obtain ⟨a0, a1, a2, a3, hp2⟩ := w2 w hW
        have ok2 := (ok.go s1 w1).go s2 w2
        have hix : ixN ([V.int a0, .int a1, .int a2, .int a3] : List V).length (k : Int) = some k := by
          unfold ixN
          rw [if_pos (by omega), if_pos (by show (k : Int) < ((4 : Nat) : Int); omega)]
          simp
        obtain ⟨s3, w3⟩ := ok2.well hW (wl_set (w := w) (H := H2) (a0 := a0) (a1 := a1) (a2 := a2) (a3 := a3) (v := m) hk4)
        refine ⟨w, _, k, k, rfl, rfl, hp2, hix, _, _, rfl, rfl, ?_⟩
        have sA := (s1.trans s2).trans s3
        exact t.nx _ _ _ ((Go.sb ok.wl w3 sA).trans w3 (.setD j _ _)) ((ok.go sA w3).setD (.int n)) (kk _ hP)
end
end Lay
/-! PM1 -/
/-! kinds and what is told of them, plainly -/
namespace Lay
open PySem L2
inductive Kd where
  | unit | num
  | pair (a b : Kd)
  | either (a b : Kd)
  | bag (a : Kd)
  deriving DecidableEq
def Kd.d : Kd → PyData
  | .unit => .tuple [.str "unit"]
  | .num => .tuple [.str "num"]
  | .pair a b => .tuple [.str "pair", a.d, b.d]
  | .either a b => .tuple [.str "either", a.d, b.d]
  | .bag a => .tuple [.str "bag", a.d]
def Kd.plain : Kd → Bool
  | .unit => true
  | .num => true
  | .pair a b => a.plain && b.plain
  | .either a b => a.plain && b.plain
  | .bag _ => false
/-- a bag is of a plain kind -/
def Kd.ok : Kd → Bool
  | .unit => true
  | .num => true
  | .pair a b => a.ok && b.ok
  | .either a b => a.ok && b.ok
  | .bag a => a.plain
def Kd.group : Kd → Bool
  | .unit => false
  | .num => true
  | .pair a b => a.group && b.group
  | .either _ _ => false
  | .bag a => true
def Kd.deep : Kd → Nat
  | .unit => 1
  | .num => 1
  | .pair a b => max a.deep b.deep + 1
  | .either a b => max a.deep b.deep + 1
  | .bag a => a.deep + 1
def whole : PyData → Bool
  | .int _ => true
  | _ => false
end Lay
/-! PM2 -/
/-! values of kinds, their order; plainly -/
namespace Lay
open PySem L2
def Kd.tag : Kd → Str
  | .unit => "unit"
  | .num => "num"
  | .pair _ _ => "pair"
  | .either _ _ => "either"
  | .bag _ => "bag"
def Kd.kids : Kd → List Kd
  | .pair a b => [a, b]
  | .either a b => [a, b]
  | .bag a => [a]
  | _ => []
theorem Kd.d_eq (k : Kd) : k.d = .tuple (.str k.tag :: k.kids.map Kd.d) := by cases k <;> rfl
theorem Kd.kids_deep {k x : Kd} (h : x ∈ k.kids) : x.deep < k.deep := by
  cases k <;> simp [Kd.kids] at h <;> (try (rcases h with h | h <;> subst h <;> simp only [Kd.deep] <;> omega))
  subst h
  simp only [Kd.deep]
  omega
theorem Kd.kids_len (k : Kd) : k.kids.length ≤ 2 := by cases k <;> simp [Kd.kids]
theorem Kd.deep_pos (k : Kd) : 0 < k.deep := by cases k <;> simp [Kd.deep]
theorem Kd.plain_ok : ∀ {k : Kd}, k.plain = true → k.ok = true
  | .unit, _ => rfl
  | .num, _ => rfl
  | .pair a b, h => by
    simp only [Kd.plain, Bool.and_eq_true] at h
    simp only [Kd.ok, plain_ok h.1, plain_ok h.2, Bool.and_self]
  | .either a b, h => by
    simp only [Kd.plain, Bool.and_eq_true] at h
    simp only [Kd.ok, plain_ok h.1, plain_ok h.2, Bool.and_self]
theorem lr_ne : (Str.ofString "left") ≠ Str.ofString "right" := by decide +kernel
/-- a pair of a bag -/
def pd (q : PyData × Int) : PyData := .tuple [q.1, .int q.2]
/-- the order of two values of a plain kind -/
def lord : Kd → PyData → PyData → Int
  | .unit, _, _ => 0
  | .num, d, e => match d, e with
    | .int i, .int j => (if j < i then 1 else 0) - (if i < j then 1 else 0)
    | _, _ => 0
  | .pair a b, d, e => match d, e with
    | .tuple [_, x, y], .tuple [_, x2, y2] => if lord a x x2 ≠ 0 then lord a x x2 else lord b y y2
    | _, _ => 0
  | .either a b, d, e => match d, e with
    | .tuple [.str s, x], .tuple [.str t, y] => if s = t then (if s = "left" then lord a x y else lord b x y) else (if s = "left" then -1 else 1)
    | _, _ => 0
  | .bag _, _, _ => 0
/-- a thing is a value of the kind: its bags are as long as C says, its ints as I says -/
def vok (C : Nat → Prop) (I : Int → Prop) : Kd → PyData → Prop
  | .unit, d => d = .tuple []
  | .num, d => ∃ i : Int, d = .int i ∧ I i
  | .pair a b, d => ∃ x y, d = .tuple [.str "pair", x, y] ∧ vok C I a x ∧ vok C I b y
  | .either a b, d => (∃ x, d = .tuple [.str "left", x] ∧ vok C I a x) ∨ (∃ x, d = .tuple [.str "right", x] ∧ vok C I b x)
  | .bag a, d => ∃ xs : List (PyData × Int), d = .tuple (xs.map pd) ∧ C xs.length ∧ (∀ q ∈ xs, vok C I a q.1 ∧ q.2 ≠ 0 ∧ I q.2) ∧ xs.Pairwise fun p q => lord a p.1 q.1 < 0
abbrev val : Kd → PyData → Prop := vok (fun _ => True) fun _ => True
theorem vok.mono {C C' : Nat → Prop} {I I' : Int → Prop} (hC : ∀ n, C n → C' n) (hI : ∀ i, I i → I' i) : ∀ {k : Kd} {d : PyData}, vok C I k d → vok C' I' k d
  | .unit, _, h => h
  | .num, _, h => by
    obtain ⟨i, e, h⟩ := h
    exact ⟨i, e, hI _ h⟩
  | .pair a b, _, h => by
    obtain ⟨x, y, e, h1, h2⟩ := h
    exact ⟨x, y, e, mono hC hI h1, mono hC hI h2⟩
  | .either a b, _, h => by
    rcases h with ⟨x, e, h⟩ | ⟨x, e, h⟩
    · exact .inl ⟨x, e, mono hC hI h⟩
    · exact .inr ⟨x, e, mono hC hI h⟩
  | .bag a, _, h => by
    obtain ⟨xs, e, hc, h, s⟩ := h
    exact ⟨xs, e, hC _ hc, fun q hq => ⟨mono hC hI (h q hq).1, (h q hq).2.1, hI _ (h q hq).2.2⟩, s⟩
theorem vok.val {C : Nat → Prop} {I : Int → Prop} {k : Kd} {d : PyData} (h : vok C I k d) : val k d := h.mono (fun _ _ => trivial) fun _ _ => trivial
/-! ### the order's laws -/
/-- what is told of three values at once -/
theorem lord_laws {C : Nat → Prop} {I : Int → Prop} : ∀ {k : Kd} {x y z : PyData}, k.plain = true → vok C I k x → vok C I k y → vok C I k z →
    (lord k x y = -1 ∨ lord k x y = 0 ∨ lord k x y = 1) ∧ (lord k x y = 0 ↔ x = y) ∧ lord k y x = - lord k x y ∧ (lord k x y < 0 → lord k y z < 0 → lord k x z < 0)
  | .unit, x, y, z, _, hx, hy, hz => by
    cases (show x = .tuple [] from hx)
    cases (show y = .tuple [] from hy)
    simp [lord]
  | .num, x, y, z, _, hx, hy, hz => by
    obtain ⟨i, rfl, _⟩ := hx
    obtain ⟨j, rfl, _⟩ := hy
    obtain ⟨l, rfl, _⟩ := hz
    simp only [lord, PyData.int.injEq]
    refine ⟨?_, ?_, ?_, ?_⟩
    · split <;> split <;> simp
    · split <;> split <;> simp <;> omega
    · split <;> split <;> simp
    · intro h1 h2
      have a1 : i < j := by
        split at h1 <;> split at h1 <;> simp at h1 <;> omega
      have a2 : j < l := by
        split at h2 <;> split at h2 <;> simp at h2 <;> omega
      rw [if_neg (by omega), if_pos (by omega)]
      decide
  | .pair a b, x, y, z, hp, hx, hy, hz => by
    simp only [Kd.plain, Bool.and_eq_true] at hp
    obtain ⟨x1, x2, rfl, hx1, hx2⟩ := hx
    obtain ⟨y1, y2, rfl, hy1, hy2⟩ := hy
    obtain ⟨z1, z2, rfl, hz1, hz2⟩ := hz
    obtain ⟨a1, a2, a3, a4⟩ := lord_laws hp.1 hx1 hy1 hz1
    obtain ⟨b1, b2, b3, b4⟩ := lord_laws hp.2 hx2 hy2 hz2
    obtain ⟨c1, c2, c3, _⟩ := lord_laws hp.1 hy1 hz1 hz1
    obtain ⟨d1, d2, d3, _⟩ := lord_laws hp.1 hx1 hz1 hz1
    simp only [lord, PyData.tuple.injEq, List.cons.injEq, true_and, and_true]
    rw [a3]
    refine ⟨?_, ?_, ?_, ?_⟩
    · split
      · exact a1
      · exact b1
    · split
      · rename_i h
        exact ⟨fun e => absurd e h, fun e => absurd (a2.mpr e.1) h⟩
      · rename_i h
        have h0 : lord a x1 y1 = 0 := by simpa using h
        rw [b2]
        exact ⟨fun e => ⟨a2.mp h0, e⟩, fun e => e.2⟩
    · by_cases h0 : lord a x1 y1 = 0
      · rw [if_neg (by simp [h0]), if_neg (by simp [h0]), b3]
      · rw [if_pos (by omega), if_pos h0]
    · intro h1 h2
      by_cases h0 : lord a x1 y1 = 0
      · have e := a2.mp h0
        subst e
        rw [if_neg (by simp [h0])] at h1
        by_cases h3 : lord a x1 z1 = 0
        · rw [if_neg (by simp [h3])] at h2 ⊢
          exact b4 h1 h2
        · rw [if_pos h3] at h2 ⊢
          exact h2
      · rw [if_pos h0] at h1
        by_cases h3 : lord a y1 z1 = 0
        · have e := c2.mp h3
          subst e
          rw [if_pos h0]
          exact h1
        · rw [if_pos h3] at h2
          have := a4 h1 h2
          rw [if_pos (by omega)]
          exact this
  | .either a b, x, y, z, hp, hx, hy, hz => by
    simp only [Kd.plain, Bool.and_eq_true] at hp
    have lr := lr_ne
    have rl : ¬ (Str.ofString "right" = Str.ofString "left") := fun e => lr e.symm
    have lr' : ¬ (Str.ofString "left" = Str.ofString "right") := lr
    rcases hx with ⟨x1, rfl, hx1⟩ | ⟨x1, rfl, hx1⟩ <;> rcases hy with ⟨y1, rfl, hy1⟩ | ⟨y1, rfl, hy1⟩ <;> rcases hz with ⟨z1, rfl, hz1⟩ | ⟨z1, rfl, hz1⟩ <;>
      simp only [lord, PyData.tuple.injEq, PyData.str.injEq, List.cons.injEq, true_and, and_true, if_true, lr', rl, if_false, false_and, iff_false] <;>
      first
        | exact lord_laws hp.1 hx1 hy1 hz1
        | exact lord_laws hp.2 hx1 hy1 hz1
        | (obtain ⟨a1, a2, a3, a4⟩ := lord_laws hp.1 hx1 hy1 hy1; exact ⟨a1, a2, a3, fun _ _ => by decide⟩)
        | (obtain ⟨a1, a2, a3, a4⟩ := lord_laws hp.2 hx1 hy1 hy1; exact ⟨a1, a2, a3, fun _ h => by omega⟩)
        | simp
section
variable {C : Nat → Prop} {I : Int → Prop} {k : Kd} {x y z : PyData}
theorem lord_rng (hp : k.plain = true) (hx : vok C I k x) (hy : vok C I k y) : lord k x y = -1 ∨ lord k x y = 0 ∨ lord k x y = 1 := (lord_laws hp hx hy hy).1
theorem lord_zero (hp : k.plain = true) (hx : vok C I k x) (hy : vok C I k y) : lord k x y = 0 ↔ x = y := (lord_laws hp hx hy hy).2.1
theorem lord_anti (hp : k.plain = true) (hx : vok C I k x) (hy : vok C I k y) : lord k y x = - lord k x y := (lord_laws hp hx hy hy).2.2.1
theorem lord_tr (hp : k.plain = true) (hx : vok C I k x) (hy : vok C I k y) (hz : vok C I k z) : lord k x y < 0 → lord k y z < 0 → lord k x z < 0 := (lord_laws hp hx hy hz).2.2.2
end
end Lay
/-! PM3 -/
/-! bags: the law's reckoning and the dict's, plainly -/
namespace Lay
open PySem L2
open Classical in
/-- how often x, all told -/
noncomputable def tot (x : PyData) (ps : List (PyData × Int)) : Int := (ps.map fun q => if q.1 = x then q.2 else 0).sum
theorem tot_nil (x : PyData) : tot x [] = 0 := rfl
theorem tot_app (x : PyData) (ps qs : List (PyData × Int)) : tot x (ps ++ qs) = tot x ps + tot x qs := by
  unfold tot
  rw [List.map_append, List.sum_append]
theorem tot_self (x : PyData) (n : Int) : tot x [(x, n)] = n := by
  unfold tot
  simp
theorem tot_other {x y : PyData} (n : Int) (h : y ≠ x) : tot x [(y, n)] = 0 := by
  unfold tot
  simp [h]
theorem tot_none {x : PyData} {ps : List (PyData × Int)} (h : ¬ ∃ m, (x, m) ∈ ps) : tot x ps = 0 := by
  induction ps with
  | nil => rfl
  | cons q ps ih =>
    have e : q :: ps = [q] ++ ps := rfl
    rw [e, tot_app, ih fun ⟨m, hm⟩ => h ⟨m, List.mem_cons_of_mem _ hm⟩]
    obtain ⟨y, n⟩ := q
    rw [tot_other n fun z => h ⟨n, by rw [z]; exact List.mem_cons_self⟩]
    rfl
theorem tot_le {B : Nat} {x : PyData} : ∀ {ps : List (PyData × Int)}, (∀ q ∈ ps, q.2.natAbs ≤ B) → (tot x ps).natAbs ≤ ps.length * B
  | [], _ => by simp [tot_nil]
  | q :: ps, h => by
    have e : q :: ps = [q] ++ ps := rfl
    have i := tot_le (x := x) (ps := ps) fun q hq => h q (List.mem_cons_of_mem _ hq)
    have h1 := h q List.mem_cons_self
    rw [e, tot_app, List.length_append, Nat.add_mul]
    have : (tot x [q]).natAbs ≤ B := by
      obtain ⟨y, n⟩ := q
      by_cases z : y = x
      · rw [z, tot_self]
        exact h1
      · rw [tot_other n z]
        simp
    simp only [List.length_cons, List.length_nil]
    omega
/-- of distinct keys -/
theorem tot_uniq {x : PyData} {n : Int} : ∀ {ps : List (PyData × Int)}, (ps.map (·.1)).Nodup → (x, n) ∈ ps → tot x ps = n
  | [], _, h => by cases h
  | q :: ps, hn, h => by
    have e : q :: ps = [q] ++ ps := rfl
    rw [List.map_cons, List.nodup_cons] at hn
    rw [e, tot_app]
    rcases List.mem_cons.mp h with z | z
    · subst z
      rw [tot_self, tot_none fun ⟨m, hm⟩ => hn.1 (List.mem_map.mpr ⟨_, hm, rfl⟩), Int.add_zero]
    · obtain ⟨y, m⟩ := q
      have hy : y ≠ x := fun w => hn.1 (by subst w; exact List.mem_map.mpr ⟨_, z, rfl⟩)
      rw [tot_other m hy, tot_uniq hn.2 z, Int.zero_add]
/-! ### the law's reckoning -/
/-- one pair more -/
def ins (k : Kd) (fs : List (PyData × Int)) (q : PyData × Int) : List (PyData × Int) :=
  let sides := fs.map fun e => lord k e.1 q.1
  let i := sides.count (-1)
  if (0 : Int) ∈ sides then fs.set i (q.1, (fs.getD i q).2 + q.2) else fs.take i ++ [q] ++ fs.drop i
def insAll (k : Kd) (ps : List (PyData × Int)) : List (PyData × Int) := ps.foldl (ins k) []
def bagN (k : Kd) (ps : List (PyData × Int)) : List (PyData × Int) := (insAll k ps).filter fun q => q.2 ≠ 0
abbrev Sorted (k : Kd) (fs : List (PyData × Int)) : Prop := fs.Pairwise fun p q => lord k p.1 q.1 < 0
section
variable {C : Nat → Prop} {I : Int → Prop} {k : Kd}
theorem split_at (hp : k.plain = true) {x : PyData} (hx : vok C I k x) : ∀ {fs : List (PyData × Int)}, (∀ e ∈ fs, vok C I k e.1) → Sorted k fs →
    ∃ ls ms rs, fs = ls ++ (ms ++ rs) ∧ (∀ e ∈ ls, lord k e.1 x < 0) ∧ (∀ e ∈ rs, 0 < lord k e.1 x) ∧ (ms = [] ∨ ∃ n, ms = [(x, n)])
  | [], _, _ => ⟨[], [], [], rfl, fun _ h => (nomatch h), fun _ h => (nomatch h), .inl rfl⟩
  | e :: fs, hv, hs => by
    have he := hv e List.mem_cons_self
    rw [Sorted, List.pairwise_cons] at hs
    rcases lord_rng hp he hx with h | h | h
    · obtain ⟨ls, ms, rs, e1, h1, h2, h3⟩ := split_at hp hx (fun e' h' => hv e' (List.mem_cons_of_mem _ h')) hs.2
      refine ⟨e :: ls, ms, rs, by rw [e1]; rfl, fun e' h' => ?_, h2, h3⟩
      rcases List.mem_cons.mp h' with z | z
      · rw [z, h]
        decide
      · exact h1 e' z
    · have := (lord_zero hp he hx).mp h
      obtain ⟨y, n⟩ := e
      cases (show y = x from this)
      refine ⟨[], [(x, n)], fs, rfl, fun _ h => (by cases h), fun e' h' => ?_, .inr ⟨n, rfl⟩⟩
      have h4 := hs.1 e' h'
      rw [lord_anti hp hx (hv e' (List.mem_cons_of_mem _ h'))]
      have : lord k x e'.1 < 0 := h4
      omega
    · refine ⟨[], [], e :: fs, rfl, fun _ h => (by cases h), fun e' h' => ?_, .inl rfl⟩
      rcases List.mem_cons.mp h' with z | z
      · rw [z, h]
        decide
      · have h4 := hs.1 e' z
        have hv' := hv e' (List.mem_cons_of_mem _ z)
        have a1 := lord_anti hp he hx
        have a2 := lord_anti hp hv' hx
        have := lord_tr hp hx he hv' (by omega) h4
        omega
theorem count_at (hp : k.plain = true) {x : PyData} (hx : vok C I k x) {ls ms rs : List (PyData × Int)} (h1 : ∀ e ∈ ls, lord k e.1 x < 0) (hv : ∀ e ∈ ls, vok C I k e.1) (h2 : ∀ e ∈ rs, 0 < lord k e.1 x) (h3 : ms = [] ∨ ∃ n, ms = [(x, n)]) :
    ((ls ++ (ms ++ rs)).map fun e => lord k e.1 x).count (-1) = ls.length ∧ ((0 : Int) ∈ (ls ++ (ms ++ rs)).map (fun e => lord k e.1 x) ↔ ms ≠ []) := by
  have h0 : lord k x x = 0 := (lord_zero hp hx hx).mpr rfl
  have cl : (ls.map fun e => lord k e.1 x).count (-1) = ls.length := by
    rw [List.count_eq_length.mpr, List.length_map]
    intro b hb
    obtain ⟨e, he, rfl⟩ := List.mem_map.mp hb
    have := lord_rng hp (hv e he) hx
    have := h1 e he
    omega
  have cr : (rs.map fun e => lord k e.1 x).count (-1) = 0 := by
    rw [List.count_eq_zero]
    intro hb
    obtain ⟨e, he, h⟩ := List.mem_map.mp hb
    have := h2 e he
    omega
  have cm : (ms.map fun e => lord k e.1 x).count (-1) = 0 := by
    rcases h3 with rfl | ⟨n, rfl⟩
    · rfl
    · rw [List.map_cons, List.map_nil, h0]
      decide
  refine ⟨by rw [List.map_append, List.map_append, List.count_append, List.count_append, cl, cm, cr]; omega, ?_⟩
  rw [List.map_append, List.map_append, List.mem_append, List.mem_append]
  refine ⟨fun h => ?_, fun h => ?_⟩
  · rcases h with h | h | h
    · obtain ⟨e, he, h⟩ := List.mem_map.mp h
      have := h1 e he
      omega
    · intro z
      rw [z] at h
      cases h
    · obtain ⟨e, he, h⟩ := List.mem_map.mp h
      have := h2 e he
      omega
  · rcases h3 with rfl | ⟨n, rfl⟩
    · exact absurd rfl h
    · refine .inr (.inl ?_)
      rw [List.map_cons, List.map_nil, h0]
      exact List.mem_cons_self
/-- what stands in the list fs after the pairs ps -/
structure Held (C : Nat → Prop) (I : Int → Prop) (k : Kd) (ps fs : List (PyData × Int)) : Prop where
  srt : Sorted k fs
  ok : ∀ e ∈ fs, vok C I k e.1
  mem : ∀ x n, (x, n) ∈ fs ↔ (∃ m, (x, m) ∈ ps) ∧ n = tot x ps
  len : fs.length ≤ ps.length
theorem ins_held (hp : k.plain = true) {ps fs : List (PyData × Int)} {q : PyData × Int} (h : Held C I k ps fs) (hq : vok C I k q.1) : Held C I k (ps ++ [q]) (ins k fs q) := by
  obtain ⟨x, n⟩ := q
  obtain ⟨ls, ms, rs, e, h1, h2, h3⟩ := split_at hp hq h.ok h.srt
  have hok := h.ok
  have hst := h.srt
  have hme := h.mem
  have hle := h.len
  rw [e] at hok hst hme hle
  have hl : ∀ e ∈ ls, vok C I k e.1 := fun e he => hok e (List.mem_append_left _ he)
  have hr : ∀ e ∈ rs, vok C I k e.1 := fun e he => hok e (List.mem_append_right _ (List.mem_append_right _ he))
  obtain ⟨c1, c2⟩ := count_at hp hq h1 hl h2 h3
  -- the new list
  have key : ∃ m, ins k fs (x, n) = ls ++ ((x, m) :: rs) ∧ m = tot x (ps ++ [(x, n)]) ∧ (ls ++ ((x, m) :: rs)).length ≤ ps.length + 1 := by
    rw [tot_app, tot_self]
    unfold ins
    rw [e]
    simp only [c1]
    rcases h3 with rfl | ⟨m, rfl⟩
    · rw [if_neg (fun z => (c2.mp z) rfl)]
      refine ⟨n, by simp, ?_, ?_⟩
      · have : tot x ps = 0 := tot_none fun ⟨m, hm⟩ => by
          have := (hme x (tot x ps)).mpr ⟨⟨m, hm⟩, rfl⟩
          have h0 : lord k x x = 0 := (lord_zero hp hq hq).mpr rfl
          rcases List.mem_append.mp this with z | z
          · have := h1 _ z
            simp only at this
            omega
          · have := h2 _ (by simpa using z)
            simp only at this
            omega
        omega
      · simp only [List.length_append, List.length_cons, List.nil_append] at hle ⊢
        omega
    · rw [if_pos (c2.mpr (by simp))]
      refine ⟨m + n, ?_, ?_, ?_⟩
      · simp
      · have := (hme x m).mp (by simp)
        rw [this.2]
      · simp only [List.length_append, List.length_cons, List.length_nil, List.cons_append, List.nil_append] at hle ⊢
        omega
  obtain ⟨m, k1, k2, k3⟩ := key
  rw [k1]
  have hst2 : Sorted k ls ∧ Sorted k rs ∧ ∀ a ∈ ls, ∀ b ∈ rs, lord k a.1 b.1 < 0 := by
    rw [Sorted, List.pairwise_append, List.pairwise_append] at hst
    exact ⟨hst.1, hst.2.1.2.1, fun a ha b hb => hst.2.2 a ha b (List.mem_append_right _ hb)⟩
  refine ⟨?_, fun e he => ?_, fun y j => ?_, by rw [List.length_append (as := ps)]; exact k3⟩
  · rw [Sorted, List.pairwise_append, List.pairwise_cons]
    refine ⟨hst2.1, ⟨fun b hb => ?_, hst2.2.1⟩, fun a ha b hb => ?_⟩
    · have e1 : lord k x b.1 = - lord k b.1 x := lord_anti hp (hr b hb) hq
      have e2 : 0 < lord k b.1 x := h2 b hb
      show lord k x b.1 < 0
      omega
    · rcases List.mem_cons.mp hb with z | z
      · rw [z]
        exact h1 a ha
      · exact hst2.2.2 a ha b z
  · rcases List.mem_append.mp he with z | z
    · exact hl e z
    · rcases List.mem_cons.mp z with z | z
      · rw [z]
        exact hq
      · exact hr e z
  · have h0 : lord k x x = 0 := (lord_zero hp hq hq).mpr rfl
    by_cases hy : y = x
    · subst hy
      constructor
      · intro hm
        refine ⟨⟨n, by simp⟩, ?_⟩
        rcases List.mem_append.mp hm with z | z
        · have := h1 _ z
          simp only at this
          omega
        · rcases List.mem_cons.mp z with z | z
          · cases z
            exact k2
          · have := h2 _ z
            simp only at this
            omega
      · rintro ⟨_, e2⟩
        rw [e2, ← k2]
        simp
    · have e1 : tot y (ps ++ [(x, n)]) = tot y ps := by rw [tot_app, tot_other n (Ne.symm hy), Int.add_zero]
      rw [e1]
      have e2 : (∃ m, (y, m) ∈ ps ++ [(x, n)]) ↔ ∃ m, (y, m) ∈ ps := by simp [hy]
      rw [e2, ← hme y j]
      simp only [List.mem_append, List.mem_cons]
      have e3 : ¬ (y, j) = (x, m) := fun z => hy (congrArg Prod.fst z)
      have e4 : ¬ (y, j) ∈ ms := by
        rcases h3 with rfl | ⟨m', rfl⟩
        · simp
        · simp [hy]
      simp only [e3, e4, false_or]
theorem held_nil : Held C I k [] [] := ⟨List.Pairwise.nil, fun _ h => (nomatch h), fun x n => ⟨fun h => (nomatch h), fun ⟨⟨_, h⟩, _⟩ => nomatch h⟩, Nat.le_refl _⟩
theorem insAll_snoc (ps : List (PyData × Int)) (q : PyData × Int) : insAll k (ps ++ [q]) = ins k (insAll k ps) q := by
  unfold insAll
  rw [List.foldl_append]
  rfl
theorem insAll_held (hp : k.plain = true) : ∀ (ps : List (PyData × Int)), (∀ q ∈ ps, vok C I k q.1) → Held C I k ps (insAll k ps) := by
  intro ps
  suffices H : ∀ (rs qs fs : List (PyData × Int)), Held C I k qs fs → (∀ q ∈ rs, vok C I k q.1) → Held C I k (qs ++ rs) (rs.foldl (ins k) fs) from fun h => by
    have := H ps [] [] held_nil h
    rw [List.nil_append] at this
    exact this
  intro rs
  induction rs with
  | nil => intro qs fs h _; simpa using h
  | cons q rs ih =>
    intro qs fs h hv
    have := ih (qs ++ [q]) (ins k fs q) (ins_held hp h (hv q List.mem_cons_self)) fun q hq => hv q (List.mem_cons_of_mem _ hq)
    rw [List.append_assoc] at this
    exact this
/-- what is told of a normal list -/
structure Norm (C : Nat → Prop) (I : Int → Prop) (k : Kd) (ps fs : List (PyData × Int)) : Prop where
  srt : Sorted k fs
  ok : ∀ e ∈ fs, vok C I k e.1
  mem : ∀ x n, (x, n) ∈ fs ↔ n ≠ 0 ∧ (∃ m, (x, m) ∈ ps) ∧ n = tot x ps
theorem bagN_norm (hp : k.plain = true) {ps : List (PyData × Int)} (h : ∀ q ∈ ps, vok C I k q.1) : Norm C I k ps (bagN k ps) ∧ (bagN k ps).length ≤ ps.length := by
  have H := insAll_held hp ps h
  refine ⟨⟨H.srt.sublist List.filter_sublist, fun e he => H.ok e (List.mem_filter.mp he).1, fun x n => ?_⟩, Nat.le_trans (List.length_filter_le _ _) H.len⟩
  unfold bagN
  rw [List.mem_filter, H.mem]
  simp only [decide_not, Bool.not_eq_true', decide_eq_false_iff_not, ne_eq]
  exact And.comm
theorem sorted_nodup (hp : k.plain = true) {fs : List (PyData × Int)} (h : Sorted k fs) (ok : ∀ e ∈ fs, vok C I k e.1) : (fs.map (·.1)).Nodup := by
  unfold List.Nodup
  rw [List.pairwise_map]
  refine List.Pairwise.imp_of_mem (fun {a b} ha hb h e => ?_) h
  have := (lord_zero hp (ok a ha) (ok b hb)).mpr e
  omega
/-- a sorted list is told by its members -/
theorem sorted_uniq (hp : k.plain = true) : ∀ {fs gs : List (PyData × Int)}, Sorted k fs → Sorted k gs → (∀ e ∈ fs, vok C I k e.1) → (∀ e ∈ gs, vok C I k e.1) → (∀ e, e ∈ fs ↔ e ∈ gs) → fs = gs
  | [], [], _, _, _, _, _ => rfl
  | [], g :: gs, _, _, _, _, h => by
    have := (h g).mpr List.mem_cons_self
    cases this
  | f :: fs, [], _, _, _, _, h => by
    have := (h f).mp List.mem_cons_self
    cases this
  | f :: fs, g :: gs, hf, hg, of, og, h => by
    rw [Sorted, List.pairwise_cons] at hf hg
    have irr : ∀ e : PyData × Int, vok C I k e.1 → ¬ lord k e.1 e.1 < 0 := fun e he z => by
      rw [(lord_zero hp he he).mpr rfl] at z
      omega
    have vf := of f List.mem_cons_self
    have vg := og g List.mem_cons_self
    have e : f = g := by
      rcases List.mem_cons.mp ((h f).mp List.mem_cons_self) with z | z
      · exact z
      · rcases List.mem_cons.mp ((h g).mpr List.mem_cons_self) with y | y
        · exact y.symm
        · have a1 := hg.1 f z
          have a2 := hf.1 g y
          have := lord_anti hp vf vg
          omega
    subst e
    rw [sorted_uniq hp hf.2 hg.2 (fun e he => of e (List.mem_cons_of_mem _ he)) (fun e he => og e (List.mem_cons_of_mem _ he)) fun e => ?_]
    constructor
    · intro he
      rcases List.mem_cons.mp ((h e).mp (List.mem_cons_of_mem _ he)) with z | z
      · subst z
        exact absurd (hf.1 e he) (irr e vf)
      · exact z
    · intro he
      rcases List.mem_cons.mp ((h e).mpr (List.mem_cons_of_mem _ he)) with z | z
      · subst z
        exact absurd (hg.1 e he) (irr e vf)
      · exact z
theorem norm_uniq (hp : k.plain = true) {ps fs gs : List (PyData × Int)} (a : Norm C I k ps fs) (b : Norm C I k ps gs) : fs = gs :=
  sorted_uniq hp a.srt b.srt a.ok b.ok fun ⟨x, n⟩ => by rw [a.mem, b.mem]
end
/-! ### the dict's reckoning -/
open Classical in
/-- the int at x -/
noncomputable def getK (kvs : List (PyData × Int)) (x : PyData) : Option Int := (kvs.find? fun q => decide (q.1 = x)).map (·.2)
open Classical in
noncomputable def stK (kvs : List (PyData × Int)) (x : PyData) (n : Int) : List (PyData × Int) :=
  if kvs.any (fun q => decide (q.1 = x)) then kvs.map (fun q => if q.1 = x then (q.1, n) else q) else kvs ++ [(x, n)]
theorem getK_mem {kvs : List (PyData × Int)} {x : PyData} {n : Int} (hn : (kvs.map (·.1)).Nodup) : getK kvs x = some n ↔ (x, n) ∈ kvs := by
  induction kvs with
  | nil => simp [getK]
  | cons q kvs ih =>
    obtain ⟨y, m⟩ := q
    rw [List.map_cons, List.nodup_cons] at hn
    unfold getK at ih ⊢
    rw [List.find?_cons]
    by_cases hy : y = x
    · subst hy
      simp only [decide_true, Option.map_some, Option.some.injEq, List.mem_cons, Prod.mk.injEq, true_and]
      constructor
      · intro e
        exact .inl e.symm
      · rintro (e | e)
        · exact e.symm
        · exact absurd (List.mem_map.mpr ⟨_, e, rfl⟩) hn.1
    · simp only [hy, decide_false, ih hn.2, List.mem_cons, Prod.mk.injEq]
      constructor
      · exact .inr
      · rintro (e | e)
        · exact absurd e.1.symm hy
        · exact e
theorem getK_none {kvs : List (PyData × Int)} {x : PyData} : getK kvs x = none ↔ ∀ n, (x, n) ∉ kvs := by
  unfold getK
  rw [Option.map_eq_none_iff, List.find?_eq_none]
  constructor
  · intro h n hm
    have := h _ hm
    simp at this
  · intro h q hq e
    obtain ⟨y, m⟩ := q
    have : y = x := by simpa using e
    subst this
    exact h m hq
open Classical in
theorem stK_spec {kvs : List (PyData × Int)} {x : PyData} {n : Int} (hn : (kvs.map (·.1)).Nodup) : ((stK kvs x n).map (·.1)).Nodup ∧ ∀ y m, (y, m) ∈ stK kvs x n ↔ (y = x ∧ m = n) ∨ (y ≠ x ∧ (y, m) ∈ kvs) := by
  unfold stK
  split
  · rename_i h
    obtain ⟨q, hq, e⟩ := List.any_eq_true.mp h
    have e : q.1 = x := by simpa using e
    refine ⟨?_, fun y m => ?_⟩
    · have : (kvs.map (fun q => if q.1 = x then (q.1, n) else q)).map (·.1) = kvs.map (·.1) := by
        rw [List.map_map]
        refine List.map_congr_left fun q _ => ?_
        simp only [Function.comp]
        split <;> rfl
      rw [this]
      exact hn
    · rw [List.mem_map]
      constructor
      · rintro ⟨p, hp, z⟩
        by_cases hx : p.1 = x
        · rw [if_pos hx] at z
          cases z
          exact .inl ⟨hx, rfl⟩
        · rw [if_neg hx] at z
          subst z
          exact .inr ⟨hx, hp⟩
      · rintro (⟨rfl, rfl⟩ | ⟨hx, hm⟩)
        · exact ⟨q, hq, by rw [if_pos e, e]⟩
        · exact ⟨_, hm, by rw [if_neg hx]⟩
  · rename_i h
    have no : ∀ m, (x, m) ∉ kvs := fun m hm => h (List.any_eq_true.mpr ⟨_, hm, by simp⟩)
    refine ⟨?_, fun y m => ?_⟩
    · rw [List.map_append, List.nodup_append]
      refine ⟨hn, by simp, fun a ha b hb e => ?_⟩
      obtain ⟨q, hq, rfl⟩ := List.mem_map.mp ha
      simp at hb
      rw [hb] at e
      obtain ⟨y, m⟩ := q
      cases (show y = x from e)
      exact no m hq
    · rw [List.mem_append]
      constructor
      · rintro (z | z)
        · exact .inr ⟨fun e => no m (by rw [← e]; exact z), z⟩
        · simp at z
          exact .inl z
      · rintro (⟨rfl, rfl⟩ | ⟨_, z⟩)
        · exact .inr (by simp)
        · exact .inl z
/-- what stands in the dict after the pairs ps -/
structure Dheld (ps kvs : List (PyData × Int)) : Prop where
  nd : (kvs.map (·.1)).Nodup
  mem : ∀ x n, (x, n) ∈ kvs ↔ (∃ m, (x, m) ∈ ps) ∧ n = tot x ps
theorem dheld_self {ps : List (PyData × Int)} (h : (ps.map (·.1)).Nodup) : Dheld ps ps := ⟨h, fun x n => by
  constructor
  · intro hm
    exact ⟨⟨n, hm⟩, (tot_uniq h hm).symm⟩
  · rintro ⟨⟨m, hm⟩, e⟩
    rw [e, tot_uniq h hm]
    exact hm⟩
theorem Dheld.get {ps kvs : List (PyData × Int)} (h : Dheld ps kvs) (x : PyData) : (getK kvs x).getD 0 = tot x ps := by
  cases e : getK kvs x with
  | some n => exact ((h.mem x n).mp ((getK_mem h.nd).mp e)).2
  | none =>
    have := getK_none.mp e
    refine (tot_none fun ⟨m, hm⟩ => this _ ((h.mem x _).mpr ⟨⟨m, hm⟩, rfl⟩)).symm
theorem Dheld.step {ps kvs : List (PyData × Int)} (h : Dheld ps kvs) (x : PyData) (n : Int) : Dheld (ps ++ [(x, n)]) (stK kvs x ((getK kvs x).getD 0 + n)) := by
  obtain ⟨h1, h2⟩ := stK_spec (x := x) (n := (getK kvs x).getD 0 + n) h.nd
  refine ⟨h1, fun y m => ?_⟩
  rw [h2, h.get, tot_app]
  by_cases hy : y = x
  · subst hy
    rw [tot_self]
    simp
  · rw [tot_other n (Ne.symm hy), Int.add_zero]
    simp only [hy, false_and, false_or, ne_eq, not_false_eq_true, true_and, h.mem y m, List.mem_append, List.mem_singleton, Prod.mk.injEq, or_false]
/-- the keys of a dict in order, with their ints but 0, are the normal list -/
theorem dict_norm {C : Nat → Prop} {I : Int → Prop} {k : Kd} {ps kvs : List (PyData × Int)} {ks : List PyData} (h : Dheld ps kvs) (hv : ∀ q ∈ ps, vok C I k q.1) (hs : ks.Pairwise fun x y => lord k x y < 0) (hm : ∀ x, x ∈ ks ↔ x ∈ kvs.map (·.1)) :
    Norm C I k ps ((ks.filter fun x => decide ((getK kvs x).getD 0 ≠ 0)).map fun x => (x, (getK kvs x).getD 0)) := by
  refine ⟨?_, fun e he => ?_, fun x n => ?_⟩
  · rw [Sorted, List.pairwise_map]
    exact hs.sublist List.filter_sublist
  · obtain ⟨x, hx, rfl⟩ := List.mem_map.mp he
    obtain ⟨q, hq, e⟩ := List.mem_map.mp ((hm x).mp (List.mem_filter.mp hx).1)
    obtain ⟨y, m⟩ := q
    have e : y = x := e
    subst e
    obtain ⟨⟨m', hm'⟩, _⟩ := (h.mem y m).mp hq
    exact hv (y, m') hm'
  · rw [List.mem_map]
    constructor
    · rintro ⟨y, hy, e⟩
      cases e
      obtain ⟨h1, h2⟩ := List.mem_filter.mp hy
      obtain ⟨q, hq, e⟩ := List.mem_map.mp ((hm x).mp h1)
      obtain ⟨z, m⟩ := q
      have e : z = x := e
      subst e
      exact ⟨by simpa using h2, ((h.mem z m).mp hq).1, h.get z⟩
    · rintro ⟨h0, hx, e⟩
      refine ⟨x, List.mem_filter.mpr ⟨(hm x).mpr (List.mem_map.mpr ⟨_, (h.mem x n).mpr ⟨hx, e⟩, rfl⟩), ?_⟩, ?_⟩
      · rw [h.get, ← e]
        simpa using h0
      · rw [h.get, ← e]
end Lay
/-! PM4 -/
/-! is it a value?; zero, sum, many; sizes -/
namespace Lay
open PySem L2
def unpd : PyData → PyData × Int
  | .tuple [x, .int n] => (x, n)
  | d => (d, 0)
theorem unpd_pd (q : PyData × Int) : unpd (pd q) = q := rfl
theorem unpd_map (xs : List (PyData × Int)) : (xs.map pd).map unpd = xs := by
  rw [List.map_map]
  exact (List.map_congr_left fun q _ => unpd_pd q).trans (List.map_id _)
def fstD : PyData → PyData
  | .tuple (x :: _) => x
  | d => d
theorem fst_pd (q : PyData × Int) : fstD (pd q) = q.1 := rfl
/-- a pair of a value and an int -/
def counted (v : PyData → Bool) : PyData → Bool
  | .tuple [x, n] => v x && whole n
  | _ => false
def nzD : PyData → Bool
  | .tuple [_, .int n] => !decide (n = 0)
  | _ => false
def ascD (a : Kd) (ps : List PyData) : Bool := (ps.zip ps.tail).all fun q => decide (lord a (fstD q.1) (fstD q.2) < 0)
/-- the text's own answer -/
def valued : Kd → PyData → Bool
  | .unit, d => match d with
    | .tuple [] => true
    | _ => false
  | .num, d => whole d
  | .pair a b, d => match d with
    | .tuple [.str s, x, y] => decide (s = "pair") && valued a x && valued b y
    | _ => false
  | .either a b, d => match d with
    | .tuple [.str s, x] => if s = "left" then valued a x else if s = "right" then valued b x else false
    | _ => false
  | .bag a, d => match d with
    | .tuple ps => (ps.all fun p => counted (valued a) p && nzD p) && ascD a ps
    | _ => false
theorem whole_iff {d : PyData} : whole d = true ↔ ∃ i, d = .int i := by cases d <;> simp [whole]
theorem pair_iff {v : PyData → Bool} {p : PyData} : (counted v p && nzD p) = true ↔ ∃ q : PyData × Int, p = pd q ∧ v q.1 = true ∧ q.2 ≠ 0 := by
  constructor
  · intro h
    rw [Bool.and_eq_true] at h
    obtain ⟨h1, h2⟩ := h
    unfold counted at h1
    split at h1
    · rw [Bool.and_eq_true] at h1
      obtain ⟨i, rfl⟩ := whole_iff.mp h1.2
      exact ⟨(_, i), rfl, h1.1, by simpa [nzD] using h2⟩
    · cases h1
  · rintro ⟨⟨x, n⟩, rfl, h1, h2⟩
    simp only [pd, counted, nzD, whole, h1, Bool.and_true, Bool.true_and, Bool.not_eq_true', decide_eq_false_iff_not]
    exact h2
theorem pairs_of {v : PyData → Bool} : ∀ {ps : List PyData}, ps.all (fun p => counted v p && nzD p) = true → ∃ xs : List (PyData × Int), ps = xs.map pd ∧ ∀ q ∈ xs, v q.1 = true ∧ q.2 ≠ 0
  | [], _ => ⟨[], rfl, fun _ h => (nomatch h)⟩
  | p :: ps, h => by
    rw [List.all_cons, Bool.and_eq_true] at h
    obtain ⟨q, rfl, h1⟩ := pair_iff.mp h.1
    obtain ⟨xs, rfl, h2⟩ := pairs_of h.2
    refine ⟨q :: xs, rfl, fun q' hq => ?_⟩
    rcases List.mem_cons.mp hq with e | e
    · rw [e]
      exact h1
    · exact h2 q' e
/-- adjacent is enough -/
theorem asc_iff {C : Nat → Prop} {I : Int → Prop} {a : Kd} (hp : a.plain = true) : ∀ {xs : List (PyData × Int)}, (∀ q ∈ xs, vok C I a q.1) → (ascD a (xs.map pd) = true ↔ Sorted a xs)
  | [], _ => by simp [ascD]
  | [q], _ => by simp [ascD]
  | q :: r :: xs, h => by
    have ih := asc_iff hp (xs := r :: xs) fun q hq => h q (List.mem_cons_of_mem _ hq)
    have e : ascD a ((q :: r :: xs).map pd) = (decide (lord a q.1 r.1 < 0) && ascD a ((r :: xs).map pd)) := rfl
    rw [e, Bool.and_eq_true, ih]
    show _ ↔ List.Pairwise _ (q :: r :: xs)
    rw [List.pairwise_cons]
    constructor
    · rintro ⟨h1, h2⟩
      refine ⟨fun y hy => ?_, h2⟩
      rcases List.mem_cons.mp hy with z | z
      · rw [z]
        exact of_decide_eq_true h1
      · have h3 := (List.pairwise_cons.mp h2).1 y z
        exact lord_tr hp (h q List.mem_cons_self) (h r (by simp)) (h y (List.mem_cons_of_mem _ hy)) (of_decide_eq_true h1) h3
    · rintro ⟨h1, h2⟩
      exact ⟨decide_eq_true (h1 r List.mem_cons_self), h2⟩
theorem valued_iff : ∀ {k : Kd} {d : PyData}, k.ok = true → (valued k d = true ↔ val k d)
  | .unit, d, _ => by
    simp only [valued, vok]
    split <;> simp_all
  | .num, d, _ => by
    simp only [valued, vok, whole_iff, and_true]
  | .pair a b, d, h => by
    simp only [Kd.ok, Bool.and_eq_true] at h
    simp only [valued, vok]
    constructor
    · intro z
      split at z
      · rename_i s x y
        rw [Bool.and_eq_true, Bool.and_eq_true, valued_iff h.1, valued_iff h.2, decide_eq_true_eq] at z
        obtain ⟨⟨rfl, h1⟩, h2⟩ := z
        exact ⟨x, y, rfl, h1, h2⟩
      · cases z
    · rintro ⟨x, y, rfl, h1, h2⟩
      simp only [Bool.and_eq_true, valued_iff h.1, valued_iff h.2, decide_true, true_and]
      exact ⟨h1, h2⟩
  | .either a b, d, h => by
    simp only [Kd.ok, Bool.and_eq_true] at h
    simp only [valued, vok]
    constructor
    · intro z
      split at z
      · rename_i s x
        split at z
        · rename_i e
          subst e
          exact .inl ⟨x, rfl, (valued_iff h.1).mp z⟩
        · split at z
          · rename_i e
            subst e
            exact .inr ⟨x, rfl, (valued_iff h.2).mp z⟩
          · cases z
      · cases z
    · rintro (⟨x, rfl, h1⟩ | ⟨x, rfl, h1⟩)
      · simp only [if_true]
        exact (valued_iff h.1).mpr h1
      · simp only [if_true]
        rw [if_neg (fun e => lr_ne e.symm)]
        exact (valued_iff h.2).mpr h1
  | .bag a, d, h => by
    simp only [Kd.ok] at h
    have ho := Kd.plain_ok h
    simp only [valued, vok]
    constructor
    · intro z
      split at z
      · rw [Bool.and_eq_true] at z
        obtain ⟨xs, rfl, h1⟩ := pairs_of z.1
        have h2 : ∀ q ∈ xs, val a q.1 := fun q hq => (valued_iff ho).mp (h1 q hq).1
        exact ⟨xs, rfl, trivial, fun q hq => ⟨h2 q hq, (h1 q hq).2, trivial⟩, (asc_iff h h2).mp z.2⟩
      · cases z
    · rintro ⟨xs, rfl, _, h1, h2⟩
      simp only [Bool.and_eq_true]
      refine ⟨?_, (asc_iff h fun q hq => (h1 q hq).1).mpr h2⟩
      rw [List.all_eq_true]
      intro p hp
      obtain ⟨q, hq, rfl⟩ := List.mem_map.mp hp
      exact pair_iff.mpr ⟨q, rfl, (valued_iff ho).mpr (h1 q hq).1, (h1 q hq).2.1⟩
/-! ### zero, sum, many -/
def zeroD : Kd → PyData
  | .pair a b => .tuple [.str "pair", zeroD a, zeroD b]
  | .num => .int 0
  | _ => .tuple []
def sumD : Kd → PyData → PyData → PyData
  | .num, d, e => match d, e with
    | .int i, .int j => .int (i + j)
    | _, _ => .none
  | .pair a b, d, e => match d, e with
    | .tuple [_, x, y], .tuple [_, x2, y2] => .tuple [.str "pair", sumD a x x2, sumD b y y2]
    | _, _ => .none
  | .bag a, d, e => match d, e with
    | .tuple ps, .tuple qs => .tuple ((bagN a ((ps ++ qs).map unpd)).map pd)
    | _, _ => .none
  | _, _, _ => .none
def manyD (n : Int) : Kd → PyData → PyData
  | .num, d => match d with
    | .int i => .int (n * i)
    | _ => .none
  | .pair a b, d => match d with
    | .tuple [_, x, y] => .tuple [.str "pair", manyD n a x, manyD n b y]
    | _ => .none
  | .bag _, d => match d with
    | .tuple ps => if n ≠ 0 then .tuple (ps.map fun p => pd ((unpd p).1, n * (unpd p).2)) else .tuple []
    | _ => .none
  | _, _ => .none
abbrev lim (c B : Nat) : Kd → PyData → Prop := vok (fun n => n ≤ c) fun i => i.natAbs ≤ B
section
variable {c c' B B' : Nat} {k : Kd} {x y d : PyData}
theorem lim_mono (h : lim c B k d) (hc : c ≤ c') (hB : B ≤ B') : lim c' B' k d := vok.mono (fun _ z => Nat.le_trans z hc) (fun _ z => Nat.le_trans z hB) h
/-- a bag's reckoning, within bounds -/
theorem bagN_lim {a : Kd} (hp : a.plain = true) {ps : List (PyData × Int)} {m : Nat} (h : ∀ q ∈ ps, lim c B a q.1 ∧ q.2.natAbs ≤ m) (hc : ps.length ≤ c') (hcc : c ≤ c') (hB : B ≤ B') (hm : ps.length * m ≤ B') : lim c' B' (.bag a) (.tuple ((bagN a ps).map pd)) := by
  obtain ⟨N, l⟩ := bagN_norm hp (C := fun n => n ≤ c) (I := fun i => i.natAbs ≤ B) fun q hq => (h q hq).1
  refine ⟨_, rfl, Nat.le_trans l hc, fun q hq => ?_, N.srt⟩
  obtain ⟨x, n⟩ := q
  obtain ⟨h0, ⟨m', hm'⟩, e⟩ := (N.mem x n).mp hq
  exact ⟨lim_mono (N.ok _ hq) hcc hB, h0, by rw [e]; exact Nat.le_trans (tot_le fun q hq => (h q hq).2) hm⟩
theorem sum_lim (hc : 1 ≤ c) : ∀ {k : Kd} {x y : PyData}, k.ok = true → k.group = true → lim c B k x → lim c B k y → lim (2 * c) (2 * c * B) k (sumD k x y)
  | .num, x, y, _, _, hx, hy => by
    obtain ⟨i, rfl, hi⟩ := hx
    obtain ⟨j, rfl, hj⟩ := hy
    refine ⟨i + j, rfl, ?_⟩
    have : 2 * 1 * B ≤ 2 * c * B := Nat.mul_le_mul_right _ (Nat.mul_le_mul_left _ hc)
    omega
  | .pair a b, x, y, ho, hg, hx, hy => by
    simp only [Kd.ok, Kd.group, Bool.and_eq_true] at ho hg
    obtain ⟨x1, x2, rfl, hx1, hx2⟩ := hx
    obtain ⟨y1, y2, rfl, hy1, hy2⟩ := hy
    exact ⟨_, _, rfl, sum_lim hc ho.1 hg.1 hx1 hy1, sum_lim hc ho.2 hg.2 hx2 hy2⟩
  | .bag a, x, y, ho, _, hx, hy => by
    obtain ⟨xs, rfl, lx, hx, _⟩ := hx
    obtain ⟨ys, rfl, ly, hy, _⟩ := hy
    have e : sumD (.bag a) (.tuple (xs.map pd)) (.tuple (ys.map pd)) = .tuple ((bagN a (xs ++ ys)).map pd) := by
      simp only [sumD, List.map_append, unpd_map]
    rw [e]
    have hl : (xs ++ ys).length ≤ 2 * c := by
      rw [List.length_append]
      omega
    refine bagN_lim ho (c := c) (B := B) (m := B) (fun q hq => ?_) hl (by omega) ?_ (Nat.mul_le_mul_right _ hl)
    · rcases List.mem_append.mp hq with z | z
      · exact ⟨(hx q z).1, (hx q z).2.2⟩
      · exact ⟨(hy q z).1, (hy q z).2.2⟩
    · have : 1 * B ≤ 2 * c * B := Nat.mul_le_mul_right _ (by omega)
      omega
theorem many_lim {n : Int} {m : Nat} (hn : n.natAbs ≤ m) (hm : 1 ≤ m) : ∀ {k : Kd} {x : PyData}, k.ok = true → k.group = true → lim c B k x → lim c (m * B) k (manyD n k x)
  | .num, x, _, _, hx => by
    obtain ⟨i, rfl, hi⟩ := hx
    exact ⟨n * i, rfl, by show (n * i).natAbs ≤ _; rw [Int.natAbs_mul]; exact Nat.mul_le_mul hn hi⟩
  | .pair a b, x, ho, hg, hx => by
    simp only [Kd.ok, Kd.group, Bool.and_eq_true] at ho hg
    obtain ⟨x1, x2, rfl, hx1, hx2⟩ := hx
    exact ⟨_, _, rfl, many_lim hn hm ho.1 hg.1 hx1, many_lim hn hm ho.2 hg.2 hx2⟩
  | .bag a, x, ho, _, hx => by
    obtain ⟨xs, rfl, lx, hx, hs⟩ := hx
    have e : manyD n (.bag a) (.tuple (xs.map pd)) = if n ≠ 0 then .tuple ((xs.map fun q => (q.1, n * q.2)).map pd) else .tuple [] := by
      simp only [manyD, List.map_map]
      rfl
    rw [e]
    split
    · rename_i h0
      refine ⟨_, rfl, by rw [List.length_map]; exact lx, fun q hq => ?_, ?_⟩
      · obtain ⟨p, hp, rfl⟩ := List.mem_map.mp hq
        have h := hx p hp
        refine ⟨lim_mono h.1 (Nat.le_refl _) ?_, Int.mul_ne_zero h0 h.2.1, by show (n * p.2).natAbs ≤ _; rw [Int.natAbs_mul]; exact Nat.mul_le_mul hn h.2.2⟩
        have : 1 * B ≤ m * B := Nat.mul_le_mul_right _ hm
        omega
      · rw [List.pairwise_map]
        exact hs
    · exact ⟨[], rfl, Nat.zero_le _, fun _ h => (nomatch h), List.Pairwise.nil⟩
theorem zero_lim : ∀ {k : Kd}, k.group = true → lim c B k (zeroD k)
  | .num, _ => ⟨0, rfl, Nat.zero_le _⟩
  | .pair a b, h => by
    simp only [Kd.group, Bool.and_eq_true] at h
    exact ⟨_, _, rfl, zero_lim h.1, zero_lim h.2⟩
  | .bag a, _ => ⟨[], rfl, Nat.zero_le _, fun _ h => (nomatch h), List.Pairwise.nil⟩
end
/-! ### sizes -/
/-- may be shown; n: its bulk, m: its depth -/
structure Fine (n m : Nat) (d : PyData) : Prop where
  lay : d.canLay0 = true
  shw : d.showable = true
  short : d.leavesShort 64 = true
  bulk : d.bulk ≤ n
  deep : d.depth ≤ m
structure FineA (n m : Nat) (ds : List PyData) : Prop where
  lay : PyData.canLayAll0 ds = true
  shw : PyData.showableAll ds = true
  short : PyData.leavesShortAll 64 ds = true
  bulk : PyData.bulkAll ds ≤ n
  deep : PyData.depthAll ds ≤ m
section
variable {n n' m m' c B : Nat} {d : PyData} {ds : List PyData}
theorem Fine.le (h : Fine n m d) (a : n ≤ n') (b : m ≤ m') : Fine n' m' d := ⟨h.lay, h.shw, h.short, Nat.le_trans h.bulk a, Nat.le_trans h.deep b⟩
theorem FineA.le (h : FineA n m ds) (a : n ≤ n') (b : m ≤ m') : FineA n' m' ds := ⟨h.lay, h.shw, h.short, Nat.le_trans h.bulk a, Nat.le_trans h.deep b⟩
theorem finea_nil : FineA 0 m [] := ⟨rfl, rfl, rfl, Nat.le_refl _, Nat.zero_le _⟩
theorem finea_cons (h : Fine n m d) (t : FineA n' m ds) : FineA (n + 1 + n') m (d :: ds) := by
  refine ⟨?_, ?_, ?_, ?_, ?_⟩
  · simp only [PyData.canLayAll0, h.lay, t.lay, Bool.and_self]
  · simp only [PyData.showableAll, h.shw, t.shw, Bool.and_self]
  · simp only [PyData.leavesShortAll, h.short, t.short, Bool.and_self]
  · have h1 := h.bulk
    have h2 := t.bulk
    simp only [PyData.bulkAll]
    omega
  · have h1 := h.deep
    have h2 := t.deep
    simp only [PyData.depthAll]
    omega
theorem fine_tup (h : FineA n m ds) : Fine n (m + 1) (.tuple ds) := by
  refine ⟨?_, ?_, ?_, ?_, ?_⟩
  · simpa only [PyData.canLay0] using h.lay
  · simpa only [PyData.showable] using h.shw
  · simpa only [PyData.leavesShort] using h.short
  · simpa only [PyData.bulk] using h.bulk
  · simp only [PyData.depth]
    exact Nat.succ_le_succ h.deep
theorem fine_lst (h : FineA n m ds) : Fine n (m + 1) (.list ds) := by
  refine ⟨?_, ?_, ?_, ?_, ?_⟩
  · simpa only [PyData.canLay0] using h.lay
  · simpa only [PyData.showable] using h.shw
  · simpa only [PyData.leavesShort] using h.short
  · simpa only [PyData.bulk] using h.bulk
  · simp only [PyData.depth]
    exact Nat.succ_le_succ h.deep
theorem fine_int {i : Int} (h : i.natAbs ≤ 10 ^ 40) : Fine 0 m (.int i) := by
  refine ⟨rfl, ?_, ?_, Nat.le_refl _, Nat.zero_le _⟩
  · simp only [PyData.showable, decide_eq_true_eq]
    by_cases h0 : i.natAbs = 0
    · rw [h0]
      decide
    · refine (Nat.log2_lt h0).mpr (Nat.lt_of_le_of_lt h ?_)
      decide +kernel
  · have e := int_text_length_le10 (a := i) (k := 41) (by decide) (Nat.lt_of_le_of_lt h (by decide +kernel))
    simp only [PyData.leavesShort, decide_eq_true_eq]
    show (Str.ofString (toString i)).length ≤ 64
    rw [ofString_length]
    omega
theorem fine_bool {i : Bool} : Fine 0 m (.bool i) := ⟨rfl, rfl, rfl, Nat.le_refl _, Nat.zero_le _⟩
theorem fine_pairs {xs : List (PyData × Int)} (h : ∀ q ∈ xs, Fine n m q.1 ∧ q.2.natAbs ≤ 10 ^ 40) : FineA (xs.length * (n + 3)) (m + 1) (xs.map pd) := by
  induction xs with
  | nil => exact finea_nil.le (Nat.zero_le _) (Nat.le_refl _)
  | cons q xs ih =>
    have hq := h q List.mem_cons_self
    have h1 : Fine (n + 1 + (0 + 1 + 0)) (m + 1) (pd q) := fine_tup (finea_cons hq.1 (finea_cons (fine_int hq.2) finea_nil))
    have h2 := finea_cons h1 (ih fun q hq => h q (List.mem_cons_of_mem _ hq))
    refine h2.le ?_ (Nat.le_refl _)
    rw [List.length_cons, Nat.add_mul]
    omega
def bb (c : Nat) : Kd → Nat
  | .pair a b => 7 + bb c a + bb c b
  | .either a b => 8 + bb c a + bb c b
  | .bag a => c * (bb c a + 3)
  | _ => 0
theorem lim_fine (hB : B ≤ 10 ^ 40) : ∀ {k : Kd} {d : PyData}, lim c B k d → Fine (bb c k) (2 * k.deep) d
  | .unit, d, h => by
    cases (show d = .tuple [] from h)
    exact (fine_tup (m := 0) finea_nil).le (Nat.le_refl _) (by simp [Kd.deep])
  | .num, d, h => by
    obtain ⟨i, rfl, hi⟩ := h
    exact fine_int (Nat.le_trans hi hB)
  | .pair a b, d, h => by
    obtain ⟨x, y, rfl, hx, hy⟩ := h
    have fx := lim_fine hB hx
    have fy := lim_fine hB hy
    have ft : Fine 4 (2 * max a.deep b.deep) (.str "pair") := ⟨by decide +kernel, by decide +kernel, by decide +kernel, by decide +kernel, Nat.zero_le _⟩
    have := fine_tup (finea_cons ft (finea_cons (fx.le (Nat.le_refl _) (m' := 2 * max a.deep b.deep) (by omega)) (finea_cons (fy.le (Nat.le_refl _) (m' := 2 * max a.deep b.deep) (by omega)) finea_nil)))
    refine this.le ?_ ?_
    · simp only [bb]
      omega
    · simp only [Kd.deep]
      omega
  | .either a b, d, h => by
    rcases h with ⟨x, rfl, hx⟩ | ⟨x, rfl, hx⟩
    · have fx := lim_fine hB hx
      have ft : Fine 4 (2 * max a.deep b.deep) (.str "left") := ⟨by decide +kernel, by decide +kernel, by decide +kernel, by decide +kernel, Nat.zero_le _⟩
      have := fine_tup (finea_cons ft (finea_cons (fx.le (Nat.le_refl _) (m' := 2 * max a.deep b.deep) (by omega)) finea_nil))
      refine this.le ?_ ?_
      · simp only [bb]
        omega
      · simp only [Kd.deep]
        omega
    · have fx := lim_fine hB hx
      have ft : Fine 5 (2 * max a.deep b.deep) (.str "right") := ⟨by decide +kernel, by decide +kernel, by decide +kernel, by decide +kernel, Nat.zero_le _⟩
      have := fine_tup (finea_cons ft (finea_cons (fx.le (Nat.le_refl _) (m' := 2 * max a.deep b.deep) (by omega)) finea_nil))
      refine this.le ?_ ?_
      · simp only [bb]
        omega
      · simp only [Kd.deep]
        omega
  | .bag a, d, h => by
    obtain ⟨xs, rfl, hl, hx, _⟩ := h
    have := fine_tup (fine_pairs fun q hq => ⟨lim_fine hB (hx q hq).1, Nat.le_trans (hx q hq).2.2 hB⟩)
    refine this.le ?_ ?_
    · simp only [bb]
      exact Nat.mul_le_mul_right _ hl
    · simp only [Kd.deep]
      omega
theorem bb_plain : ∀ {k : Kd}, k.plain = true → bb c k + 8 ≤ 4 * 2 ^ k.deep
  | .unit, _ => by simp [bb, Kd.deep]
  | .num, _ => by simp [bb, Kd.deep]
  | .pair a b, h => by
    simp only [Kd.plain, Bool.and_eq_true] at h
    have h1 := bb_plain h.1
    have h2 := bb_plain h.2
    have e1 : 2 ^ a.deep ≤ 2 ^ max a.deep b.deep := Nat.pow_le_pow_right (by decide) (by omega)
    have e2 : 2 ^ b.deep ≤ 2 ^ max a.deep b.deep := Nat.pow_le_pow_right (by decide) (by omega)
    simp only [bb, Kd.deep]
    rw [Nat.pow_succ]
    omega
  | .either a b, h => by
    simp only [Kd.plain, Bool.and_eq_true] at h
    have h1 := bb_plain h.1
    have h2 := bb_plain h.2
    have e1 : 2 ^ a.deep ≤ 2 ^ max a.deep b.deep := Nat.pow_le_pow_right (by decide) (by omega)
    have e2 : 2 ^ b.deep ≤ 2 ^ max a.deep b.deep := Nat.pow_le_pow_right (by decide) (by omega)
    simp only [bb, Kd.deep]
    rw [Nat.pow_succ]
    omega
theorem bb_ok (hc : c ≤ 16) : ∀ {k : Kd}, k.ok = true → bb c k + 8 ≤ 32 * 2 ^ k.deep
  | .unit, _ => by simp [bb, Kd.deep]
  | .num, _ => by simp [bb, Kd.deep]
  | .pair a b, h => by
    simp only [Kd.ok, Bool.and_eq_true] at h
    have h1 := bb_ok hc h.1
    have h2 := bb_ok hc h.2
    have e1 : 2 ^ a.deep ≤ 2 ^ max a.deep b.deep := Nat.pow_le_pow_right (by decide) (by omega)
    have e2 : 2 ^ b.deep ≤ 2 ^ max a.deep b.deep := Nat.pow_le_pow_right (by decide) (by omega)
    simp only [bb, Kd.deep]
    rw [Nat.pow_succ]
    omega
  | .either a b, h => by
    simp only [Kd.ok, Bool.and_eq_true] at h
    have h1 := bb_ok hc h.1
    have h2 := bb_ok hc h.2
    have e1 : 2 ^ a.deep ≤ 2 ^ max a.deep b.deep := Nat.pow_le_pow_right (by decide) (by omega)
    have e2 : 2 ^ b.deep ≤ 2 ^ max a.deep b.deep := Nat.pow_le_pow_right (by decide) (by omega)
    simp only [bb, Kd.deep]
    rw [Nat.pow_succ]
    omega
  | .bag a, h => by
    have h1 := bb_plain (c := c) (k := a) h
    simp only [bb, Kd.deep]
    have : c * (bb c a + 3) ≤ 16 * (bb c a + 3) := Nat.mul_le_mul_right _ hc
    rw [Nat.pow_succ]
    omega
theorem lim_fine4 {k : Kd} (ho : k.ok = true) (hk : k.deep ≤ 4) (hc : c ≤ 16) (hB : B ≤ 10 ^ 40) (h : lim c B k d) : Fine 512 8 d := by
  have h1 := bb_ok hc ho
  have e1 : 2 ^ k.deep ≤ 2 ^ 4 := Nat.pow_le_pow_right (by decide) hk
  exact (lim_fine hB h).le (by omega) (by omega)
/-- .. and its text fits -/
theorem Fine.fits (h : Fine n m d) (hn : n ≤ 200000) : d.shown.length ≤ sizeLine := by
  have h1 := PyData.shown_le_bulk 64 (by decide) d h.short
  have h2 := h.bulk
  have e : (64 + 2) * d.bulk ≤ 66 * 200000 := Nat.mul_le_mul_left _ (by omega)
  have : sizeLine = 16777216 := by decide
  omega
end
/-! ### no tuple within is longer than m -/
mutual
def wide (m : Nat) : PyData → Bool
  | .tuple ds => decide (ds.length ≤ m) && wideA m ds
  | _ => true
def wideA (m : Nat) : List PyData → Bool
  | [] => true
  | d :: ds => wide m d && wideA m ds
end
theorem wideA_iff {m : Nat} : ∀ {ds : List PyData}, wideA m ds = true ↔ ∀ d ∈ ds, wide m d = true
  | [] => by simp [wideA]
  | d :: ds => by
    rw [wideA, Bool.and_eq_true, wideA_iff]
    simp
theorem wide_tup {m : Nat} {ds : List PyData} : wide m (.tuple ds) = true ↔ ds.length ≤ m ∧ ∀ d ∈ ds, wide m d = true := by
  rw [wide, Bool.and_eq_true, decide_eq_true_eq, wideA_iff]
theorem vok_wide {C : Nat → Prop} {I : Int → Prop} {m : Nat} (hm : 3 ≤ m) (hC : ∀ n, C n → n ≤ m) : ∀ {k : Kd} {d : PyData}, vok C I k d → wide m d = true
  | .unit, d, h => by
    cases (show d = .tuple [] from h)
    simp [wide, wideA]
  | .num, d, h => by
    obtain ⟨i, rfl, _⟩ := h
    simp [wide]
  | .pair a b, d, h => by
    obtain ⟨x, y, rfl, hx, hy⟩ := h
    simp [wide, wideA, vok_wide hm hC hx, vok_wide hm hC hy, hm]
  | .either a b, d, h => by
    have h2 : 2 ≤ m := by omega
    rcases h with ⟨x, rfl, hx⟩ | ⟨x, rfl, hx⟩ <;> simp [wide, wideA, vok_wide hm hC hx, h2]
  | .bag a, d, h => by
    obtain ⟨xs, rfl, hl, hx, _⟩ := h
    refine wide_tup.mpr ⟨by rw [List.length_map]; exact hC _ hl, fun d hd => ?_⟩
    obtain ⟨q, hq, rfl⟩ := List.mem_map.mp hd
    have h2 : 2 ≤ m := by omega
    simp [pd, wide, wideA, vok_wide hm hC (hx q hq).1, h2]
mutual
theorem wide_mono {m n : Nat} (h : m ≤ n) : ∀ {d : PyData}, wide m d = true → wide n d = true
  | .tuple ds, z => by
    rw [wide, Bool.and_eq_true, decide_eq_true_eq] at z ⊢
    exact ⟨by omega, wideA_mono h z.2⟩
  | .none, _ => by simp [wide]
  | .bool _, _ => by simp [wide]
  | .int _, _ => by simp [wide]
  | .str _, _ => by simp [wide]
  | .list _, _ => by simp [wide]
  | .dict _, _ => by simp [wide]
theorem wideA_mono {m n : Nat} (h : m ≤ n) : ∀ {ds : List PyData}, wideA m ds = true → wideA n ds = true
  | [], _ => by simp [wideA]
  | d :: ds, z => by
    rw [wideA, Bool.and_eq_true] at z ⊢
    exact ⟨wide_mono h z.1, wideA_mono h z.2⟩
end
end Lay
/-! PM5 -/
/-! == and < of values of a plain kind, as the machine compares -/
namespace Lay
open PySem PySem.SeqAt
abbrev sOk (x : Str) : Bool := (PyData.str x).canLay0
theorem val_lay {C : Nat → Prop} {I : Int → Prop} : ∀ {k : Kd} {d : PyData}, vok C I k d → d.canLay0 = true ∧ d.depth ≤ 2 * k.deep
  | .unit, d, h => by
    cases (show d = .tuple [] from h)
    exact ⟨rfl, by simp [PyData.depth, PyData.depthAll, Kd.deep]⟩
  | .num, d, h => by
    obtain ⟨i, rfl, _⟩ := h
    exact ⟨rfl, by simp [PyData.depth]⟩
  | .pair a b, d, h => by
    obtain ⟨x, y, rfl, hx, hy⟩ := h
    obtain ⟨x1, x2⟩ := val_lay hx
    obtain ⟨y1, y2⟩ := val_lay hy
    refine ⟨?_, ?_⟩
    · simp only [PyData.canLay0, PyData.canLayAll0, x1, y1, Bool.and_true]
      decide +kernel
    · simp only [PyData.depth, PyData.depthAll, Kd.deep]
      omega
  | .either a b, d, h => by
    rcases h with ⟨x, rfl, hx⟩ | ⟨x, rfl, hx⟩ <;> obtain ⟨x1, x2⟩ := val_lay hx
    · refine ⟨?_, ?_⟩
      · simp only [PyData.canLay0, PyData.canLayAll0, x1, Bool.and_true]
        decide +kernel
      · simp only [PyData.depth, PyData.depthAll, Kd.deep]
        omega
    · refine ⟨?_, ?_⟩
      · simp only [PyData.canLay0, PyData.canLayAll0, x1, Bool.and_true]
        decide +kernel
      · simp only [PyData.depth, PyData.depthAll, Kd.deep]
        omega
  | .bag a, d, h => by
    obtain ⟨xs, rfl, _, hx, _⟩ := h
    have key : ∀ ys : List (PyData × Int), (∀ q ∈ ys, vok C I a q.1) → PyData.canLayAll0 (ys.map pd) = true ∧ PyData.depthAll (ys.map pd) ≤ 2 * a.deep + 1 := by
      intro ys
      induction ys with
      | nil => intro _; exact ⟨rfl, Nat.zero_le _⟩
      | cons q ys ih =>
        intro hq
        obtain ⟨i1, i2⟩ := ih fun q h => hq q (List.mem_cons_of_mem _ h)
        obtain ⟨x1, x2⟩ := val_lay (hq q List.mem_cons_self)
        refine ⟨?_, ?_⟩
        · simp only [List.map_cons, PyData.canLayAll0, i1, pd, PyData.canLay0, x1, Bool.and_self]
        · simp only [List.map_cons, PyData.depthAll, pd, PyData.depth]
          omega
    obtain ⟨k1, k2⟩ := key xs fun q h => (hx q h).1
    refine ⟨by simpa only [PyData.canLay0] using k1, ?_⟩
    simp only [PyData.depth, Kd.deep]
    omega
theorem eqv_val {C : Nat → Prop} {I : Int → Prop} : ∀ {k : Kd} {x y : PyData}, k.plain = true → vok C I k x → vok C I k y → (PyData.eqv x y = true ↔ x = y)
  | .unit, x, y, _, hx, hy => by
    cases (show x = .tuple [] from hx)
    cases (show y = .tuple [] from hy)
    simp [PyData.eqv, PyData.eqvAll]
  | .num, x, y, _, hx, hy => by
    obtain ⟨i, rfl, _⟩ := hx
    obtain ⟨j, rfl, _⟩ := hy
    simp [PyData.eqv]
  | .pair a b, x, y, hp, hx, hy => by
    simp only [Kd.plain, Bool.and_eq_true] at hp
    obtain ⟨x1, x2, rfl, hx1, hx2⟩ := hx
    obtain ⟨y1, y2, rfl, hy1, hy2⟩ := hy
    simp only [PyData.eqv, PyData.eqvAll, Bool.and_true, Bool.and_eq_true, eqv_val hp.1 hx1 hy1, eqv_val hp.2 hx2 hy2, beq_self_eq_true, true_and, PyData.tuple.injEq, List.cons.injEq, and_true]
  | .either a b, x, y, hp, hx, hy => by
    simp only [Kd.plain, Bool.and_eq_true] at hp
    have lr' : (Str.ofString "left" == Str.ofString "right") = false := by decide +kernel
    have rl : (Str.ofString "right" == Str.ofString "left") = false := by decide +kernel
    have n1 : ¬ (Str.ofString "left" = Str.ofString "right") := lr_ne
    have n2 : ¬ (Str.ofString "right" = Str.ofString "left") := fun e => lr_ne e.symm
    rcases hx with ⟨x1, rfl, hx1⟩ | ⟨x1, rfl, hx1⟩ <;> rcases hy with ⟨y1, rfl, hy1⟩ | ⟨y1, rfl, hy1⟩
    · simp only [PyData.eqv, PyData.eqvAll, Bool.and_true, Bool.and_eq_true, eqv_val hp.1 hx1 hy1, beq_self_eq_true, true_and, PyData.tuple.injEq, List.cons.injEq, and_true]
    · simp only [PyData.eqv, PyData.eqvAll, lr', Bool.false_and, Bool.false_eq_true, PyData.tuple.injEq, List.cons.injEq, PyData.str.injEq, n1, false_and]
    · simp only [PyData.eqv, PyData.eqvAll, rl, Bool.false_and, Bool.false_eq_true, PyData.tuple.injEq, List.cons.injEq, PyData.str.injEq, n2, false_and]
    · simp only [PyData.eqv, PyData.eqvAll, Bool.and_true, Bool.and_eq_true, eqv_val hp.2 hx1 hy1, beq_self_eq_true, true_and, PyData.tuple.injEq, List.cons.injEq, and_true]
theorem eqv_lord {C : Nat → Prop} {I : Int → Prop} {k : Kd} {x y : PyData} (hp : k.plain = true) (hx : vok C I k x) (hy : vok C I k y) : PyData.eqv x y = decide (lord k x y = 0) := by
  have h1 := eqv_val hp hx hy
  have h2 := lord_zero hp hx hy
  cases e : PyData.eqv x y with
  | true => exact (decide_eq_true (h2.mpr (h1.mp e))).symm
  | false =>
    refine (decide_eq_false fun z => ?_).symm
    rw [h1.mpr (h2.mp z)] at e
    cases e
section
variable {C : Nat → Prop} {I : Int → Prop}
theorem eqAt_val {k : Kd} {x y : PyData} {A : Around} {s : Shared} {u v : Value} {as bs : List Addr} (hp : k.plain = true) (hx : vok C I k x) (hy : vok C I k y) (ra : Reads s.heap u x as) (rb : Reads s.heap v y bs) (hu : A.units + 2 * k.deep < cLine) : EqAt A s u v (decide (lord k x y = 0)) := by
  rw [← eqv_lord hp hx hy]
  obtain ⟨x1, x2⟩ := val_lay hx
  obtain ⟨y1, y2⟩ := val_lay hy
  exact eqAt_reads x y A s u v as bs ra rb x1 y1 (by omega)
theorem eqAt_str {A : Around} {s : Shared} {x y : Str} {u v : Value} {as bs : List Addr} (ra : Reads s.heap u (.str x) as) (rb : Reads s.heap v (.str y) bs) (hx : sOk x = true) (hy : sOk y = true) (hu : A.units < cLine) : EqAt A s u v (x == y) :=
  eqAt_reads (.str x) (.str y) A s u v as bs ra rb hx hy (by simp [PyData.depth]; exact hu)
theorem readsAll3 {h : Heap} {vs : Array Value} {a b c : PyData} {as : List Addr} (r : ReadsAll h vs.toList [a, b, c] as) : ∃ u v w as bs cs, vs = #[u, v, w] ∧ Reads h u a as ∧ Reads h v b bs ∧ Reads h w c cs := by
  obtain ⟨l⟩ := vs
  cases r with
  | cons r1 r =>
    cases r with
    | cons r2 r =>
      cases r with
      | cons r3 r =>
        cases r
        exact ⟨_, _, _, _, _, _, rfl, r1, r2, r3⟩
theorem readsAll2 {h : Heap} {vs : Array Value} {a b : PyData} {as : List Addr} (r : ReadsAll h vs.toList [a, b] as) : ∃ u v as bs, vs = #[u, v] ∧ Reads h u a as ∧ Reads h v b bs := by
  obtain ⟨l⟩ := vs
  cases r with
  | cons r1 r =>
    cases r with
    | cons r2 r =>
      cases r
      exact ⟨_, _, _, _, rfl, r1, r2⟩
theorem readsAll0 {h : Heap} {vs : Array Value} {as : List Addr} (r : ReadsAll h vs.toList [] as) : vs = #[] := by
  obtain ⟨l⟩ := vs
  cases r
  rfl
section
open PySem.AutoSeq1 (wpAny_loadPart')
open PySem.MeetsSeq PySem.MeetsSeq2 PySem.MeetsSeq3
/-- the firsts differ: they decide -/
theorem lt_firsts {a1 a2 : Addr} {m1 m2 : Nat} {D1 D2 : Option Addr} {S1 S2 : Array (Option Value)} {u0 u1 v0 v1 : Value} {k : Bool} :
    Meets (Builtin.«tuple.__lt__» ⟨[.ref a1, .ref a2], []⟩) fun A R s =>
      s.heap.get? a1 = some { cls := .type "tuple", dict := D1, data := .seq #[u0, u1] m1, slots := S1 } ∧
      s.heap.get? a2 = some { cls := .type "tuple", dict := D2, data := .seq #[v0, v1] m2, slots := S2 } ∧
      EqAt A.in1 s u0 v0 false ∧ RcLt A.in1 s u0 v0 k ∧ R (.ok (.ret (.bool k))) s := by
  refine .of_wp fun prog w A R st H => ?_
  obtain ⟨hp, gl, dp, tk, os⟩ := st
  obtain ⟨g1, g2, ne, lt, hR⟩ := H
  have sub := AutoSeq1.sub_tuple_tuple
  wp_walk using wpAny_loadPart' g1, wpAny_loadPart' g2, wpAny_forIn_list _ (fun todo acc st => acc.1 = none ∧ st = ⟨hp, gl, dp, tk, os⟩ ∧ todo = [(u0, v0), (u1, v1)]) _
  case turn =>
    rintro ⟨p, q⟩ todo acc st ⟨_, rfl, e⟩
    cases e
    refine wpAny_bind (ne prog w _ _ ?_)
    have go := lt prog w
    wp_walk using go
    exact ⟨_, rfl, by simpa using hR⟩
  case fin =>
    rintro ⟨x1, x2⟩ st ⟨_, rfl, e⟩
    cases e
  case h => exact ⟨rfl, rfl, rfl⟩
theorem RcLt.firsts {A : Around} {s : Shared} {a1 a2 : Addr} {u0 u1 v0 v1 : Value} {k : Bool} (h1 : s.heap.IsTuple a1 #[u0, u1]) (h2 : s.heap.IsTuple a2 #[v0, v1]) (hu : A.units < cLine) (ne : EqAt A.in1 s u0 v0 false) (lt : RcLt A.in1 s u0 v0 k) : RcLt A s (.ref a1) (.ref a2) k := by
  intro prog w E Q hq
  obtain ⟨⟨c1, D1, d1, S1⟩, g1, e1, m1, f1⟩ := h1
  obtain ⟨⟨c2, D2, d2, S2⟩, g2, e2, m2, f2⟩ := h2
  cases e1
  cases f1
  cases e2
  cases f2
  refine richCompare_meets_room (op := .Lt) ⟨_, g1, rfl⟩ ⟨_, g2, rfl⟩ F.slot_tuple_lt F.entry_tuple_lt (F.args_tuple_lt_2 _ _) lt_firsts ⟨g1, g2, ne, lt, ?_⟩ hu
  exact (show Value.bool k ≠ Value.notImplemented ∧ Q (.bool k) s from ⟨fun z => (nomatch z), hq⟩)
end
theorem lt_reads {k : Kd} : ∀ {x y : PyData} {A : Around} {s : Shared} {u v : Value} {as bs : List Addr}, k.plain = true → vok C I k x → vok C I k y → Reads s.heap u x as → Reads s.heap v y bs → A.units + 4 * k.deep < cLine → RcLt A s u v (decide (lord k x y < 0)) := by
  induction k with
  | unit =>
    intro x y A s u v as bs _ hx hy ra rb hu
    cases (show x = .tuple [] from hx)
    cases (show y = .tuple [] from hy)
    cases ra with
    | @tuple l o vs n _ _ h1 h2 h3 h4 =>
      cases rb with
      | @tuple l' o' vs' n' _ _ k1 k2 k3 k4 =>
        have e1 := readsAll0 h4
        have e2 := readsAll0 k4
        subst e1 e2
        have := RcLt.tuples (A := A) (e := fun _ => true) (r := fun _ => true) ⟨_, h1, h2, _, h3⟩ ⟨_, k1, k2, _, k3⟩ (by omega) (fun j j1 => absurd j1 (Nat.not_lt_zero _)) (fun j j1 => absurd j1 (Nat.not_lt_zero _))
        exact this
  | num =>
    intro x y A s u v as bs _ hx hy ra rb hu
    obtain ⟨i, rfl, _⟩ := hx
    obtain ⟨j, rfl, _⟩ := hy
    cases ra
    cases rb
    intro prog w E Q hq
    refine P.lt_int ?_
    have : decide (lord Kd.num (.int i) (.int j) < 0) = decide (i < j) := by
      refine decide_eq_decide.mpr ?_
      simp only [lord]
      split <;> split <;> simp <;> omega
    rw [this] at hq
    exact hq
  | pair a b iha ihb =>
    intro x y A s u v as bs hp hx hy ra rb hu
    simp only [Kd.plain, Bool.and_eq_true] at hp
    simp only [Kd.deep] at hu
    obtain ⟨x1, x2, rfl, hx1, hx2⟩ := hx
    obtain ⟨y1, y2, rfl, hy1, hy2⟩ := hy
    cases ra with
    | @tuple l o vs n _ _ h1 h2 h3 h4 =>
      cases rb with
      | @tuple l' o' vs' n' _ _ k1 k2 k3 k4 =>
        obtain ⟨u0, u1, u2, _, _, _, e1, r0, r1, r2⟩ := readsAll3 h4
        obtain ⟨v0, v1, v2, _, _, _, e2, q0, q1, q2⟩ := readsAll3 k4
        subst e1 e2
        have hu' : A.in1.units = A.units + 1 := rfl
        have E0 := eqAt_str (A := A.in1) r0 q0 (by decide +kernel) (by decide +kernel) (by omega)
        have E1 := eqAt_val (A := A.in1) hp.1 hx1 hy1 r1 q1 (by omega)
        have E2 := eqAt_val (A := A.in1) hp.2 hx2 hy2 r2 q2 (by omega)
        have L1 := iha (A := A.in1) hp.1 hx1 hy1 r1 q1 (by omega)
        have L2 := ihb (A := A.in1) hp.2 hx2 hy2 r2 q2 (by omega)
        have := RcLt.tuples (A := A) (e := fun j => match j with | 0 => true | 1 => decide (lord a x1 y1 = 0) | _ => decide (lord b x2 y2 = 0)) (r := fun j => match j with | 0 => false | 1 => decide (lord a x1 y1 < 0) | _ => decide (lord b x2 y2 < 0)) ⟨_, h1, h2, _, h3⟩ ⟨_, k1, k2, _, k3⟩ (by omega) (fun j j1 j2 => ?_) (fun j j1 j2 hj => ?_)
        · have e : firstLt (fun j => match j with | 0 => true | 1 => decide (lord a x1 y1 = 0) | _ => decide (lord b x2 y2 = 0)) (fun j => match j with | 0 => false | 1 => decide (lord a x1 y1 < 0) | _ => decide (lord b x2 y2 < 0)) (decide (#[u0, u1, u2].size < #[v0, v1, v2].size)) (List.range (min #[u0, u1, u2].size #[v0, v1, v2].size)) = decide (lord (.pair a b) (.tuple [.str "pair", x1, x2]) (.tuple [.str "pair", y1, y2]) < 0) := by
            show firstLt _ _ false [0, 1, 2] = _
            simp only [firstLt, if_true, lord]
            by_cases z1 : lord a x1 y1 = 0
            · by_cases z2 : lord b x2 y2 = 0
              · simp [z1, z2]
              · simp [z1, z2]
            · simp [z1]
          rw [e] at this
          exact this
        · match j, j1, j2 with
          | 0, _, _ => exact E0
          | 1, _, _ => exact E1
          | 2, _, _ => exact E2
          | j + 3, z, _ => exact absurd z (by show ¬ j + 3 < 3; omega)
        · match j, j1, j2, hj with
          | 0, _, _, z => cases z
          | 1, _, _, _ => exact L1
          | 2, _, _, _ => exact L2
          | j + 3, z, _, _ => exact absurd z (by show ¬ j + 3 < 3; omega)
  | either a b iha ihb =>
    intro x y A s u v as bs hp hx hy ra rb hu
    simp only [Kd.plain, Bool.and_eq_true] at hp
    simp only [Kd.deep] at hu
    have hu' : A.in1.units = A.units + 1 := rfl
    have hrec : ∀ (c : Kd) (x y : PyData) (A : Around) (s : Shared) (u v : Value) (as bs : List Addr), (c = a ∨ c = b) → c.plain = true → vok C I c x → vok C I c y → Reads s.heap u x as → Reads s.heap v y bs → A.units + 4 * c.deep < cLine → RcLt A s u v (decide (lord c x y < 0)) := by
      intro c x' y' A' s' u' v' as' bs' h pc hx' hy' ra' rb' hu'
      rcases h with h | h
      · subst h
        exact iha pc hx' hy' ra' rb' hu'
      · subst h
        exact ihb pc hx' hy' ra' rb' hu'
    -- the same side
    have same : ∀ (c : Kd) (t : Str) (x1 y1 : PyData), sOk t = true → c.plain = true → (c = a ∨ c = b) → vok C I c x1 → vok C I c y1 → x = .tuple [.str t, x1] → y = .tuple [.str t, y1] → RcLt A s u v (decide (lord c x1 y1 < 0)) := by
      intro c t x1 y1 ot pc hc hx1 hy1 ex ey
      have hd : c.deep ≤ max a.deep b.deep := by rcases hc with h | h <;> rw [h] <;> omega
      subst ex ey
      cases ra with
      | @tuple l o vs n _ _ h1 h2 h3 h4 =>
        cases rb with
        | @tuple l' o' vs' n' _ _ k1 k2 k3 k4 =>
          obtain ⟨u0, u1, _, _, z1, r0, r1⟩ := readsAll2 h4
          obtain ⟨v0, v1, _, _, z2, q0, q1⟩ := readsAll2 k4
          subst z1 z2
          have E0 := eqAt_str (A := A.in1) r0 q0 ot ot (by omega)
          rw [beq_self_eq_true] at E0
          have E1 := eqAt_val (A := A.in1) pc hx1 hy1 r1 q1 (by omega)
          have L1 := hrec c x1 y1 A.in1 s u1 v1 _ _ hc pc hx1 hy1 r1 q1 (by omega)
          have := RcLt.tuples (A := A) (e := fun j => match j with | 0 => true | _ => decide (lord c x1 y1 = 0)) (r := fun j => match j with | 0 => false | _ => decide (lord c x1 y1 < 0)) ⟨_, h1, h2, _, h3⟩ ⟨_, k1, k2, _, k3⟩ (by omega) (fun j j1 j2 => ?_) (fun j j1 j2 hj => ?_)
          · have e : firstLt (fun j => match j with | 0 => true | _ => decide (lord c x1 y1 = 0)) (fun j => match j with | 0 => false | _ => decide (lord c x1 y1 < 0)) (decide (#[u0, u1].size < #[v0, v1].size)) (List.range (min #[u0, u1].size #[v0, v1].size)) = decide (lord c x1 y1 < 0) := by
              show firstLt _ _ false [0, 1] = _
              simp only [firstLt, if_true]
              by_cases z1 : lord c x1 y1 = 0
              · simp [z1]
              · simp [z1]
            rw [e] at this
            exact this
          · match j, j1, j2 with
            | 0, _, _ => exact E0
            | 1, _, _ => exact E1
            | j + 2, z, _ => exact absurd z (by show ¬ j + 2 < 2; omega)
          · match j, j1, j2, hj with
            | 0, _, _, z => cases z
            | 1, _, _, _ => exact L1
            | j + 2, z, _, _ => exact absurd z (by show ¬ j + 2 < 2; omega)
    -- different sides
    have other : ∀ (t t2 : Str) (x1 y1 : PyData), sOk t = true → sOk t2 = true → (t == t2) = false → x = .tuple [.str t, x1] → y = .tuple [.str t2, y1] → RcLt A s u v (decide (t.cps.toList < t2.cps.toList)) := by
      intro t t2 x1 y1 ot ot2 ne ex ey
      subst ex ey
      cases ra with
      | @tuple l o vs n _ _ h1 h2 h3 h4 =>
        cases rb with
        | @tuple l' o' vs' n' _ _ k1 k2 k3 k4 =>
          obtain ⟨u0, u1, _, _, z1, r0, r1⟩ := readsAll2 h4
          obtain ⟨v0, v1, _, _, z2, q0, q1⟩ := readsAll2 k4
          subst z1 z2
          have E0 := eqAt_str (A := A.in1) r0 q0 ot ot2 (by omega)
          rw [ne] at E0
          refine RcLt.firsts ⟨_, h1, h2, _, h3⟩ ⟨_, k1, k2, _, k3⟩ (by omega) E0 ?_
          cases r0
          cases q0
          intro prog w E Q hq
          exact P.lt_str hq
    have n1 : ¬ (Str.ofString "left" = Str.ofString "right") := lr_ne
    have n2 : ¬ (Str.ofString "right" = Str.ofString "left") := fun e => lr_ne e.symm
    rcases hx with ⟨x1, ex, hx1⟩ | ⟨x1, ex, hx1⟩ <;> rcases hy with ⟨y1, ey, hy1⟩ | ⟨y1, ey, hy1⟩
    · have := same a "left" x1 y1 (by decide +kernel) hp.1 (.inl rfl) hx1 hy1 ex ey
      rw [ex, ey]
      simp only [lord, if_true]
      exact this
    · have := other "left" "right" x1 y1 (by decide +kernel) (by decide +kernel) (by decide +kernel) ex ey
      rw [ex, ey]
      simp only [lord, if_true, n1, if_false]
      exact this
    · have := other "right" "left" x1 y1 (by decide +kernel) (by decide +kernel) (by decide +kernel) ex ey
      rw [ex, ey]
      simp only [lord, if_true, n2, if_false]
      exact this
    · have := same b "right" x1 y1 (by decide +kernel) hp.2 (.inr rfl) hx1 hy1 ex ey
      rw [ex, ey]
      simp only [lord, if_true, n2, if_false]
      exact this
  | bag a ih =>
    intro x y A s u v as bs hp
    simp [Kd.plain] at hp
end
end Lay
/-! PHead -/
/-! the head: facts of the top by names -/
namespace PH
open PySem PySem.Spec PyProof.Rows L2
def top (i : Nat) : Stmt := PySem.Challenge.pw_changewise_k03_whole_values_order_sums_a.main.body.getD i (.Pass ⟨0, 0, 0, 0⟩)
/-- a def of the top, its defaults -/
def dd (i : Nat) (x : Str) (dfl : List He.Dv := []) : He.DefD := ⟨(x, none), x, x, defArgs (top i), defBody (top i), defScope (top i), dfl, []⟩
def fn : List He.DefD := [dd 7 "is_whole",
  dd 11 "is_kinded" [.int 100],
  dd 12 "is_plain",
  dd 13 "is_data",
  dd 14 "is_group",
  dd 15 "is_valued",
  dd 16 "is_counted",
  dd 17 "are_counted",
  dd 19 "check_kind_that",
  dd 20 "check_data",
  dd 21 "check_value",
  dd 22 "check_whole",
  dd 23 "check_pairs",
  dd 25 "zero_by",
  dd 26 "is_paired",
  dd 27 "bag_by",
  dd 28 "sum_of_bags",
  dd 29 "plus_by",
  dd 30 "times_by",
  dd 32 "is_bag",
  dd 33 "is_value",
  dd 34 "order",
  dd 35 "zero_of",
  dd 36 "sum_of",
  dd 37 "opposite",
  dd 38 "many_of",
  dd 39 "bag_of",
  dd 40 "count_of",
  dd 41 "support_of",
  dd 43 "_law_well",
  dd 44 "_law_draw",
  dd 45 "_law_pick",
  dd 46 "_law_same",
  dd 47 "_law_odd",
  dd 48 "_law_number",
  dd 49 "_law_plain",
  dd 50 "_law_group",
  dd 51 "_law_data",
  dd 52 "_law_is_whole",
  dd 53 "_law_is_headed",
  dd 54 "_law_order",
  dd 55 "_law_bag",
  dd 56 "_law_value",
  dd 57 "_law_is_value",
  dd 58 "_law_is_bag",
  dd 59 "_law_zero",
  dd 60 "_law_sum",
  dd 61 "_law_many",
  dd 62 "_law_bent",
  dd 63 "_law_spoilt",
  dd 64 "_law_are_values",
  dd 65 "_law_are_ordered",
  dd 66 "_law_are_sums",
  dd 67 "_law_are_bags",
  dd 68 "_law_right",
  dd 69 "law"]
def fa : List He.Fa := [.glo "is_whole", .glo "is_kinded", .glo "is_plain", .glo "is_data", .glo "is_group", .glo "is_valued", .glo "is_counted", .glo "are_counted", .glo "check_kind_that", .glo "check_data", .glo "check_value", .glo "check_whole", .glo "check_pairs", .glo "zero_by", .glo "is_paired", .glo "bag_by", .glo "sum_of_bags", .glo "plus_by", .glo "times_by", .glo "is_bag", .glo "is_value", .glo "order", .glo "zero_of", .glo "sum_of", .glo "opposite", .glo "many_of", .glo "bag_of", .glo "count_of", .glo "support_of", .glo "_law_well", .glo "_law_draw", .glo "_law_pick", .glo "_law_same", .glo "_law_odd", .glo "_law_number", .glo "_law_plain", .glo "_law_group", .glo "_law_data", .glo "_law_is_whole", .glo "_law_is_headed", .glo "_law_order", .glo "_law_bag", .glo "_law_value", .glo "_law_is_value", .glo "_law_is_bag", .glo "_law_zero", .glo "_law_sum", .glo "_law_many", .glo "_law_bent", .glo "_law_spoilt", .glo "_law_are_values", .glo "_law_are_ordered", .glo "_law_are_sums", .glo "_law_are_bags", .glo "_law_right", .glo "law",
  .glo "KIND_SIZES", .free "isinstance", .free "int", .free "bool", .free "tuple", .free "str", .free "all", .free "len", .free "zip", .free "sorted", .free "dict", .free "enumerate", .free "range", .free "abs", .free "divmod", .free "repr", .free "list", .free "sum", .free "max", .free "min"]
def sizesAt (K : PySem.W.Frag) : Addr := He.ga K "KIND_SIZES"
def tabs : List He.Tab := [(sizesAt, ["unit", "num", "pair", "either", "bag", "fun"])]
def sizesB (K : PySem.W.Frag) : Bool := He.valsB K (sizesAt K) [("unit", .int 1), ("num", .int 1), ("pair", .int 3), ("either", .int 3), ("bag", .int 2), ("fun", .int 3)]
abbrev R : PySem.W.OpenRow := PySem.W.OpenLaw.row PySem.Challenge.rw_changewise_k03_whole_values_order_sums_a
abbrev hk : PySem.W.Hook := He.hookX 4 fa fn tabs [] sizesB
def ob (s : PySem.W.SharedT) : He.AlX := He.obsX 4 fa fn tabs [] sizesB (HandSHeadRun.getT s)
theorem ob_eq (s : PySem.W.SharedT) : ob s = hk.obs s.abs := He.obsX_eq (HandSHeadRun.getT_eq s)
def loose0 : List Str := ["ChangeError", "InvalidKind", "InvalidValue", "InvalidNumber", "InvalidPairs", "is_whole", "KIND_SIZES", "MOST_KIND_DEEP", "is_kinded", "is_plain", "is_data", "is_group"]
def loose1 : List Str := ["is_valued", "is_counted", "are_counted", "check_kind_that", "check_data", "check_value", "check_whole", "check_pairs", "zero_by", "is_paired", "bag_by", "sum_of_bags"]
def loose2 : List Str := ["plus_by", "times_by", "is_bag", "is_value", "order", "zero_of", "sum_of", "opposite", "many_of", "bag_of", "count_of", "support_of"]
def loose3 : List Str := ["_law_well", "_law_draw", "_law_pick", "_law_same", "_law_odd", "_law_number", "_law_plain", "_law_group", "_law_data", "_law_is_whole", "_law_is_headed", "_law_order"]
def loose4 : List Str := ["_law_bag", "_law_value", "_law_is_value", "_law_is_bag", "_law_zero", "_law_sum", "_law_many", "_law_bent", "_law_spoilt", "_law_are_values", "_law_are_ordered", "_law_are_sums"]
def loose5 : List Str := ["_law_are_bags", "_law_right"]
def loose : List Str := loose0 ++ loose1 ++ loose2 ++ loose3 ++ loose4 ++ loose5
abbrev qv : Program := PySem.W.view R.prog [69]
theorem run_false (w : World) : HandSHeadRun.RunEq R qv hk ob 20000 loose (w.withFollow "special-get-raises" false) := by
  intro os
  kernel_rfl
theorem run_true (w : World) : HandSHeadRun.RunEq R qv hk ob 20000 loose (w.withFollow "special-get-raises" true) := by
  intro os
  kernel_rfl
theorem run (w : World) : HandSHeadRun.RunEq R qv hk ob 20000 loose w := PySem.W.byRow2 "special-get-raises" (P := fun w => HandSHeadRun.RunEq R qv hk ob 20000 loose w) run_false run_true w
end PH
/-! PB1 -/
/-! defs over data: the short words -/
namespace Lay
open PySem PySem.Spec PyProof.Rows L2
/-- the built-ins' names are free -/
structure Bi (mg : Str → Option Value) : Prop where
  isi : mg "isinstance" = none
  int : mg "int" = none
  bool : mg "bool" = none
  tuple : mg "tuple" = none
  str : mg "str" = none
  all : mg "all" = none
  len : mg "len" = none
  zip : mg "zip" = none
  sorted : mg "sorted" = none
  dict : mg "dict" = none
  enum : mg "enumerate" = none
  range : mg "range" = none
  abs : mg "abs" = none
  divmod : mg "divmod" = none
  repr : mg "repr" = none
  list : mg "list" = none
  sum : mg "sum" = none
  max : mg "max" = none
  min : mg "min" = none
abbrev FnD (K : PySem.W.Frag) (x : Str) (i : Nat) (f : Addr) (fd : FuncData) : Prop := FunD K x x (defArgs (PH.top i)) (defBody (PH.top i)) (defScope (PH.top i)) [] [] f fd
theorem _root_.L2.FunD.look {K : PySem.W.Frag} {x qual : Str} {params : Arguments} {body : List Stmt} {scope : Scope} {dvs : List V} {kws : List (Str × V)} {f : Addr} {fd : FuncData} (F : FunD K x qual params body scope dvs kws f fd) : ∃ o, K.lookup f = some o ∧ o.data = .func fd := by
  obtain ⟨oc, od, dV, kV, doc, pm, an, cdv, ct, osl, h, lk, _⟩ := F.ex
  exact ⟨_, lk, rfl⟩
section
variable {P : Program} {w : World} {K : PySem.W.Frag} {mg : Str → Option Value} {base : Heap}
/-- THE RULE of a def: its promise from its body's reading over data -/
theorem kn_of {x : Str} {i k : Nat} {f : Addr} {fd : FuncData} {N ps : List Str} {α : Type} {enc : α → List S} {pre : Option Addr → α → Prop} {post : α → PyData → Prop} (F : FnD K x i f fd) (S : FnScope N ps (defScope (PH.top i))) (hm : mg x = some (.ref f)) (bd : Binds K fd ps [])
    (len : ∀ a, (enc a).length = ps.length) (nl : ∀ a, ∀ s ∈ enc a, ∀ ds, s ≠ .c true ds)
    (body : ∀ (cdv : Value) (A : Around) (outer : List Env) (s : Shared) (H : Hp) (W : Option Addr) (a : α), Room k (A.deeper (envOfC x (defScope (PH.top i)) s.heap.objs.size f cdv)) → A.guards = some [] → pre W a →
      Sts (bodyX P w K mg base N x (defScope (PH.top i)) f cdv A outer s H) ⟨W, H⟩ (defBody (PH.top i)) ((enc a).map some ++ List.replicate (N.length - (enc a).length) none) { nx := fun _ => post a .none, rt := post a }) : Kn P w K mg base x (k + 1) ps enc pre post := by
  refine ⟨f, fd, ?_, hm, F.kp, bd, F.look⟩
  refine fok_of F S (fun vs H Q ⟨W, a, h1, _, h3, _⟩ => by rw [h1.len]; exact len a) fun cdv A outer s H vs Q hr hq ⟨W, a, h1, h2, h3, h4⟩ => ?_
  have hn : (enc a).length ≤ N.length := by
    have e := congrArg List.length S.pre
    rw [List.length_take] at e
    have := len a
    omega
  exact body cdv A outer s H W a hr hq h3 _ H (start_ok h1 h2 (nl a) hn) _
    ⟨fun σ' H' ρ' _ ok k => h4 _ H' _ ok.base ok.wl .non k, fun v H' d s' w' r p => h4 v H' d s' w' r p, fun _ _ _ _ _ z => z.elim, fun _ _ _ _ _ _ _ _ _ z => z.elim⟩
end
section
variable {X : Cx} {b : Bs} {ρ : Rho}
theorem sts_retE {K : Post} {e : Expr} {pos : Pos} {es : List Stmt} {d : PyData} (h : Ed X b e ρ d) (k : K.rt d) : Sts X b (.Return (some e) pos :: es) ρ K := sts_ret (Ev.imp h fun y z => by rw [z]; exact k)
theorem vd (i : Nat) {x : Str} {pos : Pos} {d : PyData} (h : ρ[i]? = some (some (.d d)) := by rfl) (hN : X.N[i]? = some x := by rfl) (hv : Vis X.env.scope x := by first | exact Or.inl rfl | exact Or.inr (Or.inl rfl) | exact Or.inr (Or.inr rfl))
    (hd : (x == ("__debug__" : Str)) = false := by decide) (hcd : (x == ("__classdict__" : Str)) = false := by decide) : Ed X b (.Name x pos) ρ d := ed_var h hN hv hd hcd
theorem vl (i : Nat) {x : Str} {pos : Pos} {m : Bool} {ds : List PyData} (h : ρ[i]? = some (some (.l m ds)) := by rfl) (hN : X.N[i]? = some x := by rfl) (hv : Vis X.env.scope x := by first | exact Or.inl rfl | exact Or.inr (Or.inl rfl) | exact Or.inr (Or.inr rfl))
    (hd : (x == ("__debug__" : Str)) = false := by decide) (hcd : (x == ("__classdict__" : Str)) = false := by decide) : EvR X b (.Name x pos) ρ fun z => z = ds := evr_var h hN hv hd hcd
theorem vs (i : Nat) {x : Str} {pos : Pos} {s : S} (h : ρ[i]? = some (some s) := by rfl) (hN : X.N[i]? = some x := by rfl) (hv : Vis X.env.scope x := by first | exact Or.inl rfl | exact Or.inr (Or.inl rfl) | exact Or.inr (Or.inr rfl))
    (hd : (x == ("__debug__" : Str)) = false := by decide) (hcd : (x == ("__classdict__" : Str)) = false := by decide) : EvS X b (.Name x pos) ρ fun z => z = s := evs_var h hN hv hd hcd
variable {e e2 c : Expr} {p p2 pos : Pos} {d d2 : PyData} {ds : List PyData} {bs : List Bool} {P : PyData → Prop}
theorem bt_int : bootBuiltins "int" = some (.type "int") := by decide +kernel
theorem bt_bool : bootBuiltins "bool" = some (.type "bool") := by decide +kernel
theorem bt_str : bootBuiltins "str" = some (.type "str") := by decide +kernel
theorem bt_tuple : bootBuiltins "tuple" = some (.type "tuple") := by decide +kernel
theorem e_isInt (B : Bi X.mg) (h : Ed X b e ρ d) (hg : Gl X "isinstance" := by rfl) (hc : Gl X "int" := by rfl) (hs : starEach [e, .Name "int" p2] X.env = (false, eval e X.env) :: starEach [.Name "int" p2] X.env := by rfl) :
    Ed X b (.Call (.Name "isinstance" p) [e, .Name "int" p2] [] pos) ρ (.bool (isD "int" d)) := ed_isi hg B.isi hc B.int bt_int (.inl rfl) h (hs := hs)
theorem e_isBool (B : Bi X.mg) (h : Ed X b e ρ d) (hg : Gl X "isinstance" := by rfl) (hc : Gl X "bool" := by rfl) (hs : starEach [e, .Name "bool" p2] X.env = (false, eval e X.env) :: starEach [.Name "bool" p2] X.env := by rfl) :
    Ed X b (.Call (.Name "isinstance" p) [e, .Name "bool" p2] [] pos) ρ (.bool (isD "bool" d)) := ed_isi hg B.isi hc B.bool bt_bool (.inr (.inl rfl)) h (hs := hs)
theorem e_isStr (B : Bi X.mg) (h : Ed X b e ρ d) (hg : Gl X "isinstance" := by rfl) (hc : Gl X "str" := by rfl) (hs : starEach [e, .Name "str" p2] X.env = (false, eval e X.env) :: starEach [.Name "str" p2] X.env := by rfl) :
    Ed X b (.Call (.Name "isinstance" p) [e, .Name "str" p2] [] pos) ρ (.bool (isD "str" d)) := ed_isi hg B.isi hc B.str bt_str (.inr (.inr (.inl rfl))) h (hs := hs)
theorem e_isTup (B : Bi X.mg) (h : Ed X b e ρ d) (hg : Gl X "isinstance" := by rfl) (hc : Gl X "tuple" := by rfl) (hs : starEach [e, .Name "tuple" p2] X.env = (false, eval e X.env) :: starEach [.Name "tuple" p2] X.env := by rfl) :
    Ed X b (.Call (.Name "isinstance" p) [e, .Name "tuple" p2] [] pos) ρ (.bool (isD "tuple" d)) := ed_isi hg B.isi hc B.tuple bt_tuple (.inr (.inr (.inr rfl))) h (hs := hs)
theorem e_len (B : Bi X.mg) (h : Ed X b e ρ (.tuple ds)) (hg : Gl X "len" := by rfl) (hs : starEach [e] X.env = (false, eval e X.env) :: starEach [] X.env := by rfl) : Ed X b (.Call (.Name "len" p) [e] [] pos) ρ (.int ds.length) := ed_len hg B.len h hs
theorem e_lenL (B : Bi X.mg) (h : EvR X b e ρ fun z => z = ds) (hg : Gl X "len" := by rfl) (hs : starEach [e] X.env = (false, eval e X.env) :: starEach [] X.env := by rfl) : Ed X b (.Call (.Name "len" p) [e] [] pos) ρ (.int ds.length) := ed_lenL hg B.len h hs
theorem e_all (B : Bi X.mg) (h : EdL X b e ρ (bs.map .bool)) (hg : Gl X "all" := by rfl) (hc : X.calm = true := by rfl) (hs : starEach [e] X.env = (false, eval e X.env) :: starEach [] X.env := by rfl) : Ed X b (.Call (.Name "all" p) [e] [] pos) ρ (.bool (bs.all id)) := ed_all hg B.all hc (EvL.r h) hs
theorem e_sum (B : Bi X.mg) {ns : List Int} (h : EdL X b e ρ (ns.map .int)) (hg : Gl X "sum" := by rfl) (hc : X.calm = true := by rfl) (hs : starEach [e] X.env = (false, eval e X.env) :: starEach [] X.env := by rfl) : Ed X b (.Call (.Name "sum" p) [e] [] pos) ρ (.int ns.sum) := ed_sum hg B.sum hc (EvL.r h) hs
theorem e_tuple (B : Bi X.mg) (h : EvR X b e ρ fun z => z = ds) (hg : Gl X "tuple" := by rfl) (hs : starEach [e] X.env = (false, eval e X.env) :: starEach [] X.env := by rfl) : Ed X b (.Call (.Name "tuple" p) [e] [] pos) ρ (.tuple ds) := ev_tupleL hg B.tuple (EvR.imp h fun z hz => by rw [hz]) hs
theorem e_int (B : Bi X.mg) {i : Int} (h : Ed X b e ρ (.int i)) (hg : Gl X "int" := by rfl) (hs : starEach [e] X.env = (false, eval e X.env) :: starEach [] X.env := by rfl) : Ed X b (.Call (.Name "int" p) [e] [] pos) ρ (.int i) := ed_int1 hg B.int h hs
theorem e_intb (B : Bi X.mg) {k : Bool} (h : Ed X b e ρ (.bool k)) (hg : Gl X "int" := by rfl) (hs : starEach [e] X.env = (false, eval e X.env) :: starEach [] X.env := by rfl) : Ed X b (.Call (.Name "int" p) [e] [] pos) ρ (.int (if k then 1 else 0)) := ed_intb hg B.int h hs
/-- == of texts, told -/
theorem c_eqS {s t : Str} {k : Bool} (ha : Ed X b e ρ (.str s)) (hb : Ed X b e2 ρ (.str t)) (hk : decide (s = t) = k := by first | rfl | decide +kernel) : EdC X b .Eq e e2 ρ k := by
  rw [← hk]
  exact edc_eq ha hb rfl
theorem c_neS {s t : Str} {k : Bool} (ha : Ed X b e ρ (.str s)) (hb : Ed X b e2 ρ (.str t)) (hk : decide (s = t) = k := by first | rfl | decide +kernel) : EdC X b .NotEq e e2 ρ (!k) := by
  rw [← hk]
  exact edc_ne ha hb rfl
theorem c_eqI {i j : Int} (ha : Ed X b e ρ (.int i)) (hb : Ed X b e2 ρ (.int j)) : EdC X b .Eq e e2 ρ (decide (i = j)) := edc_eq ha hb rfl
theorem c_neI {i j : Int} (ha : Ed X b e ρ (.int i)) (hb : Ed X b e2 ρ (.int j)) : EdC X b .NotEq e e2 ρ (!decide (i = j)) := edc_ne ha hb rfl
/-- kind[0] and the like -/
theorem e_at (i : Nat) {ds : List PyData} {y : PyData} {j : Nat} {pc : Pos} (ha : Ed X b e ρ (.tuple ds)) (h : ds[i]? = some y := by rfl) : Ed X b (.Subscript e (.Constant (.int (i : Int)) j pc) pos) ρ y := ed_ix ha ed_int (atI_nat h)
end
end Lay
/-! PB2 -/
/-! more short words: tuples of data, defs that are never called, comprehensions by kind -/
namespace Lay
open PySem PySem.Spec PyProof.Rows L2
section
variable {X : Cx} {b : Bs} {ρ : Rho} {e : Expr} {es : List Expr} {pos : Pos} {d : PyData} {ds : List PyData}
/-- the arguments are these data -/
def EdD (X : Cx) (b : Bs) (es : List Expr) (ρ : Rho) (ds : List PyData) : Prop := EdA X b es ρ (dats ds)
theorem edd0 : EdD X b [] ρ [] := eda_nil
theorem edd (h : Ed X b e ρ d) (t : EdD X b es ρ ds) (hs : starEach (e :: es) X.env = (false, eval e X.env) :: starEach es X.env := by rfl) : EdD X b (e :: es) ρ (d :: ds) := eda_d h t hs
theorem e_tup {x1} (h : EdD X b es ρ ds) (l : ds.length ≤ 100000 := by exact Nat.le_of_ble_eq_true rfl) : Ed X b (.Tuple es x1 pos) ρ (.tuple ds) := ed_tup h l
theorem e_lst (h : EdD X b es ρ ds) (l : ds.length ≤ 100000 := by exact Nat.le_of_ble_eq_true rfl) : EdL X b (.List es pos) ρ ds := edl_lst h l
/-- seq[k:] -/
theorem e_from (k : Nat) {j : Nat} {p1 p2 : Pos} (h : Ed X b e ρ (.tuple ds)) : Ed X b (.Subscript e (.Slice (some (.Constant (.int (k : Int)) j p1)) none none p2) pos) ρ (.tuple (ds.drop k)) := by
  rw [← cut_from]
  exact ed_slice h (edo_some ed_int) evo_none
end
section
variable {P : Program} {w : World} {K : PySem.W.Frag} {mg : Str → Option Value} {base : Heap} {x : Str} {k : Nat} {ps : List Str} {α : Type} {enc : α → List S} {pre : Option Addr → α → Prop} {post : α → PyData → Prop} {f : Addr} {fd : FuncData}
/-- a def as the head gives it -/
structure Df (K : PySem.W.Frag) (mg : Str → Option Value) (x : Str) (i : Nat) (ps : List Str) : Prop where
  ex : ∃ f fd, FnD K x i f fd ∧ mg x = some (.ref f) ∧ L2.Binds K fd ps []
/-- nothing is asked of it -/
theorem kn_void {i : Nat} (D : Df K mg x i ps) (h : ∀ W a, ¬ pre W a) : Kn P w K mg base x k ps enc pre post := by
  obtain ⟨f, fd, F, hm, bd⟩ := D.ex
  exact ⟨f, fd, ⟨fun vs H Q ⟨W, a, _, _, p, _⟩ => (h W a p).elim, fun A outer s H args us vs Q _ _ _ _ _ ⟨W, a, _, _, p, _⟩ => (h W a p).elim⟩, hm, F.kp, bd, F.look⟩
/-- THE RULE of a def -/
theorem kn_df {i : Nat} {N : List Str} (D : Df K mg x i ps) (S : FnScope N ps (defScope (PH.top i)))
    (len : ∀ a, (enc a).length = ps.length) (nl : ∀ a, ∀ s ∈ enc a, ∀ ds, s ≠ .c true ds)
    (body : ∀ (f : Addr) (cdv : Value) (A : Around) (outer : List Env) (s : Shared) (H : Hp) (W : Option Addr) (a : α), Room k (A.deeper (envOfC x (defScope (PH.top i)) s.heap.objs.size f cdv)) → A.guards = some [] → pre W a →
      Sts (bodyX P w K mg base N x (defScope (PH.top i)) f cdv A outer s H) ⟨W, H⟩ (defBody (PH.top i)) ((enc a).map some ++ List.replicate (N.length - (enc a).length) none) { nx := fun _ => post a .none, rt := post a }) : Kn P w K mg base x (k + 1) ps enc pre post := by
  obtain ⟨f, fd, F, hm, bd⟩ := D.ex
  exact kn_of F S hm bd len nl (body f)
end
section
variable {α : Type}
theorem dats_nl {ds : List PyData} : ∀ s ∈ dats ds, ∀ c, s ≠ .c true c := by
  intro s hs c e
  unfold dats at hs
  rw [List.mem_map] at hs
  obtain ⟨d, _, h⟩ := hs
  rw [← h] at e
  cases e
end
end Lay
/-! PB3 -/
/-! comprehensions in short words -/
namespace Lay
open PySem PySem.Spec PyProof.Rows L2
section
variable {X : Cx} {b : Bs} {ρ : Rho} {iter elt c : Expr} {pos p : Pos} {scope : Scope} {α : Type} {xs : List α} {gd : α → PyData}
theorem rel_loc {x : Str} {cl : List (Str × Addr)} {C : Addr} {env : Env} (h : scope.names.lookup x = some .local) : (compEnvC scope cl C env).scope.names.lookup x = some .local := by
  show (relabel scope env).names.lookup x = some .local
  unfold relabel
  exact lookup_relabel_local h
theorem nd_by {N : List Str} (h : decide N.Nodup = true) : N.Nodup := of_decide_eq_true h
/-- [elt for x in iter if c], x at slot i -/
theorem e_mapF (i : Nat) {x : Str} (kf : α → Bool) (f : α → PyData) (hi : EvI X b false (.Name x p) iter ρ fun z => z = xs.map gd) (hl : xs.length ≤ 50000)
    (ht : ∀ y ∈ xs, ∀ (s : Shared) (H : Hp) (C : Addr) (cl : List (Str × Addr)) (fp : List Addr), EdT (X.blk s H scope (compEnvC scope cl C X.env) fp) b c ((ρ.set i none).set i (some (.d (gd y)))) (kf y))
    (body : ∀ y ∈ xs, kf y = true → ∀ (s : Shared) (H : Hp) (C : Addr) (cl : List (Str × Addr)) (fp : List Addr), Ed (X.blk s H scope (compEnvC scope cl C X.env) fp) b elt ((ρ.set i none).set i (some (.d (gd y)))) (f y))
    (hc : X.calm = true := by rfl) (hN : decide X.N.Nodup = true := by kernel_rfl) (hb : blkC X.N X.env.scope scope [(x, i)] = true := by kernel_rfl) (hx : X.N[i]? = some x := by rfl) (hx2 : scope.names.lookup x = some .local := by rfl)
    (hs : ∀ x, foldedSetIterable iter X.env x = pure x := by intro _; rfl) : EdL X b (.ListComp elt [⟨.Name x p, iter, [c], 0⟩] scope pos) ρ ((xs.filter kf).map f) := by
  refine evl_map (own := [(x, i)]) kf f hc (nd_by hN) (blkOk_by hb) hi (fun s H C cl fp => pg_name (i := i) (nd_by hN) hx (.inl (rel_loc hx2)) (.inr (rel_loc hx2))) (tg_name i) (fun j hj => hj) hl (fun y hy => ⟨_, rfl, fun s H C cl fp => ⟨edts_one (ht y hy s H C cl fp), fun k => body y hy k s H C cl fp⟩⟩) hs
/-- [elt for x in iter] -/
theorem e_map (i : Nat) {x : Str} (f : α → PyData) (hi : EvI X b false (.Name x p) iter ρ fun z => z = xs.map gd) (hl : xs.length ≤ 50000)
    (body : ∀ y ∈ xs, ∀ (s : Shared) (H : Hp) (C : Addr) (cl : List (Str × Addr)) (fp : List Addr), Ed (X.blk s H scope (compEnvC scope cl C X.env) fp) b elt ((ρ.set i none).set i (some (.d (gd y)))) (f y))
    (hc : X.calm = true := by rfl) (hN : decide X.N.Nodup = true := by kernel_rfl) (hb : blkC X.N X.env.scope scope [(x, i)] = true := by kernel_rfl) (hx : X.N[i]? = some x := by rfl) (hx2 : scope.names.lookup x = some .local := by rfl)
    (hs : ∀ x, foldedSetIterable iter X.env x = pure x := by intro _; rfl) : EdL X b (.ListComp elt [⟨.Name x p, iter, [], 0⟩] scope pos) ρ (xs.map f) := by
  have := evl_map (own := [(x, i)]) (elt := elt) (ifs := []) (pos := pos) (fun _ => true) f hc (nd_by hN) (blkOk_by hb) hi (fun s H C cl fp => pg_name (i := i) (nd_by hN) hx (.inl (rel_loc hx2)) (.inr (rel_loc hx2))) (tg_name i) (fun j hj => hj) hl (fun y hy => ⟨_, rfl, fun s H C cl fp => ⟨edts_nil, fun k => body y hy s H C cl fp⟩⟩) hs
  rw [List.filter_eq_self.mpr (fun _ _ => rfl)] at this
  exact this
theorem gp_two {x y : Str} {i j : Nat} {kt : Nat} {p1 p2 p3 : Pos} {X : Cx} (hc : X.calm = true) (hN : X.N.Nodup) (hx : X.N[i]? = some x) (hy : X.N[j]? = some y) (hx2 : X.env.scope.names.lookup x = some .local) (hy2 : X.env.scope.names.lookup y = some .local) :
    PG X (.Tuple [.Name x p1, .Name y p2] kt p3) (gTup X.K 2 (gCons (gName i) (gCons (gName j) gNil))) :=
  pg_tup hc (pgs_cons (pg_name hN hx (.inl hx2) (.inr hx2)) (pgs_cons (pg_name hN hy (.inl hy2) (.inr hy2)) pgs_nil (by rfl)) (by rfl)) (by rfl) (by rfl)
/-- [elt for x, y in iter if c] over pairs -/
theorem e_mapF2 (i j : Nat) {x y : Str} {kt : Nat} {p1 p2 p3 : Pos} {ga gb : α → PyData} (kf : α → Bool) (f : α → PyData) (hi : EvI X b false (.Tuple [.Name x p1, .Name y p2] kt p3) iter ρ fun z => z = xs.map fun q => .tuple [ga q, gb q]) (hl : xs.length ≤ 50000)
    (ht : ∀ q ∈ xs, ∀ (s : Shared) (H : Hp) (C : Addr) (cl : List (Str × Addr)) (fp : List Addr), EdT (X.blk s H scope (compEnvC scope cl C X.env) fp) b c ((((ρ.set j none).set i none).set i (some (.d (ga q)))).set j (some (.d (gb q)))) (kf q))
    (body : ∀ q ∈ xs, kf q = true → ∀ (s : Shared) (H : Hp) (C : Addr) (cl : List (Str × Addr)) (fp : List Addr), Ed (X.blk s H scope (compEnvC scope cl C X.env) fp) b elt ((((ρ.set j none).set i none).set i (some (.d (ga q)))).set j (some (.d (gb q)))) (f q))
    (hc : X.calm = true := by rfl) (hN : decide X.N.Nodup = true := by kernel_rfl) (hb : blkC X.N X.env.scope scope [(x, i), (y, j)] = true := by kernel_rfl) (hx : X.N[i]? = some x := by rfl) (hy : X.N[j]? = some y := by rfl) (hx2 : scope.names.lookup x = some .local := by rfl) (hy2 : scope.names.lookup y = some .local := by rfl)
    (hs : ∀ x, foldedSetIterable iter X.env x = pure x := by intro _; rfl) : EdL X b (.ListComp elt [⟨.Tuple [.Name x p1, .Name y p2] kt p3, iter, [c], 0⟩] scope pos) ρ ((xs.filter kf).map f) := by
  refine evl_map (own := [(x, i), (y, j)]) kf f hc (nd_by hN) (blkOk_by hb) hi (fun s H C cl fp => gp_two (X := X.blk s H scope (compEnvC scope cl C X.env) fp) hc (nd_by hN) hx hy (rel_loc hx2) (rel_loc hy2)) (tg_two (K := X.K) i j) (fun j hj => hj) hl (fun q hq => ⟨_, ⟨_, _, rfl, rfl⟩, fun s H C cl fp => ⟨edts_one (ht q hq s H C cl fp), fun k => body q hq k s H C cl fp⟩⟩) hs
theorem e_map2 (i j : Nat) {x y : Str} {kt : Nat} {p1 p2 p3 : Pos} {ga gb : α → PyData} (f : α → PyData) (hi : EvI X b false (.Tuple [.Name x p1, .Name y p2] kt p3) iter ρ fun z => z = xs.map fun q => .tuple [ga q, gb q]) (hl : xs.length ≤ 50000)
    (body : ∀ q ∈ xs, ∀ (s : Shared) (H : Hp) (C : Addr) (cl : List (Str × Addr)) (fp : List Addr), Ed (X.blk s H scope (compEnvC scope cl C X.env) fp) b elt ((((ρ.set j none).set i none).set i (some (.d (ga q)))).set j (some (.d (gb q)))) (f q))
    (hc : X.calm = true := by rfl) (hN : decide X.N.Nodup = true := by kernel_rfl) (hb : blkC X.N X.env.scope scope [(x, i), (y, j)] = true := by kernel_rfl) (hx : X.N[i]? = some x := by rfl) (hy : X.N[j]? = some y := by rfl) (hx2 : scope.names.lookup x = some .local := by rfl) (hy2 : scope.names.lookup y = some .local := by rfl)
    (hs : ∀ x, foldedSetIterable iter X.env x = pure x := by intro _; rfl) : EdL X b (.ListComp elt [⟨.Tuple [.Name x p1, .Name y p2] kt p3, iter, [], 0⟩] scope pos) ρ (xs.map f) := by
  have := evl_map (own := [(x, i), (y, j)]) (elt := elt) (ifs := []) (pos := pos) (fun _ => true) f hc (nd_by hN) (blkOk_by hb) hi (fun s H C cl fp => gp_two (X := X.blk s H scope (compEnvC scope cl C X.env) fp) hc (nd_by hN) hx hy (rel_loc hx2) (rel_loc hy2)) (tg_two (K := X.K) i j) (fun j hj => hj) hl (fun q hq => ⟨_, ⟨_, _, rfl, rfl⟩, fun s H C cl fp => ⟨edts_nil, fun k => body q hq s H C cl fp⟩⟩) hs
  rw [List.filter_eq_self.mpr (fun _ _ => rfl)] at this
  exact this
/-- walked: a tuple of the things xs -/
theorem i_tup {tg : Expr} {nn : Bool} {ds : List PyData} (h : Ed X b iter ρ (.tuple ds)) (e : ds = xs.map gd := by rfl) : EvI X b nn tg iter ρ fun z => z = xs.map gd := by
  rw [← e]
  exact evi_tup (h.imp fun d hd => ⟨ds, hd, rfl⟩)
theorem all_map {α : Type} {xs : List α} (g : α → Bool) : xs.map (fun y => PyData.bool (g y)) = (xs.map g).map .bool := by simp
/-- all([..]) -/
theorem e_allM (g : α → Bool) (B : Bi X.mg) {e : Expr} {p pos : Pos} (h : EdL X b e ρ (xs.map fun y => .bool (g y))) (hg : Gl X "all" := by rfl) (hc : X.calm = true := by rfl) (hs : starEach [e] X.env = (false, eval e X.env) :: starEach [] X.env := by rfl) : Ed X b (.Call (.Name "all" p) [e] [] pos) ρ (.bool (xs.all g)) := by
  rw [all_map] at h
  have := e_all (p := p) (pos := pos) B h hg hc hs
  rw [List.all_map] at this
  exact this
end
end Lay
/-! PB4 -/
/-! more rules: < of values, the two tables, whatever list -/
namespace Lay
open PySem PySem.Spec PyProof.Rows L2
theorem ru {k : Nat} {A : Around} (r : Room k A) : A.units + 64 < cLine := by
  have := r.un
  omega
section
variable {X : Cx} {b : Bs} {ρ : Rho} {e e2 o f : Expr} {es : List Expr} {pos p apos cpos : Pos} {d : PyData} {ds : List PyData}
/-! ### < -/
def rLtV (K : PySem.W.Frag) : R2 := fun x y H Q => ∃ dx dy r, Dp K H x dx ∧ Dp K H y dy ∧ (∀ (A : Around) (s : Shared) (u v : Value) (as bs : List Addr), A.units + 64 < cLine → Reads s.heap u dx as → Reads s.heap v dy bs → SeqAt.RcLt A s u v r) ∧ Q (.bl r) H
theorem op_ltV (hu : X.A.units + 64 < cLine) : OpR X (compareOp .Lt) (rLtV X.K) := by
  intro pins s σ H x y v u Q I rx ry ⟨dx, dy, r, hx, hy, go, q⟩
  obtain ⟨as, r1⟩ := Dp.reads I dx x v hx rx
  obtain ⟨bs, r2⟩ := Dp.reads I dy y u hy ry
  exact go X.A s v u as bs hu r1 r2 X.prog X.w X.xe _ ⟨.bl r, H, I, rfl, q⟩
theorem edc_ltV {C : Nat → Prop} {J : Int → Prop} {k : Kd} {x y : PyData} (hu : X.A.units + 64 < cLine) (hp : k.plain = true) (hd : k.deep ≤ 16) (hx : vok C J k x) (hy : vok C J k y) (ha : Ed X b e ρ x) (hb : Ed X b e2 ρ y) : EdC X b .Lt e e2 ρ (decide (lord k x y < 0)) := by
  refine evc_of (op_ltV hu) (nomark _) ha hb fun H v w dx dy Q wl r1 r2 p1 p2 q => ?_
  subst p1 p2
  refine ⟨_, _, _, r1.dp (val_lay hx).1, r2.dp (val_lay hy).1, fun A s u v as bs hu ra rb => lt_reads hp hx hy ra rb (by omega), q _ rfl⟩
/-! ### a dict's get -/
/-- a dict stands at a -/
def DictAt (X : Cx) (H : Hp) (a : Addr) : Prop := ∀ (pins : List (Addr × Obj)) (σ : L2.St) (s : Shared), Inv X pins σ H s → s.TypeIs (.ref a) "dict" ∧ ∀ c, Value.ref a = .ref c → ∃ ob, s.heap.get? c = some ob ∧ ob.dict = none
/-- its get, with a default -/
def GetAt (X : Cx) (H : Hp) (a : Addr) (y z : V) (Q : VK) : Prop := ∀ (pins : List (Addr × Obj)) (σ : L2.St) (s : Shared) (u r : Value), Inv X pins σ H s → RelV y u → RelV z r → wpAny (model X.prog X.w) X.A (call (.builtin "dict.get") [.ref a, u, r]) (EP X pins σ Q) X.xe s
theorem exp_dget {σ : L2.St} {H : Hp} {Q : VK} (h : Exp X o σ H fun x H1 => ∃ a, x = .ref a ∧ DictAt X H1 a ∧ Exp X e σ H1 fun y H2 => Exp X f σ H2 fun z H3 => GetAt X H3 a y z Q) (m : M2 X o "get" apos e f cpos) : Exp X (.Call (.Attribute o "get" apos) [e, f] [] cpos) σ H Q := by
  intro pins s I
  refine wpAny_Call_method m.base m.few m.line PySem.F.plainAttrs_dict PySem.F.slot_dict_get PySem.F.type_dict_get (thn (h pins s I) fun u s1 ⟨x, H1, I1, rx, a, ex, d, q1⟩ => ?_)
  subst ex
  obtain rfl : u = Value.ref a := rx
  obtain ⟨t1, t2⟩ := d pins σ s1 I1
  refine ⟨t1, t2, ?_⟩
  rw [m.trees]
  refine Calls.callWith_builtin rfl (Calls.evalArgs_plain (Calls.spliced_cons (thn (q1 pins s1 I1) fun iv s2 ⟨y, H2, I2, ry, q2⟩ =>
    Calls.spliced_cons (thn (q2 pins s2 I2) fun fv s3 ⟨z, H3, I3, rz, q3⟩ => Calls.spliced_nil ?_))))
  exact q3 pins σ s3 iv fv I3 ry rz
/-- the table of sizes -/
structure Sizes (K : PySem.W.Frag) (w : World) (mg : Str → Option Value) : Prop where
  ex : ∃ a es n, mg "KIND_SIZES" = some (.ref a) ∧ KDict K w a es n ∧ ∀ q ∈ ([("unit", 1), ("num", 1), ("pair", 3), ("either", 3), ("bag", 2)] : List (Str × Int)), ∃ u, PySem.W.nsIn K a q.1 = some (some u) ∧ RelV (.int q.2) u
theorem e_sizes {s : Str} {n : Int} {p2 : Pos} {j : Nat} (Z : Sizes X.K X.w X.mg) (h : Ed X b e ρ (.str s)) (hm : (s, n) ∈ ([("unit", 1), ("num", 1), ("pair", 3), ("either", 3), ("bag", 2)] : List (Str × Int)))
    (hg : Gl X "KIND_SIZES" := by rfl) (m : M2 X (.Name "KIND_SIZES" p) "get" apos e (.Constant (.int 0) j p2) cpos := by exact ⟨rfl, rfl, rfl, rfl⟩) : Ed X b (.Call (.Attribute (.Name "KIND_SIZES" p) "get" apos) [e, .Constant (.int 0) j p2] [] cpos) ρ (.int n) := by
  obtain ⟨a, es, c, hA, D, vals⟩ := Z.ex
  obtain ⟨u0, hu0, ru0⟩ := vals _ hm
  intro σ H ok Q q
  refine exp_dget (.of (pe_glob (v := .ref a) hg hA rfl (by decide)) ⟨a, rfl, fun pins σ s I => ?_, h σ H ok _ fun v H1 d s1 w1 r1 p1 => .of pe_int fun pins σ' st u r I ru rr => ?_⟩) m
  · have hm' := PySem.W.mapOf_K (prog := X.prog) (w := X.w) I.kIn D.at_ D.lit
    refine ⟨hm'.typeIs, fun c e => ?_⟩
    cases e
    exact ⟨_, I.kIn _ _ D.at_, rfl⟩
  · subst p1
    cases r1
    obtain ⟨t, rfl⟩ := (show ∃ t, u = Value.str s t from ru)
    have hm' := PySem.W.mapOf_K (prog := X.prog) (w := X.w) I.kIn D.at_ D.lit
    refine call_meetsIn PySem.F.slot_dict_get hm'.typeIs PySem.F.entry_dict_get (PySem.F.args_dict_get_3 _ _ _) (meets_dict_get_default (strKind X.prog X.w) a (strKind_is X.prog X.w s t) D.low r) ⟨_, hm', ?_⟩
    rw [PySem.W.find_K D.at_ hu0]
    exact ⟨.int n, H1, I.tok _, ru0, q _ H1 _ s1 w1 (.int n) rfl⟩
/-- the table of sides, made on the spot -/
def sideN (s : Str) : Int := if s = "left" then 1 else if s = "right" then 2 else 0
theorem e_side {s : Str} {p1 p2 p3 p4 p5 p6 : Pos} {j1 j2 j3 j4 j5 : Nat} (hu : X.A.units + 64 < cLine) (h : Ed X b e ρ (.str s))
    (m : M2 X (.Dict [some (.Constant (.str "left") j1 p1), some (.Constant (.str "right") j2 p2)] [.Constant (.int 1) j3 p3, .Constant (.int 2) j4 p4] p5) "get" apos e (.Constant (.int 0) j5 p6) cpos := by exact ⟨rfl, rfl, rfl, rfl⟩) :
    Ed X b (.Call (.Attribute (.Dict [some (.Constant (.str "left") j1 p1), some (.Constant (.str "right") j2 p2)] [.Constant (.int 1) j3 p3, .Constant (.int 2) j4 p4] p5) "get" apos) [e, .Constant (.int 0) j5 p6] [] cpos) ρ (.int (sideN s)) := by
  intro σ H ok Q q
  refine .of (pe_dget2 (by omega) (pe_disp (pps_cons pe_str pe_int (pps_cons pe_str pe_int pps_nil)) rfl rfl (by simp) (by show 2 ≤ 15; decide)) peW pe_int m) fun t ht => ?_
  refine ⟨upd_same, [(.inr "left", .int 1), (.inr "right", .int 2)], rfl, by decide, ?_⟩
  rw [upd_upd]
  have sb : SB b.W H (upd H t (.dK (mergeK [] [(.inr "left", .int 1), (.inr "right", .int 2)]))) := .new ht
  have w1 := ok.wl.upd (o := .dK (mergeK [] [(.inr "left", .int 1), (.inr "right", .int 2)])) (ok.wl.ne ht)
  refine ⟨t, rfl, .inl ⟨_, .inl upd_same⟩, h σ _ (ok.go sb w1) _ fun v H2 d s2 w2 r2 p2 => ?_⟩
  subst p2
  cases r2
  have ht2 := s2 t _ (ok.wl.ne ht) upd_same
  refine ⟨_, .k (k := .inr s) ht2, ?_⟩
  have e : (valV (mergeK [] [(.inr "left", .int 1), (.inr "right", .int 2)]) (.inr s : L2.Key)).getD (.int 0) = .int (sideN s) := by
    have e0 : mergeK [] [(.inr "left", .int 1), (.inr "right", .int 2)] = ([(.inr "left", .int 1), (.inr "right", .int 2)] : List (L2.Key × V)) := by decide +kernel
    rw [e0]
    unfold sideN
    by_cases z1 : s = "left"
    · subst z1
      decide +kernel
    · by_cases z2 : s = "right"
      · subst z2
        decide +kernel
      · rw [if_neg z1, if_neg z2]
        unfold valV
        simp [Ne.symm z1, Ne.symm z2]
  rw [e]
  exact q _ H2 _ (sb.trans s2) w2 (.int _) rfl
/-- a list, never looked into -/
theorem Ev.any (h : EvL X b e ρ fun _ => True) : Ed X b e ρ (.dict []) := fun σ H ok Q q => h σ H ok _ fun p H' vs ds hn s w hp r _ => q _ H' _ s w (.oth hp rfl) rfl
theorem e_dict0 : Ed X b (.Dict [] [] pos) ρ (.dict []) := fun σ H ok Q q => .of pe_dnewK fun p hp => q _ _ _ (.new hp) (ok.wl.upd (ok.wl.ne hp)) (.oth upd_same rfl) rfl
end
end Lay
/-! PScope -/
/-! the places of names (printed) -/
namespace Lay
open PySem PySem.Spec PyProof.Rows L2
abbrev nn7 : List Str := ["value"]
abbrev pp7 : List Str := ["value"]
theorem sc7 : FnScope nn7 pp7 (defScope (PH.top 7)) := ⟨rfl, rfl, rfl, by decide +kernel, rfl, by decide +kernel, by decide +kernel⟩
abbrev nn11 : List Str := ["value", "deep", "each"]
abbrev pp11 : List Str := ["value", "deep"]
theorem sc11 : FnScope nn11 pp11 (defScope (PH.top 11)) := ⟨rfl, rfl, rfl, by decide +kernel, rfl, by decide +kernel, by decide +kernel⟩
abbrev nn12 : List Str := ["kind", "each"]
abbrev pp12 : List Str := ["kind"]
theorem sc12 : FnScope nn12 pp12 (defScope (PH.top 12)) := ⟨rfl, rfl, rfl, by decide +kernel, rfl, by decide +kernel, by decide +kernel⟩
abbrev nn13 : List Str := ["kind", "each"]
abbrev pp13 : List Str := ["kind"]
theorem sc13 : FnScope nn13 pp13 (defScope (PH.top 13)) := ⟨rfl, rfl, rfl, by decide +kernel, rfl, by decide +kernel, by decide +kernel⟩
abbrev nn14 : List Str := ["kind", "each"]
abbrev pp14 : List Str := ["kind"]
theorem sc14 : FnScope nn14 pp14 (defScope (PH.top 14)) := ⟨rfl, rfl, rfl, by decide +kernel, rfl, by decide +kernel, by decide +kernel⟩
abbrev nn15 : List Str := ["kind", "value", "side"]
abbrev pp15 : List Str := ["kind", "value"]
theorem sc15 : FnScope nn15 pp15 (defScope (PH.top 15)) := ⟨rfl, rfl, rfl, by decide +kernel, rfl, by decide +kernel, by decide +kernel⟩
abbrev nn16 : List Str := ["kind", "value"]
abbrev pp16 : List Str := ["kind", "value"]
theorem sc16 : FnScope nn16 pp16 (defScope (PH.top 16)) := ⟨rfl, rfl, rfl, by decide +kernel, rfl, by decide +kernel, by decide +kernel⟩
abbrev nn17 : List Str := ["kind", "value", "each", "one", "two"]
abbrev pp17 : List Str := ["kind", "value"]
theorem sc17 : FnScope nn17 pp17 (defScope (PH.top 17)) := ⟨rfl, rfl, rfl, by decide +kernel, rfl, by decide +kernel, by decide +kernel⟩
abbrev nn19 : List Str := ["value", "is_right"]
abbrev pp19 : List Str := ["value", "is_right"]
theorem sc19 : FnScope nn19 pp19 (defScope (PH.top 19)) := ⟨rfl, rfl, rfl, by decide +kernel, rfl, by decide +kernel, by decide +kernel⟩
abbrev nn20 : List Str := ["value"]
abbrev pp20 : List Str := ["value"]
theorem sc20 : FnScope nn20 pp20 (defScope (PH.top 20)) := ⟨rfl, rfl, rfl, by decide +kernel, rfl, by decide +kernel, by decide +kernel⟩
abbrev nn21 : List Str := ["kind", "value"]
abbrev pp21 : List Str := ["kind", "value"]
theorem sc21 : FnScope nn21 pp21 (defScope (PH.top 21)) := ⟨rfl, rfl, rfl, by decide +kernel, rfl, by decide +kernel, by decide +kernel⟩
abbrev nn22 : List Str := ["value"]
abbrev pp22 : List Str := ["value"]
theorem sc22 : FnScope nn22 pp22 (defScope (PH.top 22)) := ⟨rfl, rfl, rfl, by decide +kernel, rfl, by decide +kernel, by decide +kernel⟩
abbrev nn23 : List Str := ["kind", "value", "index", "each"]
abbrev pp23 : List Str := ["kind", "value"]
theorem sc23 : FnScope nn23 pp23 (defScope (PH.top 23)) := ⟨rfl, rfl, rfl, by decide +kernel, rfl, by decide +kernel, by decide +kernel⟩
abbrev nn25 : List Str := ["kind"]
abbrev pp25 : List Str := ["kind"]
theorem sc25 : FnScope nn25 pp25 (defScope (PH.top 25)) := ⟨rfl, rfl, rfl, by decide +kernel, rfl, by decide +kernel, by decide +kernel⟩
abbrev nn26 : List Str := ["value"]
abbrev pp26 : List Str := ["value"]
theorem sc26 : FnScope nn26 pp26 (defScope (PH.top 26)) := ⟨rfl, rfl, rfl, by decide +kernel, rfl, by decide +kernel, by decide +kernel⟩
abbrev nn27 : List Str := ["times", "value"]
abbrev pp27 : List Str := ["times"]
theorem sc27 : FnScope nn27 pp27 (defScope (PH.top 27)) := ⟨rfl, rfl, rfl, by decide +kernel, rfl, by decide +kernel, by decide +kernel⟩
abbrev nn28 : List Str := ["one", "two", "times", "value", "more"]
abbrev pp28 : List Str := ["one", "two"]
theorem sc28 : FnScope nn28 pp28 (defScope (PH.top 28)) := ⟨rfl, rfl, rfl, by decide +kernel, rfl, by decide +kernel, by decide +kernel⟩
abbrev nn29 : List Str := ["one", "two"]
abbrev pp29 : List Str := ["one", "two"]
theorem sc29 : FnScope nn29 pp29 (defScope (PH.top 29)) := ⟨rfl, rfl, rfl, by decide +kernel, rfl, by decide +kernel, by decide +kernel⟩
abbrev nn30 : List Str := ["number", "value", "each", "times"]
abbrev pp30 : List Str := ["number", "value"]
theorem sc30 : FnScope nn30 pp30 (defScope (PH.top 30)) := ⟨rfl, rfl, rfl, by decide +kernel, rfl, by decide +kernel, by decide +kernel⟩
abbrev nn32 : List Str := ["kind"]
abbrev pp32 : List Str := ["kind"]
theorem sc32 : FnScope nn32 pp32 (defScope (PH.top 32)) := ⟨rfl, rfl, rfl, by decide +kernel, rfl, by decide +kernel, by decide +kernel⟩
abbrev nn33 : List Str := ["kind", "value"]
abbrev pp33 : List Str := ["kind", "value"]
theorem sc33 : FnScope nn33 pp33 (defScope (PH.top 33)) := ⟨rfl, rfl, rfl, by decide +kernel, rfl, by decide +kernel, by decide +kernel⟩
abbrev nn34 : List Str := ["kind", "one", "two"]
abbrev pp34 : List Str := ["kind", "one", "two"]
theorem sc34 : FnScope nn34 pp34 (defScope (PH.top 34)) := ⟨rfl, rfl, rfl, by decide +kernel, rfl, by decide +kernel, by decide +kernel⟩
abbrev nn35 : List Str := ["kind"]
abbrev pp35 : List Str := ["kind"]
theorem sc35 : FnScope nn35 pp35 (defScope (PH.top 35)) := ⟨rfl, rfl, rfl, by decide +kernel, rfl, by decide +kernel, by decide +kernel⟩
abbrev nn36 : List Str := ["kind", "one", "two"]
abbrev pp36 : List Str := ["kind", "one", "two"]
theorem sc36 : FnScope nn36 pp36 (defScope (PH.top 36)) := ⟨rfl, rfl, rfl, by decide +kernel, rfl, by decide +kernel, by decide +kernel⟩
abbrev nn37 : List Str := ["kind", "one"]
abbrev pp37 : List Str := ["kind", "one"]
theorem sc37 : FnScope nn37 pp37 (defScope (PH.top 37)) := ⟨rfl, rfl, rfl, by decide +kernel, rfl, by decide +kernel, by decide +kernel⟩
abbrev nn38 : List Str := ["kind", "number", "one"]
abbrev pp38 : List Str := ["kind", "number", "one"]
theorem sc38 : FnScope nn38 pp38 (defScope (PH.top 38)) := ⟨rfl, rfl, rfl, by decide +kernel, rfl, by decide +kernel, by decide +kernel⟩
abbrev nn39 : List Str := ["kind", "pairs"]
abbrev pp39 : List Str := ["kind", "pairs"]
theorem sc39 : FnScope nn39 pp39 (defScope (PH.top 39)) := ⟨rfl, rfl, rfl, by decide +kernel, rfl, by decide +kernel, by decide +kernel⟩
abbrev nn40 : List Str := ["kind", "bag", "value"]
abbrev pp40 : List Str := ["kind", "bag", "value"]
theorem sc40 : FnScope nn40 pp40 (defScope (PH.top 40)) := ⟨rfl, rfl, rfl, by decide +kernel, rfl, by decide +kernel, by decide +kernel⟩
abbrev nn41 : List Str := ["kind", "bag", "each", "times"]
abbrev pp41 : List Str := ["kind", "bag"]
theorem sc41 : FnScope nn41 pp41 (defScope (PH.top 41)) := ⟨rfl, rfl, rfl, by decide +kernel, rfl, by decide +kernel, by decide +kernel⟩
abbrev nn43 : List Str := ["_law_script", "_law_turn", "_law_mixed", "_law_cell", "_law_own"]
abbrev pp43 : List Str := ["_law_script", "_law_turn"]
theorem sc43 : FnScope nn43 pp43 (defScope (PH.top 43)) := ⟨rfl, rfl, rfl, by decide +kernel, rfl, by decide +kernel, by decide +kernel⟩
abbrev nn44 : List Str := ["_law_well_here", "_law_many_here", "_law_figure", "_law_seed"]
abbrev pp44 : List Str := ["_law_well_here", "_law_many_here"]
theorem sc44 : FnScope nn44 pp44 (defScope (PH.top 44)) := ⟨rfl, rfl, rfl, by decide +kernel, rfl, by decide +kernel, by decide +kernel⟩
abbrev nn45 : List Str := ["_law_well_here", "_law_some"]
abbrev pp45 : List Str := ["_law_well_here", "_law_some"]
theorem sc45 : FnScope nn45 pp45 (defScope (PH.top 45)) := ⟨rfl, rfl, rfl, by decide +kernel, rfl, by decide +kernel, by decide +kernel⟩
abbrev nn46 : List Str := ["_law_told", "_law_due"]
abbrev pp46 : List Str := ["_law_told", "_law_due"]
theorem sc46 : FnScope nn46 pp46 (defScope (PH.top 46)) := ⟨rfl, rfl, rfl, by decide +kernel, rfl, by decide +kernel, by decide +kernel⟩
abbrev nn47 : List Str := ["_law_well_here", "_law_some", "_law_more", "_law_ends"]
abbrev pp47 : List Str := ["_law_well_here"]
theorem sc47 : FnScope nn47 pp47 (defScope (PH.top 47)) := ⟨rfl, rfl, rfl, by decide +kernel, rfl, by decide +kernel, by decide +kernel⟩
abbrev nn48 : List Str := ["_law_well_here", "_law_branch"]
abbrev pp48 : List Str := ["_law_well_here"]
theorem sc48 : FnScope nn48 pp48 (defScope (PH.top 48)) := ⟨rfl, rfl, rfl, by decide +kernel, rfl, by decide +kernel, by decide +kernel⟩
abbrev nn49 : List Str := ["_law_well_here", "_law_deep", "_law_branch", "_law_one"]
abbrev pp49 : List Str := ["_law_well_here", "_law_deep"]
theorem sc49 : FnScope nn49 pp49 (defScope (PH.top 49)) := ⟨rfl, rfl, rfl, by decide +kernel, rfl, by decide +kernel, by decide +kernel⟩
abbrev nn50 : List Str := ["_law_well_here", "_law_deep", "_law_branch", "_law_one"]
abbrev pp50 : List Str := ["_law_well_here", "_law_deep"]
theorem sc50 : FnScope nn50 pp50 (defScope (PH.top 50)) := ⟨rfl, rfl, rfl, by decide +kernel, rfl, by decide +kernel, by decide +kernel⟩
abbrev nn51 : List Str := ["_law_well_here", "_law_deep", "_law_branch", "_law_one"]
abbrev pp51 : List Str := ["_law_well_here", "_law_deep"]
theorem sc51 : FnScope nn51 pp51 (defScope (PH.top 51)) := ⟨rfl, rfl, rfl, by decide +kernel, rfl, by decide +kernel, by decide +kernel⟩
abbrev nn52 : List Str := ["_law_thing"]
abbrev pp52 : List Str := ["_law_thing"]
theorem sc52 : FnScope nn52 pp52 (defScope (PH.top 52)) := ⟨rfl, rfl, rfl, by decide +kernel, rfl, by decide +kernel, by decide +kernel⟩
abbrev nn53 : List Str := ["_law_thing", "_law_many_here"]
abbrev pp53 : List Str := ["_law_thing", "_law_many_here"]
theorem sc53 : FnScope nn53 pp53 (defScope (PH.top 53)) := ⟨rfl, rfl, rfl, by decide +kernel, rfl, by decide +kernel, by decide +kernel⟩
abbrev nn54 : List Str := ["_law_kind", "_law_one", "_law_two", "_law_found"]
abbrev pp54 : List Str := ["_law_kind", "_law_one", "_law_two"]
theorem sc54 : FnScope nn54 pp54 (defScope (PH.top 54)) := ⟨rfl, rfl, rfl, by decide +kernel, rfl, by decide +kernel, by decide +kernel⟩
abbrev nn55 : List Str := ["_law_kind", "_law_pairs", "_law_found", "_law_thing", "_law_times", "_law_sides", "_law_at", "_law_each"]
abbrev pp55 : List Str := ["_law_kind", "_law_pairs"]
theorem sc55 : FnScope nn55 pp55 (defScope (PH.top 55)) := ⟨rfl, rfl, rfl, by decide +kernel, rfl, by decide +kernel, by decide +kernel⟩
abbrev nn56 : List Str := ["_law_well_here", "_law_kind", "_law_one", "_law_side", "_law_found", "_law_lap", "_law_thing"]
abbrev pp56 : List Str := ["_law_well_here", "_law_kind"]
theorem sc56 : FnScope nn56 pp56 (defScope (PH.top 56)) := ⟨rfl, rfl, rfl, by decide +kernel, rfl, by decide +kernel, by decide +kernel⟩
abbrev nn57 : List Str := ["_law_kind", "_law_thing"]
abbrev pp57 : List Str := ["_law_kind", "_law_thing"]
theorem sc57 : FnScope nn57 pp57 (defScope (PH.top 57)) := ⟨rfl, rfl, rfl, by decide +kernel, rfl, by decide +kernel, by decide +kernel⟩
abbrev nn58 : List Str := ["_law_kind", "_law_thing", "_law_pair", "_law_at"]
abbrev pp58 : List Str := ["_law_kind", "_law_thing"]
theorem sc58 : FnScope nn58 pp58 (defScope (PH.top 58)) := ⟨rfl, rfl, rfl, by decide +kernel, rfl, by decide +kernel, by decide +kernel⟩
abbrev nn59 : List Str := ["_law_kind"]
abbrev pp59 : List Str := ["_law_kind"]
theorem sc59 : FnScope nn59 pp59 (defScope (PH.top 59)) := ⟨rfl, rfl, rfl, by decide +kernel, rfl, by decide +kernel, by decide +kernel⟩
abbrev nn60 : List Str := ["_law_kind", "_law_one", "_law_two"]
abbrev pp60 : List Str := ["_law_kind", "_law_one", "_law_two"]
theorem sc60 : FnScope nn60 pp60 (defScope (PH.top 60)) := ⟨rfl, rfl, rfl, by decide +kernel, rfl, by decide +kernel, by decide +kernel⟩
abbrev nn61 : List Str := ["_law_kind", "_law_times", "_law_one", "_law_thing", "_law_often"]
abbrev pp61 : List Str := ["_law_kind", "_law_times", "_law_one"]
theorem sc61 : FnScope nn61 pp61 (defScope (PH.top 61)) := ⟨rfl, rfl, rfl, by decide +kernel, rfl, by decide +kernel, by decide +kernel⟩
abbrev nn62 : List Str := ["_law_well_here", "_law_thing", "_law_way", "_law_at"]
abbrev pp62 : List Str := ["_law_well_here", "_law_thing"]
theorem sc62 : FnScope nn62 pp62 (defScope (PH.top 62)) := ⟨rfl, rfl, rfl, by decide +kernel, rfl, by decide +kernel, by decide +kernel⟩
abbrev nn63 : List Str := ["_law_well_here", "_law_thing", "_law_path", "_law_here", "_law_turn", "_law_at", "_law_whole"]
abbrev pp63 : List Str := ["_law_well_here", "_law_thing"]
theorem sc63 : FnScope nn63 pp63 (defScope (PH.top 63)) := ⟨rfl, rfl, rfl, by decide +kernel, rfl, by decide +kernel, by decide +kernel⟩
abbrev nn64 : List Str := ["_law_well_here", "_law_kind", "_law_one", "_law_other", "_law_things", "_law_lap", "_law_thing"]
abbrev pp64 : List Str := ["_law_well_here"]
theorem sc64 : FnScope nn64 pp64 (defScope (PH.top 64)) := ⟨rfl, rfl, rfl, by decide +kernel, rfl, by decide +kernel, by decide +kernel⟩
abbrev nn65 : List Str := ["_law_well_here", "_law_kind", "_law_one", "_law_two", "_law_due", "_law_told"]
abbrev pp65 : List Str := ["_law_well_here"]
theorem sc65 : FnScope nn65 pp65 (defScope (PH.top 65)) := ⟨rfl, rfl, rfl, by decide +kernel, rfl, by decide +kernel, by decide +kernel⟩
abbrev nn66 : List Str := ["_law_well_here", "_law_kind", "_law_one", "_law_two", "_law_times", "_law_told", "_law_due", "_law_named"]
abbrev pp66 : List Str := ["_law_well_here"]
theorem sc66 : FnScope nn66 pp66 (defScope (PH.top 66)) := ⟨rfl, rfl, rfl, by decide +kernel, rfl, by decide +kernel, by decide +kernel⟩
abbrev nn67 : List Str := ["_law_well_here", "_law_part", "_law_pairs", "_law_kind", "_law_lap", "_law_thing", "_law_bag_here", "_law_asked", "_law_count", "_law_support", "_law_told", "_law_times"]
abbrev pp67 : List Str := ["_law_well_here"]
theorem sc67 : FnScope nn67 pp67 (defScope (PH.top 67)) := ⟨rfl, rfl, rfl, by decide +kernel, rfl, by decide +kernel, by decide +kernel⟩
abbrev nn68 : List Str := ["_law_well_here", "_law_turn"]
abbrev pp68 : List Str := ["_law_well_here"]
theorem sc68 : FnScope nn68 pp68 (defScope (PH.top 68)) := ⟨rfl, rfl, rfl, by decide +kernel, rfl, by decide +kernel, by decide +kernel⟩
abbrev nn69 : List Str := ["_law_script", "_law_turn"]
abbrev pp69 : List Str := ["_law_script"]
theorem sc69 : FnScope nn69 pp69 (defScope (PH.top 69)) := ⟨rfl, rfl, rfl, by decide +kernel, rfl, by decide +kernel, by decide +kernel⟩
end Lay
/-! PB5 -/
/-! more rules: == with an empty one; calls by keyword; a def with a default -/
namespace Lay
open PySem PySem.Spec PyProof.Rows L2
section
variable {X : Cx} {b : Bs} {ρ : Rho} {e e2 o f : Expr} {es : List Expr} {pos p apos cpos : Pos} {d : PyData} {ds : List PyData} {pins : List (Addr × Obj)} {σ : L2.St} {H : Hp} {s : Shared}
/-! ### == and != with an empty one -/
theorem tup_at {a : Addr} {xs : List V} (I : Inv X pins σ H s) (h : Tp H a xs) : ∃ its : Array Value, s.heap.IsTuple a its ∧ its.size = xs.length := by
  obtain ⟨its, r, p, _⟩ := I.tuple h.sq
  exact ⟨its.toArray, p, by rw [List.size_toArray, r.length]⟩
theorem lst_at {a : Addr} {xs : List V} (I : Inv X pins σ H s) (h : H a = some (.lst xs)) : ∃ its : Array Value, s.heap.IsList a its ∧ its.size = xs.length := by
  obtain ⟨_, its, n, r, h1⟩ := (show ObjOk X.prog X.w H s.heap a (.lst xs) from I.hok a _ h)
  exact ⟨its.toArray, ⟨_, h1, rfl, n, rfl⟩, by rw [List.size_toArray, r.length]⟩
def rZ (tp : Bool) (g : Bool → Bool) : R2 := fun x y H Q => ∃ a xs c, x = .ref a ∧ y = .ref c ∧ (if tp then Tp H a xs ∧ Tp H c [] else H a = some (.lst xs) ∧ H c = some (.lst [])) ∧ Q (.bl (g xs.isEmpty)) H
theorem emp_of {α : Type} {n : Nat} {xs : List α} (h : n = xs.length) : (n == 0) = xs.isEmpty := by
  subst h
  cases xs <;> rfl
theorem op_eq0 (hu : X.A.units < cLine) : OpR X (compareOp .Eq) (rZ true id) := by
  rintro pins s σ H x y v u Q I rx ry ⟨a, xs, c, rfl, rfl, h, q⟩
  obtain ⟨h1, h2⟩ : Tp H a xs ∧ Tp H c [] := h
  obtain rfl : v = Value.ref a := rx
  obtain rfl : u = Value.ref c := ry
  obtain ⟨i1, t1, z1⟩ := tup_at I h1
  obtain ⟨i2, t2, z2⟩ := tup_at I h2
  have z2' : i2.size = 0 := z2
  refine SeqAt.RcAt.tuples (e := fun _ => true) t1 t2 hu (fun j _ j2 => absurd j2 (by omega)) X.prog X.w X.xe _ ⟨.bl xs.isEmpty, H, I, ?_, q⟩
  have e : ((List.range (min i1.size i2.size)).all (fun _ => true) && i1.size == i2.size) = xs.isEmpty := by
    rw [z2', Nat.min_zero, ← emp_of z1]
    rfl
  rw [e]
  rfl
theorem op_ne0 (hu : X.A.units < cLine) : OpR X (compareOp .NotEq) (rZ true not) := by
  rintro pins s σ H x y v u Q I rx ry ⟨a, xs, c, rfl, rfl, h, q⟩
  obtain ⟨h1, h2⟩ : Tp H a xs ∧ Tp H c [] := h
  obtain rfl : v = Value.ref a := rx
  obtain rfl : u = Value.ref c := ry
  obtain ⟨i1, t1, z1⟩ := tup_at I h1
  obtain ⟨i2, t2, z2⟩ := tup_at I h2
  have z2' : i2.size = 0 := z2
  refine SeqAt.RcNeAt.tuples (e := fun _ => true) t1 t2 hu (fun j _ j2 => absurd j2 (by omega)) X.prog X.w X.xe _ ⟨.bl (!xs.isEmpty), H, I, ?_, q⟩
  have e : ((List.range (min i1.size i2.size)).all (fun _ => true) && i1.size == i2.size) = xs.isEmpty := by
    rw [z2', Nat.min_zero, ← emp_of z1]
    rfl
  rw [e]
  rfl
theorem op_eqL0 (hu : X.A.units < cLine) : OpR X (compareOp .Eq) (rZ false id) := by
  rintro pins s σ H x y v u Q I rx ry ⟨a, xs, c, rfl, rfl, h, q⟩
  obtain ⟨h1, h2⟩ : H a = some (.lst xs) ∧ H c = some (.lst []) := h
  obtain rfl : v = Value.ref a := rx
  obtain rfl : u = Value.ref c := ry
  obtain ⟨i1, t1, z1⟩ := lst_at I h1
  obtain ⟨i2, t2, z2⟩ := lst_at I h2
  have z2' : i2.size = 0 := z2
  cases xs with
  | nil =>
    have z1' : i1.size = 0 := z1
    refine SeqAt.RcAt.lists (e := fun _ => true) t1 t2 (by omega) hu (fun j _ j2 => absurd j2 (by omega)) X.prog X.w X.xe _ ⟨.bl true, H, I, ?_, q⟩
    rw [z1']
    rfl
  | cons x xs =>
    refine SeqAt.RcAt.lists_lengths t1 t2 ?_ hu X.prog X.w X.xe _ ⟨.bl false, H, I, rfl, q⟩
    rw [z1, z2']
    rfl
theorem op_neL0 (hu : X.A.units < cLine) : OpR X (compareOp .NotEq) (rZ false not) := by
  rintro pins s σ H x y v u Q I rx ry ⟨a, xs, c, rfl, rfl, h, q⟩
  obtain ⟨h1, h2⟩ : H a = some (.lst xs) ∧ H c = some (.lst []) := h
  obtain rfl : v = Value.ref a := rx
  obtain rfl : u = Value.ref c := ry
  obtain ⟨i1, t1, z1⟩ := lst_at I h1
  obtain ⟨i2, t2, z2⟩ := lst_at I h2
  have z2' : i2.size = 0 := z2
  cases xs with
  | nil =>
    have z1' : i1.size = 0 := z1
    refine SeqAt.RcNeAt.lists (e := fun _ => true) t1 t2 (by omega) hu (fun j _ j2 => absurd j2 (by omega)) X.prog X.w X.xe _ ⟨.bl false, H, I, ?_, q⟩
    rw [z1']
    rfl
  | cons x xs =>
    refine SeqAt.RcNeAt.lists_lengths t1 t2 ?_ hu X.prog X.w X.xe _ ⟨.bl true, H, I, rfl, q⟩
    rw [z1, z2']
    rfl
theorem dna_emp {vs : List V} (r : DnA H vs ds) : vs.isEmpty = ds.isEmpty := by cases r <;> rfl
theorem c_eq0 (hu : X.A.units + 64 < cLine) (ha : Ed X b e ρ (.tuple ds)) (hb : Ed X b e2 ρ (.tuple [])) : EdC X b .Eq e e2 ρ ds.isEmpty := by
  refine evc_of (op_eq0 (by omega)) (nomark _) ha hb fun H v w dx dy Q wl r1 r2 p1 p2 q => ?_
  subst p1 p2
  cases r1 with
  | tup h1 t1 =>
    cases r2 with
    | tup h2 t2 =>
      cases t2
      exact ⟨_, _, _, rfl, rfl, ⟨h1, h2⟩, by rw [dna_emp t1]; exact q _ rfl⟩
theorem c_ne0 (hu : X.A.units + 64 < cLine) (ha : Ed X b e ρ (.tuple ds)) (hb : Ed X b e2 ρ (.tuple [])) : EdC X b .NotEq e e2 ρ (!ds.isEmpty) := by
  refine evc_of (op_ne0 (by omega)) (nomark _) ha hb fun H v w dx dy Q wl r1 r2 p1 p2 q => ?_
  subst p1 p2
  cases r1 with
  | tup h1 t1 =>
    cases r2 with
    | tup h2 t2 =>
      cases t2
      exact ⟨_, _, _, rfl, rfl, ⟨h1, h2⟩, by rw [dna_emp t1]; exact q _ rfl⟩
theorem c_eqL0 (hu : X.A.units + 64 < cLine) (ha : EvR X b e ρ fun z => z = ds) (hb : EdL X b e2 ρ []) : EdC X b .Eq e e2 ρ ds.isEmpty := by
  refine ⟨_, op_eqL0 (by omega), nomark _, fun σ H ok Q q => ?_⟩
  refine ha σ H ok _ fun p H1 vs ds' n1 s1 w1 h1 r1 p1 => ?_
  refine hb σ H1 (ok.go s1 w1) _ fun p2 H2 vs2 ds2 n2 s2 w2 h2 r2 p2 => ?_
  subst p1 p2
  cases r2
  exact ⟨_, _, _, rfl, rfl, ⟨s2 _ _ n1 h1, h2⟩, by rw [dna_emp r1]; exact q _ H2 (s1.trans s2) w2 rfl⟩
theorem c_neL0 (hu : X.A.units + 64 < cLine) (ha : EvR X b e ρ fun z => z = ds) (hb : EdL X b e2 ρ []) : EdC X b .NotEq e e2 ρ (!ds.isEmpty) := by
  refine ⟨_, op_neL0 (by omega), nomark _, fun σ H ok Q q => ?_⟩
  refine ha σ H ok _ fun p H1 vs ds' n1 s1 w1 h1 r1 p1 => ?_
  refine hb σ H1 (ok.go s1 w1) _ fun p2 H2 vs2 ds2 n2 s2 w2 h2 r2 p2 => ?_
  subst p1 p2
  cases r2
  exact ⟨_, _, _, rfl, rfl, ⟨s2 _ _ n1 h1, h2⟩, by rw [dna_emp r1]; exact q _ H2 (s1.trans s2) w2 rfl⟩
end
/-! ### calls by keyword -/
section
variable {X : Cx} {b : Bs} {ρ : Rho} {e : Expr} {pos p kpos : Pos} {x : Str} {k : Nat} {ps : List Str} {α : Type} {enc : α → List S} {pre : Option Addr → α → Prop} {post : α → PyData → Prop} {P PS : List S → Prop} {PP : PyData → Prop} {nm : Option Str} {kws : List Keyword}
namespace Quiet
/-- the values of the keywords, from the left -/
@[scoped irreducible] def _root_.Lay.EvK (X : Cx) (b : Bs) (kws : List Keyword) (ρ : Rho) (P : List S → Prop) : Prop := ∃ t : TA, PK X kws t ∧ ∀ σ H, EnvOk b H σ ρ → ∀ Q : List V → Hp → Prop, (∀ vs H' ss, SB b.W H H' → Wl b.W H' → SvA b.W H' vs ss → P ss → Q vs H') → t σ H Q
end Quiet
theorem evk_nil : EvK X b [] ρ fun z => z = [] := ⟨_, pk_nil, fun σ H ok Q q => q [] H [] .refl ok.wl .nil rfl⟩
theorem evk_cons {s : S} {ss : List S} (h : EvS X b e ρ fun z => z = s) (t : EvK X b kws ρ fun z => z = ss) : EvK X b (⟨nm, e, kpos⟩ :: kws) ρ fun z => z = s :: ss := by
  obtain ⟨t, pk, f⟩ := t
  refine ⟨_, pk_cons peW pk, fun σ H ok Q q => ?_⟩
  refine h σ H ok _ fun v H1 s1 sb1 w1 r1 p1 => ?_
  refine f σ H1 (ok.go sb1 w1) _ fun vs H2 ss2 sb2 w2 r2 p2 => ?_
  exact q _ H2 (s1 :: ss2) (sb1.trans sb2) w2 (.cons (r1.keep sb2 w1 w2) r2) (by rw [p1, p2])
/-- a def of the text called by keywords alone: pm puts their values in the parameters' order -/
structure KnK (P : Program) (w : World) (K : PySem.W.Frag) (mg : Str → Option Value) (base : Heap) (x : Str) (k : Nat) (ps : List Str) (ks : List Str) (pm : List Nat) {α : Type} (enc : α → List S) (pre : Option Addr → α → Prop) (post : α → PyData → Prop) : Prop where
  ex : ∃ f fd, Fok P w K mg base k f fd ps (Pr enc pre post) ∧ mg x = some (.ref f) ∧ PySem.W.keepIn K (.ref f) = true ∧ ∀ (s : Shared) (ws : List Value), K.In s.heap → ws.length = ps.length → BindsTo s fd ⟨[], ks.zip ws⟩ (ps.zip (pm.map fun i => ws.getD i .none))
theorem sva_pm {W : Option Addr} {H : Hp} {vs : List V} {ss : List S} (r : SvA W H vs ss) : ∀ pm : List Nat, SvA W H (pm.map fun i => vs.getD i .non) (pm.map fun i => ss.getD i (.d .none))
  | [] => .nil
  | i :: pm => by
    refine .cons ?_ (sva_pm r pm)
    clear pm
    unfold SvA at r
    induction r generalizing i with
    | nil =>
      have : Sv W H .non (.d .none) := (Dn.non : Dn H .non .none)
      simpa using this
    | cons h t ih =>
      cases i with
      | zero => exact h
      | succ i => simpa using ih i
theorem vals_pm {vs : List V} {us : List Value} (r : Vals vs us) : ∀ pm : List Nat, Vals (pm.map fun i => vs.getD i .non) (pm.map fun i => us.getD i .none)
  | [] => .nil
  | i :: pm => by
    refine .cons ?_ (vals_pm r pm)
    clear pm
    unfold Vals at r
    induction r generalizing i with
    | nil => simp; rfl
    | cons h t ih =>
      cases i with
      | zero => exact h
      | succ i => simpa using ih i
/-- .. from the def's promise -/
theorem knk_of {P : Program} {w : World} {K : PySem.W.Frag} {mg : Str → Option Value} {base : Heap} {i : Nat} {ks : List Str} {pm : List Nat} (F : Kn P w K mg base x k ps enc pre post) (D : Df K mg x i ps)
    (h : ∀ (kV doc pmv : Value) (an : Option Addr) (cdv ct : Value) (ws : List Value), ws.length = ps.length → bindArgs (PySem.W.fnOf x x (defArgs (PH.top i)) (defBody (PH.top i)) (defScope (PH.top i)) .none kV doc pmv an cdv ct) ⟨[], ks.zip ws⟩ = pure (ps.zip (pm.map fun j => ws.getD j .none))) : KnK P w K mg base x k ps ks pm enc pre post := by
  obtain ⟨f, fd, G, hm, hk, hb, o, lo, od⟩ := F.ex
  obtain ⟨f', fd', Fd, hm', bd'⟩ := D.ex
  rw [hm] at hm'
  cases hm'
  obtain ⟨oc, od2, dV, kV, doc, pmv, an, cdv, ct, osl, rfl, lk, hcd, hD, hK⟩ := Fd.ex
  rw [lk] at lo
  cases lo
  cases od
  refine ⟨f, _, G, hm, hk, fun s ws _ hl => ?_⟩
  rcases hD with ⟨_, rfl⟩ | ⟨e, _⟩
  · exact .of_eq (h kV doc pmv an cdv ct ws hl)
  · exact absurd rfl e
theorem ed_callK {ks : List Str} {pm : List Nat} (a : α) {ss : List S} {d : PyData} (F : KnK X.prog X.w X.K X.mg X.base x k ps ks pm enc pre post) (hr : Room k X.A) (hq : X.A.guards = some []) (hg : Gl X x) (ha : EvK X b kws ρ fun z => z = ss) (hl : ss.length = ps.length) (he : enc a = pm.map fun i => ss.getD i (.d .none)) (hp : pre b.W a) (h : ∀ y, post a y → y = d)
    (hdb : (x == ("__debug__" : Str)) = false := by decide) (hall : (backToKw pos (keywordEach kws X.env)).all (·.1.isSome) = true := by rfl) (hks : (backToKw pos (keywordEach kws X.env)).filterMap (·.1) = ks := by rfl)
    (hpl : ((backTo pos (starEach [] X.env)).any (·.1) || (backToKw pos (keywordEach kws X.env)).any (·.1.isNone)) = false := by rfl) : Ed X b (.Call (.Name x p) [] kws pos) ρ d := by
  obtain ⟨f, fd, G, hm, hk, hb⟩ := F.ex
  obtain ⟨t, pk, go⟩ := ha
  intro σ H ok Q q pins s I
  refine wpAny_Call_Name_kw (ld_glob I hg hm ?_ hdb)
  refine PySem.W.callWith_KW0 (h₀ := X.base) I.ok.mod.kin hk hall ?_ hpl
  refine thn (pk.run pos pins s σ H (fun vs H1 => vs.length = ps.length ∧ Pr enc pre post (pm.map fun i => vs.getD i .non) H1 Q) I (go σ H ok _ fun vs H1 ss' s1 w1 r1 p1 => ?_)) fun ws s1 ⟨vs, H1, I1, r, hl1, pr⟩ => ⟨I1.kIn, ?_⟩
  · subst p1
    refine ⟨by rw [r1.len]; exact hl, b.W, a, by rw [he]; exact sva_pm r1 pm, w1, hp, fun v H' d' s2 w2 rv pv => q v H' d' (s1.trans s2) w2 rv (h d' pv)⟩
  · rw [hks]
    have hbd := hb s1 ws I1.kIn (by rw [← r.length]; exact hl1)
    refine wpAny_call (codeAny_mono (run_fok G hr hq I1 hbd (vals_pm r pm) pr) fun z s' ⟨u, h1, h2⟩ => ?_)
    subst h1
    exact h2
/-! ### a call that leaves the default of the last parameter -/
structure KnD (P : Program) (w : World) (K : PySem.W.Frag) (mg : Str → Option Value) (base : Heap) (x : Str) (k : Nat) (ps : List Str) (dv : Int) {α : Type} (enc : α → List S) (pre : Option Addr → α → Prop) (post : α → PyData → Prop) : Prop where
  ex : ∃ f fd ds, Fok P w K mg base k f fd ps (Pr enc pre post) ∧ mg x = some (.ref f) ∧ PySem.W.keepIn K (.ref f) = true ∧ Vals [V.int dv] ds ∧ Binds K fd ps ds
theorem KnD.mono {P : Program} {w : World} {K : PySem.W.Frag} {mg : Str → Option Value} {base : Heap} {j : Nat} {dv : Int} (h : KnD P w K mg base x j ps dv enc pre post) (hj : j ≤ k) : KnD P w K mg base x k ps dv enc pre post := by
  obtain ⟨f, fd, ds, F, r⟩ := h.ex
  exact ⟨f, fd, ds, F.mono hj, r⟩
theorem KnK.mono {P : Program} {w : World} {K : PySem.W.Frag} {mg : Str → Option Value} {base : Heap} {j : Nat} {ks : List Str} {pm : List Nat} (h : KnK P w K mg base x j ps ks pm enc pre post) (hj : j ≤ k) : KnK P w K mg base x k ps ks pm enc pre post := by
  obtain ⟨f, fd, F, r⟩ := h.ex
  exact ⟨f, fd, F.mono hj, r⟩
theorem vals_app {vs ws : List V} {us zs : List Value} (r : Vals vs us) (t : Vals ws zs) : Vals (vs ++ ws) (us ++ zs) := by
  unfold Vals at *
  induction r with
  | nil => exact t
  | cons h _ ih => exact .cons h ih
theorem sva_app {W : Option Addr} {H : Hp} {vs ws : List V} {us zs : List S} (r : SvA W H vs us) (t : SvA W H ws zs) : SvA W H (vs ++ ws) (us ++ zs) := by
  unfold SvA at *
  induction r with
  | nil => exact t
  | cons h _ ih => exact .cons h ih
theorem ed_callD {es : List Expr} {dv : Int} (a : α) {ss : List S} {d : PyData} (F : KnD X.prog X.w X.K X.mg X.base x k ps dv enc pre post) (hr : Room k X.A) (hq : X.A.guards = some []) (hg : Gl X x) (ha : EdA X b (e :: es) ρ ss) (he : enc a = ss ++ [.d (.int dv)]) (hp : pre b.W a) (h : ∀ y, post a y → y = d)
    (hdb : (x == ("__debug__" : Str)) = false := by decide) (hs : starEach (e :: es) X.env = (false, eval e X.env) :: starEach es X.env := by rfl) (hpl : (backTo pos (starEach es X.env)).any (·.1) = false := by rfl) : Ed X b (.Call (.Name x p) (e :: es) [] pos) ρ d := by
  obtain ⟨f, fd, ds, G, hm, hk, hd, hb⟩ := F.ex
  intro σ H ok Q q pins s I
  refine wpAny_Call_Name_kw (ld_glob I hg hm ?_ hdb)
  refine PySem.W.callWith_K (h₀ := X.base) I.ok.mod.kin hk ?_ hs hpl
  refine thn (ha σ H ok (fun vs H1 => Pr enc pre post (vs ++ [V.int dv]) H1 Q) (fun vs H1 ss' s1 w1 r1 p1 => ?_) pos pins s I) fun us s1 ⟨vs, H1, I1, r, pr⟩ => ⟨I1.kIn, ?_⟩
  · subst p1
    exact ⟨b.W, a, by rw [he]; exact sva_app r1 (.cons (Dn.int dv) .nil), w1, hp, fun v H' d' s2 w2 rv pv => q v H' d' (s1.trans s2) w2 rv (h d' pv)⟩
  · have r2 := vals_app r hd
    have hl : (us ++ ds).length = ps.length := by rw [← r2.length]; exact G.len _ _ _ pr
    refine wpAny_call (codeAny_mono (run_fok G hr hq I1 (hb s1 us I1.kIn hl) r2 pr) fun z s' ⟨u, h1, h2⟩ => ?_)
    subst h1
    exact h2
end
end Lay
/-! PC2 -/
/-! the walks: kinds and values -/
namespace Lay
open PySem PySem.Spec PyProof.Rows L2
section
variable {P : Program} {w : World} {K : PySem.W.Frag} {mg : Str → Option Value} {base : Heap}
/-- the data of one, two, three arguments -/
abbrev e1 {α : Type} (f : α → PyData) : α → List S := fun a => [.d (f a)]
abbrev e2 {α : Type} (f g : α → PyData) : α → List S := fun a => [.d (f a), .d (g a)]
abbrev e3 {α : Type} (f g h : α → PyData) : α → List S := fun a => [.d (f a), .d (g a), .d (h a)]
theorem nl1 {α : Type} {f : α → PyData} (a : α) : ∀ s ∈ e1 f a, ∀ c, s ≠ .c true c := dats_nl (ds := [f a])
theorem nl2 {α : Type} {f g : α → PyData} (a : α) : ∀ s ∈ e2 f g a, ∀ c, s ≠ .c true c := dats_nl (ds := [f a, g a])
theorem nl3 {α : Type} {f g h : α → PyData} (a : α) : ∀ s ∈ e3 f g h a, ∀ c, s ≠ .c true c := dats_nl (ds := [f a, g a, h a])
section
variable {X : Cx} {b : Bs} {ρ : Rho}
/-- a name that holds a kind -/
theorem vk (i : Nat) {x : Str} {pos : Pos} {k : Kd} (h : ρ[i]? = some (some (.d k.d)) := by rfl) (hN : X.N[i]? = some x := by rfl) (hv : Vis X.env.scope x := by first | exact Or.inl rfl | exact Or.inr (Or.inl rfl) | exact Or.inr (Or.inr rfl))
    (hd : (x == ("__debug__" : Str)) = false := by decide) (hcd : (x == ("__classdict__" : Str)) = false := by decide) : Ed X b (.Name x pos) ρ (.tuple (.str k.tag :: k.kids.map Kd.d)) := by
  rw [← Kd.d_eq]
  exact ed_var h hN hv hd hcd
end
/-! ### the tags -/
theorem tag_bagfun (k : Kd) : inD (.str k.tag) [.str "bag", .str "fun"] = (match k with | .bag _ => true | _ => false) := by cases k <;> kernel_rfl
abbrev WholeK (P : Program) (w : World) (K : PySem.W.Frag) (mg : Str → Option Value) (base : Heap) (x p : Str) : Prop := Kn P w K mg base x 1 [p] (e1 id) (fun _ _ => True) fun d y => y = .bool (whole d)
theorem kn_is_whole (B : Bi mg) (D : Df K mg "is_whole" 7 pp7) : WholeK P w K mg base "is_whole" "value" := by
  refine kn_df D sc7 (fun _ => rfl) nl1 ?_
  rintro f cdv A outer s H W d hr hq _
  refine sts_retE (ed_and (e_isInt B (vd 0)) fun _ => ed_one (ed_not (e_isBool B (vd 0)))) ?_
  cases d <;> rfl
theorem kn_law_is_whole (B : Bi mg) (D : Df K mg "_law_is_whole" 52 pp52) : WholeK P w K mg base "_law_is_whole" "_law_thing" := by
  refine kn_df D sc52 (fun _ => rfl) nl1 ?_
  rintro f cdv A outer s H W d hr hq _
  refine sts_retE (ed_and (e_isInt B (vd 0)) fun _ => ed_one (ed_not (e_isBool B (vd 0)))) ?_
  cases d <;> rfl
abbrev KindK (P : Program) (w : World) (K : PySem.W.Frag) (mg : Str → Option Value) (base : Heap) (x : Str) (n : Nat) (g : Kd → Bool) : Prop := Kn P w K mg base x n ["kind"] (e1 Kd.d) (fun _ k => k.deep ≤ n) fun k y => y = .bool (g k)
theorem kn_is_plain (B : Bi mg) (D : Df K mg "is_plain" 12 pp12) : ∀ n, KindK P w K mg base "is_plain" n Kd.plain
  | 0 => kn_void D fun W k h => by have := k.deep_pos; omega
  | n + 1 => by
    have ih := kn_is_plain B D n
    refine kn_df D sc12 (fun _ => rfl) nl1 ?_
    rintro f cdv A outer s H W k hr hq hk
    refine sts_retE (ed_and (EdC.v (edc_nin (e_at 0 (vk 0)) (e_tup (edd ed_str (edd ed_str edd0))) rfl rfl)) fun _ => ed_one (e_allM Kd.plain B (e_map 1 _ (i_tup (e_from 1 (vk 0))) (by have := k.kids_len; omega) fun y hy s H C cl fp => ?_))) ?_
    · refine ed_call y ih hr hq rfl (eda_d (vd 1) eda_nil) ?_ fun _ h => h
      have := Kd.kids_deep hy
      show y.deep ≤ n
      omega
    · show PyData.bool _ = _
      rw [tag_bagfun]
      cases k <;> simp [Kd.kids, Kd.plain]
theorem tag_fun (k : Kd) : decide (k.tag = Str.ofString "fun") = false := by cases k <;> kernel_rfl
theorem kn_is_data (B : Bi mg) (D : Df K mg "is_data" 13 pp13) : ∀ n, KindK P w K mg base "is_data" n fun _ => true
  | 0 => kn_void D fun W k h => by have := k.deep_pos; omega
  | n + 1 => by
    have ih := kn_is_data B D n
    refine kn_df D sc13 (fun _ => rfl) nl1 ?_
    rintro f cdv A outer s H W k hr hq hk
    refine sts_retE (ed_and (EdC.v (c_neS (k := false) (e_at 0 (vk 0)) ed_str (tag_fun k))) fun _ => ed_one (e_allM (fun _ => true) B (e_map 1 _ (i_tup (e_from 1 (vk 0))) (by have := k.kids_len; omega) fun y hy s H C cl fp => ?_))) ?_
    · refine ed_call y ih hr hq rfl (eda_d (vd 1) eda_nil) ?_ fun _ h => h
      have := Kd.kids_deep hy
      show y.deep ≤ n
      omega
    · cases k <;> rfl
theorem tag_numbag (k : Kd) : inD (.str k.tag) [.str "num", .str "bag"] = (match k with | .num => true | .bag _ => true | _ => false) := by cases k <;> kernel_rfl
theorem tag_pair (k : Kd) : decide (k.tag = Str.ofString "pair") = (match k with | .pair _ _ => true | _ => false) := by cases k <;> kernel_rfl
theorem kn_is_group (B : Bi mg) (D : Df K mg "is_group" 14 pp14) : ∀ n, KindK P w K mg base "is_group" n Kd.group
  | 0 => kn_void D fun W k h => by have := k.deep_pos; omega
  | n + 1 => by
    have ih := kn_is_group B D n
    refine kn_df D sc14 (fun _ => rfl) nl1 ?_
    rintro f cdv A outer s H W k hr hq hk
    refine sts_retE (ed_or (EdC.v (edc_in (e_at 0 (vk 0)) (e_tup (edd ed_str (edd ed_str edd0))) rfl rfl)) fun _ => ed_one (ed_and (EdC.v (c_eqS (e_at 0 (vk 0)) ed_str (tag_pair k))) fun _ => ed_one (e_allM Kd.group B (e_map 1 _ (i_tup (e_from 1 (vk 0))) (by have := k.kids_len; omega) fun y hy s H C cl fp => ?_)))) ?_
    · refine ed_call y ih hr hq rfl (eda_d (vd 1) eda_nil) ?_ fun _ h => h
      have := Kd.kids_deep hy
      show y.deep ≤ n
      omega
    · show PyData.bool _ = _
      rw [tag_numbag]
      cases k <;> simp [Kd.kids, Kd.group]
theorem kn_is_bag (D : Df K mg "is_bag" 32 pp32) : Kn P w K mg base "is_bag" 1 ["kind"] (e1 Kd.d) (fun _ _ => True) fun k y => y = .bool (match k with | .bag _ => true | _ => false) := by
  refine kn_df D sc32 (fun _ => rfl) nl1 ?_
  rintro f cdv A outer s H W k hr hq _
  refine sts_retE (EdC.v (c_eqS (e_at 0 (vk 0)) ed_str (k := match k with | .bag _ => true | _ => false) ?_)) rfl
  cases k <;> kernel_rfl
end
end Lay
/-! PB6 -/
/-! more short words: short ways through and, or -/
namespace Lay
open PySem PySem.Spec PyProof.Rows L2
section
variable {X : Cx} {b : Bs} {ρ : Rho} {a e e2 c : Expr} {rest : List Expr} {pos : Pos} {k j : Bool} {d : PyData}
theorem ed_andF (h : Ed X b a ρ (.bool k)) (hk : k = false := by rfl) : Ed X b (.BoolOp .And (a :: e :: rest) pos) ρ (.bool false) := by
  subst hk
  exact ed_and (j := false) h fun z => by cases z
theorem ed_orT (h : Ed X b a ρ (.bool k)) (hk : k = true := by rfl) : Ed X b (.BoolOp .Or (a :: e :: rest) pos) ρ (.bool true) := by
  subst hk
  exact ed_or (j := false) h fun z => by cases z
theorem ed_andT (h : Ed X b a ρ (.bool k)) (hr : Ed X b (.BoolOp .And (e :: rest) pos) ρ (.bool j)) (hk : k = true := by rfl) : Ed X b (.BoolOp .And (a :: e :: rest) pos) ρ (.bool j) := by
  subst hk
  exact ed_and h fun _ => hr
theorem ed_orF (h : Ed X b a ρ (.bool k)) (hr : Ed X b (.BoolOp .Or (e :: rest) pos) ρ (.bool j)) (hk : k = false := by rfl) : Ed X b (.BoolOp .Or (a :: e :: rest) pos) ρ (.bool j) := by
  subst hk
  exact ed_or h fun _ => hr
theorem edw_andF (h : EdT X b a ρ k) (hk : k = false := by rfl) : EdW X b (.BoolOp .And (a :: e :: rest) pos) ρ false := by
  subst hk
  exact edw_and (j := false) h fun z => by cases z
theorem edw_orT (h : EdT X b a ρ k) (hk : k = true := by rfl) : EdW X b (.BoolOp .Or (a :: e :: rest) pos) ρ true := by
  subst hk
  exact edw_or (j := false) h fun z => by cases z
theorem edw_andT (h : EdT X b a ρ k) (hr : EdW X b (.BoolOp .And (e :: rest) pos) ρ j) (hk : k = true := by rfl) : EdW X b (.BoolOp .And (a :: e :: rest) pos) ρ j := by
  subst hk
  exact edw_and h fun _ => hr
theorem edw_orF (h : EdT X b a ρ k) (hr : EdW X b (.BoolOp .Or (e :: rest) pos) ρ j) (hk : k = false := by rfl) : EdW X b (.BoolOp .Or (a :: e :: rest) pos) ρ j := by
  subst hk
  exact edw_or h fun _ => hr
theorem edt_notF (h : EdT X b a ρ k) (hk : k = true := by rfl) : EdT X b (.UnaryOp .Not a pos) ρ false := by
  subst hk
  exact edt_not h
theorem edt_notT (h : EdT X b a ρ k) (hk : k = false := by rfl) : EdT X b (.UnaryOp .Not a pos) ρ true := by
  subst hk
  exact edt_not h
/-- an if that is not taken, that is taken -/
theorem sts_no {K : Post} {sa rest : List Stmt} (h : EdT X b c ρ k) (h1 : Sts X b rest ρ K) (hk : k = false := by rfl) : Sts X b (.If c sa [] pos :: rest) ρ K := by
  subst hk
  exact sts_skip h h1
theorem sts_yes {K : Post} {sa sb rest : List Stmt} (h : EdT X b c ρ k) (h1 : Sts X b sa ρ { K with nx := fun ρ' => Sts X b rest ρ' K }) (hk : k = true := by rfl) : Sts X b (.If c sa sb pos :: rest) ρ K := by
  subst hk
  exact sts_ifT h h1
theorem ed_castB (h : Ed X b a ρ (.bool k)) (e : k = j) : Ed X b a ρ (.bool j) := e ▸ h
theorem c_eqIk {m n : Int} (ha : Ed X b e ρ (.int m)) (hb : Ed X b e2 ρ (.int n)) (hk : decide (m = n) = k) : EdC X b .Eq e e2 ρ k := hk ▸ c_eqI ha hb
theorem c_neIk {m n : Int} (ha : Ed X b e ρ (.int m)) (hb : Ed X b e2 ρ (.int n)) (hk : (!decide (m = n)) = k) : EdC X b .NotEq e e2 ρ k := hk ▸ c_neI ha hb
theorem c_eqSk {m n : Str} (ha : Ed X b e ρ (.str m)) (hb : Ed X b e2 ρ (.str n)) (hk : decide (m = n) = k := by first | rfl | decide +kernel) : EdC X b .Eq e e2 ρ k := c_eqS ha hb hk
theorem c_neSk {m n : Str} (ha : Ed X b e ρ (.str m)) (hb : Ed X b e2 ρ (.str n)) (hk : (!decide (m = n)) = k := by first | rfl | decide +kernel) : EdC X b .NotEq e e2 ρ k := hk ▸ c_neS ha hb rfl
theorem c_ltIk {m n : Int} (ha : Ed X b e ρ (.int m)) (hb : Ed X b e2 ρ (.int n)) (hk : decide (m < n) = k) : EdC X b .Lt e e2 ρ k := hk ▸ edc_lt ha hb
theorem c_gtIk {m n : Int} (ha : Ed X b e ρ (.int m)) (hb : Ed X b e2 ρ (.int n)) (hk : decide (n < m) = k) : EdC X b .Gt e e2 ρ k := hk ▸ edc_gt ha hb
theorem t_tup (B : Bi X.mg) {p p2 : Pos} (h : Ed X b e ρ d) (hk : isD "tuple" d = k := by rfl) (hg : Gl X "isinstance" := by rfl) (hc : Gl X "tuple" := by rfl) (hs : starEach [e, .Name "tuple" p2] X.env = (false, eval e X.env) :: starEach [.Name "tuple" p2] X.env := by rfl)
    (he : ∀ whole, isTrue (.Call (.Name "isinstance" p) [e, .Name "tuple" p2] [] pos) X.env whole = (do let v ← whole; standAt (Expr.Call (.Name "isinstance" p) [e, .Name "tuple" p2] [] pos).pos; holding [v] (truthy v)) := by intro _; rfl) : EdT X b (.Call (.Name "isinstance" p) [e, .Name "tuple" p2] [] pos) ρ k := by
  subst hk
  exact edt_val (e_isTup B h hg hc hs) he
theorem t_str (B : Bi X.mg) {p p2 : Pos} (h : Ed X b e ρ d) (hk : isD "str" d = k := by rfl) (hg : Gl X "isinstance" := by rfl) (hc : Gl X "str" := by rfl) (hs : starEach [e, .Name "str" p2] X.env = (false, eval e X.env) :: starEach [.Name "str" p2] X.env := by rfl)
    (he : ∀ whole, isTrue (.Call (.Name "isinstance" p) [e, .Name "str" p2] [] pos) X.env whole = (do let v ← whole; standAt (Expr.Call (.Name "isinstance" p) [e, .Name "str" p2] [] pos).pos; holding [v] (truthy v)) := by intro _; rfl) : EdT X b (.Call (.Name "isinstance" p) [e, .Name "str" p2] [] pos) ρ k := by
  subst hk
  exact edt_val (e_isStr B h hg hc hs) he
theorem i_zip {nn : Bool} {kk : Nat} {elts : List Expr} {tpos p : Pos} {xs ys : List PyData} (B : Bi X.mg) (ha : Ed X b e ρ (.tuple xs)) (hb : Ed X b e2 ρ (.tuple ys)) (hg : Gl X "zip" := by rfl) (hs : starEach [e, e2] X.env = (false, eval e X.env) :: starEach [e2] X.env := by rfl)
    (hs2 : starEach [e2] X.env = (false, eval e2 X.env) :: starEach [] X.env := by rfl) (hpl : (backTo pos (starEach [e2] X.env)).any (·.1) = false := by rfl) : EvI X b nn (.Tuple elts kk tpos) (.Call (.Name "zip" p) [e, e2] [] pos) ρ fun z => z = zipD xs ys := evi_zip hg B.zip ha hb hs hs2 hpl
theorem edt_cast (h : EdT X b a ρ k) (e : k = j) : EdT X b a ρ j := e ▸ h
theorem ed_cast {d d2 : PyData} (h : Ed X b a ρ d) (e : d = d2) : Ed X b a ρ d2 := e ▸ h
end
end Lay
/-! PC3 -/
/-! the walks: is_valued -/
namespace Lay
open Quiet
open PySem PySem.Spec PyProof.Rows L2
section
variable {P : Program} {w : World} {K : PySem.W.Frag} {mg : Str → Option Value} {base : Heap}
abbrev V2 (n : Nat) : Nat := 3 * n + 10
abbrev ValK (P : Program) (w : World) (K : PySem.W.Frag) (mg : Str → Option Value) (base : Heap) (x : Str) (ps : List Str) (m n : Nat) : Prop := Kn P w K mg base x m ps (e2 (fun q : Kd × PyData => q.1.d) (·.2)) (fun _ q => q.1.ok = true ∧ q.1.deep ≤ n ∧ wide 100 q.2 = true) fun q y => y = .bool (valued q.1 q.2)
theorem isD_tup (d : PyData) : isD "tuple" d = (match d with | .tuple _ => true | _ => false) := by cases d <;> rfl
theorem isD_str (d : PyData) : isD "str" d = (match d with | .str _ => true | _ => false) := by cases d <;> rfl
/-- is_counted -/
theorem kn_is_counted (B : Bi mg) (D : Df K mg "is_counted" 16 pp16) (n : Nat) (hw : WholeK P w K mg base "is_whole" "value") (hv : ValK P w K mg base "is_valued" pp15 (V2 n) n) :
    Kn P w K mg base "is_counted" (V2 n + 1) pp16 (e2 (fun q : Kd × PyData => q.1.d) (·.2)) (fun _ q => q.1.ok = true ∧ q.1.deep ≤ n ∧ wide 100 q.2 = true) fun q y => y = .bool (counted (valued q.1) q.2) := by
  refine kn_df D sc16 (fun _ => rfl) nl2 ?_
  rintro f cdv A outer s H W ⟨k, d⟩ hr hq ⟨ho, hd, hwd⟩
  have r1 : Room 1 (A.deeper (envOfC "is_counted" (defScope (PH.top 16)) s.heap.objs.size f cdv)) := hr.mono (by unfold V2; omega)
  cases d with
  | tuple ds =>
    match ds with
    | [x, y] =>
      refine sts_retE (ed_andT (e_isTup B (vd 1)) (ed_andT (EdC.v (c_eqI (e_len B (vd 1)) ed_int)) (ed_and (ed_call (k, x) hv hr hq rfl (eda_d (vd 0) (eda_d (e_at 0 (vd 1)) eda_nil)) ⟨ho, hd, (wide_tup.mp hwd).2 x (by simp)⟩ fun _ h => h) fun _ => ed_one (ed_call y hw r1 hq rfl (eda_d (e_at 1 (vd 1)) eda_nil) trivial fun _ h => h)))) ?_
      rfl
    | [] => exact sts_retE (ed_andT (e_isTup B (vd 1)) (ed_andF (EdC.v (c_eqI (e_len B (vd 1)) ed_int)))) rfl
    | [x] => exact sts_retE (ed_andT (e_isTup B (vd 1)) (ed_andF (EdC.v (c_eqI (e_len B (vd 1)) ed_int)))) rfl
    | x :: y :: z :: ds =>
      exact sts_retE (ed_andT (e_isTup B (vd 1)) (ed_andF (EdC.v (c_eqIk (e_len B (vd 1)) ed_int (decide_eq_false (by simp only [List.length_cons]; omega)))))) rfl
  | _ => exact sts_retE (ed_andF (e_isTup B (vd 1))) rfl
/-- are_counted -/
theorem kn_are_counted (B : Bi mg) (D : Df K mg "are_counted" 17 pp17) (n : Nat) (hn : n ≤ 16) (hc : Kn P w K mg base "is_counted" (V2 n + 1) pp16 (e2 (fun q : Kd × PyData => q.1.d) (·.2)) (fun _ q => q.1.ok = true ∧ q.1.deep ≤ n ∧ wide 100 q.2 = true) fun q y => y = .bool (counted (valued q.1) q.2)) :
    Kn P w K mg base "are_counted" (V2 n + 2) pp17 (e2 (fun q : Kd × List PyData => q.1.d) (fun q => .tuple q.2)) (fun _ q => q.1.plain = true ∧ q.1.deep ≤ n ∧ wide 100 (.tuple q.2) = true) fun q y => y = .bool (valued (.bag q.1) (.tuple q.2)) := by
  refine kn_df D sc17 (fun _ => rfl) nl2 ?_
  rintro f cdv A outer s H W ⟨k, ds⟩ hr hq ⟨ho, hd, hl⟩
  replace hd : k.deep ≤ n := hd
  replace hl : ds.length ≤ 100 ∧ ∀ d ∈ ds, wide 100 d = true := wide_tup.mp hl
  have ho' := Kd.plain_ok ho
  refine sts_when (edt_not (edt_val (e_allM (xs := ds) (fun p => counted (valued k) p && nzD p) B (e_map 2 (gd := id) _ (i_tup (vd 1) (List.map_id _).symm) (by omega) fun p hp s H C cl fp => ?_)))) (fun h => ?_) fun h => ?_
  · refine ed_and (ed_call (k, p) hc hr hq rfl (eda_d (vd 0) (eda_d (vd 2) eda_nil)) ⟨ho', hd, hl.2 p hp⟩ fun _ h => h) fun hcn => ed_one ?_
    unfold counted at hcn
    split at hcn
    · rename_i x y
      rw [Bool.and_eq_true] at hcn
      obtain ⟨i, rfl⟩ := whole_iff.mp hcn.2
      exact EdC.v (c_neI (e_at 1 (vd 2)) ed_int)
    · cases hcn
  · refine sts_retE ed_bl ?_
    have h : (ds.all fun p => counted (valued k) p && nzD p) = false := by simpa using h.symm
    simp only [valued, h, Bool.false_and]
  · have h : (ds.all fun p => counted (valued k) p && nzD p) = true := by simpa using h.symm
    obtain ⟨xs, rfl, hx⟩ := pairs_of h
    have hv : ∀ q ∈ xs, val k q.1 := fun q hq => (valued_iff ho').mp (hx q hq).1
    refine sts_retE (e_allM (xs := (xs.map pd).zip (xs.map pd).tail) (fun q => decide (lord k (fstD q.1) (fstD q.2) < 0)) B (e_map2 3 4 (ga := (·.1)) (gb := (·.2)) _ ((i_zip B (vd 1) (e_from 1 (vd 1))).imp fun z hz => ?_) ?_ fun q hq s H C cl fp => ?_)) ?_
    · rw [hz]
      unfold zipD
      rw [List.zip_eq_zipWith, List.map_zipWith]
      cases xs <;> rfl
    · rw [List.length_zip]
      exact Nat.le_trans (Nat.min_le_left _ _) (by omega)
    · obtain ⟨h1, h2⟩ := List.of_mem_zip hq
      obtain ⟨q1, m1, e1⟩ := List.mem_map.mp h1
      obtain ⟨q2, m2, e2⟩ := List.mem_map.mp (List.mem_of_mem_tail h2)
      obtain ⟨y1, y2⟩ := q
      cases e1
      cases e2
      exact EdC.v (edc_ltV (ru hr) ho (by omega) (hv q1 m1) (hv q2 m2) (e_at 0 (vd 3)) (e_at 0 (vd 4)))
    · simp only [valued, h, Bool.true_and]
      rfl
/-- is_valued, from itself on smaller kinds -/
theorem kn_is_valued_step (B : Bi mg) (D : Df K mg "is_valued" 15 pp15) (n : Nat) (hw : WholeK P w K mg base "is_whole" "value") (hv : ValK P w K mg base "is_valued" pp15 (V2 n) n)
    (hc : Kn P w K mg base "are_counted" (V2 n + 2) pp17 (e2 (fun q : Kd × List PyData => q.1.d) (fun q => .tuple q.2)) (fun _ q => q.1.plain = true ∧ q.1.deep ≤ n ∧ wide 100 (.tuple q.2) = true) fun q y => y = .bool (valued (.bag q.1) (.tuple q.2)))
    : ValK P w K mg base "is_valued" pp15 (V2 (n + 1)) (n + 1) := by
  refine kn_df D sc15 (fun _ => rfl) nl2 ?_
  rintro f cdv A outer s H W ⟨k, d⟩ hr hq ⟨ho, hd, hwd⟩
  replace hd : k.deep ≤ n + 1 := hd
  replace ho : k.ok = true := ho
  replace hwd : wide 100 d = true := hwd
  have r1 : Room 1 (A.deeper (envOfC "is_valued" (defScope (PH.top 15)) s.heap.objs.size f cdv)) := hr.mono (by omega)
  have r2 : Room (V2 n) (A.deeper (envOfC "is_valued" (defScope (PH.top 15)) s.heap.objs.size f cdv)) := hr.mono (by unfold V2; omega)
  cases k with
  | num => exact sts_yes (EdC.t (c_eqSk (e_at 0 (vd 0)) ed_str)) (sts_retE (ed_call d hw r1 hq rfl (eda_d (vd 1) eda_nil) trivial fun _ h => h) rfl)
  | unit =>
    refine sts_no (EdC.t (c_eqSk (e_at 0 (vd 0)) ed_str)) ?_
    cases d with
    | tuple ds =>
      refine sts_no (EdW.t (edw_orF (EdC.t (c_eqSk (e_at 0 (vd 0)) ed_str)) (edw_or1 (edt_notF (t_tup B (vd 1)))))) ?_
      refine sts_yes (EdC.t (c_eqSk (e_at 0 (vd 0)) ed_str)) (sts_retE (EdC.v (c_eq0 (ru hr) (vd 1) (e_tup edd0))) ?_)
      cases ds <;> rfl
    | _ => exact sts_yes (EdW.t (edw_orF (EdC.t (c_eqSk (e_at 0 (vd 0)) ed_str)) (edw_or1 (edt_notT (t_tup B (vd 1)))))) (sts_retE ed_bl rfl)
  | bag a =>
    refine sts_no (EdC.t (c_eqSk (e_at 0 (vd 0)) ed_str)) ?_
    cases d with
    | tuple ds =>
      refine sts_no (EdW.t (edw_orF (EdC.t (c_eqSk (e_at 0 (vd 0)) ed_str)) (edw_or1 (edt_notF (t_tup B (vd 1)))))) ?_
      refine sts_no (EdC.t (c_eqSk (e_at 0 (vd 0)) ed_str)) ?_
      refine sts_yes (EdC.t (c_eqSk (e_at 0 (vd 0)) ed_str)) (sts_retE (ed_call (a, ds) hc (hr.mono (by unfold V2; omega)) hq rfl (eda_d (e_at 1 (vd 0)) (eda_d (vd 1) eda_nil)) ⟨ho, by simp only [Kd.deep] at hd; exact Nat.le_of_succ_le_succ hd, hwd⟩ fun _ h => h) rfl)
    | _ => exact sts_yes (EdW.t (edw_orF (EdC.t (c_eqSk (e_at 0 (vd 0)) ed_str)) (edw_or1 (edt_notT (t_tup B (vd 1)))))) (sts_retE ed_bl rfl)
  | pair a b =>
    refine sts_no (EdC.t (c_eqSk (e_at 0 (vd 0)) ed_str)) ?_
    simp only [Kd.deep] at hd
    simp only [Kd.ok, Bool.and_eq_true] at ho
    cases d with
    | tuple ds =>
      refine sts_no (EdW.t (edw_orF (EdC.t (c_eqSk (e_at 0 (vd 0)) ed_str)) (edw_or1 (edt_notF (t_tup B (vd 1)))))) ?_
      refine sts_no (EdC.t (c_eqSk (e_at 0 (vd 0)) ed_str)) ?_
      refine sts_no (EdC.t (c_eqSk (e_at 0 (vd 0)) ed_str)) ?_
      match ds with
      | [] => exact sts_yes (EdW.t (edw_orT (EdC.t (edc_lt (e_len B (vd 1)) ed_int)))) (sts_retE ed_bl rfl)
      | [x] => exact sts_yes (EdW.t (edw_orT (EdC.t (edc_lt (e_len B (vd 1)) ed_int)))) (sts_retE ed_bl (by show PyData.bool false = PyData.bool _; simp [valued]))
      | x :: y :: ds =>
        have h2 : decide ((((x :: y :: ds).length : Nat) : Int) < 2) = false := decide_eq_false (by simp only [List.length_cons]; omega)
        cases x with
        | str t =>
          refine sts_no (EdW.t (edw_orF (EdC.t (c_ltIk (e_len B (vd 1)) ed_int h2)) (edw_or1 (edt_notF (t_str B (e_at 0 (vd 1))))))) ?_
          refine sts_no (EdC.t (c_eqSk (e_at 0 (vd 0)) ed_str)) ?_
          by_cases ht : t = "pair"
          · match ds with
            | [] =>
              subst ht
              exact sts_yes (EdW.t (edw_orF (EdC.t (c_neSk (e_at 0 (vd 1)) ed_str)) (edw_or1 (EdC.t (c_neI (e_len B (vd 1)) ed_int))))) (sts_retE ed_bl rfl)
            | [z] =>
              subst ht
              refine sts_no (EdW.t (edw_orF (EdC.t (c_neSk (e_at 0 (vd 1)) ed_str)) (edw_or1 (EdC.t (c_neI (e_len B (vd 1)) ed_int))))) ?_
              refine sts_retE (ed_and (ed_call (a, y) hv r2 hq rfl (eda_d (e_at 1 (vd 0)) (eda_d (e_at 1 (vd 1)) eda_nil)) ⟨ho.1, by show a.deep ≤ n; omega, (wide_tup.mp hwd).2 y (by simp)⟩ fun _ h => h) fun _ => ed_one (ed_call (b, z) hv r2 hq rfl (eda_d (e_at 2 (vd 0)) (eda_d (e_at 2 (vd 1)) eda_nil)) ⟨ho.2, by show b.deep ≤ n; omega, (wide_tup.mp hwd).2 z (by simp)⟩ fun _ h => h)) ?_
              simp only [valued, decide_true, Bool.true_and]
            | z :: v :: ds =>
              subst ht
              have h3 : (!decide ((((PyData.str "pair" :: y :: z :: v :: ds).length : Nat) : Int) = 3)) = true := by
                rw [decide_eq_false (by simp only [List.length_cons]; omega)]
                rfl
              exact sts_yes (EdW.t (edw_orF (EdC.t (c_neSk (e_at 0 (vd 1)) ed_str)) (edw_or1 (EdC.t (c_neIk (e_len B (vd 1)) ed_int h3))))) (sts_retE ed_bl rfl)
          · have h3 : (!decide (t = Str.ofString "pair")) = true := by
              rw [decide_eq_false ht]
              rfl
            refine sts_yes (EdW.t (edw_orT (EdC.t (c_neSk (e_at 0 (vd 1)) ed_str h3)))) (sts_retE ed_bl ?_)
            simp only [valued]
            split
            · rename_i e
              cases e
              rw [decide_eq_false ht, Bool.false_and, Bool.false_and]
            · rfl
        | _ => exact sts_yes (EdW.t (edw_orF (EdC.t (c_ltIk (e_len B (vd 1)) ed_int h2)) (edw_or1 (edt_notT (t_str B (e_at 0 (vd 1))))))) (sts_retE ed_bl rfl)
    | _ => exact sts_yes (EdW.t (edw_orF (EdC.t (c_eqSk (e_at 0 (vd 0)) ed_str)) (edw_or1 (edt_notT (t_tup B (vd 1)))))) (sts_retE ed_bl rfl)
  | either a b =>
    refine sts_no (EdC.t (c_eqSk (e_at 0 (vd 0)) ed_str)) ?_
    simp only [Kd.deep] at hd
    simp only [Kd.ok, Bool.and_eq_true] at ho
    cases d with
    | tuple ds =>
      refine sts_no (EdW.t (edw_orF (EdC.t (c_eqSk (e_at 0 (vd 0)) ed_str)) (edw_or1 (edt_notF (t_tup B (vd 1)))))) ?_
      refine sts_no (EdC.t (c_eqSk (e_at 0 (vd 0)) ed_str)) ?_
      refine sts_no (EdC.t (c_eqSk (e_at 0 (vd 0)) ed_str)) ?_
      match ds with
      | [] => exact sts_yes (EdW.t (edw_orT (EdC.t (edc_lt (e_len B (vd 1)) ed_int)))) (sts_retE ed_bl rfl)
      | [x] => exact sts_yes (EdW.t (edw_orT (EdC.t (edc_lt (e_len B (vd 1)) ed_int)))) (sts_retE ed_bl (by show PyData.bool false = PyData.bool _; simp [valued]))
      | x :: y :: ds =>
        have h2 : decide ((((x :: y :: ds).length : Nat) : Int) < 2) = false := decide_eq_false (by simp only [List.length_cons]; omega)
        cases x with
        | str t =>
          refine sts_no (EdW.t (edw_orF (EdC.t (c_ltIk (e_len B (vd 1)) ed_int h2)) (edw_or1 (edt_notF (t_str B (e_at 0 (vd 1))))))) ?_
          refine sts_yes (EdC.t (c_eqSk (e_at 0 (vd 0)) ed_str)) ?_
          refine sts_set sc15.nd (i := 2) rfl (.inl rfl) (e_side (ru hr) (e_at 0 (vd 1))) fun d0 h0 => ?_
          subst h0
          match ds with
          | [] =>
            by_cases hl : t = "left"
            · subst hl
              refine sts_retE (ed_andT (EdC.v (c_gtIk (vd 2) ed_int (k := true) (by kernel_rfl))) (ed_andT (EdC.v (c_eqI (e_len B (vd 1)) ed_int)) (ed_one (ed_call (a, y) hv r2 hq rfl (eda_d (ed_ix (vd 0) (vd 2) (by kernel_rfl)) (eda_d (e_at 1 (vd 1)) eda_nil)) ⟨ho.1, by show a.deep ≤ n; omega, (wide_tup.mp hwd).2 y (by simp)⟩ fun _ h => h)))) ?_
              simp only [valued, if_true]
            · by_cases hrt : t = "right"
              · subst hrt
                refine sts_retE (ed_andT (EdC.v (c_gtIk (vd 2) ed_int (k := true) (by kernel_rfl))) (ed_andT (EdC.v (c_eqI (e_len B (vd 1)) ed_int)) (ed_one (ed_call (b, y) hv r2 hq rfl (eda_d (ed_ix (vd 0) (vd 2) (by kernel_rfl)) (eda_d (e_at 1 (vd 1)) eda_nil)) ⟨ho.2, by show b.deep ≤ n; omega, (wide_tup.mp hwd).2 y (by simp)⟩ fun _ h => h)))) ?_
                simp only [valued, if_true, if_neg hl]
              · have h0 : sideN t = 0 := by
                  unfold sideN
                  rw [if_neg hl, if_neg hrt]
                refine sts_retE (ed_andF (EdC.v (c_gtIk (vd 2) ed_int (k := false) (by rw [h0]; rfl)))) ?_
                simp only [valued, if_neg hl, if_neg hrt]
          | z :: ds =>
            have h3 : decide ((((PyData.str t :: y :: z :: ds).length : Nat) : Int) = 2) = false := decide_eq_false (by simp only [List.length_cons]; omega)
            cases hs : decide ((0 : Int) < sideN t) with
            | true => exact sts_retE (ed_andT (EdC.v (c_gtIk (vd 2) ed_int hs)) (ed_andF (EdC.v (c_eqIk (e_len B (vd 1)) ed_int h3)))) rfl
            | false => exact sts_retE (ed_andF (EdC.v (c_gtIk (vd 2) ed_int hs))) rfl
        | _ => exact sts_yes (EdW.t (edw_orF (EdC.t (c_ltIk (e_len B (vd 1)) ed_int h2)) (edw_or1 (edt_notT (t_str B (e_at 0 (vd 1))))))) (sts_retE ed_bl rfl)
    | _ => exact sts_yes (EdW.t (edw_orF (EdC.t (c_eqSk (e_at 0 (vd 0)) ed_str)) (edw_or1 (edt_notT (t_tup B (vd 1)))))) (sts_retE ed_bl rfl)
theorem kn_is_valued (B : Bi mg) (Dw : Df K mg "is_whole" 7 pp7) (D : Df K mg "is_valued" 15 pp15) (D1 : Df K mg "is_counted" 16 pp16) (D2 : Df K mg "are_counted" 17 pp17) : ∀ n, n ≤ 17 → ValK P w K mg base "is_valued" pp15 (V2 n) n
  | 0, _ => kn_void D fun W q h => by
    have := q.1.deep_pos
    have := h.2.1
    omega
  | n + 1, hn => by
    have ih := kn_is_valued B Dw D D1 D2 n (by omega)
    have h1 := kn_is_counted B D1 n (kn_is_whole B Dw) ih
    exact kn_is_valued_step B D n (kn_is_whole B Dw) ih (kn_are_counted B D2 n (by omega) h1)
end
end Lay
/-! PC4 -/
/-! the walks: is_kinded, the checks -/
namespace Lay
open PySem PySem.Spec PyProof.Rows L2
section
variable {P : Program} {w : World} {K : PySem.W.Frag} {mg : Str → Option Value} {base : Heap}
/-- is_kinded, its default told -/
structure DfK (K : PySem.W.Frag) (mg : Str → Option Value) : Prop where
  ex : ∃ f fd ds, FunD K "is_kinded" "is_kinded" (defArgs (PH.top 11)) (defBody (PH.top 11)) (defScope (PH.top 11)) [V.int 100] [] f fd ∧ mg "is_kinded" = some (.ref f) ∧ L2.Binds K fd pp11 [] ∧ Vals [V.int 100] ds ∧ L2.Binds K fd pp11 ds
abbrev kEnc : Kd × Nat → List S := e2 (fun q => q.1.d) (fun q => .int q.2)
abbrev kPre (n : Nat) : Option Addr → Kd × Nat → Prop := fun _ q => q.1.ok = true ∧ q.1.deep ≤ n ∧ q.1.deep ≤ q.2
abbrev kPost : Kd × Nat → PyData → Prop := fun _ y => y = .bool true
theorem sizes_mem (k : Kd) : (k.tag, ((k.kids.length + 1 : Nat) : Int)) ∈ ([("unit", 1), ("num", 1), ("pair", 3), ("either", 3), ("bag", 2)] : List (Str × Int)) := by
  cases k <;> simp [Kd.tag, Kd.kids]
theorem tag_bag (k : Kd) : decide (k.tag = Str.ofString "bag") = (match k with | .bag _ => true | _ => false) := by cases k <;> kernel_rfl
theorem kids_ok {k x : Kd} (h : k.ok = true) (hx : x ∈ k.kids) : x.ok = true := by
  cases k <;> simp [Kd.kids, Kd.ok] at h hx
  · rcases hx with e | e <;> subst e
    · exact h.1
    · exact h.2
  · rcases hx with e | e <;> subst e
    · exact h.1
    · exact h.2
  · subst hx
    exact Kd.plain_ok h
theorem fok_is_kinded (B : Bi mg) (Z : Sizes K w mg) (D : DfK K mg) (hp : ∀ n, KindK P w K mg base "is_plain" n Kd.plain) {f : Addr} {fd : FuncData} (F : FunD K "is_kinded" "is_kinded" (defArgs (PH.top 11)) (defBody (PH.top 11)) (defScope (PH.top 11)) [V.int 100] [] f fd) (hm : mg "is_kinded" = some (.ref f)) (bd : L2.Binds K fd pp11 []) :
    ∀ n, Fok P w K mg base n f fd pp11 (Pr kEnc (kPre n) kPost)
  | 0 => ⟨fun vs H Q ⟨W, q, _, _, p, _⟩ => by have := q.1.deep_pos; have := p.2.1; omega, fun A outer s H args us vs Q _ _ _ _ _ ⟨W, q, _, _, p, _⟩ => by have := q.1.deep_pos; have := p.2.1; omega⟩
  | n + 1 => by
    have ih : Kn P w K mg base "is_kinded" n pp11 kEnc (kPre n) kPost := ⟨f, fd, fok_is_kinded B Z D hp F hm bd n, hm, F.kp, bd, F.look⟩
    have hp := hp n
    refine fok_of F sc11 (fun vs H Q ⟨W, a, h1, _, _, _⟩ => by rw [h1.len]; rfl) fun cdv A outer s H vs Q hr hq ⟨W, ⟨k, j⟩, h1, h2, ⟨ho, hd, hj⟩, h4⟩ => ?_
    replace hd : k.deep ≤ n + 1 := hd
    replace hj : k.deep ≤ j := hj
    replace ho : k.ok = true := ho
    have hpos := k.deep_pos
    have key : Sts (bodyX P w K mg base nn11 "is_kinded" (defScope (PH.top 11)) f cdv A outer s H) ⟨W, H⟩ (defBody (PH.top 11)) [some (.d k.d), some (.d (.int j)), none] { nx := fun _ => kPost (k, j) .none, rt := kPost (k, j) } := by
      have z1 : decide ((j : Int) = 0) = false := decide_eq_false (by omega)
      refine sts_no (EdW.t (edw_orF (EdC.t (c_eqIk (vd 1) ed_int z1)) (edw_orF (edt_notF (t_tup B (vk 0))) (edw_orF (EdC.t (c_eq0 (ru hr) (vk 0) (e_tup edd0))) (edw_or1 (edt_notF (t_str B (e_at 0 (vk 0))))))))) ?_
      have z2 : (!decide ((((PyData.str k.tag :: k.kids.map Kd.d).length : Nat) : Int) = ((k.kids.length + 1 : Nat) : Int))) = false := by
        rw [decide_eq_true (by simp)]
        rfl
      refine sts_no (EdW.t (edw_orF (EdC.t (c_neIk (e_len B (vk 0)) (e_sizes Z (e_at 0 (vk 0)) (sizes_mem k)) z2)) (edw_or1 (edt_notF (edt_val (e_allM (fun _ => true) B (e_map 2 _ (i_tup (e_from 1 (vk 0))) (by have := k.kids_len; omega) fun y hy s H C cl fp => ?_))) (by simp))))) ?_
      · have := Kd.kids_deep hy
        have e : ((j : Int) - 1) = ((j - 1 : Nat) : Int) := by omega
        refine ed_call (y, j - 1) ih hr hq rfl (eda_d (vd 2) (eda_d (ed_cast (ed_sub (vd 1) ed_int) (by rw [e])) eda_nil)) ⟨kids_ok ho hy, by show y.deep ≤ n; omega, by show y.deep ≤ j - 1; omega⟩ fun _ h => h
      · cases k with
        | bag a =>
          simp only [Kd.deep] at hd
          refine sts_retE (ed_orF (EdC.v (c_neSk (e_at 0 (vd 0)) ed_str)) (ed_one (ed_call a hp hr hq rfl (eda_d (e_at 1 (vd 0)) eda_nil) (by show a.deep ≤ n; omega) fun _ h => h))) ?_
          show PyData.bool a.plain = PyData.bool true
          rw [show a.plain = true from ho]
        | _ => exact sts_retE (ed_orT (EdC.v (c_neSk (e_at 0 (vd 0)) ed_str))) rfl
    exact key _ H (start_ok h1 h2 (nl2 (k, j)) (by show 2 ≤ 3; decide)) _ ⟨fun σ' H' ρ' _ ok k => h4 _ H' _ ok.base ok.wl .non k, fun v H' d s' w' r p => h4 v H' d s' w' r p, fun _ _ _ _ _ z => z.elim, fun _ _ _ _ _ _ _ _ _ z => z.elim⟩
theorem kn_is_kinded (B : Bi mg) (Z : Sizes K w mg) (D : DfK K mg) (hp : ∀ n, KindK P w K mg base "is_plain" n Kd.plain) (n : Nat) : KnD P w K mg base "is_kinded" n pp11 100 kEnc (kPre n) kPost := by
  obtain ⟨f, fd, ds, F, hm, bd, hd, bd2⟩ := D.ex
  exact ⟨f, fd, ds, fok_is_kinded B Z D hp F hm bd n, hm, F.kp, hd, bd2⟩
/-! ### a local name that holds a def -/
theorem ed_callL {X : Cx} {b : Bs} {ρ : Rho} {e : Expr} {es : List Expr} {pos p : Pos} {x : Str} {k : Nat} {ps : List Str} {α : Type} {enc : α → List S} {pre : Option Addr → α → Prop} {post : α → PyData → Prop} (i : Nat) (a : α) {d : PyData} {f : Addr} {fd : FuncData} (G : Fok X.prog X.w X.K X.mg X.base k f fd ps (Pr enc pre post)) (hk : PySem.W.keepIn X.K (.ref f) = true) (hb : L2.Binds X.K fd ps [])
    (hr : Room k X.A) (hq : X.A.guards = some []) (ha : EdA X b (e :: es) ρ (enc a)) (hp : pre b.W a) (h : ∀ y, post a y → y = d) (hs : ρ[i]? = some (some (.o f)) := by rfl) (hN : X.N[i]? = some x := by rfl) (hv : Vis X.env.scope x := by first | exact Or.inl rfl | exact Or.inr (Or.inl rfl) | exact Or.inr (Or.inr rfl))
    (hdb : (x == ("__debug__" : Str)) = false := by decide) (hcd : (x == ("__classdict__" : Str)) = false := by decide) (he : starEach (e :: es) X.env = (false, eval e X.env) :: starEach es X.env := by rfl) (hpl : (backTo pos (starEach es X.env)).any (·.1) = false := by rfl) :
    Ed X b (.Call (.Name x p) (e :: es) [] pos) ρ d := by
  intro σ H ok Q q pins s I
  obtain ⟨v0, g0, ev0⟩ := ok.at_ i _ hs
  cases (show v0 = .ref f from ev0)
  refine wpAny_Call_Name_kw (thn ((pe_var (pos := p) hN hv hdb hcd).run pins s σ H (fun v H1 => v = .ref f ∧ H1 = H) I ⟨.ref f, g0, rfl, rfl⟩) fun u s1 ⟨v, H1, I1, r1, q1⟩ => ?_)
  obtain ⟨rfl, rfl⟩ := q1
  cases r1
  refine PySem.W.callWith_K (h₀ := X.base) I.ok.mod.kin hk ?_ he hpl
  refine thn (ha σ _ ok (fun vs H1 => Pr enc pre post vs H1 Q) (fun vs H1 ss s1 w1 r1 p1 => ?_) pos pins s1 I1) fun us s2 ⟨vs, H2, I2, r, pr⟩ => ⟨I2.kIn, ?_⟩
  · subst p1
    exact ⟨b.W, a, r1, w1, hp, fun v H' d' s2 w2 rv pv => q v H' d' (s1.trans s2) w2 rv (h d' pv)⟩
  · have hl : us.length = ps.length := by rw [← r.length]; exact G.len _ _ _ pr
    have hbd := hb s2 us I2.kIn (by rw [List.append_nil]; exact hl)
    rw [List.append_nil] at hbd
    refine wpAny_call (codeAny_mono (run_fok G hr hq I2 hbd r pr) fun z s' ⟨u, h1, h2⟩ => ?_)
    subst h1
    exact h2
/-! ### the checks -/
/-- the def at f answers g of a kind -/
def AnsAt (P : Program) (w : World) (K : PySem.W.Frag) (mg : Str → Option Value) (base : Heap) (n : Nat) (f : Addr) (g : Kd → Bool) (m : Nat) : Prop := ∃ fd, Fok P w K mg base n f fd ["kind"] (Pr (e1 Kd.d) (fun _ k => k.deep ≤ m) fun k y => y = .bool (g k)) ∧ PySem.W.keepIn K (.ref f) = true ∧ L2.Binds K fd ["kind"] []
abbrev ChkK (P : Program) (w : World) (K : PySem.W.Frag) (mg : Str → Option Value) (base : Heap) (n : Nat) : Prop := Kn P w K mg base "check_kind_that" (n + 1) pp19 (fun q : Kd × Addr => [.d q.1.d, .o q.2]) (fun _ q => q.1.ok = true ∧ q.1.deep ≤ n ∧ q.1.deep ≤ 100 ∧ ∃ g m, AnsAt P w K mg base n q.2 g m ∧ q.1.deep ≤ m ∧ g q.1 = true) fun _ y => y = .none
theorem kn_check_kind_that (D : Df K mg "check_kind_that" 19 pp19) (n : Nat) (hk : KnD P w K mg base "is_kinded" n pp11 100 kEnc (kPre n) kPost) : ChkK P w K mg base n := by
  refine kn_df D sc19 (fun _ => rfl) (fun q s hs c e => ?_) ?_
  · rcases List.mem_cons.mp hs with z | z
    · rw [z] at e
      cases e
    · rcases List.mem_cons.mp z with z | z
      · rw [z] at e
        cases e
      · cases z
  rintro f cdv A outer s H W ⟨k, g0⟩ hr hq ⟨ho, hd, hd2, g, m, ⟨fd, G, hkp, hbd⟩, hm, hg⟩
  refine sts_no (EdW.t (edw_orF (edt_notF (edt_val (ed_callD (k, 100) (ss := [.d k.d]) hk hr hq rfl (eda_d (vd 0) eda_nil) rfl ⟨ho, hd, hd2⟩ fun _ h => h))) (edw_or1 (edt_notF (edt_val (ed_callL 1 k (d := .bool true) G hkp hbd hr hq (eda_d (vd 0) eda_nil) hm fun y hy => ?_)))))) (sts_nil rfl)
  rw [hy, hg]
/-- a call of it -/
theorem e_chk {X : Cx} {b : Bs} {ρ : Rho} {e : Expr} {pos p p2 : Pos} {x : Str} {n m : Nat} {k : Kd} {g : Kd → Bool} (C : ChkK X.prog X.w X.K X.mg X.base n) (F : KindK X.prog X.w X.K X.mg X.base x m g) (hr : Room (n + 1) X.A) (hq : X.A.guards = some []) (h : Ed X b e ρ k.d) (ho : k.ok = true) (hd : k.deep ≤ m) (hmn : m ≤ n) (hn : n ≤ 100) (hg : g k = true)
    (hgl : Gl X "check_kind_that" := by rfl) (hgx : Gl X x := by rfl) (hdb : (x == ("__debug__" : Str)) = false := by decide) (hs : starEach [e, .Name x p2] X.env = (false, eval e X.env) :: starEach [.Name x p2] X.env := by rfl) (hs1 : starEach [.Name x p2] X.env = (false, eval (.Name x p2) X.env) :: starEach [] X.env := by rfl) (hpl : (backTo pos (starEach [.Name x p2] X.env)).any (·.1) = false := by rfl) :
    Ed X b (.Call (.Name "check_kind_that" p) [e, .Name x p2] [] pos) ρ .none := by
  obtain ⟨f, fd, G, hm, hkp, bd, _⟩ := F.ex
  exact ed_call (k, f) C hr hq hgl (eda_d h (eda_cons (evs_glob hgx hm hdb) eda_nil hs1) hs) ⟨ho, Nat.le_trans hd hmn, by show k.deep ≤ 100; omega, g, m, ⟨fd, G.mono hmn, hkp, bd⟩, hd, hg⟩ (fun _ h => h) (by decide) hs hpl
theorem kn_check_data (D : Df K mg "check_data" 20 pp20) (n : Nat) (hn : n ≤ 100) (C : ChkK P w K mg base n) (F : KindK P w K mg base "is_data" n fun _ => true) : Kn P w K mg base "check_data" (n + 2) pp20 (e1 Kd.d) (fun _ k => k.ok = true ∧ k.deep ≤ n) fun _ y => y = .none := by
  refine kn_df D sc20 (fun _ => rfl) nl1 ?_
  rintro f cdv A outer s H W k hr hq ⟨ho, hd⟩
  exact sts_drop (e_chk C F hr hq (vd 0) ho hd (Nat.le_refl _) hn rfl) fun d h => sts_nil rfl
theorem kn_check_value (D : Df K mg "check_value" 21 pp21) (n : Nat) (F : ValK P w K mg base "is_valued" pp15 (V2 n) n) : Kn P w K mg base "check_value" (V2 n + 1) pp21 (e2 (fun q : Kd × PyData => q.1.d) (·.2)) (fun _ q => q.1.ok = true ∧ q.1.deep ≤ n ∧ wide 100 q.2 = true ∧ val q.1 q.2) fun _ y => y = .none := by
  refine kn_df D sc21 (fun _ => rfl) nl2 ?_
  rintro f cdv A outer s H W ⟨k, d⟩ hr hq ⟨ho, hd, hw, hv⟩
  refine sts_no (edt_notF (edt_val (ed_call (k, d) (d := .bool true) F hr hq rfl (eda_d (vd 0) (eda_d (vd 1) eda_nil)) ⟨ho, hd, hw⟩ fun y h => ?_))) (sts_nil rfl)
  rw [h, (valued_iff ho).mpr hv]
theorem kn_check_whole (D : Df K mg "check_whole" 22 pp22) (F : WholeK P w K mg base "is_whole" "value") : Kn P w K mg base "check_whole" 2 pp22 (e1 PyData.int) (fun _ _ => True) fun _ y => y = .none := by
  refine kn_df D sc22 (fun _ => rfl) nl1 ?_
  rintro f cdv A outer s H W i hr hq _
  exact sts_no (edt_notF (edt_val (ed_call (.int i) (d := .bool true) F hr hq rfl (eda_d (vd 0) eda_nil) trivial fun y h => by rw [h]; rfl))) (sts_nil rfl)
end
end Lay
/-! PC5 -/
/-! the walks: groupwork, values -/
namespace Lay
open Quiet
open PySem PySem.Spec PyProof.Rows L2
section
variable {P : Program} {w : World} {K : PySem.W.Frag} {mg : Str → Option Value} {base : Heap}
theorem val_shaped {C : Nat → Prop} {I : Int → Prop} {k : Kd} {d : PyData} (h : vok C I k d) (hd : k.deep ≤ 32) : SeqAt.shaped d = true := by
  obtain ⟨h1, h2⟩ := val_lay h
  unfold SeqAt.shaped
  rw [h1, decide_eq_true (by omega)]
  rfl
theorem kn_zero_by (D : Df K mg "zero_by" 25 pp25) : ∀ n, Kn P w K mg base "zero_by" n pp25 (e1 Kd.d) (fun _ k => k.group = true ∧ k.deep ≤ n) fun k y => y = zeroD k
  | 0 => kn_void D fun W k h => by have := k.deep_pos; have := h.2; omega
  | n + 1 => by
    have ih := kn_zero_by D n
    refine kn_df D sc25 (fun _ => rfl) nl1 ?_
    rintro f cdv A outer s H W k hr hq ⟨hg, hd⟩
    cases k with
    | num => exact sts_yes (EdC.t (c_eqSk (e_at 0 (vd 0)) ed_str)) (sts_retE ed_int rfl)
    | bag a =>
      refine sts_no (EdC.t (c_eqSk (e_at 0 (vd 0)) ed_str)) ?_
      exact sts_yes (EdC.t (c_eqSk (e_at 0 (vd 0)) ed_str)) (sts_retE (e_tup edd0) rfl)
    | pair a b =>
      simp only [Kd.deep] at hd
      simp only [Kd.group, Bool.and_eq_true] at hg
      refine sts_no (EdC.t (c_eqSk (e_at 0 (vd 0)) ed_str)) ?_
      refine sts_no (EdC.t (c_eqSk (e_at 0 (vd 0)) ed_str)) ?_
      exact sts_retE (e_tup (edd ed_str (edd (ed_call a ih hr hq rfl (eda_d (e_at 1 (vd 0)) eda_nil) ⟨hg.1, by show a.deep ≤ n; omega⟩ fun _ h => h) (edd (ed_call b ih hr hq rfl (eda_d (e_at 2 (vd 0)) eda_nil) ⟨hg.2, by show b.deep ≤ n; omega⟩ fun _ h => h) edd0)))) rfl
    | _ => simp [Kd.group] at hg
def isPairK : Kd → Bool
  | .pair _ _ => true
  | _ => false
abbrev PairedK (P : Program) (w : World) (K : PySem.W.Frag) (mg : Str → Option Value) (base : Heap) : Prop := Kn P w K mg base "is_paired" 1 pp26 (e1 (fun q : Kd × PyData => q.2)) (fun _ q => q.1.group = true ∧ q.1 ≠ .num ∧ q.1.deep ≤ 16 ∧ val q.1 q.2) fun q y => y = .bool (isPairK q.1)
theorem kn_is_paired (D : Df K mg "is_paired" 26 pp26) : PairedK P w K mg base := by
  refine kn_df D sc26 (fun _ => rfl) nl1 ?_
  rintro f cdv A outer s H W ⟨k, d⟩ hr hq ⟨hg, hn, hd, hv⟩
  cases k with
  | pair a b =>
    obtain ⟨x, y, rfl, hx, hy⟩ := hv
    exact sts_retE (ed_andT (EdC.v (c_ne0 (ru hr) (vd 0) (e_tup edd0))) (ed_one (EdC.v (c_eqSk (e_at 0 (vd 0)) ed_str)))) rfl
  | bag a =>
    obtain ⟨xs, rfl, _, hx, _⟩ := hv
    cases xs with
    | nil => exact sts_retE (ed_andF (EdC.v (c_ne0 (ru hr) (vd 0) (e_tup edd0)))) rfl
    | cons q xs =>
      simp only [Kd.deep] at hd
      have hs : SeqAt.shaped (pd q) = true := by
        obtain ⟨h1, h2⟩ := val_lay (hx q List.mem_cons_self).1
        unfold SeqAt.shaped
        simp only [pd, PyData.canLay0, PyData.canLayAll0, h1, PyData.depth, PyData.depthAll, Bool.and_self, Bool.true_and, decide_eq_true_eq]
        omega
      exact sts_retE (ed_andT (EdC.v (c_ne0 (ru hr) (vd 0) (e_tup edd0))) (ed_one (EdC.v (edc_eqD (ru hr) (e_at 0 (vd 0)) ed_str hs (by kernel_rfl))))) rfl
  | num => exact absurd rfl hn
  | _ => simp [Kd.group] at hg
/-- sum_of_bags of two rows of pairs, the first's keys distinct -/
abbrev SumsK (P : Program) (w : World) (K : PySem.W.Frag) (mg : Str → Option Value) (base : Heap) (n : Nat) : Prop := Kn P w K mg base "sum_of_bags" n pp28 (e2 (fun q : Kd × List (PyData × Int) × List (PyData × Int) => .tuple (q.2.1.map pd)) (fun q => .tuple (q.2.2.map pd))) (fun _ q => q.1.plain = true ∧ q.1.deep ≤ 8 ∧ (∀ e ∈ q.2.1 ++ q.2.2, val q.1 e.1) ∧ (q.2.1.map (·.1)).Nodup ∧ q.2.1.length ≤ 100 ∧ q.2.2.length ≤ 100)
  fun q y => y = .tuple ((bagN q.1 (q.2.1 ++ q.2.2)).map pd)
theorem kn_plus_by (B : Bi mg) (D : Df K mg "plus_by" 29 pp29) (m : Nat) (hs : SumsK P w K mg base m) (hp : PairedK P w K mg base) : ∀ n, Kn P w K mg base "plus_by" (n + m + 1) pp29 (e2 (fun q : Kd × PyData × PyData => q.2.1) (fun q => q.2.2)) (fun _ q => q.1.ok = true ∧ q.1.group = true ∧ q.1.deep ≤ n ∧ q.1.deep ≤ 8 ∧ (val q.1 q.2.1 ∧ wide 100 q.2.1 = true) ∧ val q.1 q.2.2 ∧ wide 100 q.2.2 = true) fun q y => y = sumD q.1 q.2.1 q.2.2
  | 0 => kn_void D fun W q h => by have := q.1.deep_pos; have := h.2.2.1; omega
  | n + 1 => by
    have ih := kn_plus_by B D m hs hp n
    have e : n + 1 + m + 1 = (n + m + 1) + 1 := by omega
    rw [e]
    refine kn_df D sc29 (fun _ => rfl) nl2 ?_
    rintro f cdv A outer s H W ⟨k, x, y⟩ hr hq ⟨ho, hg, hd, hd8, ⟨hx, wx⟩, hy, wy⟩
    have r1 : Room 1 (A.deeper (envOfC "plus_by" (defScope (PH.top 29)) s.heap.objs.size f cdv)) := hr.mono (by omega)
    cases k with
    | num =>
      obtain ⟨i, rfl, _⟩ := hx
      obtain ⟨j, rfl, _⟩ := hy
      exact sts_yes (edt_val (e_isInt B (vd 0))) (sts_retE (ed_add (vd 0) (vd 1)) rfl)
    | pair a b =>
      simp only [Kd.deep] at hd hd8
      simp only [Kd.group, Kd.ok, Bool.and_eq_true] at hg ho
      have hx' := hx
      obtain ⟨x1, x2, rfl, hx1, hx2⟩ := hx
      obtain ⟨y1, y2, rfl, hy1, hy2⟩ := hy
      have w1 := (wide_tup.mp wx).2
      have w2 := (wide_tup.mp wy).2
      refine sts_no (edt_val (e_isInt B (vd 0))) ?_
      refine sts_yes (edt_val (ed_call (.pair a b, .tuple [.str "pair", x1, x2]) (d := .bool true) hp r1 hq rfl (eda_d (vd 0) eda_nil) ⟨by simp [Kd.group, hg], by simp, by simp only [Kd.deep]; omega, hx'⟩ fun y h => by rw [h]; rfl)) ?_
      exact sts_retE (e_tup (edd ed_str (edd (ed_call (a, x1, y1) ih hr hq rfl (eda_d (e_at 1 (vd 0)) (eda_d (e_at 1 (vd 1)) eda_nil)) ⟨ho.1, hg.1, by show a.deep ≤ n; omega, by show a.deep ≤ 8; omega, ⟨hx1, w1 x1 (by simp)⟩, hy1, w2 y1 (by simp)⟩ fun _ h => h)
        (edd (ed_call (b, x2, y2) ih hr hq rfl (eda_d (e_at 2 (vd 0)) (eda_d (e_at 2 (vd 1)) eda_nil)) ⟨ho.2, hg.2, by show b.deep ≤ n; omega, by show b.deep ≤ 8; omega, ⟨hx2, w1 x2 (by simp)⟩, hy2, w2 y2 (by simp)⟩ fun _ h => h) edd0)))) rfl
    | bag a =>
      simp only [Kd.deep] at hd hd8
      simp only [Kd.ok] at ho
      have hx' := hx
      obtain ⟨xs, rfl, _, hx, hs1⟩ := hx
      obtain ⟨ys, rfl, _, hy, _⟩ := hy
      have lx := (wide_tup.mp wx).1
      have ly := (wide_tup.mp wy).1
      rw [List.length_map] at lx ly
      have hvx : ∀ q ∈ xs, val a q.1 := fun q hq => (hx q hq).1
      refine sts_no (edt_val (e_isInt B (vd 0))) ?_
      refine sts_no (edt_val (ed_call (.bag a, .tuple (xs.map pd)) (d := .bool false) hp r1 hq rfl (eda_d (vd 0) eda_nil) ⟨rfl, by simp, by simp only [Kd.deep]; omega, hx'⟩ fun y h => by rw [h]; rfl)) ?_
      refine sts_retE (ed_call (a, xs, ys) hs (hr.mono (by omega)) hq rfl (eda_d (vd 0) (eda_d (vd 1) eda_nil)) ⟨ho, by show a.deep ≤ 8; omega, fun e he => ?_, sorted_nodup ho hs1 hvx, lx, ly⟩ fun _ h => h) ?_
      · rcases List.mem_append.mp he with z | z
        · exact hvx e z
        · exact (hy e z).1
      · show _ = PyData.tuple ((bagN a ((xs.map pd ++ ys.map pd).map unpd)).map pd)
        rw [List.map_append, unpd_map, unpd_map]
    | _ => simp [Kd.group] at hg
theorem kn_times_by (B : Bi mg) (D : Df K mg "times_by" 30 pp30) (hp : PairedK P w K mg base) : ∀ n, Kn P w K mg base "times_by" (n + 1) pp30 (e2 (fun q : Kd × Int × PyData => .int q.2.1) (fun q => q.2.2)) (fun _ q => q.1.ok = true ∧ q.1.group = true ∧ q.1.deep ≤ n ∧ q.1.deep ≤ 8 ∧ q.2.1.natAbs ≤ 10 ^ 10 ∧ val q.1 q.2.2 ∧ wide 100 q.2.2 = true) fun q y => y = manyD q.2.1 q.1 q.2.2
  | 0 => kn_void D fun W q h => by have := q.1.deep_pos; have := h.2.2.1; omega
  | n + 1 => by
    have ih := kn_times_by B D hp n
    refine kn_df D sc30 (fun _ => rfl) nl2 ?_
    rintro f cdv A outer s H W ⟨k, i, x⟩ hr hq ⟨ho, hg, hd, hd8, hi, hx, wx⟩
    replace hi : i.natAbs ≤ 10 ^ 10 := hi
    have hcm : ∀ j : Int, CMul i j := fun j => .inl ⟨by omega, by omega⟩
    cases k with
    | num =>
      obtain ⟨j, rfl, _⟩ := hx
      exact sts_yes (edt_val (e_isInt B (vd 1))) (sts_retE (ed_mul (hcm j) (vd 0) (vd 1)) rfl)
    | pair a b =>
      simp only [Kd.deep] at hd hd8
      simp only [Kd.group, Kd.ok, Bool.and_eq_true] at hg ho
      have hx' := hx
      obtain ⟨x1, x2, rfl, hx1, hx2⟩ := hx
      have w1 := (wide_tup.mp wx).2
      refine sts_no (edt_val (e_isInt B (vd 1))) ?_
      refine sts_yes (edt_val (ed_call (.pair a b, .tuple [.str "pair", x1, x2]) (d := .bool true) hp (hr.mono (by omega)) hq rfl (eda_d (vd 1) eda_nil) ⟨by simp [Kd.group, hg], by simp, by simp only [Kd.deep]; omega, hx'⟩ fun y h => by rw [h]; rfl)) ?_
      exact sts_retE (e_tup (edd ed_str (edd (ed_call (a, i, x1) ih hr hq rfl (eda_d (vd 0) (eda_d (e_at 1 (vd 1)) eda_nil)) ⟨ho.1, hg.1, by show a.deep ≤ n; omega, by show a.deep ≤ 8; omega, hi, hx1, w1 x1 (by simp)⟩ fun _ h => h)
        (edd (ed_call (b, i, x2) ih hr hq rfl (eda_d (vd 0) (eda_d (e_at 2 (vd 1)) eda_nil)) ⟨ho.2, hg.2, by show b.deep ≤ n; omega, by show b.deep ≤ 8; omega, hi, hx2, w1 x2 (by simp)⟩ fun _ h => h) edd0)))) rfl
    | bag a =>
      simp only [Kd.deep] at hd hd8
      have hx' := hx
      obtain ⟨xs, rfl, _, hx, hs1⟩ := hx
      have lx := (wide_tup.mp wx).1
      rw [List.length_map] at lx
      refine sts_no (edt_val (e_isInt B (vd 1))) ?_
      refine sts_no (edt_val (ed_call (.bag a, .tuple (xs.map pd)) (d := .bool false) hp (hr.mono (by omega)) hq rfl (eda_d (vd 1) eda_nil) ⟨rfl, by simp, by simp only [Kd.deep]; omega, hx'⟩ fun y h => by rw [h]; rfl)) ?_
      refine sts_retE (ed_if (EdC.t (c_neI (vd 0) ed_int)) (fun _ => e_tuple B (EvL.r (e_map2 2 3 (ga := (·.1)) (gb := fun q => .int q.2) (fun q : PyData × Int => pd (q.1, i * q.2)) (i_tup (vd 1)) (by omega) fun q hq s H C cl fp => ?_))) fun _ => e_tup edd0) ?_
      · exact e_tup (edd (vd 2) (edd (ed_mul (hcm q.2) (vd 0) (vd 3)) edd0))
      · show _ = manyD i (.bag a) (.tuple (xs.map pd))
        simp only [manyD]
        by_cases h0 : i = 0
        · simp [h0]
        · simp only [h0, decide_false, Bool.not_false, if_true, ne_eq, not_false_eq_true, List.map_map]
          rfl
    | _ => simp [Kd.group] at hg
end
end Lay
/-! PC6 -/
/-! the walks: values.py -/
namespace Lay
open Quiet
open PySem PySem.Spec PyProof.Rows L2
section
variable {P : Program} {w : World} {K : PySem.W.Frag} {mg : Str → Option Value} {base : Heap}
/-- what the checks promise for kinds eight deep -/
structure Chks (P : Program) (w : World) (K : PySem.W.Frag) (mg : Str → Option Value) (base : Heap) : Prop where
  bi : Bi mg
  that : ChkK P w K mg base 8
  plain : KindK P w K mg base "is_plain" 8 Kd.plain
  data : KindK P w K mg base "is_data" 8 fun _ => true
  group : KindK P w K mg base "is_group" 8 Kd.group
  bag : Kn P w K mg base "is_bag" 1 ["kind"] (e1 Kd.d) (fun _ _ => True) fun k y => y = .bool (match k with | .bag _ => true | _ => false)
  chkData : Kn P w K mg base "check_data" 10 pp20 (e1 Kd.d) (fun _ k => k.ok = true ∧ k.deep ≤ 8) fun _ y => y = .none
  chkVal : Kn P w K mg base "check_value" 35 pp21 (e2 (fun q : Kd × PyData => q.1.d) (·.2)) (fun _ q => q.1.ok = true ∧ q.1.deep ≤ 8 ∧ wide 100 q.2 = true ∧ val q.1 q.2) fun _ y => y = .none
  chkWhole : Kn P w K mg base "check_whole" 2 pp22 (e1 PyData.int) (fun _ _ => True) fun _ y => y = .none
  valued : ValK P w K mg base "is_valued" pp15 34 8
variable (C : Chks P w K mg base)
abbrev IsValK (P : Program) (w : World) (K : PySem.W.Frag) (mg : Str → Option Value) (base : Heap) : Prop := Kn P w K mg base "is_value" 40 pp33 (e2 (fun q : Kd × PyData => q.1.d) (·.2)) (fun _ q => q.1.ok = true ∧ q.1.deep ≤ 8 ∧ wide 100 q.2 = true) fun q y => y = .bool (Lay.valued q.1 q.2)
abbrev OrderK (P : Program) (w : World) (K : PySem.W.Frag) (mg : Str → Option Value) (base : Heap) : Prop := Kn P w K mg base "order" 40 pp34 (e3 (fun q : Kd × PyData × PyData => q.1.d) (fun q => q.2.1) (fun q => q.2.2)) (fun _ q => q.1.plain = true ∧ q.1.deep ≤ 8 ∧ (wide 100 q.2.1 = true ∧ val q.1 q.2.1) ∧ wide 100 q.2.2 = true ∧ val q.1 q.2.2) fun q y => y = .int (lord q.1 q.2.1 q.2.2)
abbrev ZeroK (P : Program) (w : World) (K : PySem.W.Frag) (mg : Str → Option Value) (base : Heap) : Prop := Kn P w K mg base "zero_of" 40 pp35 (e1 Kd.d) (fun _ k => k.ok = true ∧ k.group = true ∧ k.deep ≤ 8) fun k y => y = zeroD k
abbrev SumK (P : Program) (w : World) (K : PySem.W.Frag) (mg : Str → Option Value) (base : Heap) : Prop := Kn P w K mg base "sum_of" 40 pp36 (e3 (fun q : Kd × PyData × PyData => q.1.d) (fun q => q.2.1) (fun q => q.2.2)) (fun _ q => q.1.ok = true ∧ q.1.group = true ∧ q.1.deep ≤ 8 ∧ (wide 100 q.2.1 = true ∧ val q.1 q.2.1) ∧ wide 100 q.2.2 = true ∧ val q.1 q.2.2) fun q y => y = sumD q.1 q.2.1 q.2.2
abbrev OppK (P : Program) (w : World) (K : PySem.W.Frag) (mg : Str → Option Value) (base : Heap) : Prop := Kn P w K mg base "opposite" 40 pp37 (e2 (fun q : Kd × PyData => q.1.d) (fun q => q.2)) (fun _ q => q.1.ok = true ∧ q.1.group = true ∧ q.1.deep ≤ 8 ∧ wide 100 q.2 = true ∧ val q.1 q.2) fun q y => y = manyD (-1) q.1 q.2
abbrev ManyK (P : Program) (w : World) (K : PySem.W.Frag) (mg : Str → Option Value) (base : Heap) : Prop := Kn P w K mg base "many_of" 40 pp38 (e3 (fun q : Kd × Int × PyData => q.1.d) (fun q => .int q.2.1) (fun q => q.2.2)) (fun _ q => q.1.ok = true ∧ q.1.group = true ∧ q.1.deep ≤ 8 ∧ q.2.1.natAbs ≤ 10 ^ 10 ∧ wide 100 q.2.2 = true ∧ val q.1 q.2.2) fun q y => y = manyD q.2.1 q.1 q.2.2
/-- the support of a bag -/
def suppD (xs : List (PyData × Int)) : List PyData := (xs.filter fun q => decide (0 < q.2)).map fun q => pd (q.1, 1)
abbrev SuppK (P : Program) (w : World) (K : PySem.W.Frag) (mg : Str → Option Value) (base : Heap) : Prop := Kn P w K mg base "support_of" 40 pp41 (e2 (fun q : Kd × List (PyData × Int) => (Kd.bag q.1).d) (fun q => .tuple (q.2.map pd))) (fun _ q => q.1.plain = true ∧ q.1.deep ≤ 7 ∧ wide 100 (.tuple (q.2.map pd)) = true ∧ val (.bag q.1) (.tuple (q.2.map pd))) fun q y => y = .tuple (suppD q.2)
include C in
theorem kn_is_value (D : Df K mg "is_value" 33 pp33) : IsValK P w K mg base := by
  refine kn_df D sc33 (fun _ => rfl) nl2 ?_
  rintro f cdv A outer s H W ⟨k, d⟩ hr hq ⟨ho, hd, hw⟩
  refine sts_drop (ed_call k C.chkData (hr.mono (by omega)) hq rfl (eda_d (vd 0) eda_nil) ⟨ho, hd⟩ fun _ h => h) fun _ _ => ?_
  exact sts_retE (ed_call (k, d) C.valued (hr.mono (by omega)) hq rfl (eda_d (vd 0) (eda_d (vd 1) eda_nil)) ⟨ho, hd, hw⟩ fun _ h => h) rfl
include C in
theorem kn_order (D : Df K mg "order" 34 pp34) : OrderK P w K mg base := by
  refine kn_df D sc34 (fun _ => rfl) nl3 ?_
  rintro f cdv A outer s H W ⟨k, x, y⟩ hr hq ⟨hp, hd, ⟨wx, hx⟩, wy, hy⟩
  replace hd : k.deep ≤ 8 := hd
  have ho : k.ok = true := Kd.plain_ok hp
  replace hx : val k x := hx
  replace hy : val k y := hy
  have sx := val_shaped hx (by omega)
  have sy := val_shaped hy (by omega)
  refine sts_drop (e_chk C.that C.plain (hr.mono (by omega)) hq (vd 0) ho hd (by omega) (by omega) hp) fun _ _ => ?_
  refine sts_drop (ed_call (k, x) C.chkVal (hr.mono (by omega)) hq rfl (eda_d (vd 0) (eda_d (vd 1) eda_nil)) ⟨ho, hd, wx, hx⟩ fun _ h => h) fun _ _ => ?_
  refine sts_drop (ed_call (k, y) C.chkVal (hr.mono (by omega)) hq rfl (eda_d (vd 0) (eda_d (vd 2) eda_nil)) ⟨ho, hd, wy, hy⟩ fun _ h => h) fun _ _ => ?_
  have e0 : PyData.eqv x y = decide (lord k x y = 0) := eqv_lord hp hx hy
  by_cases h0 : lord k x y = 0
  · refine sts_yes (EdC.t (edc_eqD (ru hr) (vd 1) (vd 2) sx sy)) (sts_retE ed_int ?_) (by show PyData.eqv x y = true; rw [e0, h0]; rfl)
    show PyData.int 0 = _
    rw [h0]
  · refine sts_no (EdC.t (edc_eqD (ru hr) (vd 1) (vd 2) sx sy)) ?_ (by show PyData.eqv x y = false; rw [e0]; exact decide_eq_false h0)
    refine sts_retE (ed_if (EdC.t (edc_ltV (k := k) (ru hr) hp (by omega) hx hy (vd 1) (vd 2))) (fun _ => ed_neg ed_int) fun _ => ed_int) ?_
    show (if decide (lord k x y < 0) then PyData.int (-1) else PyData.int 1) = PyData.int (lord k x y)
    rcases lord_rng hp hx hy with h | h | h
    · rw [h]
      rfl
    · exact absurd h h0
    · rw [h]
      rfl
include C in
theorem kn_zero_of (D : Df K mg "zero_of" 35 pp35) (Z : Kn P w K mg base "zero_by" 8 pp25 (e1 Kd.d) (fun _ k => k.group = true ∧ k.deep ≤ 8) fun k y => y = zeroD k) : ZeroK P w K mg base := by
  refine kn_df D sc35 (fun _ => rfl) nl1 ?_
  rintro f cdv A outer s H W k hr hq ⟨ho, hg, hd⟩
  refine sts_drop (e_chk C.that C.group (hr.mono (by omega)) hq (vd 0) ho hd (by omega) (by omega) hg) fun _ _ => ?_
  exact sts_retE (ed_call k Z (hr.mono (by omega)) hq rfl (eda_d (vd 0) eda_nil) ⟨hg, hd⟩ fun _ h => h) rfl
include C in
theorem kn_sum_of (D : Df K mg "sum_of" 36 pp36) (m : Nat) (hm : m ≤ 20) (Z : Kn P w K mg base "plus_by" (8 + m + 1) pp29 (e2 (fun q : Kd × PyData × PyData => q.2.1) (fun q => q.2.2)) (fun _ q => q.1.ok = true ∧ q.1.group = true ∧ q.1.deep ≤ 8 ∧ q.1.deep ≤ 8 ∧ (val q.1 q.2.1 ∧ wide 100 q.2.1 = true) ∧ val q.1 q.2.2 ∧ wide 100 q.2.2 = true) fun q y => y = sumD q.1 q.2.1 q.2.2) : SumK P w K mg base := by
  refine kn_df D sc36 (fun _ => rfl) nl3 ?_
  rintro f cdv A outer s H W ⟨k, x, y⟩ hr hq ⟨ho, hg, hd, ⟨wx, hx⟩, wy, hy⟩
  replace hd : k.deep ≤ 8 := hd
  refine sts_drop (e_chk C.that C.group (hr.mono (by omega)) hq (vd 0) ho hd (by omega) (by omega) hg) fun _ _ => ?_
  refine sts_drop (ed_call (k, x) C.chkVal (hr.mono (by omega)) hq rfl (eda_d (vd 0) (eda_d (vd 1) eda_nil)) ⟨ho, hd, wx, hx⟩ fun _ h => h) fun _ _ => ?_
  refine sts_drop (ed_call (k, y) C.chkVal (hr.mono (by omega)) hq rfl (eda_d (vd 0) (eda_d (vd 2) eda_nil)) ⟨ho, hd, wy, hy⟩ fun _ h => h) fun _ _ => ?_
  exact sts_retE (ed_call (k, x, y) Z (hr.mono (by omega)) hq rfl (eda_d (vd 1) (eda_d (vd 2) eda_nil)) ⟨ho, hg, hd, hd, ⟨hx, wx⟩, hy, wy⟩ fun _ h => h) rfl
abbrev TimesK (P : Program) (w : World) (K : PySem.W.Frag) (mg : Str → Option Value) (base : Heap) : Prop := Kn P w K mg base "times_by" 9 pp30 (e2 (fun q : Kd × Int × PyData => .int q.2.1) (fun q => q.2.2)) (fun _ q => q.1.ok = true ∧ q.1.group = true ∧ q.1.deep ≤ 8 ∧ q.1.deep ≤ 8 ∧ q.2.1.natAbs ≤ 10 ^ 10 ∧ val q.1 q.2.2 ∧ wide 100 q.2.2 = true) fun q y => y = manyD q.2.1 q.1 q.2.2
include C in
theorem kn_opposite (D : Df K mg "opposite" 37 pp37) (Z : TimesK P w K mg base) : OppK P w K mg base := by
  refine kn_df D sc37 (fun _ => rfl) nl2 ?_
  rintro f cdv A outer s H W ⟨k, x⟩ hr hq ⟨ho, hg, hd, wx, hx⟩
  replace hd : k.deep ≤ 8 := hd
  refine sts_drop (e_chk C.that C.group (hr.mono (by omega)) hq (vd 0) ho hd (by omega) (by omega) hg) fun _ _ => ?_
  refine sts_drop (ed_call (k, x) C.chkVal (hr.mono (by omega)) hq rfl (eda_d (vd 0) (eda_d (vd 1) eda_nil)) ⟨ho, hd, wx, hx⟩ fun _ h => h) fun _ _ => ?_
  exact sts_retE (ed_call (k, -1, x) Z (hr.mono (by omega)) hq rfl (eda_d (ed_neg ed_int) (eda_d (vd 1) eda_nil)) ⟨ho, hg, hd, hd, by show (1 : Nat) ≤ _; decide, hx, wx⟩ fun _ h => h) rfl
include C in
theorem kn_many_of (D : Df K mg "many_of" 38 pp38) (Z : TimesK P w K mg base) : ManyK P w K mg base := by
  refine kn_df D sc38 (fun _ => rfl) nl3 ?_
  rintro f cdv A outer s H W ⟨k, i, x⟩ hr hq ⟨ho, hg, hd, hi, wx, hx⟩
  replace hd : k.deep ≤ 8 := hd
  refine sts_drop (e_chk C.that C.group (hr.mono (by omega)) hq (vd 0) ho hd (by omega) (by omega) hg) fun _ _ => ?_
  refine sts_drop (ed_call i C.chkWhole (hr.mono (by omega)) hq rfl (eda_d (vd 1) eda_nil) trivial fun _ h => h) fun _ _ => ?_
  refine sts_drop (ed_call (k, x) C.chkVal (hr.mono (by omega)) hq rfl (eda_d (vd 0) (eda_d (vd 2) eda_nil)) ⟨ho, hd, wx, hx⟩ fun _ h => h) fun _ _ => ?_
  exact sts_retE (ed_call (k, i, x) Z (hr.mono (by omega)) hq rfl (eda_d (vd 1) (eda_d (vd 2) eda_nil)) ⟨ho, hg, hd, hd, hi, hx, wx⟩ fun _ h => h) rfl
include C in
/-- check_kind_that(kind, is_bag) -/
theorem e_chkBag {b : Bs} {X : Cx} {ρ : Rho} {e : Expr} {pos p p2 : Pos} {a : Kd} (hX : X.prog = P ∧ X.w = w ∧ X.K = K ∧ X.mg = mg ∧ X.base = base) (hr : Room 9 X.A) (hq : X.A.guards = some []) (h : Ed X b e ρ (Kd.bag a).d) (hp : a.plain = true) (hd : a.deep ≤ 7) (hgl : Gl X "check_kind_that" := by rfl) (hgx : Gl X "is_bag" := by rfl) (hs : starEach [e, .Name "is_bag" p2] X.env = (false, eval e X.env) :: starEach [.Name "is_bag" p2] X.env := by rfl) (hs1 : starEach [.Name "is_bag" p2] X.env = (false, eval (.Name "is_bag" p2) X.env) :: starEach [] X.env := by rfl) (hpl : (backTo pos (starEach [.Name "is_bag" p2] X.env)).any (·.1) = false := by rfl) :
    Ed X b (.Call (.Name "check_kind_that" p) [e, .Name "is_bag" p2] [] pos) ρ .none := by
  obtain ⟨rfl, rfl, rfl, rfl, rfl⟩ := hX
  obtain ⟨f, fd, G, hm, hkp, bd, _⟩ := C.bag.ex
  refine ed_call (Kd.bag a, f) C.that hr hq hgl (eda_d h (eda_cons (evs_glob hgx hm (by decide)) eda_nil hs1) hs) ⟨hp, by simp only [Kd.deep]; omega, by simp only [Kd.deep]; omega, _, 100, ⟨fd, (G.mono (by omega)).imp fun vs H Q ⟨W, k, h1, h2, h3, h4⟩ => ⟨W, k, h1, h2, trivial, h4⟩, hkp, bd⟩, by simp only [Kd.deep]; omega, rfl⟩ (fun _ h => h) (by decide) hs hpl
include C in
theorem kn_support_of (D : Df K mg "support_of" 41 pp41) : SuppK P w K mg base := by
  refine kn_df D sc41 (fun _ => rfl) nl2 ?_
  rintro f cdv A outer s H W ⟨a, xs⟩ hr hq ⟨hp, hd, wx, hx⟩
  replace hd : a.deep ≤ 7 := hd
  have lx := (wide_tup.mp wx).1
  rw [List.length_map] at lx
  refine sts_drop (e_chkBag C ⟨rfl, rfl, rfl, rfl, rfl⟩ (hr.mono (by omega)) hq (vd 0) hp hd) fun _ _ => ?_
  refine sts_drop (ed_call (Kd.bag a, PyData.tuple (xs.map pd)) C.chkVal (hr.mono (by omega)) hq rfl (eda_d (vd 0) (eda_d (vd 1) eda_nil)) ⟨hp, by simp only [Kd.deep]; omega, wx, hx⟩ fun _ h => h) fun _ _ => ?_
  refine sts_retE (e_tuple C.bi (EvL.r (e_mapF2 2 3 (ga := (·.1)) (gb := fun q => .int q.2) (fun q => decide (0 < q.2)) (fun q : PyData × Int => pd (q.1, 1)) (i_tup (vd 1)) (by omega) (fun q hq s H C cl fp => EdC.t (edc_gt (vd 3) ed_int)) fun q hq _ s H C cl fp => e_tup (edd (vd 2) (edd ed_int edd0))))) rfl
end
end Lay
/-! PB7 -/
/-! name = [..]; both assigned at once -/
namespace Lay
open PySem PySem.Spec PyProof.Rows L2
section
variable {X : Cx} {b : Bs} {ρ : Rho} {iter elt c : Expr} {pos p spos py : Pos} {scope : Scope} {α : Type} {xs : List α} {gd : α → PyData} {rest : List Stmt} {K : Post}
/-- y = [elt for x in iter], x at slot i, y at slot j -/
theorem sts_map (i j : Nat) {x y : Str} (f : α → PyData) (hi : EvI X b false (.Name x p) iter ρ fun z => z = xs.map gd) (hl : xs.length ≤ 50000)
    (body : ∀ y ∈ xs, ∀ (s : Shared) (H : Hp) (C : Addr) (cl : List (Str × Addr)) (fp : List Addr), Ed (X.blk s H scope (compEnvC scope cl C X.env) fp) b elt ((ρ.set i none).set i (some (.d (gd y)))) (f y))
    (k : Sts X b rest (ρ.set j (some (.l true (xs.map f)))) K)
    (hc : X.calm = true := by rfl) (hN : decide X.N.Nodup = true := by kernel_rfl) (hb : blkC X.N X.env.scope scope [(x, i)] = true := by kernel_rfl) (hx : X.N[i]? = some x := by rfl) (hx2 : scope.names.lookup x = some .local := by rfl)
    (hy : X.N[j]? = some y := by rfl) (hyl : X.env.scope.names.lookup y = some .local := by rfl) (hk : X.env.scope.kind = .function := by rfl) (hln : (py.line == pos.line) = true := by rfl) (han : (scope.names.any fun (n, k) => n == y && (k == .local || k == .cell)) = false := by kernel_rfl)
    (hs : ∀ x, foldedSetIterable iter X.env x = pure x := by intro _; rfl) : Sts X b (.Assign [.Name y py] (.ListComp elt [⟨.Name x p, iter, [], 0⟩] scope pos) spos :: rest) ρ K := by
  refine sts_lc (own := [(x, i)]) (PL := fun z => z = (xs.filter fun _ => true).map f) hc (nd_by hN) (blkOk_by hb) hi (fun s H C cl fp => pg_name (i := i) (nd_by hN) hx (.inl (rel_loc hx2)) (.inr (rel_loc hx2))) (tg_name i) (fun j hj => hj) (map_body (fun _ => true) f hl (fun y hy => ⟨_, rfl, fun s H C cl fp => ⟨edts_nil, fun k => body y hy s H C cl fp⟩⟩)) hy hyl (sw_true hk hyl hln han) (fun ds e => ?_) hs
  rw [e, List.filter_eq_self.mpr (fun _ _ => rfl)]
  exact k
end
/-! ### name, name = e, e -/
section
variable {X : Cx} {b : Bs} {ρ : Rho} {e1 e2 : Expr} {pos p1 p2 p3 p4 : Pos} {k1 k2 : Nat} {rest : List Stmt} {K : Post} {i j : Nat} {x y : Str} {P Q : PyData → Prop}
end
end Lay
/-! PB8 -/
/-! name, name = e, e -/
namespace Lay
open PySem PySem.Spec PyProof.Rows L2
/-- a datum, or a new list -/
def NewS (H H' : Hp) (v : V) (s : S) : Prop := (∃ d, s = .d d ∧ Dn H' v d) ∨ ∃ p vs ds, s = .l true ds ∧ v = .ref p ∧ H p = none ∧ H' p = some (.lst vs) ∧ DnA H' vs ds
section
variable {X : Cx} {b : Bs} {ρ ρ' : Rho} {σ σ' : L2.St} {H H1 H2 H' : Hp} {v : V} {s : S} {i j : Nat}
theorem NewS.go (w0 : Wl b.W H) (h : NewS H H1 v s) (sb : SB b.W H1 H2) (w1 : Wl b.W H1) (w2 : Wl b.W H2) : NewS H H2 v s := by
  rcases h with ⟨d, e, r⟩ | ⟨p, vs, ds, e, ev, hp, hl, r⟩
  · exact .inl ⟨d, e, r.keep (kp_of sb w1 w2)⟩
  · exact .inr ⟨p, vs, ds, e, ev, hp, sb _ _ (w0.ne hp) hl, r.keep (kp_of sb w1 w2)⟩
theorem EnvOk.setN (ok0 : EnvOk b H σ ρ) (ok : EnvOk b H' σ ρ) (h : NewS H H' v s) : EnvOk b H' (σ.set i (some v)) (ρ.set i (some s)) := by
  rcases h with ⟨d, e, r⟩ | ⟨p, vs, ds, e, ev, hp, hl, r⟩
  · subst e
    exact ok.setD r
  · subst e ev
    exact ok0.setL ok hp hl r
theorem Go.setN (h : NewS H H' v s) (i : Nat) (kp : Kp H H') (sb : SB b.W H H') (w : Wl b.W H) (w' : Wl b.W H') : Go b ρ σ H (ρ.set i (some s)) (σ.set i (some v)) H' := by
  rcases h with ⟨d, e, r⟩ | ⟨p, vs, ds, e, ev, hp, hl, r⟩
  · subst e
    exact (Go.sb w w' sb).trans w' (.setD i v d)
  · subst e ev
    exact .setL hp i kp sb
namespace Quiet
@[scoped irreducible] def _root_.Lay.EvN (X : Cx) (b : Bs) (e : Expr) (ρ : Rho) (P : S → Prop) : Prop := ∀ σ H, EnvOk b H σ ρ → ∀ Q : VK, (∀ v H' s, SB b.W H H' → Wl b.W H' → NewS H H' v s → P s → Q v H') → Exp X e σ H Q
end Quiet
theorem Ev.n {e : Expr} {P : PyData → Prop} (h : Ev X b e ρ P) : EvN X b e ρ fun s => ∃ d, s = .d d ∧ P d := fun σ H ok Q q => h σ H ok Q fun v H' d s w r p => q v H' (.d d) s w (.inl ⟨d, rfl, r⟩) ⟨d, rfl, p⟩
theorem EvL.n {e : Expr} {P : List PyData → Prop} (h : EvL X b e ρ P) : EvN X b e ρ fun s => ∃ ds, s = .l true ds ∧ P ds := fun σ H ok Q q => h σ H ok Q fun p H' vs ds hn s w hp r z => q _ H' (.l true ds) s w (.inr ⟨p, vs, ds, rfl, rfl, hn, hp, r⟩) ⟨ds, rfl, z⟩
variable {e1 e2 e3 : Expr} {P1 P2 P3 : S → Prop} {K : Post} {rest : List Stmt} {x y z : Str} {px py pz pt pt2 pos : Pos} {kt k2 : Nat}
/-- x, y = e1, e2 with local names -/
theorem sts_par (i j : Nat) (hN : X.N.Nodup) (hij : i ≠ j) (h1 : EvN X b e1 ρ P1) (h2 : EvN X b e2 ρ P2) (k : ∀ s1 s2, P1 s1 → P2 s2 → Sts X b rest ((ρ.set i (some s1)).set j (some s2)) K)
    (hw : swappedStores [.Tuple [.Name x px, .Name y py] kt pt] (.Tuple [e1, e2] k2 pt2) X.env = pure (some [x, y]) := by rfl) (hc : X.calm = true := by rfl) (hi : X.N[i]? = some x := by rfl) (hj : X.N[j]? = some y := by rfl)
    (hx : X.env.scope.names.lookup x = some .local := by rfl) (hy : X.env.scope.names.lookup y = some .local := by rfl)
    (hs : swapsWithSole [.Tuple [.Name x px, .Name y py] kt pt] (.Tuple [e1, e2] k2 pt2) pos.line X.env = pure false := by rfl)
    (hs1 : starEach [e1, e2] X.env = (false, eval e1 X.env) :: starEach [e2] X.env := by rfl) (hs2 : starEach [e2] X.env = (false, eval e2 X.env) :: starEach [] X.env := by rfl) : Sts X b (.Assign [.Tuple [.Name x px, .Name y py] kt pt] (.Tuple [e1, e2] k2 pt2) pos :: rest) ρ K := by
  refine sts_cons fun σ H ok D t => ?_
  refine .of (ps_par hc hN hi hj hij hx hy paW hw hs) (exa_two (h1 σ H ok _ fun v1 H1 s1 sb1 w1 n1 p1 => h2 σ H1 (ok.go sb1 w1) _ fun v2 H2 s2 sb2 w2 n2 p2 => ?_) hs1 hs2)
  refine ⟨v1, v2, rfl, ?_⟩
  have ok1 := ok.go sb1 w1
  have okA : EnvOk b H1 (σ.set i (some v1)) (ρ.set i (some s1)) := ok.setN ok1 n1
  have okB : EnvOk b H2 _ _ := okA.setN (i := j) (okA.go sb2 w2) n2
  have goA : Go b ρ σ H (ρ.set i (some s1)) (σ.set i (some v1)) H1 := .setN n1 i (kp_of sb1 ok.wl w1) sb1 ok.wl w1
  exact t.nx _ _ _ (goA.trans w1 (.setN n2 j (kp_of sb2 w1 w2) sb2 w1 w2)) okB (k s1 s2 p1 p2)
/-- x, y = e1, e2 where a name is captured: over a pair -/
theorem sts_parC (i j : Nat) (hN : X.N.Nodup) (h1 : EvN X b e1 ρ P1) (h2 : EvN X b e2 ρ P2) (k : ∀ s1 s2, P1 s1 → P2 s2 → Sts X b rest ((ρ.set i (some s1)).set j (some s2)) K)
    (hw : swappedStores [.Tuple [.Name x px, .Name y py] kt pt] (.Tuple [e1, e2] k2 pt2) X.env = pure none := by rfl) (hc : X.calm = true := by rfl) (hi : X.N[i]? = some x := by rfl) (hj : X.N[j]? = some y := by rfl)
    (hx : Loc X.env.scope x := by first | exact .inl rfl | exact .inr rfl) (hy : Loc X.env.scope y := by first | exact .inl rfl | exact .inr rfl)
    (hf : X.fn x = true ∨ X.env.scope.names.lookup x = some .local := by first | exact .inl rfl | exact .inr rfl) (hf2 : X.fn y = true ∨ X.env.scope.names.lookup y = some .local := by first | exact .inl rfl | exact .inr rfl)
    (hs : swapsWithSole [.Tuple [.Name x px, .Name y py] kt pt] (.Tuple [e1, e2] k2 pt2) pos.line X.env = pure false := by rfl)
    (ha : (assignEach [.Tuple [.Name x px, .Name y py] kt pt] X.env).map (·.2) = [assign (.Tuple [.Name x px, .Name y py] kt pt) X.env] := by rfl)
    (hz : (assignEach [.Name x px, .Name y py] X.env).map (·.2) = assign (.Name x px) X.env :: (assignEach [.Name y py] X.env).map (·.2) := by rfl) (hz2 : (assignEach [.Name y py] X.env).map (·.2) = assign (.Name y py) X.env :: (assignEach [] X.env).map (·.2) := by rfl)
    (hn : (assignEach [.Name x px, .Name y py] X.env).length = 2 := by rfl) (hst : (assignEach [.Name x px, .Name y py] X.env).findIdx? (·.1) = none := by rfl)
    (hs1 : starEach [e1, e2] X.env = (false, eval e1 X.env) :: starEach [e2] X.env := by rfl) (hs2 : starEach [e2] X.env = (false, eval e2 X.env) :: starEach [] X.env := by rfl) : Sts X b (.Assign [.Tuple [.Name x px, .Name y py] kt pt] (.Tuple [e1, e2] k2 pt2) pos :: rest) ρ K := by
  refine sts_cons fun σ H ok D t => ?_
  refine .of (ps_asg (pe_tup paW) (pg_tup hc (pgs_cons (pg_name hN hi hx hf) (pgs_cons (pg_name hN hj hy hf2) pgs_nil hz2) hz) hn hst) hs hw ha) (exa_two (h1 σ H ok _ fun v1 H1 s1 sb1 w1 n1 p1 => h2 σ H1 (ok.go sb1 w1) _ fun v2 H2 s2 sb2 w2 n2 p2 => ?_) hs1 hs2)
  refine ⟨by show 2 ≤ sizeLine; decide, fun u hu => ⟨u, [v1, v2], rfl, SqT.of upd_same, rfl, v1, _, rfl, v2, _, rfl, rfl, ?_⟩⟩
  have sb3 : SB b.W H2 (upd H2 u (.tup [v1, v2])) := .new hu
  have w3 := w2.upd (o := .tup [v1, v2]) (w2.ne hu)
  have ok1 := ok.go sb1 w1
  have okA : EnvOk b H1 (σ.set i (some v1)) (ρ.set i (some s1)) := ok.setN ok1 n1
  have n2' := n2.go (b := b) w1 sb3 w2 w3
  have okB := okA.setN (i := j) (okA.go (sb2.trans sb3) w3) n2'
  have goA : Go b ρ σ H (ρ.set i (some s1)) (σ.set i (some v1)) H1 := .setN n1 i (kp_of sb1 ok.wl w1) sb1 ok.wl w1
  exact t.nx _ _ _ (goA.trans w1 (.setN n2' j (kp_of (sb2.trans sb3) w1 w3) (sb2.trans sb3) w1 w3)) okB (k s1 s2 p1 p2)
/-- x, y, z = e1, e2, e3 with local names -/
theorem sts_par3 (i j l : Nat) (hN : X.N.Nodup) (hij : i ≠ j) (hil : i ≠ l) (hjl : j ≠ l) (h1 : EvN X b e1 ρ P1) (h2 : EvN X b e2 ρ P2) (h3 : EvN X b e3 ρ P3) (k : ∀ s1 s2 s3, P1 s1 → P2 s2 → P3 s3 → Sts X b rest (((ρ.set i (some s1)).set j (some s2)).set l (some s3)) K)
    (hw : swappedStores [.Tuple [.Name x px, .Name y py, .Name z pz] kt pt] (.Tuple [e1, e2, e3] k2 pt2) X.env = pure (some [x, y, z]) := by rfl) (hc : X.calm = true := by rfl) (hi : X.N[i]? = some x := by rfl) (hj : X.N[j]? = some y := by rfl) (hl : X.N[l]? = some z := by rfl)
    (hx : X.env.scope.names.lookup x = some .local := by rfl) (hy : X.env.scope.names.lookup y = some .local := by rfl) (hz : X.env.scope.names.lookup z = some .local := by rfl)
    (hs : swapsWithSole [.Tuple [.Name x px, .Name y py, .Name z pz] kt pt] (.Tuple [e1, e2, e3] k2 pt2) pos.line X.env = pure false := by rfl)
    (hs1 : starEach [e1, e2, e3] X.env = (false, eval e1 X.env) :: starEach [e2, e3] X.env := by rfl) (hs2 : starEach [e2, e3] X.env = (false, eval e2 X.env) :: starEach [e3] X.env := by rfl) (hs3 : starEach [e3] X.env = (false, eval e3 X.env) :: starEach [] X.env := by rfl) :
    Sts X b (.Assign [.Tuple [.Name x px, .Name y py, .Name z pz] kt pt] (.Tuple [e1, e2, e3] k2 pt2) pos :: rest) ρ K := by
  refine sts_cons fun σ H ok D t => ?_
  refine .of (ps_par3 hc hN hi hj hl hij hil hjl hx hy hz (pa_cons peW (pa_cons peW (pa_cons peW pa_nil hs3) hs2) hs1) hw hs) (h1 σ H ok _ fun v1 H1 s1 sb1 w1 n1 p1 => h2 σ H1 (ok.go sb1 w1) _ fun v2 H2 s2 sb2 w2 n2 p2 => h3 σ H2 ((ok.go sb1 w1).go sb2 w2) _ fun v3 H3 s3 sb3 w3 n3 p3 => ?_)
  refine ⟨v1, v2, v3, rfl, ?_⟩
  have okA : EnvOk b H1 (σ.set i (some v1)) (ρ.set i (some s1)) := ok.setN (ok.go sb1 w1) n1
  have okB := okA.setN (i := j) (okA.go sb2 w2) n2
  have okC := okB.setN (i := l) (okB.go sb3 w3) n3
  have goA : Go b ρ σ H (ρ.set i (some s1)) (σ.set i (some v1)) H1 := .setN n1 i (kp_of sb1 ok.wl w1) sb1 ok.wl w1
  have goB := goA.trans w1 (Go.setN n2 j (kp_of sb2 w1 w2) sb2 w1 w2)
  exact t.nx _ _ _ (goB.trans w2 (.setN n3 l (kp_of sb3 w2 w3) sb3 w2 w3)) okC (k s1 s2 s3 p1 p2 p3)
end
section
variable {X : Cx} {b : Bs} {ρ : Rho} {K K' : Post} {ss rest body : List Stmt} {tg iter : Expr} {P : List PyData → Prop} {pos : Pos} {g : TG} {F : PyData → Rho → Rho → Prop} {sl : List Nat}
theorem Sts.imp (h : Sts X b ss ρ K) (hn : ∀ ρ', K.nx ρ' → K'.nx ρ') (hr : ∀ d, K.rt d → K'.rt d) (hb : ∀ ρ', K.bk ρ' → K'.bk ρ') (hl : ∀ ds, K.rl ds → K'.rl ds := by exact fun _ h => h) : Sts X b ss ρ K' := fun σ H ok D t =>
  h σ H ok D ⟨fun σ' H' ρ' g ok' k => t.nx σ' H' ρ' g ok' (hn _ k), fun v H' d s w r k => t.rt v H' d s w r (hr _ k), fun σ' H' ρ' g ok' k => t.bk σ' H' ρ' g ok' (hb _ k), fun p H' vs ds s w h0 hp r k => t.rl p H' vs ds s w h0 hp r (hl _ k)⟩
/-- a for that may be left: J holds behind it -/
theorem sts_forJ (hi : EvI X b true tg iter ρ P) (hc : X.calm = true) (hp : PassesOwn (model X.prog X.w) X.A X.env X.xe) (hg : PG X tg g) (ht : TgOk b g F sl)
    (loop : ∀ ds, P ds → ∃ (I : Nat → Rho → Prop) (J : Rho → Prop), I 0 ρ ∧ (∀ i d ρ', ds[i]? = some d → I i ρ' → ∃ ρ2, F d ρ' ρ2 ∧ Sts X b body ρ2 ⟨I (i + 1), K.rt, J, K.rl⟩) ∧ (∀ ρ', I ds.length ρ' → J ρ') ∧ ∀ ρ', J ρ' → Sts X b rest ρ' K)
    (hs : ∀ x, foldedSetIterable iter X.env x = pure x := by intro _; rfl) : Sts X b (.For tg iter body [] pos :: rest) ρ K := by
  refine sts_for hi hc hp hg ht (fun ds pd => ?_) hs
  obtain ⟨I, J, h0, h1, h2, h3⟩ := loop ds pd
  refine ⟨I, h0, fun i d ρ' hd hI => ?_, fun ρ' h => h3 ρ' (h2 ρ' h)⟩
  obtain ⟨ρ2, hF, hB⟩ := h1 i d ρ' hd hI
  exact ⟨ρ2, hF, hB.imp (fun _ h => h) (fun _ h => h) h3⟩
end
end Lay
/-! PC7 -/
/-! the walks: the law's own reckoning -/
namespace Lay
open Quiet
open PySem PySem.Spec PyProof.Rows L2
section
variable {P : Program} {w : World} {K : PySem.W.Frag} {mg : Str → Option Value} {base : Heap}
abbrev LOrdK (P : Program) (w : World) (K : PySem.W.Frag) (mg : Str → Option Value) (base : Heap) (n : Nat) : Prop := Kn P w K mg base "_law_order" n pp54 (e3 (fun q : Kd × PyData × PyData => q.1.d) (fun q => q.2.1) (fun q => q.2.2)) (fun _ q => q.1.plain = true ∧ q.1.deep ≤ n ∧ val q.1 q.2.1 ∧ val q.1 q.2.2) fun q y => y = .int (lord q.1 q.2.1 q.2.2)
theorem kn_law_order (B : Bi mg) (D : Df K mg "_law_order" 54 pp54) : ∀ n, LOrdK P w K mg base n
  | 0 => kn_void D fun W q h => by have := q.1.deep_pos; have := h.2.1; omega
  | n + 1 => by
    have ih := kn_law_order B D n
    refine kn_df D sc54 (fun _ => rfl) nl3 ?_
    rintro f cdv A outer s H W ⟨k, x, y⟩ hr hq ⟨hp, hd, hx, hy⟩
    replace hd : k.deep ≤ n + 1 := hd
    cases k with
    | unit => exact sts_yes (EdC.t (c_eqSk (e_at 0 (vd 0)) ed_str)) (sts_retE ed_int rfl)
    | num =>
      obtain ⟨i, rfl, _⟩ := hx
      obtain ⟨j, rfl, _⟩ := hy
      refine sts_no (EdC.t (c_eqSk (e_at 0 (vd 0)) ed_str)) ?_
      refine sts_yes (EdC.t (c_eqSk (e_at 0 (vd 0)) ed_str)) (sts_retE (ed_sub (e_intb B (EdC.v (edc_gt (vd 1) (vd 2)))) (e_intb B (EdC.v (edc_lt (vd 1) (vd 2))))) ?_)
      simp only [lord, decide_eq_true_eq]
    | pair a b =>
      simp only [Kd.deep] at hd
      simp only [Kd.plain, Bool.and_eq_true] at hp
      obtain ⟨x1, x2, rfl, hx1, hx2⟩ := hx
      obtain ⟨y1, y2, rfl, hy1, hy2⟩ := hy
      refine sts_no (EdC.t (c_eqSk (e_at 0 (vd 0)) ed_str)) ?_
      refine sts_no (EdC.t (c_eqSk (e_at 0 (vd 0)) ed_str)) ?_
      refine sts_yes (EdC.t (c_eqSk (e_at 0 (vd 0)) ed_str)) ?_
      refine sts_set sc54.nd (i := 3) rfl (.inl rfl) (ed_call (a, x1, y1) ih hr hq rfl (eda_d (e_at 1 (vd 0)) (eda_d (e_at 1 (vd 1)) (eda_d (e_at 1 (vd 2)) eda_nil))) ⟨hp.1, by show a.deep ≤ n; omega, hx1, hy1⟩ fun _ h => h) fun d0 h0 => ?_
      subst h0
      refine sts_retE (ed_if (EdC.t (c_neI (vd 3) ed_int)) (fun _ => vd 3) fun _ => ed_call (b, x2, y2) ih hr hq rfl (eda_d (e_at 2 (vd 0)) (eda_d (e_at 2 (vd 1)) (eda_d (e_at 2 (vd 2)) eda_nil))) ⟨hp.2, by show b.deep ≤ n; omega, hx2, hy2⟩ fun _ h => h) ?_
      simp only [lord, ne_eq, ite_not]
      by_cases z : lord a x1 y1 = 0
      · simp [z]
      · simp [z]
    | either a b =>
      simp only [Kd.deep] at hd
      simp only [Kd.plain, Bool.and_eq_true] at hp
      have n1 : ¬ (Str.ofString "left" = Str.ofString "right") := lr_ne
      have n2 : ¬ (Str.ofString "right" = Str.ofString "left") := fun e => lr_ne e.symm
      refine sts_no (EdC.t (c_eqSk (e_at 0 (vd 0)) ed_str)) ?_
      refine sts_no (EdC.t (c_eqSk (e_at 0 (vd 0)) ed_str)) ?_
      refine sts_no (EdC.t (c_eqSk (e_at 0 (vd 0)) ed_str)) ?_
      rcases hx with ⟨x1, rfl, hx1⟩ | ⟨x1, rfl, hx1⟩ <;> rcases hy with ⟨y1, rfl, hy1⟩ | ⟨y1, rfl, hy1⟩
      · refine sts_no (EdC.t (c_neSk (e_at 0 (vd 1)) (e_at 0 (vd 2)))) ?_
        refine sts_retE (ed_call (a, x1, y1) ih hr hq rfl (eda_d (ed_if (k := true) (EdC.t (c_eqSk (e_at 0 (vd 1)) ed_str)) (fun _ => e_at 1 (vd 0)) fun _ => e_at 2 (vd 0)) (eda_d (e_at 1 (vd 1)) (eda_d (e_at 1 (vd 2)) eda_nil))) ⟨hp.1, by show a.deep ≤ n; omega, hx1, hy1⟩ fun _ h => h) ?_
        simp only [lord, if_true]
      · refine sts_yes (EdC.t (c_neSk (e_at 0 (vd 1)) (e_at 0 (vd 2)))) (sts_retE (ed_if (k := true) (EdC.t (c_eqSk (e_at 0 (vd 1)) ed_str)) (fun _ => ed_neg ed_int) fun _ => ed_int) ?_)
        simp only [lord, if_true, n1, if_false]
      · refine sts_yes (EdC.t (c_neSk (e_at 0 (vd 1)) (e_at 0 (vd 2)))) (sts_retE (ed_if (k := false) (EdC.t (c_eqSk (e_at 0 (vd 1)) ed_str)) (fun _ => ed_neg ed_int) fun _ => ed_int) ?_)
        simp only [lord, if_true, n2, if_false]
        rfl
      · refine sts_no (EdC.t (c_neSk (e_at 0 (vd 1)) (e_at 0 (vd 2)))) ?_
        refine sts_retE (ed_call (b, x1, y1) ih hr hq rfl (eda_d (ed_if (k := false) (EdC.t (c_eqSk (e_at 0 (vd 1)) ed_str)) (fun _ => e_at 1 (vd 0)) fun _ => e_at 2 (vd 0)) (eda_d (e_at 1 (vd 1)) (eda_d (e_at 1 (vd 2)) eda_nil))) ⟨hp.2, by show b.deep ≤ n; omega, hx1, hy1⟩ fun _ h => h) ?_
        simp only [lord, if_true, n2, if_false]
    | bag a => simp [Kd.plain] at hp
theorem kn_law_zero (D : Df K mg "_law_zero" 59 pp59) : ∀ n, Kn P w K mg base "_law_zero" n pp59 (e1 Kd.d) (fun _ k => k.group = true ∧ k.deep ≤ n) fun k y => y = zeroD k
  | 0 => kn_void D fun W k h => by have := k.deep_pos; have := h.2; omega
  | n + 1 => by
    have ih := kn_law_zero D n
    refine kn_df D sc59 (fun _ => rfl) nl1 ?_
    rintro f cdv A outer s H W k hr hq ⟨hg, hd⟩
    cases k with
    | num => exact sts_no (EdC.t (c_eqSk (e_at 0 (vd 0)) ed_str)) (sts_retE (ed_if (k := true) (EdC.t (c_eqSk (e_at 0 (vd 0)) ed_str)) (fun _ => ed_int) fun _ => e_tup edd0) rfl)
    | bag a => exact sts_no (EdC.t (c_eqSk (e_at 0 (vd 0)) ed_str)) (sts_retE (ed_if (k := false) (EdC.t (c_eqSk (e_at 0 (vd 0)) ed_str)) (fun _ => ed_int) fun _ => e_tup edd0) rfl)
    | pair a b =>
      simp only [Kd.deep] at hd
      simp only [Kd.group, Bool.and_eq_true] at hg
      refine sts_yes (EdC.t (c_eqSk (e_at 0 (vd 0)) ed_str)) ?_
      exact sts_retE (e_tup (edd ed_str (edd (ed_call a ih hr hq rfl (eda_d (e_at 1 (vd 0)) eda_nil) ⟨hg.1, by show a.deep ≤ n; omega⟩ fun _ h => h) (edd (ed_call b ih hr hq rfl (eda_d (e_at 2 (vd 0)) eda_nil) ⟨hg.2, by show b.deep ≤ n; omega⟩ fun _ h => h) edd0)))) rfl
    | _ => simp [Kd.group] at hg
theorem kn_law_many (B : Bi mg) (D : Df K mg "_law_many" 61 pp61) : ∀ n, Kn P w K mg base "_law_many" n pp61 (e3 (fun q : Kd × Int × PyData => q.1.d) (fun q => .int q.2.1) (fun q => q.2.2)) (fun _ q => q.1.ok = true ∧ q.1.group = true ∧ q.1.deep ≤ n ∧ q.2.1.natAbs ≤ 10 ^ 10 ∧ val q.1 q.2.2 ∧ wide 100 q.2.2 = true) fun q y => y = manyD q.2.1 q.1 q.2.2
  | 0 => kn_void D fun W q h => by have := q.1.deep_pos; have := h.2.2.1; omega
  | n + 1 => by
    have ih := kn_law_many B D n
    refine kn_df D sc61 (fun _ => rfl) nl3 ?_
    rintro f cdv A outer s H W ⟨k, i, x⟩ hr hq ⟨ho, hg, hd, hi, hx, wx⟩
    replace hi : i.natAbs ≤ 10 ^ 10 := hi
    have hcm : ∀ j : Int, CMul i j := fun j => .inl ⟨by omega, by omega⟩
    cases k with
    | num =>
      obtain ⟨j, rfl, _⟩ := hx
      exact sts_yes (EdC.t (c_eqSk (e_at 0 (vd 0)) ed_str)) (sts_retE (ed_mul (hcm j) (vd 1) (vd 2)) rfl)
    | pair a b =>
      simp only [Kd.deep] at hd
      simp only [Kd.group, Kd.ok, Bool.and_eq_true] at hg ho
      obtain ⟨x1, x2, rfl, hx1, hx2⟩ := hx
      have w1 := (wide_tup.mp wx).2
      refine sts_no (EdC.t (c_eqSk (e_at 0 (vd 0)) ed_str)) ?_
      refine sts_no (EdC.t (c_eqSk (e_at 0 (vd 0)) ed_str)) ?_
      exact sts_retE (e_tup (edd ed_str (edd (ed_call (a, i, x1) ih hr hq rfl (eda_d (e_at 1 (vd 0)) (eda_d (vd 1) (eda_d (e_at 1 (vd 2)) eda_nil))) ⟨ho.1, hg.1, by show a.deep ≤ n; omega, hi, hx1, w1 x1 (by simp)⟩ fun _ h => h)
        (edd (ed_call (b, i, x2) ih hr hq rfl (eda_d (e_at 2 (vd 0)) (eda_d (vd 1) (eda_d (e_at 2 (vd 2)) eda_nil))) ⟨ho.2, hg.2, by show b.deep ≤ n; omega, hi, hx2, w1 x2 (by simp)⟩ fun _ h => h) edd0)))) rfl
    | bag a =>
      obtain ⟨xs, rfl, _, hx, hs1⟩ := hx
      have lx := (wide_tup.mp wx).1
      rw [List.length_map] at lx
      refine sts_no (EdC.t (c_eqSk (e_at 0 (vd 0)) ed_str)) ?_
      refine sts_yes (EdC.t (c_eqSk (e_at 0 (vd 0)) ed_str)) (sts_retE (ed_if (EdC.t (c_neI (vd 1) ed_int)) (fun _ => e_tuple B (EvL.r (e_map2 3 4 (ga := (·.1)) (gb := fun q => .int q.2) (fun q : PyData × Int => pd (q.1, i * q.2)) (i_tup (vd 2)) (by omega) fun q hq s H C cl fp => ?_))) fun _ => e_tup edd0) ?_)
      · exact e_tup (edd (vd 3) (edd (ed_mul (hcm q.2) (vd 1) (vd 4)) edd0))
      · show _ = manyD i (.bag a) (.tuple (xs.map pd))
        simp only [manyD]
        by_cases h0 : i = 0
        · simp [h0]
        · simp only [h0, decide_false, Bool.not_false, if_true, ne_eq, not_false_eq_true, List.map_map]
          rfl
    | _ => simp [Kd.group] at hg
/-- a tuple of so many, its first a text -/
def headed (d : PyData) (n : Int) : Bool := match d with
  | .tuple ds => decide ((ds.length : Int) = n) && (match ds with | .str _ :: _ => true | _ => false)
  | _ => false
theorem kn_law_is_headed (B : Bi mg) (D : Df K mg "_law_is_headed" 53 pp53) : Kn P w K mg base "_law_is_headed" 1 pp53 (e2 (fun q : PyData × Int => q.1) (fun q => .int q.2)) (fun _ q => 1 ≤ q.2) fun q y => y = .bool (headed q.1 q.2) := by
  refine kn_df D sc53 (fun _ => rfl) nl2 ?_
  rintro f cdv A outer s H W ⟨d, n⟩ hr hq hn
  replace hn : 1 ≤ n := hn
  cases d with
  | tuple ds =>
    refine sts_retE (ed_andT (e_isTup B (vd 0)) (ed_and (j := match ds with | .str _ :: _ => true | _ => false) (EdC.v (c_eqI (e_len B (vd 0)) (vd 1))) fun h => ?_)) rfl
    cases ds with
    | nil =>
      have h : ((([] : List PyData).length : Nat) : Int) = n := of_decide_eq_true h
      simp at h
      omega
    | cons x xs =>
      refine ed_one (ed_castB (e_isStr B (e_at 0 (vd 0))) ?_)
      cases x <;> rfl
  | _ => exact sts_retE (ed_andF (e_isTup B (vd 0))) rfl
end
end Lay
/-! PC8 -/
/-! the walks: the law's bag -/
namespace Lay
open PySem PySem.Spec PyProof.Rows L2
section
variable {X : Cx} {b : Bs} {ρ : Rho} {e e2 : Expr} {pos p apos : Pos}
/-- xs.count(k) of ints -/
theorem e_count {ns : List Int} {k : Int} (h : EvR X b e ρ fun z => z = ns.map .int) (ha : Ed X b e2 ρ (.int k)) (hbase : attributeBase e "count" X.env (eval e X.env) = eval e X.env := by rfl)
    (hfew : ((backTo pos (starEach [e2] X.env)).all (fun x => !x.1) && (backToKw pos (keywordEach [] X.env)).all (fun x => x.1.isSome) && decide (([e2] : List Expr).length + ([] : List Keyword).length + (if ([] : List Keyword).isEmpty then 0 else 1) < 30)) = true := by rfl)
    (hline : (apos.endLine == pos.line) = true := by rfl) (hs : starEach [e2] X.env = (false, eval e2 X.env) :: starEach [] X.env := by rfl) (hplain : (backTo pos (starEach [] X.env)).any (·.1) = false := by rfl) : Ed X b (.Call (.Attribute e "count" apos) [e2] [] pos) ρ (.int (ns.count k : Nat)) :=
  ed_count h ha fun t u h1 h2 => pe_bm PySem.F.plainAttrs_list PySem.F.slot_list_count PySem.F.type_list_count mt_lcount h1 (pa_cons h2 pa_nil hs) hbase hfew hline hs hplain
/-- xs[i] of a list -/
theorem e_ixL {ds : List PyData} {j : Int} {y : PyData} (ha : EvR X b e ρ fun z => z = ds) (hb : Ed X b e2 ρ (.int j)) (h : atI ds j = some y) (hs : PlainIx e2 := by exact fun _ _ => rfl) : Ed X b (.Subscript e e2 pos) ρ y := ev_ixL ha hb (fun _ _ h1 h2 => ⟨j, y, h2, by rw [h1]; exact h, rfl⟩) hs
theorem inD_ints (k : Int) : ∀ ns : List Int, inD (.int k) (ns.map PyData.int) = decide (k ∈ ns)
  | [] => rfl
  | n :: ns => by
    have := inD_ints k ns
    unfold inD at this ⊢
    rw [List.map_cons, List.any_cons, this]
    by_cases h : n = k
    · simp [eqD, h]
    · simp [eqD, h, Ne.symm h]
end
theorem ins_at {C : Nat → Prop} {I : Int → Prop} {k : Kd} (hp : k.plain = true) {ps fs : List (PyData × Int)} (h : Held C I k ps fs) {x : PyData} (hx : vok C I k x) (h0 : (0 : Int) ∈ fs.map fun e => lord k e.1 x) : (fs.map fun e => lord k e.1 x).count (-1) < fs.length := by
  obtain ⟨ls, ms, rs, e, h1, h2, h3⟩ := split_at hp hx h.ok h.srt
  have hok := h.ok
  rw [e] at hok h0 ⊢
  obtain ⟨c1, c2⟩ := count_at hp hx h1 (fun e he => hok e (List.mem_append_left _ he)) h2 h3
  have := c2.mp h0
  rw [c1]
  rcases h3 with rfl | ⟨n, rfl⟩
  · exact absurd rfl this
  · simp only [List.length_append, List.length_cons]
    omega
section
variable {P : Program} {w : World} {K : PySem.W.Frag} {mg : Str → Option Value} {base : Heap}
/-- pairs, as a tuple or as a list -/
def rowS (t : Bool) (xs : List (PyData × Int)) : S := if t then .d (.tuple (xs.map pd)) else .l false (xs.map pd)
theorem i_row {X : Cx} {b : Bs} {ρ : Rho} {tg : Expr} {pos : Pos} {x : Str} {ps : List (PyData × Int)} (i : Nat) (t : Bool) (h : ρ[i]? = some (some (rowS t ps))) (hN : X.N[i]? = some x := by rfl) (hv : Vis X.env.scope x := by first | exact Or.inl rfl | exact Or.inr (Or.inl rfl) | exact Or.inr (Or.inr rfl))
    (hd : (x == ("__debug__" : Str)) = false := by decide) (hcd : (x == ("__classdict__" : Str)) = false := by decide) : EvI X b true tg (.Name x pos) ρ fun z => z = ps.map pd := by
  cases t with
  | true => exact evi_tup ((ed_var h hN hv hd hcd).imp fun d hd => ⟨_, hd, rfl⟩)
  | false => exact evi_var (i := i) h hN hv hd hcd
/-- x, y as a target in a frame -/
theorem gp_twoF {x y : Str} {i j : Nat} {kt : Nat} {p1 p2 p3 : Pos} {X : Cx} (hc : X.calm = true) (hN : X.N.Nodup) (hx : X.N[i]? = some x) (hy : X.N[j]? = some y) (hx2 : Loc X.env.scope x := by first | exact .inl rfl | exact .inr rfl) (hy2 : Loc X.env.scope y := by first | exact .inl rfl | exact .inr rfl)
    (hf : X.fn x = true ∨ X.env.scope.names.lookup x = some .local := by first | exact .inl rfl | exact .inr rfl) (hf2 : X.fn y = true ∨ X.env.scope.names.lookup y = some .local := by first | exact .inl rfl | exact .inr rfl) :
    PG X (.Tuple [.Name x p1, .Name y p2] kt p3) (gTup X.K 2 (gCons (gName i) (gCons (gName j) gNil))) :=
  pg_tup hc (pgs_cons (pg_name hN hx hx2 hf) (pgs_cons (pg_name hN hy hy2 hf2) pgs_nil (by rfl)) (by rfl)) (by rfl) (by rfl)
/-- xs.insert(k, e) -/
theorem st_insert {X : Cx} {b : Bs} {ρ : Rho} {e e2 : Expr} {pos p2 apos : Pos} {x : Str} {K : Post} {rest : List Stmt} {i k : Nat} {ds : List PyData} {d : PyData} (hi : ρ[i]? = some (some (.l true ds))) (hk : Ed X b e ρ (.int k)) (hkn : k ≤ 1000000) (h : Ed X b e2 ρ d) (hz : ds.length < 100000)
    (kk : Sts X b rest (ρ.set i (some (.l true (ds.take k ++ [d] ++ ds.drop k)))) K) (hN : X.N[i]? = some x := by rfl) (hv : Vis X.env.scope x := by first | exact Or.inl rfl | exact Or.inr (Or.inl rfl) | exact Or.inr (Or.inr rfl)) (hd : (x == ("__debug__" : Str)) = false := by decide) (hcd : (x == ("__classdict__" : Str)) = false := by decide)
    (hbase : attributeBase (.Name x p2) "insert" X.env (eval (.Name x p2) X.env) = eval (.Name x p2) X.env := by rfl)
    (hfew : ((backTo pos (starEach [e, e2] X.env)).all (fun x => !x.1) && (backToKw pos (keywordEach [] X.env)).all (fun x => x.1.isSome) && decide (([e, e2] : List Expr).length + ([] : List Keyword).length + (if ([] : List Keyword).isEmpty then 0 else 1) < 30)) = true := by rfl)
    (hline : (apos.endLine == pos.line) = true := by rfl) (hst : starEach [e, e2] X.env = (false, eval e X.env) :: starEach [e2] X.env := by rfl) (hst2 : starEach [e2] X.env = (false, eval e2 X.env) :: starEach [] X.env := by rfl) (hplain : (backTo pos (starEach [e2] X.env)).any (·.1) = false := by rfl)
    (hs : swapsWith (.Call (.Attribute (.Name x p2) "insert" apos) [e, e2] [] pos) none pos.line X.env = pure false := by rfl) : Sts X b (.Expr (.Call (.Attribute (.Name x p2) "insert" apos) [e, e2] [] pos) pos :: rest) ρ K :=
  sts_insert hN hv hi hk hkn h hz (fun d' e => by rw [e]; exact kk) (fun t u h1 h2 => pe_bm PySem.F.plainAttrs_list PySem.F.slot_list_insert PySem.F.type_list_insert mt_insert (pe_var hN hv hd hcd) (pa_cons h1 (pa_cons h2 pa_nil hst2) hst) hbase hfew hline hst hplain) hs
abbrev LBagK (P : Program) (w : World) (K : PySem.W.Frag) (mg : Str → Option Value) (base : Heap) (n : Nat) : Prop := Kn P w K mg base "_law_bag" (n + 1) pp55 (fun q : Kd × Bool × List (PyData × Int) => [.d q.1.d, rowS q.2.1 q.2.2]) (fun _ q => q.1.plain = true ∧ q.1.deep ≤ n ∧ q.2.2.length ≤ 1000 ∧ ∀ e ∈ q.2.2, val q.1 e.1) fun q y => y = .tuple ((bagN q.1 q.2.2).map pd)
theorem kn_law_bag (B : Bi mg) (D : Df K mg "_law_bag" 55 pp55) (n : Nat) (F : LOrdK P w K mg base n) : LBagK P w K mg base n := by
  refine kn_df D sc55 (fun _ => rfl) (fun q s hs c e => ?_) ?_
  · rcases List.mem_cons.mp hs with z | z
    · rw [z] at e
      cases e
    · rcases List.mem_cons.mp z with z | z
      · rw [z] at e
        unfold rowS at e
        split at e <;> cases e
      · cases z
  rintro f cdv A outer s H W ⟨k, t, ps⟩ hr hq ⟨hp, hd, hl, hv⟩
  replace hd : k.deep ≤ n := hd
  replace hl : ps.length ≤ 1000 := hl
  replace hv : ∀ e ∈ ps, val k e.1 := hv
  refine sts_setL sc55.nd (i := 2) rfl (.inl rfl) (e_lst edd0) fun ds0 h0 => ?_
  subst h0
  refine sts_for (P := fun z => z = ps.map pd) (i_row 1 t rfl) rfl .never (gp_twoF rfl sc55.nd rfl rfl) (tg_two (K := K) 3 4) fun ds e => ?_
  subst e
  refine ⟨fun i ρ => ∃ s3 s4 s5 s6, ρ = [some (.d k.d), some (rowS t ps), some (.l true ((insAll k (ps.take i)).map pd)), s3, s4, s5, s6, none], ⟨_, _, _, _, rfl⟩, ?_, ?_⟩
  · rintro i d ρ' hi ⟨s3, s4, s5, s6, rfl⟩
    rw [List.getElem?_map] at hi
    cases hpi : ps[i]? with
    | none => rw [hpi] at hi; cases hi
    | some q =>
      rw [hpi] at hi
      cases hi
      obtain ⟨x, m⟩ := q
      have hmem := List.mem_of_getElem? hpi
      have hx : val k x := hv _ hmem
      have Hd := insAll_held hp (C := fun _ => True) (I := fun _ => True) (ps.take i) fun q hq => hv q (List.mem_of_mem_take hq)
      generalize hfs : insAll k (ps.take i) = fs at Hd ⊢
      have lfs : fs.length ≤ 1000 := by
        have h1 := Hd.len
        rw [List.length_take] at h1
        omega
      have nxt : insAll k (ps.take (i + 1)) = ins k fs (x, m) := by
        rw [List.take_succ, hpi, ← hfs]
        exact insAll_snoc _ _
      refine ⟨_, ⟨x, .int m, rfl, rfl⟩, ?_⟩
      refine sts_map 7 5 (gd := pd) (fun e => .int (lord k e.1 x)) (evi_R (vl 2)) (by omega) (fun e he s H C cl fp => ?_) ?_
      · exact ed_call (k, e.1, x) F hr hq rfl (eda_d (vd 0) (eda_d (e_at 0 (vd 7)) (eda_d (vd 3) eda_nil))) ⟨hp, hd, Hd.ok e he, hx⟩ fun _ h => h
      · have esd : fs.map (fun e => PyData.int (lord k e.1 x)) = (fs.map fun e => lord k e.1 x).map .int := by rw [List.map_map]; rfl
        rw [esd]
        refine sts_set sc55.nd (i := 6) rfl (.inl rfl) (e_count (vl 5) (ed_neg ed_int)) fun d0 h0 => ?_
        subst h0
        refine sts_if (EdC.t (edc_inL ed_int (vl 5) rfl ?_)) (fun h => ?_) fun h => ?_
        · rw [List.all_eq_true]
          intro d hd
          obtain ⟨j, _, rfl⟩ := List.mem_map.mp hd
          rfl
        · have h0 : (0 : Int) ∈ fs.map fun e => lord k e.1 x := by
            rw [inD_ints] at h
            exact of_decide_eq_true h.symm
          have hlt := ins_at hp Hd hx h0
          generalize hc : (fs.map fun e => lord k e.1 x).count (-1) = c at hlt ⊢
          have hg : (fs.map pd)[c]? = some (pd (fs.getD c (x, m))) := by
            rw [List.getElem?_map, List.getElem?_eq_getElem hlt, List.getD_eq_getElem?_getD, List.getElem?_eq_getElem hlt]
            rfl
          refine sts_setitem (i := 2) (k := c) rfl (.inl rfl) rfl (e_tup (edd (vd 3) (edd (ed_add (e_at 1 (e_ixL (vl 2) (vd 6) (atI_nat hg))) (vd 4)) edd0))) (vd 6) (by rw [List.length_map]; exact hlt) fun d hd => ?_
          subst hd
          refine sts_nil (sts_nil ⟨some (.d x), some (.d (.int m)), some (.l true ((fs.map fun e => lord k e.1 x).map .int)), some (.d (.int (c : Nat))), ?_⟩)
          have e2 : insAll k (ps.take (i + 1)) = fs.set c (x, (fs.getD c (x, m)).2 + m) := by
            rw [nxt]
            unfold ins
            simp only [hc]
            rw [if_pos h0]
          rw [e2, List.map_set]
          rfl
        · have h0 : ¬ (0 : Int) ∈ fs.map fun e => lord k e.1 x := by
            rw [inD_ints] at h
            exact of_decide_eq_false h.symm
          generalize hc : (fs.map fun e => lord k e.1 x).count (-1) = c
          have hcl : c ≤ 1000 := by
            rw [← hc]
            refine Nat.le_trans List.count_le_length ?_
            rw [List.length_map]
            exact lfs
          refine st_insert (i := 2) (k := c) rfl (vd 6) (by omega) (e_tup (edd (vd 3) (edd (vd 4) edd0))) (by rw [List.length_map]; omega) ?_
          refine sts_nil (sts_nil ⟨some (.d x), some (.d (.int m)), some (.l true ((fs.map fun e => lord k e.1 x).map .int)), some (.d (.int (c : Nat))), ?_⟩)
          have e2 : insAll k (ps.take (i + 1)) = fs.take c ++ [(x, m)] ++ fs.drop c := by
            rw [nxt]
            unfold ins
            simp only [hc]
            rw [if_neg h0]
          rw [e2, List.map_append, List.map_append, List.map_take, List.map_drop]
          rfl
  · rintro ρ' ⟨s3, s4, s5, s6, rfl⟩
    rw [List.length_map, List.take_length]
    have lfs : (insAll k ps).length ≤ 1000 := Nat.le_trans (insAll_held hp (C := fun _ => True) (I := fun _ => True) ps hv).len hl
    refine sts_retE (e_tuple B (EvL.r (e_mapF 7 (fun e : PyData × Int => !decide (e.2 = 0)) pd (evi_R (vl 2)) (by omega) (fun e he s H C cl fp => EdC.t (c_neI (e_at 1 (vd 7)) ed_int)) fun e he _ s H C cl fp => vd 7))) ?_
    show PyData.tuple _ = PyData.tuple ((bagN k ps).map pd)
    unfold bagN
    congr 2
    refine List.filter_congr fun e _ => ?_
    simp
end
end Lay
/-! PC9 -/
/-! the walks: the law's sum, the law's look at values -/
namespace Lay
open Quiet
open PySem PySem.Spec PyProof.Rows L2
section
variable {X : Cx} {b : Bs} {ρ : Rho} {e e2 : Expr} {pos p : Pos}
/-- range(lo, n) -/
theorem i_range2 {tg : Expr} {nn : Bool} {lo n : Nat} {z : List PyData} (B : Bi X.mg) (ha : Ed X b e ρ (.int lo)) (hb : Ed X b e2 ρ (.int n)) (hl : lo ≤ 1000000) (hn : n ≤ 1000000) (hz : z = rangeD lo (n - lo)) (hg : Gl X "range" := by rfl) (hs : starEach [e, e2] X.env = [(false, eval e X.env), (false, eval e2 X.env)] := by rfl)
    (hs2 : starEach [e2] X.env = [(false, eval e2 X.env)] := by rfl) (hs3 : starEach [e, e2] X.env = (false, eval e X.env) :: starEach [e2] X.env := by rfl) (hs4 : starEach [e2] X.env = (false, eval e2 X.env) :: starEach [] X.env := by rfl) : EvI X b nn tg (.Call (.Name "range" p) [e, e2] [] pos) ρ fun y => y = z :=
  evi_range2 hg B.range ha (hb.imp fun d h => ⟨n, h, hn, fun a ea => ⟨lo, ea, hl, hz.symm⟩⟩) hs hs2 hs3 hs4
/-- range(n) -/
theorem i_range1 {tg : Expr} {nn : Bool} {n : Nat} (B : Bi X.mg) (hb : Ed X b e ρ (.int n)) (hn : n ≤ 1000000) (hg : Gl X "range" := by rfl) (hs : starEach [e] X.env = [(false, eval e X.env)] := by rfl) (hs1 : starEach [e] X.env = (false, eval e X.env) :: starEach [] X.env := by rfl) : EvI X b nn tg (.Call (.Name "range" p) [e] [] pos) ρ fun y => y = rangeD 0 n :=
  evi_range1 hg B.range (hb.imp fun d h => ⟨n, h, hn, rfl⟩) hs hs1
end
theorem asc_range (a : Kd) (xs : List (PyData × Int)) (z : PyData × Int) : ((List.range (xs.length - 1)).filter fun j => decide (0 ≤ lord a (xs.getD j z).1 (xs.getD (j + 1) z).1)).isEmpty = ascD a (xs.map pd) := by
  rw [Bool.eq_iff_iff, List.isEmpty_iff, List.filter_eq_nil_iff]
  unfold ascD
  rw [List.all_eq_true]
  constructor
  · intro h q hq
    obtain ⟨j, hj⟩ := List.mem_iff_getElem?.mp hq
    obtain ⟨p1, p2⟩ := q
    obtain ⟨h1, h2⟩ := List.getElem?_zip_eq_some.mp hj
    rw [List.getElem?_map] at h1
    rw [List.getElem?_tail, List.getElem?_map] at h2
    cases e1 : xs[j]? with
    | none => rw [e1] at h1; cases h1
    | some q1 =>
      cases e2 : xs[j + 1]? with
      | none => rw [e2] at h2; cases h2
      | some q2 =>
        rw [e1] at h1
        rw [e2] at h2
        cases h1
        cases h2
        have hlt := (List.getElem?_eq_some_iff.mp e2).1
        have := h j (List.mem_range.mpr (by omega))
        rw [List.getD_eq_getElem?_getD, List.getD_eq_getElem?_getD, e1, e2] at this
        refine decide_eq_true ?_
        show lord a q1.1 q2.1 < 0
        have : ¬ 0 ≤ lord a q1.1 q2.1 := by simpa using this
        omega
  · intro h j hj
    have hj := List.mem_range.mp hj
    have h1 : xs[j]? = some (xs.getD j z) := by rw [List.getD_eq_getElem?_getD, List.getElem?_eq_getElem (by omega)]; rfl
    have h2 : xs[j + 1]? = some (xs.getD (j + 1) z) := by rw [List.getD_eq_getElem?_getD, List.getElem?_eq_getElem (by omega)]; rfl
    have := h (pd (xs.getD j z), pd (xs.getD (j + 1) z)) (List.mem_of_getElem? (i := j) (List.getElem?_zip_eq_some.mpr ⟨by rw [List.getElem?_map, h1]; rfl, by rw [List.getElem?_tail, List.getElem?_map, h2]; rfl⟩))
    have : lord a (xs.getD j z).1 (xs.getD (j + 1) z).1 < 0 := of_decide_eq_true this
    simp only [decide_eq_true_eq]
    omega
section
variable {P : Program} {w : World} {K : PySem.W.Frag} {mg : Str → Option Value} {base : Heap}
theorem kn_law_sum (D : Df K mg "_law_sum" 60 pp60) (m : Nat) (F : LBagK P w K mg base m) : ∀ n, n ≤ m → Kn P w K mg base "_law_sum" (n + m + 1) pp60 (e3 (fun q : Kd × PyData × PyData => q.1.d) (fun q => q.2.1) (fun q => q.2.2)) (fun _ q => q.1.ok = true ∧ q.1.group = true ∧ q.1.deep ≤ n ∧ (val q.1 q.2.1 ∧ wide 100 q.2.1 = true) ∧ val q.1 q.2.2 ∧ wide 100 q.2.2 = true) fun q y => y = sumD q.1 q.2.1 q.2.2
  | 0, _ => kn_void D fun W q h => by have := q.1.deep_pos; have := h.2.2.1; omega
  | n + 1, hn => by
    have ih := kn_law_sum D m F n (by omega)
    have e : n + 1 + m + 1 = (n + m + 1) + 1 := by omega
    rw [e]
    refine kn_df D sc60 (fun _ => rfl) nl3 ?_
    rintro f cdv A outer s H W ⟨k, x, y⟩ hr hq ⟨ho, hg, hd, ⟨hx, wx⟩, hy, wy⟩
    cases k with
    | num =>
      obtain ⟨i, rfl, _⟩ := hx
      obtain ⟨j, rfl, _⟩ := hy
      exact sts_yes (EdC.t (c_eqSk (e_at 0 (vd 0)) ed_str)) (sts_retE (ed_add (vd 1) (vd 2)) rfl)
    | pair a b =>
      simp only [Kd.deep] at hd
      simp only [Kd.group, Kd.ok, Bool.and_eq_true] at hg ho
      obtain ⟨x1, x2, rfl, hx1, hx2⟩ := hx
      obtain ⟨y1, y2, rfl, hy1, hy2⟩ := hy
      have w1 := (wide_tup.mp wx).2
      have w2 := (wide_tup.mp wy).2
      refine sts_no (EdC.t (c_eqSk (e_at 0 (vd 0)) ed_str)) ?_
      refine sts_no (EdC.t (c_eqSk (e_at 0 (vd 0)) ed_str)) ?_
      exact sts_retE (e_tup (edd ed_str (edd (ed_call (a, x1, y1) ih hr hq rfl (eda_d (e_at 1 (vd 0)) (eda_d (e_at 1 (vd 1)) (eda_d (e_at 1 (vd 2)) eda_nil))) ⟨ho.1, hg.1, by show a.deep ≤ n; omega, ⟨hx1, w1 x1 (by simp)⟩, hy1, w2 y1 (by simp)⟩ fun _ h => h)
        (edd (ed_call (b, x2, y2) ih hr hq rfl (eda_d (e_at 2 (vd 0)) (eda_d (e_at 2 (vd 1)) (eda_d (e_at 2 (vd 2)) eda_nil))) ⟨ho.2, hg.2, by show b.deep ≤ n; omega, ⟨hx2, w1 x2 (by simp)⟩, hy2, w2 y2 (by simp)⟩ fun _ h => h) edd0)))) rfl
    | bag a =>
      simp only [Kd.deep] at hd
      simp only [Kd.ok] at ho
      obtain ⟨xs, rfl, _, hx, hs1⟩ := hx
      obtain ⟨ys, rfl, _, hy, _⟩ := hy
      have lx := (wide_tup.mp wx).1
      have ly := (wide_tup.mp wy).1
      rw [List.length_map] at lx ly
      refine sts_no (EdC.t (c_eqSk (e_at 0 (vd 0)) ed_str)) ?_
      refine sts_yes (EdC.t (c_eqSk (e_at 0 (vd 0)) ed_str)) (sts_retE (ed_call (a, true, xs ++ ys) F (hr.mono (by omega)) hq rfl (eda_d (e_at 1 (vd 0)) (eda_d (ed_cast (ed_cat (vd 1) (vd 2) (by rw [List.length_map, List.length_map]; omega)) (by rw [List.map_append])) eda_nil)) ⟨ho, by show a.deep ≤ m; omega, by show (xs ++ ys).length ≤ 1000; rw [List.length_append]; omega, fun e he => ?_⟩ fun _ h => h) ?_)
      · rcases List.mem_append.mp he with z | z
        · exact (hx e z).1
        · exact (hy e z).1
      · show _ = PyData.tuple ((bagN a ((xs.map pd ++ ys.map pd).map unpd)).map pd)
        rw [List.map_append, unpd_map, unpd_map]
    | _ => simp [Kd.group] at hg
abbrev LV (n : Nat) : Nat := 2 * n + 10
abbrev LValK (P : Program) (w : World) (K : PySem.W.Frag) (mg : Str → Option Value) (base : Heap) (n : Nat) : Prop := Kn P w K mg base "_law_is_value" (LV n) pp57 (e2 (fun q : Kd × PyData => q.1.d) (·.2)) (fun _ q => q.1.ok = true ∧ q.1.deep ≤ n ∧ wide 100 q.2 = true) fun q y => y = .bool (valued q.1 q.2)
abbrev HeadK (P : Program) (w : World) (K : PySem.W.Frag) (mg : Str → Option Value) (base : Heap) : Prop := Kn P w K mg base "_law_is_headed" 1 pp53 (e2 (fun q : PyData × Int => q.1) (fun q => .int q.2)) (fun _ q => 1 ≤ q.2) fun q y => y = .bool (headed q.1 q.2)
theorem kn_law_is_bag (B : Bi mg) (D : Df K mg "_law_is_bag" 58 pp58) (n : Nat) (hn : n ≤ 9) (hw : WholeK P w K mg base "_law_is_whole" "_law_thing") (hv : LValK P w K mg base n) (ho : LOrdK P w K mg base n) :
    Kn P w K mg base "_law_is_bag" (LV n + 1) pp58 (e2 (fun q : Kd × PyData => q.1.d) (·.2)) (fun _ q => q.1.plain = true ∧ q.1.deep ≤ n ∧ wide 100 q.2 = true) fun q y => y = .bool (valued (.bag q.1) q.2) := by
  refine kn_df D sc58 (fun _ => rfl) nl2 ?_
  rintro f cdv A outer s H W ⟨a, d⟩ hr hq ⟨hp, hd, hwd⟩
  replace hd : a.deep ≤ n := hd
  replace hp : a.plain = true := hp
  have hao := Kd.plain_ok hp
  have r1 : Room 1 (A.deeper (envOfC "_law_is_bag" (defScope (PH.top 58)) s.heap.objs.size f cdv)) := hr.mono (by unfold LV; omega)
  cases d with
  | tuple ds =>
    obtain ⟨hl, hw2⟩ := wide_tup.mp hwd
    refine sts_no (edt_notF (t_tup B (vd 1))) ?_
    refine sts_for (P := fun z => z = ds) (evi_tup ((vd 1).imp fun d hd => ⟨ds, hd, rfl⟩)) rfl .never (pg_name (i := 2) sc58.nd rfl (by first | exact .inl rfl | exact .inr rfl)) (tg_name 2) fun ds' e => ?_
    subst e
    refine ⟨fun i ρ => (∀ p ∈ ds'.take i, (counted (valued a) p && nzD p) = true) ∧ ∃ s2, ρ = [some (.d a.d), some (.d (.tuple ds')), s2, none], ⟨by simp, none, rfl⟩, ?_, ?_⟩
    · rintro i p ρ' hi ⟨hall, s2, rfl⟩
      have hm := List.mem_of_getElem? hi
      have bad : (counted (valued a) p && nzD p) = false → valued (.bag a) (.tuple ds') = false := fun h => by
        have : (ds'.all fun p => counted (valued a) p && nzD p) = false := by
          rw [List.all_eq_false]
          exact ⟨p, hm, by simp [h]⟩
        simp only [valued, this, Bool.false_and]
      have good : (counted (valued a) p && nzD p) = true → ∀ q ∈ ds'.take (i + 1), (counted (valued a) q && nzD q) = true := fun h q hq' => by
        rw [List.take_succ, hi] at hq'
        rcases List.mem_append.mp hq' with z | z
        · exact hall q z
        · simp at z
          rw [z]
          exact h
      refine ⟨_, rfl, ?_⟩
      have rb : (counted (valued a) p && nzD p) = false → PyData.bool false = PyData.bool (valued (.bag a) (.tuple ds')) := fun h => by rw [bad h]
      cases p with
      | tuple qs =>
        match qs, hm with
        | [], _ => exact sts_yes (EdW.t (edw_orF (edt_notF (t_tup B (vd 2))) (edw_orT (EdC.t (c_neI (e_len B (vd 2)) ed_int))))) (sts_retE ed_bl (rb rfl))
        | [x], _ => exact sts_yes (EdW.t (edw_orF (edt_notF (t_tup B (vd 2))) (edw_orT (EdC.t (c_neI (e_len B (vd 2)) ed_int))))) (sts_retE ed_bl (rb rfl))
        | x :: y :: z :: qs, _ =>
          have h3 : (!decide ((((x :: y :: z :: qs).length : Nat) : Int) = 2)) = true := by
            rw [decide_eq_false (by simp only [List.length_cons]; omega)]
            rfl
          exact sts_yes (EdW.t (edw_orF (edt_notF (t_tup B (vd 2))) (edw_orT (EdC.t (c_neIk (e_len B (vd 2)) ed_int h3))))) (sts_retE ed_bl (rb rfl))
        | [x, y], hm =>
          have wx : wide 100 x = true := (wide_tup.mp (hw2 _ hm)).2 x (by simp)
          cases hvx : valued a x with
          | false =>
            refine sts_yes (EdW.t (edw_orF (edt_notF (t_tup B (vd 2))) (edw_orF (EdC.t (c_neI (e_len B (vd 2)) ed_int)) (edw_or1 (edt_notT (edt_val (ed_call (a, x) (d := .bool false) hv (hr.mono (by omega)) hq rfl (eda_d (vd 0) (eda_d (e_at 0 (vd 2)) eda_nil)) ⟨hao, hd, wx⟩ fun y h => by rw [h, hvx]))))))) (sts_retE ed_bl (rb ?_))
            simp [counted, hvx]
          | true =>
            refine sts_no (EdW.t (edw_orF (edt_notF (t_tup B (vd 2))) (edw_orF (EdC.t (c_neI (e_len B (vd 2)) ed_int)) (edw_or1 (edt_notF (edt_val (ed_call (a, x) (d := .bool true) hv (hr.mono (by omega)) hq rfl (eda_d (vd 0) (eda_d (e_at 0 (vd 2)) eda_nil)) ⟨hao, hd, wx⟩ fun y h => by rw [h, hvx]))))))) ?_
            cases hwy : whole y with
            | false =>
              refine sts_yes (EdW.t (edw_orT (edt_notT (edt_val (ed_call y (d := .bool false) hw r1 hq rfl (eda_d (e_at 1 (vd 2)) eda_nil) trivial fun z h => by rw [h, hwy]))))) (sts_retE ed_bl (rb ?_))
              simp [counted, hwy]
            | true =>
              obtain ⟨m, rfl⟩ := whole_iff.mp hwy
              cases hm0 : decide (m = 0) with
              | true =>
                refine sts_yes (EdW.t (edw_orF (edt_notF (edt_val (ed_call (.int m) (d := .bool true) hw r1 hq rfl (eda_d (e_at 1 (vd 2)) eda_nil) trivial fun z h => by rw [h]; rfl))) (edw_or1 (EdC.t (c_eqIk (e_at 1 (vd 2)) ed_int hm0))))) (sts_retE ed_bl (rb ?_))
                simp only [nzD, hm0, Bool.not_true, Bool.and_false]
              | false =>
                refine sts_no (EdW.t (edw_orF (edt_notF (edt_val (ed_call (.int m) (d := .bool true) hw r1 hq rfl (eda_d (e_at 1 (vd 2)) eda_nil) trivial fun z h => by rw [h]; rfl))) (edw_or1 (EdC.t (c_eqIk (e_at 1 (vd 2)) ed_int hm0))))) (sts_nil ⟨good ?_, _, rfl⟩)
                simp only [counted, nzD, hvx, hm0, whole, Bool.and_self, Bool.not_false]
      | _ => exact sts_yes (EdW.t (edw_orT (edt_notT (t_tup B (vd 2))))) (sts_retE ed_bl (rb rfl))
    · rintro ρ' ⟨hall, s2, rfl⟩
      rw [List.take_length] at hall
      have hall2 : (ds'.all fun p => counted (valued a) p && nzD p) = true := List.all_eq_true.mpr hall
      obtain ⟨xs, rfl, hx⟩ := pairs_of hall2
      rw [List.length_map] at hl
      have hvx : ∀ q ∈ xs, val a q.1 := fun q hq => (valued_iff hao).mp (hx q hq).1
      have hat : ∀ (j : Nat), j < xs.length → (xs.map pd)[j]? = some (pd (xs.getD j (.none, 0))) ∧ val a (xs.getD j (.none, 0)).1 := fun j hj => by
        have h1 : xs[j]? = some (xs.getD j (.none, 0)) := by rw [List.getD_eq_getElem?_getD, List.getElem?_eq_getElem hj]; rfl
        exact ⟨by rw [List.getElem?_map, h1]; rfl, hvx _ (List.mem_of_getElem? h1)⟩
      refine sts_retE (EdC.v (c_eqL0 (ru hr) (EvL.r (e_mapF 3 (xs := List.range (xs.length - 1)) (gd := fun j : Nat => .int (((1 : Nat) : Int) + (j : Nat))) (fun j => decide (0 ≤ lord a (xs.getD j (.none, 0)).1 (xs.getD (j + 1) (.none, 0)).1)) (fun j : Nat => .int (((1 : Nat) : Int) + (j : Nat))) (i_range2 (lo := 1) (n := xs.length) B ed_int (ed_cast (e_len B (vd 1)) (by rw [List.length_map])) (by omega) (by omega) rfl) (by rw [List.length_range]; omega) (fun j hj s H C cl fp => ?_) fun j hj _ s H C cl fp => vd 3)) (e_lst edd0))) ?_
      · have hj := List.mem_range.mp hj
        obtain ⟨g1, v1⟩ := hat j (by omega)
        obtain ⟨g2, v2⟩ := hat (j + 1) (by omega)
        have e1 : ((1 : Nat) : Int) + (j : Nat) - 1 = (j : Int) := by omega
        have e2 : ((1 : Nat) : Int) + (j : Nat) = ((j + 1 : Nat) : Int) := by omega
        refine EdC.t (edc_ge (ed_call (a, (xs.getD j (.none, 0)).1, (xs.getD (j + 1) (.none, 0)).1) ho (hr.mono (by unfold LV; omega)) hq rfl (eda_d (vd 0) (eda_d (e_at 0 (ed_ix (vd 1) (ed_sub (vd 3) ed_int) (by rw [e1]; exact atI_nat g1))) (eda_d (e_at 0 (ed_ix (vd 1) (vd 3) (by rw [e2]; exact atI_nat g2))) eda_nil))) ⟨hp, hd, v1, v2⟩ fun _ h => h) ed_int)
      · have := asc_range a xs (.none, 0)
        show PyData.bool (List.map _ _).isEmpty = _
        rw [List.isEmpty_map, this]
        simp only [valued, hall2, Bool.true_and]
  | _ => exact sts_yes (edt_notT (t_tup B (vd 1))) (sts_retE ed_bl rfl)
theorem headed_true {d : PyData} {n : Int} (h : headed d n = true) : ∃ t ds, d = .tuple (.str t :: ds) ∧ ((ds.length + 1 : Nat) : Int) = n := by
  unfold headed at h
  split at h
  · rename_i ds
    rw [Bool.and_eq_true] at h
    obtain ⟨h1, h2⟩ := h
    split at h2
    · exact ⟨_, _, rfl, by simpa using of_decide_eq_true h1⟩
    · cases h2
  · cases h
theorem kn_law_is_value_step (B : Bi mg) (D : Df K mg "_law_is_value" 57 pp57) (n : Nat) (hw : WholeK P w K mg base "_law_is_whole" "_law_thing") (hh : HeadK P w K mg base) (hv : LValK P w K mg base n)
    (hb : Kn P w K mg base "_law_is_bag" (LV n + 1) pp58 (e2 (fun q : Kd × PyData => q.1.d) (·.2)) (fun _ q => q.1.plain = true ∧ q.1.deep ≤ n ∧ wide 100 q.2 = true) fun q y => y = .bool (valued (.bag q.1) q.2)) : LValK P w K mg base (n + 1) := by
  refine kn_df D sc57 (fun _ => rfl) nl2 ?_
  rintro f cdv A outer s H W ⟨k, d⟩ hr hq ⟨ho, hd, hwd⟩
  replace hd : k.deep ≤ n + 1 := hd
  replace ho : k.ok = true := ho
  replace hwd : wide 100 d = true := hwd
  have r1 : Room 1 (A.deeper (envOfC "_law_is_value" (defScope (PH.top 57)) s.heap.objs.size f cdv)) := hr.mono (by omega)
  have r2 : Room (LV n) (A.deeper (envOfC "_law_is_value" (defScope (PH.top 57)) s.heap.objs.size f cdv)) := hr.mono (by unfold LV; omega)
  have g3 : (1 : Int) ≤ 3 := by decide
  have g2 : (1 : Int) ≤ 2 := by decide
  cases k with
  | unit =>
    refine sts_yes (EdC.t (c_eqSk (e_at 0 (vd 0)) ed_str)) ?_
    cases d with
    | tuple ds =>
      refine sts_retE (ed_andT (e_isTup B (vd 1)) (ed_one (EdC.v (c_eqI (e_len B (vd 1)) ed_int)))) ?_
      cases ds with
      | nil => rfl
      | cons x xs =>
        show PyData.bool (decide ((((x :: xs).length : Nat) : Int) = 0)) = PyData.bool false
        rw [decide_eq_false (by simp only [List.length_cons]; omega)]
    | _ => exact sts_retE (ed_andF (e_isTup B (vd 1))) rfl
  | num =>
    refine sts_no (EdC.t (c_eqSk (e_at 0 (vd 0)) ed_str)) ?_
    exact sts_yes (EdC.t (c_eqSk (e_at 0 (vd 0)) ed_str)) (sts_retE (ed_call d hw r1 hq rfl (eda_d (vd 1) eda_nil) trivial fun _ h => h) rfl)
  | pair a b =>
    simp only [Kd.deep] at hd
    simp only [Kd.ok, Bool.and_eq_true] at ho
    refine sts_no (EdC.t (c_eqSk (e_at 0 (vd 0)) ed_str)) ?_
    refine sts_no (EdC.t (c_eqSk (e_at 0 (vd 0)) ed_str)) ?_
    refine sts_yes (EdC.t (c_eqSk (e_at 0 (vd 0)) ed_str)) ?_
    cases hhd : headed d 3 with
    | false =>
      refine sts_yes (EdW.t (edw_orT (edt_notT (edt_val (ed_call (d, 3) (d := .bool false) hh r1 hq rfl (eda_d (vd 1) (eda_d ed_int eda_nil)) g3 fun y h => by rw [h, ← hhd]))))) (sts_retE ed_bl ?_)
      show PyData.bool false = PyData.bool _
      cases hv' : valued (.pair a b) d with
      | false => rfl
      | true =>
        obtain ⟨x, y, rfl, _⟩ := (valued_iff (k := .pair a b) (by simp [Kd.ok, ho])).mp hv'
        cases hhd
    | true =>
      obtain ⟨t, ds, rfl, hl⟩ := headed_true hhd
      match ds, hl with
      | [x, y], _ =>
        have wx : wide 100 x = true := (wide_tup.mp hwd).2 x (by simp)
        have wy : wide 100 y = true := (wide_tup.mp hwd).2 y (by simp)
        cases ht : decide (t = Str.ofString "pair") with
        | false =>
          refine sts_yes (EdW.t (edw_orF (edt_notF (edt_val (ed_call (.tuple [.str t, x, y], 3) (d := .bool true) hh r1 hq rfl (eda_d (vd 1) (eda_d ed_int eda_nil)) g3 fun y h => h.trans rfl))) (edw_or1 (EdC.t (c_neSk (e_at 0 (vd 1)) ed_str (by first | (rw [ht]; done) | (rw [ht]; rfl))))))) (sts_retE ed_bl ?_)
          simp only [valued, ht, Bool.false_and]
        | true =>
          refine sts_no (EdW.t (edw_orF (edt_notF (edt_val (ed_call (.tuple [.str t, x, y], 3) (d := .bool true) hh r1 hq rfl (eda_d (vd 1) (eda_d ed_int eda_nil)) g3 fun y h => h.trans rfl))) (edw_or1 (EdC.t (c_neSk (e_at 0 (vd 1)) ed_str (by first | (rw [ht]; done) | (rw [ht]; rfl))))))) ?_
          refine sts_retE (ed_and (ed_call (a, x) hv r2 hq rfl (eda_d (e_at 1 (vd 0)) (eda_d (e_at 1 (vd 1)) eda_nil)) ⟨ho.1, by show a.deep ≤ n; omega, wx⟩ fun _ h => h) fun _ => ed_one (ed_call (b, y) hv r2 hq rfl (eda_d (e_at 2 (vd 0)) (eda_d (e_at 2 (vd 1)) eda_nil)) ⟨ho.2, by show b.deep ≤ n; omega, wy⟩ fun _ h => h)) ?_
          simp only [valued, ht, Bool.true_and]
      | [], h => simp at h
      | [x], h => simp at h
      | x :: y :: z :: ds, h => simp at h; omega
  | either a b =>
    simp only [Kd.deep] at hd
    simp only [Kd.ok, Bool.and_eq_true] at ho
    refine sts_no (EdC.t (c_eqSk (e_at 0 (vd 0)) ed_str)) ?_
    refine sts_no (EdC.t (c_eqSk (e_at 0 (vd 0)) ed_str)) ?_
    refine sts_no (EdC.t (c_eqSk (e_at 0 (vd 0)) ed_str)) ?_
    refine sts_yes (EdC.t (c_eqSk (e_at 0 (vd 0)) ed_str)) ?_
    cases hhd : headed d 2 with
    | false =>
      refine sts_yes (EdW.t (edw_orT (edt_notT (edt_val (ed_call (d, 2) (d := .bool false) hh r1 hq rfl (eda_d (vd 1) (eda_d ed_int eda_nil)) g2 fun y h => by rw [h, ← hhd]))))) (sts_retE ed_bl ?_)
      show PyData.bool false = PyData.bool _
      cases hv' : valued (.either a b) d with
      | false => rfl
      | true =>
        rcases (valued_iff (k := .either a b) (by simp [Kd.ok, ho])).mp hv' with ⟨x, rfl, _⟩ | ⟨x, rfl, _⟩ <;> cases hhd
    | true =>
      obtain ⟨t, ds, rfl, hl⟩ := headed_true hhd
      match ds, hl with
      | [x], _ =>
        have wx : wide 100 x = true := (wide_tup.mp hwd).2 x (by simp)
        by_cases hl : t = "left"
        · subst hl
          refine sts_no (EdW.t (edw_orF (edt_notF (edt_val (ed_call (.tuple [.str "left", x], 2) (d := .bool true) hh r1 hq rfl (eda_d (vd 1) (eda_d ed_int eda_nil)) g2 fun y h => h.trans rfl))) (edw_or1 (EdC.t (edc_nin (e_at 0 (vd 1)) (e_tup (edd ed_str (edd ed_str edd0))) rfl rfl))))) ?_ (by kernel_rfl)
          refine sts_retE (ed_call (a, x) hv r2 hq rfl (eda_d (ed_if (k := true) (EdC.t (c_eqSk (e_at 0 (vd 1)) ed_str)) (fun _ => e_at 1 (vd 0)) fun _ => e_at 2 (vd 0)) (eda_d (e_at 1 (vd 1)) eda_nil)) ⟨ho.1, by show a.deep ≤ n; omega, wx⟩ fun _ h => h) ?_
          simp only [valued, if_true]
        · by_cases hrt : t = "right"
          · subst hrt
            refine sts_no (EdW.t (edw_orF (edt_notF (edt_val (ed_call (.tuple [.str "right", x], 2) (d := .bool true) hh r1 hq rfl (eda_d (vd 1) (eda_d ed_int eda_nil)) g2 fun y h => h.trans rfl))) (edw_or1 (EdC.t (edc_nin (e_at 0 (vd 1)) (e_tup (edd ed_str (edd ed_str edd0))) rfl rfl))))) ?_ (by kernel_rfl)
            refine sts_retE (ed_call (b, x) hv r2 hq rfl (eda_d (ed_if (k := false) (EdC.t (c_eqSk (e_at 0 (vd 1)) ed_str)) (fun _ => e_at 1 (vd 0)) fun _ => e_at 2 (vd 0)) (eda_d (e_at 1 (vd 1)) eda_nil)) ⟨ho.2, by show b.deep ≤ n; omega, wx⟩ fun _ h => h) ?_
            simp only [valued, if_true, if_neg hl]
          · have hin : (!inD (.str t) [.str "left", .str "right"]) = true := by
              simp only [inD, List.any_cons, List.any_nil, eqD, Bool.or_false, Bool.not_eq_true', Bool.or_eq_false_iff, decide_eq_false_iff_not]
              exact ⟨fun e => hl e.symm, fun e => hrt e.symm⟩
            refine sts_yes (EdW.t (edw_orF (edt_notF (edt_val (ed_call (.tuple [.str t, x], 2) (d := .bool true) hh r1 hq rfl (eda_d (vd 1) (eda_d ed_int eda_nil)) g2 fun y h => h.trans rfl))) (edw_or1 (EdC.t (edc_nin (e_at 0 (vd 1)) (e_tup (edd ed_str (edd ed_str edd0))) rfl rfl))))) (sts_retE ed_bl ?_) hin
            simp only [valued, if_neg hl, if_neg hrt]
      | [], h => simp at h
      | x :: y :: ds, h => simp at h; omega
  | bag a =>
    simp only [Kd.deep] at hd
    refine sts_no (EdC.t (c_eqSk (e_at 0 (vd 0)) ed_str)) ?_
    refine sts_no (EdC.t (c_eqSk (e_at 0 (vd 0)) ed_str)) ?_
    refine sts_no (EdC.t (c_eqSk (e_at 0 (vd 0)) ed_str)) ?_
    refine sts_no (EdC.t (c_eqSk (e_at 0 (vd 0)) ed_str)) ?_
    exact sts_retE (ed_call (a, d) hb (hr.mono (by unfold LV; omega)) hq rfl (eda_d (e_at 1 (vd 0)) (eda_d (vd 1) eda_nil)) ⟨ho, by show a.deep ≤ n; omega, hwd⟩ fun _ h => h) rfl
theorem kn_law_is_value (B : Bi mg) (Dw : Df K mg "_law_is_whole" 52 pp52) (Dh : Df K mg "_law_is_headed" 53 pp53) (Do : Df K mg "_law_order" 54 pp54) (D : Df K mg "_law_is_value" 57 pp57) (D2 : Df K mg "_law_is_bag" 58 pp58) : ∀ n, n ≤ 10 → LValK P w K mg base n
  | 0, _ => kn_void D fun W q h => by
    have := q.1.deep_pos
    have := h.2.1
    omega
  | n + 1, hn => by
    have ih := kn_law_is_value B Dw Dh Do D D2 n (by omega)
    exact kn_law_is_value_step B D n (kn_law_is_whole B Dw) (kn_law_is_headed B Dh) ih (kn_law_is_bag B D2 n (by omega) (kn_law_is_whole B Dw) ih (kn_law_order B Do n))
end
end Lay
/-! PD1 -/
/-! the walks: the draws -/
namespace Lay
open PySem PySem.Spec PyProof.Rows L2
/-- some int -/
def isI (d : PyData) : Prop := ∃ i : Int, d = .int i
/-- some int below n -/
def isB (n : Int) (d : PyData) : Prop := ∃ i : Nat, d = .int (i : Nat) ∧ ((i : Nat) : Int) < n
section
variable {X : Cx} {b : Bs} {ρ : Rho} {e e2 : Expr} {pos p : Pos} {Pa Pb P : PyData → Prop}
theorem Ed.i {n : Int} (h : Ed X b e ρ (.int n)) : Ev X b e ρ isI := h.imp fun d hd => ⟨n, hd⟩
theorem isB.i {n : Int} {d : PyData} (h : isB n d) : isI d := by
  obtain ⟨i, e, _⟩ := h
  exact ⟨_, e⟩
theorem i_add (ha : Ev X b e ρ isI) (hb : Ev X b e2 ρ isI) : Ev X b (.BinOp e .Add e2 pos) ρ isI := ev_opI0 op_add ha hb fun _ _ ⟨i, h1⟩ ⟨j, h2⟩ => ⟨i, j, h1, h2, _, rfl⟩
theorem i_sub (ha : Ev X b e ρ isI) (hb : Ev X b e2 ρ isI) : Ev X b (.BinOp e .Sub e2 pos) ρ isI := ev_opI0 op_sub ha hb fun _ _ ⟨i, h1⟩ ⟨j, h2⟩ => ⟨i, j, h1, h2, _, rfl⟩
/-- a * b, a not too wide -/
theorem i_mul (ha : Ev X b e ρ fun d => ∃ i : Int, d = .int i ∧ -(2 ^ 64) < i ∧ i < 2 ^ 64) (hb : Ev X b e2 ρ isI) : Ev X b (.BinOp e .Mult e2 pos) ρ isI := ev_opI op_mul ha hb fun _ _ ⟨i, h1, h3, h4⟩ ⟨j, h2⟩ => ⟨i, j, h1, h2, .inl ⟨h3, h4⟩, _, rfl⟩
/-- .. b not too wide -/
theorem i_mulR (ha : Ev X b e ρ isI) (hb : Ev X b e2 ρ fun d => ∃ i : Int, d = .int i ∧ -(2 ^ 64) < i ∧ i < 2 ^ 64) : Ev X b (.BinOp e .Mult e2 pos) ρ isI := ev_opI op_mul ha hb fun _ _ ⟨i, h1⟩ ⟨j, h2, h3, h4⟩ => ⟨i, j, h1, h2, .inr ⟨h3, h4⟩, _, rfl⟩
theorem i_mod {n : Int} (hn : 0 < n) (ha : Ev X b e ρ isI) (hb : Ed X b e2 ρ (.int n)) : Ev X b (.BinOp e .Mod e2 pos) ρ (isB n) := ev_opI op_mod ha hb fun _ _ ⟨i, h1⟩ h2 => ⟨i, n, h1, h2, hn, (i % n).toNat, by
  have h0 := Int.emod_nonneg i (show n ≠ 0 by omega)
  rw [Int.toNat_of_nonneg h0], by
  have h0 := Int.emod_nonneg i (show n ≠ 0 by omega)
  have h1 := Int.emod_lt_of_pos i hn
  rw [Int.toNat_of_nonneg h0]
  exact h1⟩
theorem i_int (B : Bi X.mg) (h : Ev X b e ρ isI) (hg : Gl X "int" := by rfl) (hs : starEach [e] X.env = (false, eval e X.env) :: starEach [] X.env := by rfl) : Ev X b (.Call (.Name "int" p) [e] [] pos) ρ isI := ev_int1 hg B.int (h.imp fun d ⟨i, hi⟩ => ⟨i, hi, i, rfl⟩) hs
theorem i_intB {n : Int} (B : Bi X.mg) (h : Ev X b e ρ (isB n)) (hg : Gl X "int" := by rfl) (hs : starEach [e] X.env = (false, eval e X.env) :: starEach [] X.env := by rfl) : Ev X b (.Call (.Name "int" p) [e] [] pos) ρ (isB n) := ev_int1 hg B.int (h.imp fun d ⟨i, hi, h⟩ => ⟨i, hi, i, rfl, h⟩) hs
theorem isB.w {n : Int} (hn : n ≤ 2 ^ 64) {d : PyData} (h : isB n d) : ∃ i : Int, d = .int i ∧ -(2 ^ 64) < i ∧ i < 2 ^ 64 := by
  obtain ⟨i, e, h⟩ := h
  exact ⟨_, e, by omega, by omega⟩
theorem Ed.w {n : Int} (h : Ed X b e ρ (.int n)) (h1 : -(2 ^ 64) < n := by decide) (h2 : n < 2 ^ 64 := by decide) : Ev X b e ρ fun d => ∃ i : Int, d = .int i ∧ -(2 ^ 64) < i ∧ i < 2 ^ 64 := h.imp fun d hd => ⟨n, hd, h1, h2⟩
/-- well[j] -/
theorem i_well {w : Addr} {x : Str} {p1 p2 : Pos} {j k : Nat} (i : Nat) (hj : j < 4) (hW : b.W = some w := by rfl) (hs : ρ[i]? = some (some (.o w)) := by rfl) (hN : X.N[i]? = some x := by rfl) (hv : Vis X.env.scope x := by first | exact Or.inl rfl | exact Or.inr (Or.inl rfl) | exact Or.inr (Or.inr rfl))
    (hd : (x == ("__debug__" : Str)) = false := by decide) (hcd : (x == ("__classdict__" : Str)) = false := by decide) : Ev X b (.Subscript (.Name x p1) (.Constant (.int (j : Int)) k p2) pos) ρ isI :=
  ev_well hW (evs_var hs hN hv hd hcd) ed_int ⟨by omega, by omega⟩ fun i => ⟨i, rfl⟩
/-- divmod(e, n) -/
theorem i_divmod {n : Int} (B : Bi X.mg) (ha : Ev X b e ρ isI) (hb : Ed X b e2 ρ (.int n)) (h0 : 0 < n) (h1 : n < 1073741824) (hg : Gl X "divmod" := by rfl) (hs : starEach [e, e2] X.env = (false, eval e X.env) :: starEach [e2] X.env := by rfl) (hs1 : starEach [e2] X.env = (false, eval e2 X.env) :: starEach [] X.env := by rfl) (hpl : (backTo pos (starEach [e2] X.env)).any (·.1) = false := by rfl) :
    Ev X b (.Call (.Name "divmod" p) [e, e2] [] pos) ρ fun d => ∃ m k, d = .tuple [.int m, .int k] ∧ isB n (.int k) := by
  refine ev_divmod hg B.divmod ha hb (fun d d2 ⟨i, e1⟩ e2 => ⟨i, n, e1, e2, ⟨h0, h1⟩, _, _, rfl, (i % n).toNat, ?_, ?_⟩) hs hs1 hpl
  · rw [Int.toNat_of_nonneg (Int.emod_nonneg i (by omega))]
  · rw [Int.toNat_of_nonneg (Int.emod_nonneg i (by omega))]
    exact Int.emod_lt_of_pos i h0
theorem i_fdiv {n : Int} (ha : Ev X b e ρ isI) (hb : Ed X b e2 ρ (.int n)) (h0 : 0 < n) (h1 : n < 1073741824) : Ev X b (.BinOp e .FloorDiv e2 pos) ρ isI := ev_opI op_fdiv ha hb fun _ _ ⟨i, e1⟩ e2 => ⟨i, n, e1, e2, ⟨h0, h1⟩, _, rfl⟩
/-- a comparison of ints: both ways are open -/
theorem i_cmp {op : CmpOp} {g : Int → Int → Bool} (ho : OpR X (compareOp op) (rI0 fun i j => .bl (g i j))) (hm : behindInMarks op e2 = false) (ha : Ev X b e ρ isI) (hb : Ev X b e2 ρ isI) : EvC X b op e e2 ρ fun _ => True := evc_I ho hm ha hb fun _ _ ⟨i, h1⟩ ⟨j, h2⟩ => ⟨i, j, h1, h2, trivial⟩
end
section
variable {P : Program} {w : World} {K : PySem.W.Frag} {mg : Str → Option Value} {base : Heap}
theorem nlo1 {w : Addr} : ∀ s ∈ ([.o w] : List S), ∀ c, s ≠ .c true c := by
  intro s hs c e
  rw [List.mem_singleton] at hs
  rw [hs] at e
  cases e
theorem nlo2 {w : Addr} {d : PyData} : ∀ s ∈ ([.o w, .d d] : List S), ∀ c, s ≠ .c true c := by
  intro s hs c e
  rcases List.mem_cons.mp hs with h | h
  · rw [h] at e
    cases e
  · rw [List.mem_singleton] at h
    rw [h] at e
    cases e
abbrev DrawK (P : Program) (w : World) (K : PySem.W.Frag) (mg : Str → Option Value) (base : Heap) : Prop := Kn P w K mg base "_law_draw" 1 pp44 (fun q : Addr × Int => [.o q.1, .d (.int q.2)]) (fun W q => W = some q.1 ∧ 0 < q.2 ∧ q.2 < 1073741824) fun q y => isB q.2 y
theorem kn_law_draw (B : Bi mg) (D : Df K mg "_law_draw" 44 pp44) : DrawK P w K mg base := by
  refine kn_df D sc44 (fun _ => rfl) (fun _ => nlo2) ?_
  rintro f cdv A outer s H W ⟨a, n⟩ hr hq ⟨rfl, h0, h1⟩
  replace h0 : 0 < n := h0
  replace h1 : n < 1073741824 := h1
  refine sts_when (PB := fun _ => True) (EvC.t (i_cmp op_gt (nomark _) (i_well 0 (j := 0) (by decide)) ed_int.i)) (fun _ => ?_) fun _ => ?_
  · refine sts_well2 (P := isB n) (i := 0) (j := 2) (k := 0) rfl rfl rfl (.inl rfl) rfl ed_int (by decide) sc44.nd rfl (.inl rfl) (i_divmod B (i_well 0 (j := 0) (by decide)) (vd 1) h0 h1) fun d hd => ?_
    exact sts_ret (Ev.imp (vd 2) fun y hy => by rw [hy]; exact hd)
  · refine sts_well (i := 0) (k := 2) rfl rfl (.inl rfl) rfl (i_add (i_well 0 (j := 2) (by decide)) ed_int.i) ed_int (by decide) ?_
    refine sts_set sc44.nd (i := 3) rfl (.inl rfl) (i_mod (by decide) (i_int B (i_add (i_well 0 (j := 1) (by decide)) (i_mul ed_int.w (i_well 0 (j := 2) (by decide))))) ed_int) fun d hd => ?_
    obtain ⟨sd, rfl, hsd⟩ := hd
    refine sts_well (i := 0) (k := 1) rfl rfl (.inl rfl) rfl (Ev.imp (i_mod (n := 2147483563) (by decide) (i_int B (i_add (i_mul ((vd 3).imp fun d hd => ⟨_, hd, by omega, by omega⟩) (i_add (Ev.imp (i_mod (n := 5003) (by decide) (i_int B (vd 3).i) ed_int) fun _ h => h.i) ed_int.i)) (i_mul ed_int.w (i_well 0 (j := 2) (by decide))))) ed_int) fun _ h => h.i) ed_int (by decide) ?_
    exact sts_ret (i_mod h0 (i_int B (i_fdiv (i_well 0 (j := 1) (by decide)) ed_int (by decide) (by decide))) (vd 1))
end
end Lay
/-! PD2 -/
/-! the walks: drawn numbers, kinds, values -/
namespace Lay
open PySem PySem.Spec PyProof.Rows L2
section
variable {X : Cx} {b : Bs} {ρ : Rho} {e e2 e3 : Expr} {es : List Expr} {pos p : Pos} {Pa Pb Pc P : PyData → Prop} {PD PD' : List PyData → Prop}
/-- the arguments are data of which PD holds -/
def EvD (X : Cx) (b : Bs) (es : List Expr) (ρ : Rho) (PD : List PyData → Prop) : Prop := EvA X b es ρ fun z => ∃ ds, z = dats ds ∧ PD ds
theorem evd0 : EvD X b [] ρ fun ds => ds = [] := eva_nil.imp fun z h => ⟨[], h, rfl⟩
theorem evd (h : Ev X b e ρ Pa) (t : EvD X b es ρ PD) (hs : starEach (e :: es) X.env = (false, eval e X.env) :: starEach es X.env := by rfl) : EvD X b (e :: es) ρ fun ds => ∃ x r, ds = x :: r ∧ Pa x ∧ PD r :=
  (eva_cons h.s t hs).imp fun z ⟨s, r, h1, ⟨d, h2, h3⟩, ⟨ds, h4, h5⟩⟩ => ⟨d :: ds, by rw [h1, h2, h4]; rfl, d, ds, rfl, h3, h5⟩
theorem EvD.imp (h : EvD X b es ρ PD) (k : ∀ ds, PD ds → PD' ds) : EvD X b es ρ PD' := EvA.imp h fun z ⟨ds, h1, h2⟩ => ⟨ds, h1, k ds h2⟩
theorem r_tup1 {x1} (h : Ev X b e ρ Pa) (k : ∀ x, Pa x → P (.tuple [x])) (hs : starEach [e] X.env = (false, eval e X.env) :: starEach [] X.env := by rfl) : Ev X b (.Tuple [e] x1 pos) ρ P :=
  ev_tup ((evd h evd0 hs).imp fun ds ⟨x, r, h1, h2, h3⟩ => ⟨by rw [h1, h3]; exact Nat.le_of_ble_eq_true rfl, by rw [h1, h3]; exact k x h2⟩)
theorem r_tup2 {x1} (h : Ev X b e ρ Pa) (h2 : Ev X b e2 ρ Pb) (k : ∀ x y, Pa x → Pb y → P (.tuple [x, y])) (hs : starEach [e, e2] X.env = (false, eval e X.env) :: starEach [e2] X.env := by rfl) (hs2 : starEach [e2] X.env = (false, eval e2 X.env) :: starEach [] X.env := by rfl) : Ev X b (.Tuple [e, e2] x1 pos) ρ P :=
  ev_tup ((evd h (evd h2 evd0 hs2) hs).imp fun ds ⟨x, r, h1, h2, y, r2, h3, h4, h5⟩ => ⟨by rw [h1, h3, h5]; exact Nat.le_of_ble_eq_true rfl, by rw [h1, h3, h5]; exact k x y h2 h4⟩)
theorem r_tup3 {x1} (h : Ev X b e ρ Pa) (h2 : Ev X b e2 ρ Pb) (h3 : Ev X b e3 ρ Pc) (k : ∀ x y z, Pa x → Pb y → Pc z → P (.tuple [x, y, z])) (hs : starEach [e, e2, e3] X.env = (false, eval e X.env) :: starEach [e2, e3] X.env := by rfl) (hs2 : starEach [e2, e3] X.env = (false, eval e2 X.env) :: starEach [e3] X.env := by rfl) (hs3 : starEach [e3] X.env = (false, eval e3 X.env) :: starEach [] X.env := by rfl) : Ev X b (.Tuple [e, e2, e3] x1 pos) ρ P :=
  ev_tup ((evd h (evd h2 (evd h3 evd0 hs3) hs2) hs).imp fun ds ⟨x, r, h1, h2, y, r2, h3, h4, z, r3, h5, h6, h7⟩ => ⟨by rw [h1, h3, h5, h7]; exact Nat.le_of_ble_eq_true rfl, by rw [h1, h3, h5, h7]; exact k x y z h2 h4 h6⟩)
/-- a told comparison, both ways left open -/
theorem i_cmp0 {op : CmpOp} {k : Bool} (h : EdC X b op e e2 ρ k) : EvC X b op e e2 ρ fun _ => True := by
  obtain ⟨r, h1, h2, h3⟩ := h
  exact ⟨r, h1, h2, fun σ H ok Q q => h3 σ H ok Q fun k' H' s w _ => q k' H' s w trivial⟩
/-- == of ints, both ways open -/
theorem i_cmpE (ha : Ev X b e ρ isI) (hb : Ev X b e2 ρ isI) : EvC X b .Eq e e2 ρ fun _ => True := by
  refine evc_of op_eq (nomark _) ha hb fun H x y a c Q w r1 r2 ⟨i, h1⟩ ⟨j, h2⟩ q => ?_
  subst h1 h2
  cases r1
  cases r2
  exact ⟨rfl, q _ trivial⟩
/-- a list as an argument -/
theorem EvR.a {ds : List PyData} (h : EvR X b e ρ fun z => z = ds) : EvS X b e ρ fun z => z = .l false ds := fun σ H ok Q q => h σ H ok _ fun p H' vs d hn s w hp r z => q _ H' (.l false ds) s w ⟨p, rfl, hn, vs, hp, by rw [← z]; exact r⟩ rfl
/-- a call whose arguments are told, whose answer is some -/
theorem r_call {x : Str} {k : Nat} {ps : List Str} {α : Type} {enc : α → List S} {pre : Option Addr → α → Prop} {post : α → PyData → Prop} (a : α) (F : Kn X.prog X.w X.K X.mg X.base x k ps enc pre post) (hr : Room k X.A) (hq : X.A.guards = some []) (hg : Gl X x) (ha : EdA X b (e :: es) ρ (enc a)) (hp : pre b.W a)
    (hdb : (x == ("__debug__" : Str)) = false := by decide) (he : starEach (e :: es) X.env = (false, eval e X.env) :: starEach es X.env := by rfl) (hpl : (backTo pos (starEach es X.env)).any (·.1) = false := by rfl) : Ev X b (.Call (.Name x p) (e :: es) [] pos) ρ (post a) :=
  ev_call F hr hq hg ha (fun z hz => ⟨a, hz, hp, fun _ h => h⟩) hdb he hpl
end
section
variable {P : Program} {w : World} {K : PySem.W.Frag} {mg : Str → Option Value} {base : Heap}
def seqS (t : Bool) (ds : List PyData) : S := if t then .d (.tuple ds) else .l false ds
theorem nlo2s {w : Addr} {t : Bool} {ds : List PyData} : ∀ s ∈ ([.o w, seqS t ds] : List S), ∀ c, s ≠ .c true c := by
  intro s hs c e
  rcases List.mem_cons.mp hs with h | h
  · rw [h] at e
    cases e
  · rw [List.mem_singleton] at h
    rw [h] at e
    unfold seqS at e
    split at e <;> cases e
abbrev PickK (P : Program) (w : World) (K : PySem.W.Frag) (mg : Str → Option Value) (base : Heap) : Prop := Kn P w K mg base "_law_pick" 2 pp45 (fun q : Addr × Bool × List PyData => [.o q.1, seqS q.2.1 q.2.2]) (fun W q => W = some q.1 ∧ 0 < q.2.2.length ∧ q.2.2.length ≤ 1000) fun q y => y ∈ q.2.2
theorem kn_law_pick (B : Bi mg) (D : Df K mg "_law_pick" 45 pp45) (F : DrawK P w K mg base) : PickK P w K mg base := by
  refine kn_df D sc45 (fun _ => rfl) (fun _ => nlo2s) ?_
  rintro f cdv A outer s H W ⟨a, t, ds⟩ hr hq ⟨rfl, h0, h1⟩
  replace h0 : 0 < ds.length := h0
  replace h1 : ds.length ≤ 1000 := h1
  have at_ : ∀ j : Nat, ((j : Nat) : Int) < ((ds.length : Nat) : Int) → ∃ y, atI ds ((j : Nat) : Int) = some y ∧ y ∈ ds := fun j hj => by
    have hj : j < ds.length := by omega
    exact ⟨ds[j], atI_nat (List.getElem?_eq_getElem hj), List.getElem_mem hj⟩
  cases t with
  | true =>
    refine sts_ret (ev_ix (vd 1) (r_call (a, ((ds.length : Nat) : Int)) F hr hq rfl (eda_cons (vs 0) (eda_d (e_len B (vd 1)) eda_nil)) ⟨rfl, by show (0 : Int) < _; omega, by show ((ds.length : Nat) : Int) < _; omega⟩) fun d d2 e1 ⟨j, e2, hj⟩ => ?_)
    obtain ⟨y, h2, h3⟩ := at_ j hj
    exact ⟨ds, _, y, e1, e2, h2, h3⟩
  | false =>
    refine sts_ret (ev_ixL (vl 1) (r_call (a, ((ds.length : Nat) : Int)) F hr hq rfl (eda_cons (vs 0) (eda_d (e_lenL B (vl 1)) eda_nil)) ⟨rfl, by show (0 : Int) < _; omega, by show ((ds.length : Nat) : Int) < _; omega⟩) fun d d2 e1 ⟨j, e2, hj⟩ => ?_)
    obtain ⟨y, h2, h3⟩ := at_ j hj
    exact ⟨_, y, e2, by rw [e1]; exact h2, h3⟩
/-- a drawn number -/
def isN (d : PyData) : Prop := ∃ i : Int, d = .int i ∧ i.natAbs ≤ 10 ^ 20
abbrev NumK (P : Program) (w : World) (K : PySem.W.Frag) (mg : Str → Option Value) (base : Heap) : Prop := Kn P w K mg base "_law_number" 3 pp48 (fun a : Addr => [.o a]) (fun W a => W = some a) fun _ y => isN y
theorem kn_law_number (B : Bi mg) (D : Df K mg "_law_number" 48 pp48) (F : DrawK P w K mg base) (G : PickK P w K mg base) : NumK P w K mg base := by
  refine kn_df D sc48 (fun _ => rfl) (fun _ => nlo1) ?_
  rintro f cdv A outer s H W a hr hq rfl
  have r1 : Room 1 (A.deeper (envOfC "_law_number" (defScope (PH.top 48)) s.heap.objs.size f cdv)) := hr.mono (by omega)
  have small : ∀ {n : Int} {d : PyData}, n ≤ 100 → isB n d → isN d := fun {n d} hn ⟨i, e, h⟩ => ⟨_, e, by omega⟩
  refine sts_set sc48.nd (i := 1) rfl (.inl rfl) (r_call (a, 9) F r1 hq rfl (eda_cons (vs 0) (eda_d ed_int eda_nil)) ⟨rfl, by show (0 : Int) < 9; decide, by show (9 : Int) < 1073741824; decide⟩) fun d0 h0 => ?_
  obtain ⟨j, rfl, hj⟩ := h0
  refine sts_when (PB := fun _ => True) (EvW.t (evw_and (PB := fun _ => True) (PC := fun _ => True) (EvC.t (i_cmp0 (c_eqI (vd 1) ed_int))) (fun _ => evw_and1 (EvC.t (i_cmp op_gt (nomark _) (i_well 0 (j := 3) (by decide)) ed_int.i))) (fun _ _ _ => trivial) fun _ => trivial)) (fun _ => ?_) fun _ => ?_
  · refine sts_well (i := 0) (k := 3) rfl rfl (.inl rfl) rfl (i_sub (i_well 0 (j := 3) (by decide)) ed_int.i) ed_int (by decide) ?_
    refine sts_ret (Ev.imp (r_call (a, true, [.int (10 ^ (20 : Int).toNat), .int (1 - 10 ^ (20 : Int).toNat), .int 65536, .int (-4096), .int 123456789, .int (10 ^ (15 : Int).toNat + 7)]) G hr hq rfl (eda_cons (vs 0) (eda_d (e_tup (edd (ed_pow ⟨by decide, by decide, by decide⟩ ed_int ed_int) (edd (ed_sub ed_int (ed_pow ⟨by decide, by decide, by decide⟩ ed_int ed_int)) (edd ed_int (edd (ed_neg ed_int) (edd ed_int (edd (ed_add (ed_pow ⟨by decide, by decide, by decide⟩ ed_int ed_int) ed_int) edd0))))))) eda_nil)) ⟨rfl, Nat.le_of_ble_eq_true rfl, Nat.le_of_ble_eq_true rfl⟩) fun y hy => ?_)
    have hy : y ∈ ([.int (10 ^ (20 : Int).toNat), .int (1 - 10 ^ (20 : Int).toNat), .int 65536, .int (-4096), .int 123456789, .int (10 ^ (15 : Int).toNat + 7)] : List PyData) := hy
    simp only [List.mem_cons, List.not_mem_nil, or_false] at hy
    rcases hy with rfl | rfl | rfl | rfl | rfl | rfl <;> exact ⟨_, rfl, by decide +kernel⟩
  · refine sts_ret (ev_if (EvC.t (i_cmp0 (edc_lt (vd 1) ed_int))) (fun _ => Ev.imp (r_call (a, 4) F r1 hq rfl (eda_cons (vs 0) (eda_d ed_int eda_nil)) ⟨rfl, by show (0 : Int) < 4; decide, by show (4 : Int) < 1073741824; decide⟩) fun y h => small (n := 4) (by decide) h) fun _ => ?_)
    refine ev_opI0 op_sub (r_call (a, 19) F r1 hq rfl (eda_cons (vs 0) (eda_d ed_int eda_nil)) ⟨rfl, by show (0 : Int) < 19; decide, by show (19 : Int) < 1073741824; decide⟩) ed_int fun d d2 ⟨i, e1, hi⟩ e2 => ⟨_, _, e1, e2, _, rfl, ?_⟩
    replace hi : ((i : Nat) : Int) < 19 := hi
    omega
/-- a drawn kind -/
abbrev KDrawK (P : Program) (w : World) (K : PySem.W.Frag) (mg : Str → Option Value) (base : Heap) (x : Str) (n m : Nat) (g : Kd → Prop) : Prop := Kn P w K mg base x n ["_law_well_here", "_law_deep"] (fun q : Addr × Nat => [.o q.1, .d (.int q.2)]) (fun W q => W = some q.1 ∧ 1 ≤ q.2 ∧ q.2 ≤ m) fun q y => ∃ k : Kd, y = k.d ∧ g k ∧ k.deep ≤ q.2
theorem ed_s {X : Cx} {b : Bs} {ρ : Rho} {e : Expr} {d : PyData} {P : PyData → Prop} (h : Ed X b e ρ d) (hp : P d) : Ev X b e ρ P := Ev.imp h fun y hy => by rw [hy]; exact hp
/-- the branch of a drawn kind -/
theorem e_branch {X : Cx} {b : Bs} {ρ : Rho} {p1 p2 p3 p4 p5 p6 pos : Pos} {j1 j2 j3 : Nat} {a : Addr} {m : Nat} {big little : Nat} (F : DrawK X.prog X.w X.K X.mg X.base) (hr : Room 1 X.A) (hq : X.A.guards = some []) (hb0 : 0 < big) (hb1 : big < 1000) (hl0 : 0 < little) (hl1 : little ≤ big) (hW : b.W = some a) {ew ew2 ed : Expr} (hw : EvS X b ew ρ fun z => z = .o a) (hw2 : EvS X b ew2 ρ fun z => z = .o a) (hd : Ed X b ed ρ (.int m)) (hg : Gl X "_law_draw" := by rfl)
    (hs : starEach [ew, .Constant (.int (big : Int)) j1 p1] X.env = (false, eval ew X.env) :: starEach [.Constant (.int (big : Int)) j1 p1] X.env := by rfl) (hs2 : starEach [.Constant (.int (big : Int)) j1 p1] X.env = (false, eval (.Constant (.int (big : Int)) j1 p1) X.env) :: starEach [] X.env := by rfl) (hpl : (backTo p5 (starEach [.Constant (.int (big : Int)) j1 p1] X.env)).any (·.1) = false := by rfl)
    (hs3 : starEach [ew2, .Constant (.int (little : Int)) j2 p2] X.env = (false, eval ew2 X.env) :: starEach [.Constant (.int (little : Int)) j2 p2] X.env := by rfl) (hs4 : starEach [.Constant (.int (little : Int)) j2 p2] X.env = (false, eval (.Constant (.int (little : Int)) j2 p2) X.env) :: starEach [] X.env := by rfl) (hpl2 : (backTo p6 (starEach [.Constant (.int (little : Int)) j2 p2] X.env)).any (·.1) = false := by rfl) {pc pd : Pos} :
    Ev X b (.IfExp (.Compare ed [.Gt] [.Constant (.int 1) j3 p3] p4) (.Call (.Name "_law_draw" pc) [ew, .Constant (.int (big : Int)) j1 p1] [] p5) (.Call (.Name "_law_draw" pd) [ew2, .Constant (.int (little : Int)) j2 p2] [] p6) pos) ρ fun d => ∃ i : Nat, d = .int (i : Nat) ∧ i < big ∧ (m ≤ 1 → i < little) := by
  refine ev_if (EdC.t (edc_gt hd ed_int)) (fun h => ?_) fun h => ?_
  · have h1 : (1 : Int) < (m : Int) := of_decide_eq_true h.symm
    refine Ev.imp (r_call (a, ((big : Nat) : Int)) F hr hq hg (eda_cons hw (eda_d ed_int eda_nil hs2) hs) ⟨hW, by show (0 : Int) < _; omega, by show ((big : Nat) : Int) < _; omega⟩ (he := hs) (hpl := hpl)) fun y ⟨i, e, hi⟩ => ⟨i, e, ?_, fun hm => by omega⟩
    have hi : ((i : Nat) : Int) < ((big : Nat) : Int) := hi
    omega
  · refine Ev.imp (r_call (a, ((little : Nat) : Int)) F hr hq hg (eda_cons hw2 (eda_d ed_int eda_nil hs4) hs3) ⟨hW, by show (0 : Int) < _; omega, by show ((little : Nat) : Int) < _; omega⟩ (he := hs3) (hpl := hpl2)) fun y ⟨i, e, hi⟩ => ?_
    have hi : ((i : Nat) : Int) < ((little : Nat) : Int) := hi
    exact ⟨i, e, by omega, fun _ => by omega⟩
theorem kn_law_plain (D : Df K mg "_law_plain" 49 pp49) (F : DrawK P w K mg base) : ∀ n, KDrawK P w K mg base "_law_plain" (n + 1) n fun k => k.plain = true
  | 0 => kn_void D fun W q h => by omega
  | n + 1 => by
    have ih := kn_law_plain D F n
    refine kn_df D sc49 (fun _ => rfl) (fun _ => nlo2) ?_
    rintro f cdv A outer s H W ⟨a, m⟩ hr hq ⟨rfl, h1, hm⟩
    replace h1 : 1 ≤ m := h1
    replace hm : m ≤ n + 1 := hm
    refine sts_set sc49.nd (i := 2) rfl (.inl rfl) (e_branch (big := 7) (little := 4) (m := m) F (hr.mono (by omega)) hq (by decide) (by decide) (by decide) (by decide) rfl (vs 0) (vs 0) (vd 1)) fun d0 h0 => ?_
    obtain ⟨j, rfl, hj, hj1⟩ := h0
    refine sts_when (EdC.t (edc_lt (vd 2) ed_int)) (fun h => ?_) fun h => ?_
    · refine sts_ret (ev_if (EvC.t (i_cmp0 (c_eqI (vd 2) ed_int))) (fun _ => ed_s (e_tup (edd ed_str edd0)) ⟨.unit, rfl, rfl, ?_⟩) fun _ => ed_s (e_tup (edd ed_str edd0)) ⟨.num, rfl, rfl, ?_⟩)
      · simpa [Kd.deep] using h1
      · simpa [Kd.deep] using h1
    · have hj4 : ¬ ((j : Nat) : Int) < 4 := of_decide_eq_false h.symm
      have hm2 : 2 ≤ m := by
        rcases Nat.lt_or_ge m 2 with z | z
        · have := hj1 (by omega)
          omega
        · exact z
      have em : ((m : Nat) : Int) - 1 = ((m - 1 : Nat) : Int) := by omega
      refine sts_set sc49.nd (i := 3) rfl (.inl rfl) (r_call (a, m - 1) ih hr hq rfl (eda_cons (vs 0) (eda_d (ed_cast (ed_sub (vd 1) ed_int) (by rw [em])) eda_nil)) ⟨rfl, by show 1 ≤ m - 1; omega, by show m - 1 ≤ n; omega⟩) fun d1 hd1 => ?_
      obtain ⟨k1, rfl, p1, dp1⟩ := hd1
      replace dp1 : k1.deep ≤ m - 1 := dp1
      refine sts_ret (r_tup3 (ev_if (P := fun d => d = .str "pair" ∨ d = .str "either") (EvC.t (i_cmp0 (edc_lt (vd 2) ed_int))) (fun _ => ed_s ed_str (.inl rfl)) fun _ => ed_s ed_str (.inr rfl)) (vd 3) (r_call (a, m - 1) ih hr hq rfl (eda_cons (vs 0) (eda_d (ed_cast (ed_sub (vd 1) ed_int) (by rw [em])) eda_nil)) ⟨rfl, by show 1 ≤ m - 1; omega, by show m - 1 ≤ n; omega⟩) fun x y z hx hy hz => ?_)
      subst hy
      obtain ⟨k2, rfl, p2, dp2⟩ := hz
      replace dp2 : k2.deep ≤ m - 1 := dp2
      rcases hx with rfl | rfl
      · exact ⟨.pair k1 k2, rfl, by simp only [Kd.plain, p1, p2, Bool.and_self], by show (Kd.pair k1 k2).deep ≤ m; simp only [Kd.deep]; omega⟩
      · exact ⟨.either k1 k2, rfl, by simp only [Kd.plain, p1, p2, Bool.and_self], by show (Kd.either k1 k2).deep ≤ m; simp only [Kd.deep]; omega⟩
theorem kn_law_group (D : Df K mg "_law_group" 50 pp50) (F : DrawK P w K mg base) (G : ∀ n, KDrawK P w K mg base "_law_plain" (n + 1) n fun k => k.plain = true) : ∀ n, KDrawK P w K mg base "_law_group" (n + 1) n fun k => k.group = true ∧ k.ok = true
  | 0 => kn_void D fun W q h => by omega
  | n + 1 => by
    have ih := kn_law_group D F G n
    have G := G n
    refine kn_df D sc50 (fun _ => rfl) (fun _ => nlo2) ?_
    rintro f cdv A outer s H W ⟨a, m⟩ hr hq ⟨rfl, h1, hm⟩
    replace h1 : 1 ≤ m := h1
    replace hm : m ≤ n + 1 := hm
    have em : 2 ≤ m → ((m : Nat) : Int) - 1 = ((m - 1 : Nat) : Int) := fun _ => by omega
    refine sts_set sc50.nd (i := 2) (P := fun d => ∃ i : Nat, d = .int (i : Nat) ∧ (m ≤ 1 → i < 2)) rfl (.inl rfl) (ev_if (EdC.t (edc_gt (vd 1) ed_int)) (fun h => ?_) fun h => ed_s ed_int ⟨0, rfl, fun _ => by decide⟩) fun d0 h0 => ?_
    · have h2 : (1 : Int) < (m : Int) := of_decide_eq_true h.symm
      refine Ev.imp (r_call (a, 6) F (hr.mono (by omega)) hq rfl (eda_cons (vs 0) (eda_d ed_int eda_nil)) ⟨rfl, by show (0 : Int) < 6; decide, by show (6 : Int) < 1073741824; decide⟩) fun y ⟨i, e, hi⟩ => ⟨i, e, fun hm => by omega⟩
    obtain ⟨j, rfl, hj1⟩ := h0
    refine sts_when (EdC.t (edc_lt (vd 2) ed_int)) (fun h => sts_ret (ed_s (e_tup (edd ed_str edd0)) ⟨.num, rfl, ⟨rfl, rfl⟩, by simpa [Kd.deep] using h1⟩)) fun h => ?_
    have hj4 : ¬ ((j : Nat) : Int) < 2 := of_decide_eq_false h.symm
    have hm2 : 2 ≤ m := by
      rcases Nat.lt_or_ge m 2 with z | z
      · have := hj1 (by omega)
        omega
      · exact z
    have em := em hm2
    refine sts_when (EdC.t (edc_lt (vd 2) ed_int)) (fun h => ?_) fun h => ?_
    · refine sts_ret (r_tup2 ed_str (r_call (a, m - 1) G hr hq rfl (eda_cons (vs 0) (eda_d (ed_cast (ed_sub (vd 1) ed_int) (by rw [em])) eda_nil)) ⟨rfl, by show 1 ≤ m - 1; omega, by show m - 1 ≤ n; omega⟩) fun x y hx hy => ?_)
      subst hx
      obtain ⟨k2, rfl, p2, dp2⟩ := hy
      replace dp2 : k2.deep ≤ m - 1 := dp2
      exact ⟨.bag k2, rfl, ⟨rfl, p2⟩, by show (Kd.bag k2).deep ≤ m; simp only [Kd.deep]; omega⟩
    · refine sts_set sc50.nd (i := 3) rfl (.inl rfl) (r_call (a, m - 1) ih hr hq rfl (eda_cons (vs 0) (eda_d (ed_cast (ed_sub (vd 1) ed_int) (by rw [em])) eda_nil)) ⟨rfl, by show 1 ≤ m - 1; omega, by show m - 1 ≤ n; omega⟩) fun d1 hd1 => ?_
      obtain ⟨k1, rfl, ⟨p1, o1⟩, dp1⟩ := hd1
      replace dp1 : k1.deep ≤ m - 1 := dp1
      refine sts_ret (r_tup3 ed_str (vd 3) (r_call (a, m - 1) ih hr hq rfl (eda_cons (vs 0) (eda_d (ed_cast (ed_sub (vd 1) ed_int) (by rw [em])) eda_nil)) ⟨rfl, by show 1 ≤ m - 1; omega, by show m - 1 ≤ n; omega⟩) fun x y z hx hy hz => ?_)
      subst hx hy
      obtain ⟨k2, rfl, ⟨p2, o2⟩, dp2⟩ := hz
      replace dp2 : k2.deep ≤ m - 1 := dp2
      exact ⟨.pair k1 k2, rfl, ⟨by simp only [Kd.group, p1, p2, Bool.and_self], by simp only [Kd.ok, o1, o2, Bool.and_self]⟩, by show (Kd.pair k1 k2).deep ≤ m; simp only [Kd.deep]; omega⟩
theorem kn_law_data (D : Df K mg "_law_data" 51 pp51) (F : DrawK P w K mg base) (G : ∀ n, KDrawK P w K mg base "_law_plain" (n + 1) n fun k => k.plain = true) : ∀ n, KDrawK P w K mg base "_law_data" (n + 1) n fun k => k.ok = true
  | 0 => kn_void D fun W q h => by omega
  | n + 1 => by
    have ih := kn_law_data D F G n
    have G := G n
    refine kn_df D sc51 (fun _ => rfl) (fun _ => nlo2) ?_
    rintro f cdv A outer s H W ⟨a, m⟩ hr hq ⟨rfl, h1, hm⟩
    replace h1 : 1 ≤ m := h1
    replace hm : m ≤ n + 1 := hm
    refine sts_set sc51.nd (i := 2) rfl (.inl rfl) (e_branch (big := 8) (little := 4) (m := m) F (hr.mono (by omega)) hq (by decide) (by decide) (by decide) (by decide) rfl (vs 0) (vs 0) (vd 1)) fun d0 h0 => ?_
    obtain ⟨j, rfl, hj, hj1⟩ := h0
    refine sts_when (EdC.t (edc_lt (vd 2) ed_int)) (fun h => ?_) fun h => ?_
    · refine sts_ret (ev_if (EvC.t (i_cmp0 (c_eqI (vd 2) ed_int))) (fun _ => ed_s (e_tup (edd ed_str edd0)) ⟨.unit, rfl, rfl, ?_⟩) fun _ => ed_s (e_tup (edd ed_str edd0)) ⟨.num, rfl, rfl, ?_⟩)
      · simpa [Kd.deep] using h1
      · simpa [Kd.deep] using h1
    · have hj4 : ¬ ((j : Nat) : Int) < 4 := of_decide_eq_false h.symm
      have hm2 : 2 ≤ m := by
        rcases Nat.lt_or_ge m 2 with z | z
        · have := hj1 (by omega)
          omega
        · exact z
      have em : ((m : Nat) : Int) - 1 = ((m - 1 : Nat) : Int) := by omega
      refine sts_when (EdC.t (edc_lt (vd 2) ed_int)) (fun h => ?_) fun h => ?_
      · refine sts_ret (r_tup2 ed_str (r_call (a, m - 1) G hr hq rfl (eda_cons (vs 0) (eda_d (ed_cast (ed_sub (vd 1) ed_int) (by rw [em])) eda_nil)) ⟨rfl, by show 1 ≤ m - 1; omega, by show m - 1 ≤ n; omega⟩) fun x y hx hy => ?_)
        subst hx
        obtain ⟨k2, rfl, p2, dp2⟩ := hy
        replace dp2 : k2.deep ≤ m - 1 := dp2
        exact ⟨.bag k2, rfl, p2, by show (Kd.bag k2).deep ≤ m; simp only [Kd.deep]; omega⟩
      · refine sts_set sc51.nd (i := 3) rfl (.inl rfl) (r_call (a, m - 1) ih hr hq rfl (eda_cons (vs 0) (eda_d (ed_cast (ed_sub (vd 1) ed_int) (by rw [em])) eda_nil)) ⟨rfl, by show 1 ≤ m - 1; omega, by show m - 1 ≤ n; omega⟩) fun d1 hd1 => ?_
        obtain ⟨k1, rfl, p1, dp1⟩ := hd1
        replace dp1 : k1.deep ≤ m - 1 := dp1
        refine sts_ret (r_tup3 (ev_if (P := fun d => d = .str "pair" ∨ d = .str "either") (EvC.t (i_cmp0 (c_eqI (vd 2) ed_int))) (fun _ => ed_s ed_str (.inl rfl)) fun _ => ed_s ed_str (.inr rfl)) (vd 3) (r_call (a, m - 1) ih hr hq rfl (eda_cons (vs 0) (eda_d (ed_cast (ed_sub (vd 1) ed_int) (by rw [em])) eda_nil)) ⟨rfl, by show 1 ≤ m - 1; omega, by show m - 1 ≤ n; omega⟩) fun x y z hx hy hz => ?_)
        subst hy
        obtain ⟨k2, rfl, p2, dp2⟩ := hz
        replace dp2 : k2.deep ≤ m - 1 := dp2
        rcases hx with rfl | rfl
        · exact ⟨.pair k1 k2, rfl, by simp only [Kd.ok, p1, p2, Bool.and_self], by show (Kd.pair k1 k2).deep ≤ m; simp only [Kd.deep]; omega⟩
        · exact ⟨.either k1 k2, rfl, by simp only [Kd.ok, p1, p2, Bool.and_self], by show (Kd.either k1 k2).deep ≤ m; simp only [Kd.deep]; omega⟩
end
end Lay
/-! PA7 -/
/-! the data layer, part 7: a tuple the other way round -/
namespace Lay
open PySem PySem.Spec PyProof.Rows L2
theorem back_bounds (n : Nat) : Builtin.Slice.sliceAdjust none none (-1) (n : Int) = ((n : Int) - 1, -1) := by
  unfold Builtin.Slice.sliceAdjust
  simp
theorem back_places (n : Nat) : Builtin.Slice.slicePlaces ((n : Int) - 1) (-1) (-1) = n := by
  unfold Builtin.Slice.slicePlaces
  simp only [show ¬ ((-1 : Int) > 0) by decide, if_false]
  split
  · have : ((n : Int) - 1 - -1 - -1 - 1) / (- -1) = (n : Int) := by
      show ((n : Int) - 1 - -1 - -1 - 1) / (1 : Int) = _
      rw [Int.ediv_one]
      omega
    first
      | omega
      | (simp; done)
  · omega
theorem fm_congr {α β : Type} {f g : α → Option β} : ∀ {l : List α}, (∀ m ∈ l, f m = g m) → l.filterMap f = l.filterMap g
  | [], _ => rfl
  | a :: l, h => by
    rw [List.filterMap_cons, List.filterMap_cons, h a List.mem_cons_self, fm_congr fun m hm => h m (List.mem_cons_of_mem _ hm)]
theorem back_pick (xs : Array Value) : ((List.range xs.size).filterMap fun (m : Nat) => xs[((xs.size : Int) - 1 + (m : Int) * (-1)).toNat]?).toArray = xs.toList.reverse.toArray := by
  have e : (List.range xs.size).filterMap (fun (m : Nat) => xs[((xs.size : Int) - 1 + (m : Int) * (-1)).toNat]?) = ((List.range xs.size).map fun k => xs.size - 1 - k).filterMap (xs[·]?) := by
    rw [List.filterMap_map]
    refine fm_congr fun m hm => ?_
    have hm := List.mem_range.mp hm
    have : ((xs.size : Int) - 1 + (m : Int) * (-1)).toNat = xs.size - 1 - m := by omega
    rw [this]
    first | done | rfl
  rw [e, PySem.W.krv_range, List.filterMap_reverse, PySem.W.krv_all]
section
variable {prog : Program} {w : World} {A : Around} {E : Value → Shared → Prop} {s : Shared}
theorem getItem_back {t sl : Addr} {its : Array Value} {tk : Tok} {Q : Value → Shared → Prop} (ht : IsTup s.heap t its) (hs : s.heap.IsSliceOf sl .none .none (.int (-1) tk)) (hz : its.size ≤ sizeLine)
    (h : Q (.ref s.heap.objs.size) { s with heap := s.heap.push { cls := .type "tuple", data := .seq its.toList.reverse.toArray } }) : wpAny (model prog w) A (getItem (.ref t) (.ref sl)) Q E s := by
  obtain ⟨o, ho, hcl, hfl⟩ := id hs
  have hT : s.TypeIs (.ref sl) "slice" := ⟨o, ho, hcl⟩
  have ok : sizeOk (.seq its.toList.reverse.toArray) := by
    show its.toList.reverse.toArray.size ≤ sizeLine
    simpa using hz
  unfold getItem
  try with_reducible refine wpAny_holding ?_
  first | refine wpAny_bind (wpAny_pure ?_) | skip
  refine wpAny_bind (wpAny_sequenceKey ht.typeIs (by decide) (wpAny_bind (wpAny_callSpecial?_slot (name := Str.ofString "__getitem__") ht.typeIs PyProof.Rows.slot_tuple_getitem (wpAny_call_entry PyProof.Rows.slot_tuple_getitem ht.typeIs entry_tuple_getitem ?_ (args_tuple_getitem _ _)))))
  show wpAny _ _ (Builtin.Tuple.tupleItemsOf (.ref t) >>= _) _ _ s
  refine wpAny_bind (tupleItemsOf_ ht (wpAny_bind (wpAny_typeOf hT ?_)))
  rw [if_pos (by decide)]
  have applied : ∀ (Q' : Int × Int × Nat → Shared → Prop), Q' ((its.size : Int) - 1, -1, its.size) s → ∀ A' E', wpAny (model prog w) A' (Builtin.Slice.sliceApplied (.ref sl) (pure (its.size : Int))) Q' E' s := by
    intro Q' hq A' E'
    unfold Builtin.Slice.sliceApplied Builtin.Slice.sliceFields
    refine wpAny_bind (wpAny_bind (wpAny_field ho hfl (x := .none) rfl (wpAny_bind (wpAny_field ho hfl (x := .none) rfl (wpAny_bind (wpAny_field ho hfl (x := .int (-1) tk) rfl (wpAny_pure ?_)))))))
    refine wpAny_bind (HT.slicePart_ (.int (-1) tk) ?_)
    show wpAny _ _ (if ((-1 : Int) == 0) = true then _ else _) _ _ s
    rw [if_neg (by decide)]
    refine wpAny_bind (HT.slicePart_ .none (wpAny_bind (HT.slicePart_ .none (wpAny_bind (wpAny_pure ?_)))))
    show wpAny _ _ (match Builtin.Slice.sliceAdjust none none (-1) (its.size : Int) with | (lo, hi) => pure (lo, (-1 : Int), Builtin.Slice.slicePlaces lo hi (-1))) _ _ s
    rw [back_bounds]
    show wpAny _ _ (pure ((its.size : Int) - 1, (-1 : Int), Builtin.Slice.slicePlaces ((its.size : Int) - 1) (-1) (-1))) _ _ s
    rw [back_places]
    exact wpAny_pure hq
  refine wpAny_bind (applied _ ?_ _ _)
  have no : ¬ (((its.size : Int) - 1 == 0 && (-1 : Int) == 1 && its.size == its.size) = true) := by simp
  show wpAny _ _ (if ((its.size : Int) - 1 == 0 && (-1 : Int) == 1 && its.size == its.size) = true then _ else _) _ _ s
  rw [if_neg no, back_pick]
  first
    | exact wpAny_bind (m := Builtin.Tuple.tupleExact _) (wpAny_newObj_type (wpAny_pure ⟨_, rfl, wpAny_pure h⟩) ok)
    | exact wpAny_bind (m := Builtin.Tuple.tupleExact _) (wpAny_newObj_type (wpAny_bind (wpAny_pure (wpAny_pure ⟨_, rfl, wpAny_pure h⟩))) ok)
    | exact wpAny_bind (wpAny_bind (m := Builtin.Tuple.tupleExact _) (wpAny_newObj_type (wpAny_pure (wpAny_pure ⟨_, rfl, wpAny_pure h⟩)) ok))
    | exact wpAny_bind (wpAny_bind (m := Builtin.Tuple.tupleExact _) (wpAny_newObj_type (wpAny_pure ⟨_, rfl, wpAny_pure h⟩) ok))
end
section
variable {X : Cx} {b : Bs} {ρ : Rho} {e : Expr} {p1 p2 p3 pos : Pos} {k : Nat}
theorem e_back {ds : List PyData} (h : Ed X b e ρ (.tuple ds)) : Ed X b (.Subscript e (.Slice none none (some (.UnaryOp .USub (.Constant (.int 1) k p1) p2)) p3) pos) ρ (.tuple ds.reverse) := by
  intro σ H ok Q q pins s I
  refine Subscript_ (thn (h σ H ok (fun v H1 => SB b.W H H1 ∧ Wl b.W H1 ∧ Dn H1 v (.tuple ds)) (fun v H1 d s1 w1 r1 p => ⟨s1, w1, by rw [← p]; exact r1⟩) pins s I) fun v s1 ⟨x, H1, I1, r1, sb, w1, dn⟩ => ?_)
  cases dn with
  | @tup a xs _ hx tx =>
    cases r1
    have hst : PO X (some (.UnaryOp .USub (.Constant (.int 1) k p1) p2)) (tPart (tUn (rU fun i => .int (-i)) (tC (.int 1)))) := po_some (pe_un un_neg pe_int)
    refine wpAny_Slice (thn (po_none.run pins s1 σ H1 (fun o H2 => o = none ∧ H2 = H1) I1 ⟨rfl, rfl⟩) fun vl s2 ⟨l, H2, I2, pl, el, e2⟩ => ?_)
    subst el e2
    refine thn (po_none.run pins s2 σ H2 (fun o H3 => o = none ∧ H3 = H2) I2 ⟨rfl, rfl⟩) fun vu s3 ⟨u, H3, I3, pu, eu, e3⟩ => ?_
    subst eu e3
    refine thn (hst.run pins s3 σ H3 (fun o H4 => o = some (-1) ∧ H4 = H3) I3 ⟨1, rfl, -1, rfl, rfl, rfl⟩) fun vs s4 ⟨o, H4, I4, ps, eo, e4⟩ => ?_
    subst eo e4
    cases pl
    cases pu
    cases ps with
    | int _ tk =>
      have I5 : Inv X pins σ H4 { s4 with heap := s4.heap.push { cls := .type "slice", data := .fields #[.none, .none, .int (-1) tk] } } := I4.kept (t' := s4.toks) fun b ob q => Heap.get?_push_of_some _ q
      obtain ⟨its, r, ht, hz⟩ := I5.tuple (hx.sq)
      show wpAny (model X.prog X.w) X.A (subscriptTail e (.Slice none none (some (.UnaryOp .USub (.Constant (.int 1) k p1) p2)) p3) (.ref a) (.ref s4.heap.objs.size)) (EP X pins σ Q) X.xe { s4 with heap := s4.heap.push { cls := .type "slice", data := .fields #[.none, .none, .int (-1) tk] } }
      refine tail_any (ops := [.ref a, .ref s4.heap.objs.size]) ht.typeIs PyProof.Rows.slot_tuple_getitem.lookup ?_ (by with_unfolding_all rfl)
      have hz' : its.toArray.size ≤ sizeLine := by rw [List.size_toArray, ← r.length]; exact hz
      refine getItem_back ht (Heap.IsSliceOf.new _ _ _ _) hz' ?_
      exact tup_made I5 r.reverse (by rw [List.length_reverse]; exact hz) fun t o ho ht => q _ _ _ (sb.trans (.new ht)) (w1.upd (w1.ne ht)) (.tup (.new ho) ((tx.rev).keep (.new ht))) rfl
end
end Lay
/-! PD3 -/
/-! the walks: drawn values, odd things -/
namespace Lay
open Quiet
open PySem PySem.Spec PyProof.Rows L2
section
variable {P : Program} {w : World} {K : PySem.W.Frag} {mg : Str → Option Value} {base : Heap}
/-- xs.append(e) -/
theorem st_append {X : Cx} {b : Bs} {ρ : Rho} {e : Expr} {pos p2 apos : Pos} {x : Str} {K : Post} {rest : List Stmt} {ds : List PyData} {P : PyData → Prop} (i : Nat) (hi : ρ[i]? = some (some (.l true ds))) (h : Ev X b e ρ P) (hz : ds.length < 100000)
    (kk : ∀ d, P d → Sts X b rest (ρ.set i (some (.l true (ds ++ [d])))) K) (hN : X.N[i]? = some x := by rfl) (hv : Vis X.env.scope x := by first | exact Or.inl rfl | exact Or.inr (Or.inl rfl) | exact Or.inr (Or.inr rfl)) (hd : (x == ("__debug__" : Str)) = false := by decide) (hcd : (x == ("__classdict__" : Str)) = false := by decide)
    (hbase : attributeBase (.Name x p2) "append" X.env (eval (.Name x p2) X.env) = eval (.Name x p2) X.env := by rfl)
    (hfew : ((backTo pos (starEach [e] X.env)).all (fun x => !x.1) && (backToKw pos (keywordEach [] X.env)).all (fun x => x.1.isSome) && decide (([e] : List Expr).length + ([] : List Keyword).length + (if ([] : List Keyword).isEmpty then 0 else 1) < 30)) = true := by rfl)
    (hline : (apos.endLine == pos.line) = true := by rfl) (hst : starEach [e] X.env = (false, eval e X.env) :: starEach [] X.env := by rfl) (hplain : (backTo pos (starEach [] X.env)).any (·.1) = false := by rfl)
    (hs : swapsWith (.Call (.Attribute (.Name x p2) "append" apos) [e] [] pos) none pos.line X.env = pure false := by rfl) : Sts X b (.Expr (.Call (.Attribute (.Name x p2) "append" apos) [e] [] pos) pos :: rest) ρ K :=
  sts_append hN hv hi h hz kk hd hcd (fun t h1 => pe_bm PySem.F.plainAttrs_list PySem.F.slot_list_append PySem.F.type_list_append mt_append (pe_var hN hv hd hcd) (pa_cons h1 pa_nil hst) hbase hfew hline hst hplain) hs
/-- range(some int below m) -/
theorem i_rangeB {X : Cx} {b : Bs} {ρ : Rho} {e : Expr} {pos p : Pos} {tg : Expr} {nn : Bool} {m : Nat} (B : Bi X.mg) (h : Ev X b e ρ (isB ((m + 1 : Nat) : Int))) (hm : m ≤ 1000000) (hg : Gl X "range" := by rfl) (hs : starEach [e] X.env = [(false, eval e X.env)] := by rfl) (hs1 : starEach [e] X.env = (false, eval e X.env) :: starEach [] X.env := by rfl) :
    EvI X b nn tg (.Call (.Name "range" p) [e] [] pos) ρ fun ds => ds.length ≤ m :=
  evi_range1 hg B.range (h.imp fun d ⟨j, e, hj⟩ => ⟨j, e, by omega, by rw [rangeD_len]; omega⟩) hs hs1
/-- drawn values' bounds -/
abbrev dv (k : Kd) (d : PyData) : Prop := lim 4 (10 ^ 21) k d
abbrev LValueK (P : Program) (w : World) (K : PySem.W.Frag) (mg : Str → Option Value) (base : Heap) (n : Nat) : Prop := Kn P w K mg base "_law_value" (n + 12) pp56 (fun q : Addr × Kd => [.o q.1, .d q.2.d]) (fun W q => W = some q.1 ∧ q.2.ok = true ∧ q.2.deep ≤ n) fun q y => dv q.2 y
theorem kn_law_value (B : Bi mg) (D : Df K mg "_law_value" 56 pp56) (F : DrawK P w K mg base) (Fn : NumK P w K mg base) (Fp : PickK P w K mg base) (Fb : LBagK P w K mg base 10) : ∀ n, n ≤ 10 → LValueK P w K mg base n
  | 0, _ => kn_void D fun W q h => by have := q.2.deep_pos; have := h.2.2; omega
  | n + 1, hn => by
    have ih := kn_law_value B D F Fn Fp Fb n (by omega)
    refine kn_df D sc56 (fun _ => rfl) (fun _ => nlo2) ?_
    rintro f cdv A outer s H W ⟨a, k⟩ hr hq ⟨rfl, ho, hd⟩
    replace hd : k.deep ≤ n + 1 := hd
    replace ho : k.ok = true := ho
    have rr : ∀ j, j ≤ n + 12 → Room j (A.deeper (envOfC "_law_value" (defScope (PH.top 56)) s.heap.objs.size f cdv)) := fun j hj => hr.mono (by omega)
    cases k with
    | unit => exact sts_yes (EdC.t (c_eqSk (e_at 0 (vd 1)) ed_str)) (sts_retE (e_tup edd0) rfl)
    | num =>
      refine sts_no (EdC.t (c_eqSk (e_at 0 (vd 1)) ed_str)) ?_
      refine sts_yes (EdC.t (c_eqSk (e_at 0 (vd 1)) ed_str)) (sts_ret (Ev.imp (r_call a Fn (rr 3 (by omega)) hq rfl (eda_cons (vs 0) eda_nil) rfl) fun y ⟨i, e, h⟩ => ⟨i, e, ?_⟩))
      have h : i.natAbs ≤ 10 ^ 20 := h
      show i.natAbs ≤ 10 ^ 21
      omega
    | pair k1 k2 =>
      simp only [Kd.deep] at hd
      simp only [Kd.ok, Bool.and_eq_true] at ho
      refine sts_no (EdC.t (c_eqSk (e_at 0 (vd 1)) ed_str)) ?_
      refine sts_no (EdC.t (c_eqSk (e_at 0 (vd 1)) ed_str)) ?_
      refine sts_yes (EdC.t (c_eqSk (e_at 0 (vd 1)) ed_str)) ?_
      refine sts_set sc56.nd (i := 2) rfl (.inl rfl) (r_call (a, k1) ih hr hq rfl (eda_cons (vs 0) (eda_d (e_at 1 (vd 1)) eda_nil)) ⟨rfl, ho.1, by show k1.deep ≤ n; omega⟩) fun d1 h1 => ?_
      refine sts_ret (r_tup3 ed_str (vd 2) (r_call (a, k2) ih hr hq rfl (eda_cons (vs 0) (eda_d (e_at 2 (vd 1)) eda_nil)) ⟨rfl, ho.2, by show k2.deep ≤ n; omega⟩) fun x y z hx hy hz => ?_)
      subst hx hy
      exact ⟨_, _, rfl, h1, hz⟩
    | either k1 k2 =>
      simp only [Kd.deep] at hd
      simp only [Kd.ok, Bool.and_eq_true] at ho
      refine sts_no (EdC.t (c_eqSk (e_at 0 (vd 1)) ed_str)) ?_
      refine sts_no (EdC.t (c_eqSk (e_at 0 (vd 1)) ed_str)) ?_
      refine sts_no (EdC.t (c_eqSk (e_at 0 (vd 1)) ed_str)) ?_
      refine sts_yes (EdC.t (c_eqSk (e_at 0 (vd 1)) ed_str)) ?_
      refine sts_set sc56.nd (i := 3) rfl (.inl rfl) (r_call (a, 2) F (rr 1 (by omega)) hq rfl (eda_cons (vs 0) (eda_d ed_int eda_nil)) ⟨rfl, by show (0 : Int) < 2; decide, by show (2 : Int) < 1073741824; decide⟩) fun d1 h1 => ?_
      obtain ⟨j, rfl, hj⟩ := h1
      have hj : ((j : Nat) : Int) < 2 := hj
      match j, hj with
      | 0, _ =>
        refine sts_ret (r_tup2 (ed_ix (y := .str "left") (e_tup (edd ed_str (edd ed_str edd0))) (vd 3) (by kernel_rfl)) (r_call (a, k1) ih hr hq rfl (eda_cons (vs 0) (eda_d (ed_ix (y := k1.d) (vd 1) (ed_add ed_int (vd 3)) rfl) eda_nil)) ⟨rfl, ho.1, by show k1.deep ≤ n; omega⟩) fun x y hx hy => ?_)
        subst hx
        exact .inl ⟨_, rfl, hy⟩
      | 1, _ =>
        refine sts_ret (r_tup2 (ed_ix (y := .str "right") (e_tup (edd ed_str (edd ed_str edd0))) (vd 3) (by kernel_rfl)) (r_call (a, k2) ih hr hq rfl (eda_cons (vs 0) (eda_d (ed_ix (y := k2.d) (vd 1) (ed_add ed_int (vd 3)) rfl) eda_nil)) ⟨rfl, ho.2, by show k2.deep ≤ n; omega⟩) fun x y hx hy => ?_)
        subst hx
        exact .inr ⟨_, rfl, hy⟩
      | j + 2, hj => omega
    | bag k1 =>
      simp only [Kd.deep] at hd
      simp only [Kd.ok] at ho
      have hdk : k1.deep ≤ n := by omega
      refine sts_no (EdC.t (c_eqSk (e_at 0 (vd 1)) ed_str)) ?_
      refine sts_no (EdC.t (c_eqSk (e_at 0 (vd 1)) ed_str)) ?_
      refine sts_no (EdC.t (c_eqSk (e_at 0 (vd 1)) ed_str)) ?_
      refine sts_no (EdC.t (c_eqSk (e_at 0 (vd 1)) ed_str)) ?_
      refine sts_setL sc56.nd (i := 4) rfl (.inl rfl) (e_lst edd0) fun ds0 h0 => ?_
      subst h0
      refine sts_for (P := fun ds => ds.length ≤ 4) (i_rangeB (m := 4) B ?_ (by decide)) rfl .never (pg_name (i := 5) sc56.nd rfl (.inl rfl)) (tg_name 5) fun ds hds => ?_
      · exact Ev.imp (r_call (a, 5) F (rr 1 (by omega)) hq rfl (eda_cons (vs 0) (eda_d ed_int eda_nil)) ⟨rfl, by show (0 : Int) < 5; decide, by show (5 : Int) < 1073741824; decide⟩) fun y h => h
      refine ⟨fun i ρ => i ≤ ds.length → ∃ ps s5 s6, ρ = [some (.o a), some (.d (Kd.bag k1).d), none, none, some (.l true (ps.map pd)), s5, s6] ∧ ps.length = i ∧ ∀ q ∈ ps, dv k1 q.1 ∧ q.2.natAbs ≤ 4, fun _ => ⟨[], _, _, rfl, rfl, fun _ h => (nomatch h)⟩, ?_, ?_⟩
      · intro i d ρ' hi hI
        have hlt := (List.getElem?_eq_some_iff.mp hi).1
        obtain ⟨ps, s5, s6, rfl, hl, hps⟩ := hI (by omega)
        refine ⟨_, rfl, ?_⟩
        refine sts_set sc56.nd (i := 6) rfl (.inl rfl) (r_call (a, k1) ih hr hq rfl (eda_cons (vs 0) (eda_d (e_at 1 (vd 1)) eda_nil)) ⟨rfl, Kd.plain_ok ho, hdk⟩) fun x hx => ?_
        refine st_append (P := fun d => ∃ n : Int, d = pd (x, n) ∧ n.natAbs ≤ 4) 4 rfl (r_tup2 (vd 6) (r_call (a, true, [.int 1, .int 2, .int (-1), .int 1, .int 3, .int (-2), .int (-3), .int 4]) Fp (rr 2 (by omega)) hq rfl (eda_cons (vs 0) (eda_d (e_tup (edd ed_int (edd ed_int (edd (ed_neg ed_int) (edd ed_int (edd ed_int (edd (ed_neg ed_int) (edd (ed_neg ed_int) (edd ed_int edd0))))))))) eda_nil)) ⟨rfl, Nat.le_of_ble_eq_true rfl, Nat.le_of_ble_eq_true rfl⟩) fun y z hy hz => ?_) (by rw [List.length_map]; omega) fun d hd => ?_
        · subst hy
          have hz : z ∈ ([.int 1, .int 2, .int (-1), .int 1, .int 3, .int (-2), .int (-3), .int 4] : List PyData) := hz
          simp only [List.mem_cons, List.not_mem_nil, or_false] at hz
          rcases hz with rfl | rfl | rfl | rfl | rfl | rfl | rfl | rfl <;> exact ⟨_, rfl, by decide⟩
        · obtain ⟨m, rfl, hm⟩ := hd
          refine sts_nil fun _ => ⟨ps ++ [(x, m)], _, _, by rw [List.map_append]; rfl, by rw [List.length_append, hl]; rfl, fun q hq' => ?_⟩
          rcases List.mem_append.mp hq' with z | z
          · exact hps q z
          · simp at z
            rw [z]
            exact ⟨hx, hm⟩
      · intro ρ' hI
        obtain ⟨ps, s5, s6, rfl, hl, hps⟩ := hI (Nat.le_refl _)
        refine sts_retE (ed_call (k1, false, ps) Fb (rr 11 (by omega)) hq rfl (eda_d (e_at 1 (vd 1)) (eda_cons (EvR.a (vl 4)) eda_nil)) ⟨ho, by show k1.deep ≤ 10; omega, by show ps.length ≤ 1000; omega, fun e he => (hps e he).1.val⟩ fun _ h => h) ?_
        have lps : ps.length ≤ 4 := by omega
        have lp2 : ps.length * 4 ≤ 10 ^ 21 := by omega
        exact bagN_lim ho (c := 4) (B := 10 ^ 21) (m := 4) hps lps (Nat.le_refl _) (Nat.le_refl _) lp2
end
end Lay
/-! PD4 -/
/-! the walks: odd things, things bent -/
namespace Lay
open Quiet
open PySem PySem.Spec PyProof.Rows L2
theorem se_const {c : Const} {j : Nat} {p : Pos} {es : List Expr} {env : Env} : starEach (.Constant c j p :: es) env = (false, eval (.Constant c j p) env) :: starEach es env := rfl
theorem se_tup {xs : List Expr} {j : Nat} {p : Pos} {es : List Expr} {env : Env} : starEach (.Tuple xs j p :: es) env = (false, eval (.Tuple xs j p) env) :: starEach es env := rfl
theorem se_un {o : UnaryOp} {a : Expr} {p : Pos} {es : List Expr} {env : Env} : starEach (.UnaryOp o a p :: es) env = (false, eval (.UnaryOp o a p) env) :: starEach es env := rfl
theorem se_bin {o : Operator} {a c : Expr} {p : Pos} {es : List Expr} {env : Env} : starEach (.BinOp a o c p :: es) env = (false, eval (.BinOp a o c p) env) :: starEach es env := rfl
theorem se_lst {xs : List Expr} {p : Pos} {es : List Expr} {env : Env} : starEach (.List xs p :: es) env = (false, eval (.List xs p) env) :: starEach es env := rfl
theorem se_dict {xs : List (Option Expr)} {ys : List Expr} {p : Pos} {es : List Expr} {env : Env} : starEach (.Dict xs ys p :: es) env = (false, eval (.Dict xs ys p) env) :: starEach es env := rfl
theorem edq {X : Cx} {b : Bs} {ρ : Rho} {e : Expr} {es : List Expr} {d : PyData} {ds : List PyData} (h : Ed X b e ρ d) (t : EdD X b es ρ ds) (hs : starEach (e :: es) X.env = (false, eval e X.env) :: starEach es X.env := by first | exact se_const | exact se_tup | exact se_un | exact se_bin | exact se_lst | exact se_dict) : EdD X b (e :: es) ρ (d :: ds) := edd h t hs
theorem e_any {X : Cx} {b : Bs} {ρ : Rho} {es : List Expr} {pos : Pos} {ds : List PyData} (h : EdD X b es ρ ds) (l : ds.length ≤ 100000 := by exact Nat.le_of_ble_eq_true rfl) : Ed X b (.List es pos) ρ (.dict []) := Ev.any ((e_lst h l).imp fun _ _ => trivial)
section
variable {P : Program} {w : World} {K : PySem.W.Frag} {mg : Str → Option Value} {base : Heap}
abbrev dT (ds : List PyData) : PyData := .tuple ds
abbrev dS (s : Str) : PyData := .str s
def oddA : List PyData := [.none, .bool true, .bool false, .int 0, .int 1, .int (-1), .int 7, .int (10 ^ (30 : Int).toNat), dS "", dS "num", dS "x", dS "let", dS "unit", dT [], dT [.int 0], dT [dS "num"], dT [dS "unit", .int 1]]
def oddB : List PyData := [dT [dS "pair", dT [dS "num"]], dT [dS "bag"], dT [dS "bag", dT [dS "bag", dT [dS "num"]]], dT [dS "name", dS "x"], dT [dS "name", dS "let"], dT [dS "number", .bool true]]
def oddC : List PyData := [dT [dS "fun", dT [dS "num"], dT [dS "num"]], .dict [], .dict [], .dict [], dS "1x", dT [dS "left", .int 1], dT [dT [dS "num"], .int 2], dS "x'", dT [dS "name", dS "x'"]]
theorem odd_wide : ∀ y ∈ oddA ++ oddB ++ oddC, wide 50 y = true := by
  have : ((oddA ++ oddB ++ oddC).all (wide 50)) = true := by kernel_rfl
  exact List.all_eq_true.mp this
abbrev OddK (P : Program) (w : World) (K : PySem.W.Frag) (mg : Str → Option Value) (base : Heap) : Prop := Kn P w K mg base "_law_odd" 3 pp47 (fun a : Addr => [.o a]) (fun W a => W = some a) fun _ y => wide 50 y = true
theorem kn_law_odd (D : Df K mg "_law_odd" 47 pp47) (G : PickK P w K mg base) : OddK P w K mg base := by
  refine kn_df D sc47 (fun _ => rfl) (fun _ => nlo1) ?_
  rintro f cdv A outer s H W a hr hq rfl
  refine sts_set sc47.nd (i := 1) rfl (.inl rfl) (e_tup (edq ed_non (edq ed_bl (edq ed_bl (edq ed_int (edq ed_int (edq (ed_neg ed_int) (edq ed_int (edq (ed_pow ⟨by decide, by decide, by decide⟩ ed_int ed_int) (edq ed_str (edq ed_str (edq ed_str (edq ed_str (edq ed_str (edq (e_tup edd0) (edq (e_tup (edq ed_int edd0)) (edq (e_tup (edq ed_str edd0)) (edq (e_tup (edq ed_str (edq ed_int edd0))) edd0)))))))))))))))))) fun d1 h1 => ?_
  subst h1
  refine sts_set sc47.nd (i := 2) rfl (.inl rfl) (e_tup (edq (e_tup (edq ed_str (edq (e_tup (edq ed_str edd0)) edd0))) (edq (e_tup (edq ed_str edd0)) (edq (e_tup (edq ed_str (edq (e_tup (edq ed_str (edq (e_tup (edq ed_str edd0)) edd0))) edd0))) (edq (e_tup (edq ed_str (edq ed_str edd0))) (edq (e_tup (edq ed_str (edq ed_str edd0))) (edq (e_tup (edq ed_str (edq ed_bl edd0))) edd0))))))) fun d1 h1 => ?_
  subst h1
  refine sts_set sc47.nd (i := 3) rfl (.inl rfl) (e_tup (edq (e_tup (edq ed_str (edq (e_tup (edq ed_str edd0)) (edq (e_tup (edq ed_str edd0)) edd0)))) (edq (e_any edd0) (edq (e_any (edq ed_int edd0)) (edq e_dict0 (edq ed_str (edq (e_tup (edq ed_str (edq ed_int edd0))) (edq (e_tup (edq (e_tup (edq ed_str edd0)) (edq ed_int edd0))) (edq ed_str (edq (e_tup (edq ed_str (edq ed_str edd0))) edd0)))))))))) fun d1 h1 => ?_
  subst h1
  refine sts_ret (Ev.imp (r_call (a, true, oddA ++ oddB ++ oddC) G hr hq rfl (eda_cons (vs 0) (eda_d (ed_cat (ed_cat (vd 1) (vd 2) (Nat.le_of_ble_eq_true rfl)) (vd 3) (Nat.le_of_ble_eq_true rfl)) eda_nil)) ⟨rfl, Nat.le_of_ble_eq_true rfl, Nat.le_of_ble_eq_true rfl⟩) fun y hy => odd_wide y hy)
theorem e_toE {X : Cx} {b : Bs} {ρ : Rho} {e e2 : Expr} {p2 pos : Pos} {ds : List PyData} (k : Nat) (h : Ed X b e ρ (.tuple ds)) (hk : Ed X b e2 ρ (.int (k : Nat))) : Ed X b (.Subscript e (.Slice none (some e2) none p2) pos) ρ (.tuple (ds.take k)) := by
  rw [← cut_to]
  exact ed_slice h evo_none (edo_some hk)
theorem e_fromE {X : Cx} {b : Bs} {ρ : Rho} {e e2 : Expr} {p2 pos : Pos} {ds : List PyData} (k : Nat) (h : Ed X b e ρ (.tuple ds)) (hk : Ed X b e2 ρ (.int (k : Nat))) : Ed X b (.Subscript e (.Slice (some e2) none none p2) pos) ρ (.tuple (ds.drop k)) := by
  rw [← cut_from]
  exact ed_slice h (edo_some hk) evo_none
theorem nlod {w : Addr} {d : PyData} : ∀ s ∈ ([.o w, .d d] : List S), ∀ c, s ≠ .c true c := nlo2
theorem wide_cut {m : Nat} {ds : List PyData} (h : wide m (.tuple ds) = true) (xs ys zs : List PyData) (hx : ∀ x ∈ xs ++ ys ++ zs, wide (m + 1) x = true ∨ x ∈ ds) (hl : (xs ++ ys ++ zs).length ≤ m + 1) : wide (m + 1) (.tuple (xs ++ ys ++ zs)) = true := by
  refine wide_tup.mpr ⟨hl, fun x hm => ?_⟩
  rcases hx x hm with z | z
  · exact z
  · exact wide_mono (by omega) ((wide_tup.mp h).2 x z)
abbrev BentK (P : Program) (w : World) (K : PySem.W.Frag) (mg : Str → Option Value) (base : Heap) : Prop := Kn P w K mg base "_law_bent" 4 pp62 (fun q : Addr × PyData => [.o q.1, .d q.2]) (fun W q => W = some q.1 ∧ wide 60 q.2 = true) fun q y => wide 61 y = true
theorem kn_law_bent (B : Bi mg) (D : Df K mg "_law_bent" 62 pp62) (F : DrawK P w K mg base) (O : OddK P w K mg base) (Wh : WholeK P w K mg base "_law_is_whole" "_law_thing") : BentK P w K mg base := by
  refine kn_df D sc62 (fun _ => rfl) (fun _ => nlod) ?_
  rintro f cdv A outer s H W ⟨a, d⟩ hr hq ⟨rfl, hw⟩
  replace hw : wide 60 d = true := hw
  have r1 : Room 1 (A.deeper (envOfC "_law_bent" (defScope (PH.top 62)) s.heap.objs.size f cdv)) := hr.mono (by omega)
  have odd : ∀ {y : PyData}, wide 50 y = true → wide 61 y = true := fun h => wide_mono (by decide) h
  refine sts_set sc62.nd (i := 2) rfl (.inl rfl) (r_call (a, 8) F r1 hq rfl (eda_cons (vs 0) (eda_d ed_int eda_nil)) ⟨rfl, by show (0 : Int) < 8; decide, by show (8 : Int) < 1073741824; decide⟩) fun d0 h0 => ?_
  obtain ⟨j, rfl, hj⟩ := h0
  refine sts_when (EvW.t (evw_and (PB := fun _ => True) (PC := fun k => k = whole d) (PD := fun k => k = true → whole d = true) (EvC.t (i_cmp0 (edc_lt (vd 2) ed_int))) (fun _ => evw_and1 (edt_val (ed_call d Wh r1 hq rfl (eda_d (vd 1) eda_nil) trivial fun _ h => h))) (fun k _ h1 h2 => by rw [← h1, h2]) fun _ h => by cases h)) (fun h => ?_) fun _ => ?_
  · obtain ⟨i, rfl⟩ := whole_iff.mp (h rfl)
    exact sts_ret (ev_opI0 op_add (vd 1) (ed_if (EdC.t (c_eqI (vd 2) ed_int)) (fun _ => ed_int) fun _ => ed_neg ed_int) fun d1 d2 e1 e2 => ⟨i, if decide ((j : Int) = 0) = true then 1 else -1, e1, by rw [e2]; split <;> rfl, by show wide 61 (.int _) = true; simp [wide]⟩)
  cases d with
  | tuple ds =>
    refine sts_when (EvW.t (evw_or (PB := fun _ => True) (PC := fun k => k = ds.isEmpty) (PD := fun k => k = false → ds.isEmpty = false) (EvC.t (i_cmp0 (edc_lt (vd 2) ed_int))) (fun _ => edw_orF (edt_notF (t_tup B (vd 1))) (edw_or1 (EdC.t (c_eq0 (ru hr) (vd 1) (e_tup edd0))))) (fun k _ h1 h2 => by rw [← h1, h2]) fun _ h => by cases h)) (fun _ => ?_) fun h => ?_
    · exact sts_ret (Ev.imp (r_call a O (hr.mono (by omega)) hq rfl (eda_cons (vs 0) eda_nil) rfl) fun y h => odd h)
    have hne : 0 < ds.length := by
      have := h rfl
      cases ds with
      | nil => cases this
      | cons x xs => simp
    obtain ⟨hl, hm⟩ := wide_tup.mp hw
    refine sts_set sc62.nd (i := 3) rfl (.inl rfl) (r_call (a, ((ds.length : Nat) : Int)) F r1 hq rfl (eda_cons (vs 0) (eda_d (e_len B (vd 1)) eda_nil)) ⟨rfl, by show (0 : Int) < _; omega, by show ((ds.length : Nat) : Int) < _; omega⟩) fun d1 h1 => ?_
    obtain ⟨c, rfl, hc⟩ := h1
    have hc : c < ds.length := by
      have : ((c : Nat) : Int) < ((ds.length : Nat) : Int) := hc
      omega
    have ec : ((c : Nat) : Int) + 1 = ((c + 1 : Nat) : Int) := by omega
    refine sts_when (EvC.t (i_cmp0 (c_eqI (vd 2) ed_int))) (fun _ => ?_) fun _ => ?_
    · refine sts_retE (ed_cat (e_toE c (vd 1) (vd 3)) (e_fromE (c + 1) (vd 1) (ed_cast (ed_add (vd 3) ed_int) (by rw [ec]))) (by rw [List.length_take, List.length_drop]; omega)) ?_
      refine wide_tup.mpr ⟨by rw [List.length_append, List.length_take, List.length_drop]; omega, fun x hx => wide_mono (by decide) (hm x ?_)⟩
      rcases List.mem_append.mp hx with z | z
      · exact List.mem_of_mem_take z
      · exact List.mem_of_mem_drop z
    refine sts_when (EvC.t (i_cmp0 (c_eqI (vd 2) ed_int))) (fun _ => ?_) fun _ => ?_
    · refine sts_retE (ed_cat (ed_cat (e_toE c (vd 1) (vd 3)) (e_tup (edd (ed_ix (vd 1) (vd 3) (atI_nat (List.getElem?_eq_getElem hc))) edd0)) (by rw [List.length_take]; simp; omega)) (e_fromE c (vd 1) (vd 3)) (by rw [List.length_append, List.length_take, List.length_drop]; simp; omega)) ?_
      refine wide_tup.mpr ⟨by rw [List.length_append, List.length_append, List.length_take, List.length_drop]; simp; omega, fun x hx => wide_mono (by decide) (hm x ?_)⟩
      rcases List.mem_append.mp hx with z | z
      · rcases List.mem_append.mp z with z | z
        · exact List.mem_of_mem_take z
        · simp at z
          rw [z]
          exact List.getElem_mem hc
      · exact List.mem_of_mem_drop z
    refine sts_when (EvC.t (i_cmp0 (c_eqI (vd 2) ed_int))) (fun _ => ?_) fun _ => ?_
    · refine sts_ret (ev_cat (Pa := fun x => x = .tuple ds) (Pb := fun x => ∃ y, x = .tuple [y] ∧ wide 50 y = true) (vd 1) (r_tup1 (r_call a O (hr.mono (by omega)) hq rfl (eda_cons (vs 0) eda_nil) rfl) fun y hy => ⟨y, rfl, hy⟩) fun d1 d2 e1 ⟨y, e2, hy⟩ => ⟨ds, [y], e1, e2, by simp; omega, ?_⟩)
      refine wide_tup.mpr ⟨by rw [List.length_append]; simp; omega, fun x hx => ?_⟩
      rcases List.mem_append.mp hx with z | z
      · exact wide_mono (by decide) (hm x z)
      · simp at z
        rw [z]
        exact odd hy
    · refine sts_ret (ev_if (EvC.t (i_cmp0 (c_eqI (vd 2) ed_int))) (fun _ => ed_s (e_back (vd 1)) ?_) fun _ => ev_listT rfl B.list (Ev.imp (vd 1) fun x hx => ⟨ds, hx⟩) ?_)
      · refine wide_tup.mpr ⟨by rw [List.length_reverse]; omega, fun x hx => wide_mono (by decide) (hm x (List.mem_reverse.mp hx))⟩
      · show wide 61 (.dict []) = true
        simp [wide]
  | _ =>
    refine sts_when (EvW.t (evw_or (PB := fun _ => True) (PC := fun k => k = true) (PD := fun k => k = true) (EvC.t (i_cmp0 (edc_lt (vd 2) ed_int))) (fun _ => edw_orT (edt_notT (t_tup B (vd 1)))) (fun k _ h => h) fun _ => rfl)) (fun _ => ?_) fun h => by cases h
    exact sts_ret (Ev.imp (r_call a O (hr.mono (by omega)) hq rfl (eda_cons (vs 0) eda_nil) rfl) fun y h => odd h)
end
end Lay
/-! PD5 -/
/-! the walks: spoilt things -/
namespace Lay
open Quiet
open PySem PySem.Spec PyProof.Rows L2
section
variable {P : Program} {w : World} {K : PySem.W.Frag} {mg : Str → Option Value} {base : Heap}
def stepD (q : List PyData × Nat) : PyData := .tuple [.tuple q.1, .int (q.2 : Nat)]
abbrev SpoilK (P : Program) (w : World) (K : PySem.W.Frag) (mg : Str → Option Value) (base : Heap) : Prop := Kn P w K mg base "_law_spoilt" 5 pp63 (fun q : Addr × PyData => [.o q.1, .d q.2]) (fun W q => W = some q.1 ∧ wide 60 q.2 = true) fun q y => wide 61 y = true
theorem kn_law_spoilt (B : Bi mg) (D : Df K mg "_law_spoilt" 63 pp63) (F : DrawK P w K mg base) (O : BentK P w K mg base) : SpoilK P w K mg base := by
  refine kn_df D sc63 (fun _ => rfl) (fun _ => nlod) ?_
  rintro f cdv A outer s H W ⟨a, d⟩ hr hq ⟨rfl, hw⟩
  replace hw : wide 60 d = true := hw
  have r1 : Room 1 (A.deeper (envOfC "_law_spoilt" (defScope (PH.top 63)) s.heap.objs.size f cdv)) := hr.mono (by omega)
  refine sts_par 2 3 sc63.nd (by decide) (EvL.n (e_lst edd0)) (Ev.n (vd 1)) fun s1 s2 h1 h2 => ?_
  obtain ⟨_, rfl, rfl⟩ := h1
  obtain ⟨d0, rfl, e0⟩ := h2
  rw [e0]
  refine sts_forJ (P := fun ds => ds.length ≤ 5) (i_rangeB (m := 5) B ?_ (by decide)) rfl .never (pg_name (i := 4) sc63.nd rfl (.inl rfl)) (tg_name 4) fun ts hts => ?_
  · exact Ev.imp (r_call (a, 6) F r1 hq rfl (eda_cons (vs 0) (eda_d ed_int eda_nil)) ⟨rfl, by show (0 : Int) < 6; decide, by show (6 : Int) < 1073741824; decide⟩) fun y h => h
  refine ⟨fun i ρ => ∃ (ps : List (List PyData × Nat)) (y : PyData) (s4 s5 : Option Lay.S), ρ = [some (.o a), some (.d d), some (.l true (ps.map stepD)), some (.d y), s4, s5, none] ∧ ps.length ≤ i ∧ wide 60 y = true ∧ ∀ q ∈ ps, wide 60 (.tuple q.1) = true ∧ q.2 < q.1.length,
    fun ρ => ∃ (ps : List (List PyData × Nat)) (y : PyData) (s4 s5 : Option Lay.S), ρ = [some (.o a), some (.d d), some (.l true (ps.map stepD)), some (.d y), s4, s5, none] ∧ wide 60 y = true ∧ ∀ q ∈ ps, wide 60 (.tuple q.1) = true ∧ q.2 < q.1.length,
    ⟨[], d, none, none, rfl, Nat.le_refl _, hw, fun _ h => (nomatch h)⟩, ?_, fun ρ' ⟨ps, y, s4, s5, e, _, h1, h2⟩ => ⟨ps, y, s4, s5, e, h1, h2⟩, ?_⟩
  · rintro i t ρ' hi ⟨ps, y, s4, s5, rfl, hl, hy, hps⟩
    have hi5 : i < ts.length := (List.getElem?_eq_some_iff.mp hi).1
    refine ⟨_, rfl, ?_⟩
    have stop : ∀ (s4 : Option Lay.S), ∃ (ps' : List (List PyData × Nat)) (y' : PyData) (s4' s5' : Option Lay.S), [some (.o a), some (.d d), some (.l true (ps.map stepD)), some (.d y), s4, s5, none] = [some (.o a), some (.d d), some (.l true (ps'.map stepD)), some (.d y'), s4', s5', none] ∧ wide 60 y' = true ∧ ∀ q ∈ ps', wide 60 (.tuple q.1) = true ∧ q.2 < q.1.length := fun s4 => ⟨ps, y, s4, s5, rfl, hy, hps⟩
    cases y with
    | tuple ds =>
      cases he : ds.isEmpty with
      | true => exact sts_yes (EdW.t (edw_orF (edt_notF (t_tup B (vd 3))) (edw_or1 (EdC.t (c_eq0 (ru hr) (vd 3) (e_tup edd0)))))) (sts_break (stop _)) he
      | false =>
        refine sts_no (EdW.t (edw_orF (edt_notF (t_tup B (vd 3))) (edw_or1 (EdC.t (c_eq0 (ru hr) (vd 3) (e_tup edd0)))))) ?_ he
        have hne : 0 < ds.length := by
          cases ds with
          | nil => cases he
          | cons x xs => simp
        have hl60 := (wide_tup.mp hy).1
        refine sts_set sc63.nd (i := 5) rfl (.inl rfl) (r_call (a, ((ds.length : Nat) : Int)) F r1 hq rfl (eda_cons (vs 0) (eda_d (e_len B (vd 3)) eda_nil)) ⟨rfl, by show (0 : Int) < _; omega, by show ((ds.length : Nat) : Int) < _; omega⟩) fun d1 h1 => ?_
        obtain ⟨c, rfl, hc⟩ := h1
        have hc : c < ds.length := by
          have : ((c : Nat) : Int) < ((ds.length : Nat) : Int) := hc
          omega
        refine st_append (P := fun z => z = stepD (ds, c)) 2 rfl (e_tup (edd (vd 3) (edd (vd 5) edd0))) (by rw [List.length_map]; omega) fun d1 h1 => ?_
        subst h1
        refine sts_set sc63.nd (i := 3) rfl (.inl rfl) (ed_ix (vd 3) (vd 5) (atI_nat (List.getElem?_eq_getElem hc))) fun d1 h1 => ?_
        subst h1
        refine sts_nil ⟨ps ++ [(ds, c)], ds[c], _, _, by rw [List.map_append]; rfl, by rw [List.length_append]; simp; omega, (wide_tup.mp hy).2 _ (List.getElem_mem hc), fun q hq' => ?_⟩
        rcases List.mem_append.mp hq' with z | z
        · exact hps q z
        · simp at z
          rw [z]
          exact ⟨hy, hc⟩
    | _ => exact sts_yes (EdW.t (edw_orT (edt_notT (t_tup B (vd 3))))) (sts_break (stop _))
  · rintro ρ' ⟨ps, y, s4, s5, rfl, hy, hps⟩
    refine sts_set sc63.nd (i := 3) rfl (.inl rfl) (r_call (a, y) O hr hq rfl (eda_cons (vs 0) (eda_d (vd 3) eda_nil)) ⟨rfl, hy⟩) fun z hz => ?_
    refine sts_for (P := fun ds => ds = (ps.map stepD).reverse) (evi_L (evl_rev (vl 2) fun d hd => by rw [hd])) rfl .never (gp_twoF rfl sc63.nd rfl rfl) (tg_two (K := K) 6 5) fun ts hts => ?_
    subst hts
    refine ⟨fun i ρ => ∃ (y : PyData) (s4 s5 s6 : Option Lay.S), ρ = [some (.o a), some (.d d), some (.l true (ps.map stepD)), some (.d y), s4, s5, s6] ∧ wide 61 y = true, ⟨z, _, _, _, rfl, hz⟩, ?_, ?_⟩
    · rintro i t ρ' hi ⟨y, s4, s5, s6, rfl, hy⟩
      have hm := List.mem_reverse.mp (List.mem_of_getElem? hi)
      obtain ⟨⟨ds, c⟩, hq', rfl⟩ := List.mem_map.mp hm
      obtain ⟨hwd, hc⟩ := hps _ hq'
      replace hc : c < ds.length := hc
      obtain ⟨hl, hm2⟩ := wide_tup.mp hwd
      replace hl : ds.length ≤ 60 := hl
      refine ⟨_, ⟨_, _, rfl, rfl⟩, ?_⟩
      have ec : ((c : Nat) : Int) + 1 = ((c + 1 : Nat) : Int) := by omega
      refine sts_set sc63.nd (i := 3) rfl (.inl rfl) (ed_cat (ed_cat (e_toE c (vd 6) (vd 5)) (e_tup (edd (vd 3) edd0)) (by rw [List.length_take]; simp; omega)) (e_fromE (c + 1) (vd 6) (ed_cast (ed_add (vd 5) ed_int) (by rw [ec]))) (by rw [List.length_append, List.length_take, List.length_drop]; simp; omega)) fun d1 h1 => ?_
      subst h1
      refine sts_nil ⟨_, _, _, _, rfl, wide_tup.mpr ⟨by rw [List.length_append, List.length_append, List.length_take, List.length_drop]; simp; omega, fun x hx => ?_⟩⟩
      rcases List.mem_append.mp hx with z | z
      · rcases List.mem_append.mp z with z | z
        · exact wide_mono (by decide) (hm2 x (List.mem_of_mem_take z))
        · simp at z
          rw [z]
          exact hy
      · exact wide_mono (by decide) (hm2 x (List.mem_of_mem_drop z))
    · rintro ρ' ⟨y, s4, s5, s6, rfl, hy⟩
      exact sts_ret (Ev.imp (vd 3) fun x hx => by rw [hx]; exact hy)
end
end Lay
/-! PA8 -/
/-! repr of a list of data -/
namespace Lay
open PySem PySem.Spec PyProof.Rows L2
section
variable {X : Cx} {b : Bs} {ρ : Rho} {e : Expr} {p pos : Pos} {ds : List PyData} {n m : Nat}
def rRepr (K : PySem.W.Frag) : List V → Hp → VK → Prop := fun vs H Q => ∃ a ds n, vs = [.ref a] ∧ Dp K H (.ref a) (.list ds) ∧ Fine n 60 (.list ds) ∧ n ≤ 200000 ∧ Q (.str (PyData.list ds).shown) H
theorem cr_repr (hg : X.A.guards = some []) (hu : X.A.units + 64 < cLine) : CallR X (.builtin "repr") (rRepr X.K) := by
  intro pins s σ H vs us Q I r ⟨a, ds, n, ev, hd, hf, hn, q⟩
  subst ev
  cases r with
  | cons r rr =>
    cases rr
    obtain rfl := (show _ = Value.ref a from r)
    obtain ⟨as, rd⟩ := Dp.reads I (.list ds) (.ref a) (.ref a) hd rfl
    have := hf.deep
    refine repr_of_reads' rd hf.shw (PyData.noDict_hsm (PyData.hasDict_of_canLay _ hf.lay)) hg (by omega) (fun _ _ e => e) (fun h' u tk hk => ?_) (hf.fits hn)
    exact ⟨.str (PyData.list ds).shown, H, I.kept (t' := tk) hk, ⟨u, rfl⟩, q⟩
theorem e_repr (B : Bi X.mg) (hq : X.A.guards = some []) (hu : X.A.units + 64 < cLine) (h : EvR X b e ρ fun z => z = ds) (hf : Fine n 60 (.list ds)) (hn : n ≤ 200000) (hg : Gl X "repr" := by rfl) (hs : starEach [e] X.env = (false, eval e X.env) :: starEach [] X.env := by rfl) : Ed X b (.Call (.Name "repr" p) [e] [] pos) ρ (.str (PyData.list ds).shown) := by
  intro σ H ok Q q
  refine exp_callB (cr_repr hq hu) hg B.repr (by decide +kernel) (exa_one (h σ H ok _ fun a H1 vs d hw s w h1 r e1 => ?_) hs) (he := hs)
  subst e1
  exact ⟨a, d, n, rfl, .lst (SqL.of h1) (r.dp (by simpa [PyData.canLay0] using hf.lay)), hf, hn, q _ H1 _ s w (.str _) rfl⟩
end
section
variable {P : Program} {w : World} {K : PySem.W.Frag} {mg : Str → Option Value} {base : Heap}
abbrev SameK (P : Program) (w : World) (K : PySem.W.Frag) (mg : Str → Option Value) (base : Heap) : Prop := Kn P w K mg base "_law_same" 1 pp46 (fun ds : List PyData => [.l false ds, .l false ds]) (fun _ ds => ∃ n, n ≤ 200000 ∧ FineA n 59 ds) fun _ y => y = .bool true
theorem kn_law_same (B : Bi mg) (D : Df K mg "_law_same" 46 pp46) : SameK P w K mg base := by
  refine kn_df D sc46 (fun _ => rfl) (fun ds s hs c e => ?_) ?_
  · rcases List.mem_cons.mp hs with h | h
    · rw [h] at e
      cases e
    · rw [List.mem_singleton] at h
      rw [h] at e
      cases e
  rintro f cdv A outer s H W ds hr hq ⟨n, hn, hf⟩
  have hf := fine_lst hf
  refine sts_retE (EdC.v (c_eqS (k := true) (e_repr B hq (ru hr) (vl 0) hf hn) (e_repr B hq (ru hr) (vl 1) hf hn) (decide_eq_true rfl))) rfl
/-- .. of flags -/
theorem cr_reprB {X : Cx} : CallR X (.builtin "repr") fun vs H Q => ∃ k : Bool, vs = [.bl k] ∧ Q (.str (if k then "True" else "False")) H := by
  intro pins s σ H vs us Q I r ⟨k, ev, q⟩
  subst ev
  cases r with
  | cons r rr =>
    cases rr
    obtain rfl := (show _ = Value.bool k from r)
    refine P.repr_of_bool ⟨.str (if k then "True" else "False"), H, I.tok _, ?_, q⟩
    cases k <;> exact ⟨_, rfl⟩
theorem e_reprB {X : Cx} {b : Bs} {ρ : Rho} {e : Expr} {p pos : Pos} {k : Bool} (B : Bi X.mg) (h : Ed X b e ρ (.bool k)) (hg : Gl X "repr" := by rfl) (hs : starEach [e] X.env = (false, eval e X.env) :: starEach [] X.env := by rfl) : Ed X b (.Call (.Name "repr" p) [e] [] pos) ρ (.str (if k then "True" else "False")) := by
  intro σ H ok Q q
  refine exp_callB cr_reprB hg B.repr (by decide +kernel) (exa_one (h σ H ok _ fun v H1 d s w r e1 => ?_) hs) (he := hs)
  subst e1
  cases r
  exact ⟨k, rfl, q _ H1 _ s w (.str _) rfl⟩
abbrev SameBK (P : Program) (w : World) (K : PySem.W.Frag) (mg : Str → Option Value) (base : Heap) : Prop := Kn P w K mg base "_law_same" 1 pp46 (fun k : Bool => [.d (.bool k), .d (.bool k)]) (fun _ _ => True) fun _ y => y = .bool true
theorem kn_law_sameB (B : Bi mg) (D : Df K mg "_law_same" 46 pp46) : SameBK P w K mg base := by
  refine kn_df D sc46 (fun _ => rfl) (fun k => dats_nl (ds := [.bool k, .bool k])) ?_
  rintro f cdv A outer s H W k hr hq _
  exact sts_retE (EdC.v (c_eqS (k := true) (e_reprB B (vd 0)) (e_reprB B (vd 1)) (decide_eq_true rfl))) rfl
/-- same([..], [..]) -/
theorem e_same {X : Cx} {b : Bs} {ρ : Rho} {e1 e2 : Expr} {p pos : Pos} {ds : List PyData} {n : Nat} (F : SameK X.prog X.w X.K X.mg X.base) (hr : Room 1 X.A) (hq : X.A.guards = some []) (h1 : EvR X b e1 ρ fun z => z = ds) (h2 : EvR X b e2 ρ fun z => z = ds) (hf : FineA n 59 ds) (hn : n ≤ 200000) (hg : Gl X "_law_same" := by rfl)
    (hs : starEach [e1, e2] X.env = (false, eval e1 X.env) :: starEach [e2] X.env := by rfl) (hs2 : starEach [e2] X.env = (false, eval e2 X.env) :: starEach [] X.env := by rfl) (hpl : (backTo pos (starEach [e2] X.env)).any (·.1) = false := by rfl) : Ed X b (.Call (.Name "_law_same" p) [e1, e2] [] pos) ρ (.bool true) :=
  ed_call ds F hr hq hg (eda_cons h1.a (eda_cons h2.a eda_nil hs2) hs) ⟨n, hn, hf⟩ (fun _ h => h) (by decide) hs hpl
end
end Lay
/-! PE1 -/
/-! the walks: the law's parts -/
namespace Lay
open Quiet
open PySem PySem.Spec PyProof.Rows L2
section
variable {P : Program} {w : World} {K : PySem.W.Frag} {mg : Str → Option Value} {base : Heap}
/-- what the law's helpers promise -/
structure Helps (P : Program) (w : World) (K : PySem.W.Frag) (mg : Str → Option Value) (base : Heap) : Prop where
  bi : Bi mg
  draw : DrawK P w K mg base
  pick : PickK P w K mg base
  same : SameK P w K mg base
  sameB : SameBK P w K mg base
  odd : OddK P w K mg base
  plain : ∀ n, KDrawK P w K mg base "_law_plain" (n + 1) n fun k => k.plain = true
  group : ∀ n, KDrawK P w K mg base "_law_group" (n + 1) n fun k => k.group = true ∧ k.ok = true
  data : ∀ n, KDrawK P w K mg base "_law_data" (n + 1) n fun k => k.ok = true
  order : ∀ n, LOrdK P w K mg base n
  bag : LBagK P w K mg base 10
  value : LValueK P w K mg base 4
  isVal : LValK P w K mg base 4
  zero : Kn P w K mg base "_law_zero" 4 pp59 (e1 Kd.d) (fun _ k => k.group = true ∧ k.deep ≤ 4) fun k y => y = zeroD k
  sum : Kn P w K mg base "_law_sum" 15 pp60 (e3 (fun q : Kd × PyData × PyData => q.1.d) (fun q => q.2.1) (fun q => q.2.2)) (fun _ q => q.1.ok = true ∧ q.1.group = true ∧ q.1.deep ≤ 4 ∧ (val q.1 q.2.1 ∧ wide 100 q.2.1 = true) ∧ val q.1 q.2.2 ∧ wide 100 q.2.2 = true) fun q y => y = sumD q.1 q.2.1 q.2.2
  many : Kn P w K mg base "_law_many" 4 pp61 (e3 (fun q : Kd × Int × PyData => q.1.d) (fun q => .int q.2.1) (fun q => q.2.2)) (fun _ q => q.1.ok = true ∧ q.1.group = true ∧ q.1.deep ≤ 4 ∧ q.2.1.natAbs ≤ 10 ^ 10 ∧ val q.1 q.2.2 ∧ wide 100 q.2.2 = true) fun q y => y = manyD q.2.1 q.1 q.2.2
  spoil : SpoilK P w K mg base
abbrev bagPre : Option Addr → Kd × List (PyData × Int) → Prop := fun _ q => q.1.plain = true ∧ q.1.deep ≤ 7 ∧ (∀ e ∈ q.2, val q.1 e.1) ∧ wide 100 (.tuple (q.2.map pd)) = true
abbrev bagEnc : Kd × List (PyData × Int) → List S := e2 (fun q => (Kd.bag q.1).d) (fun q => .tuple (q.2.map pd))
abbrev bagPost : Kd × List (PyData × Int) → PyData → Prop := fun q y => y = .tuple ((bagN q.1 q.2).map pd)
abbrev cntPre : Option Addr → Kd × List (PyData × Int) × PyData → Prop := fun _ q => q.1.plain = true ∧ q.1.deep ≤ 7 ∧ (val (.bag q.1) (.tuple (q.2.1.map pd)) ∧ wide 100 (.tuple (q.2.1.map pd)) = true) ∧ val q.1 q.2.2 ∧ wide 100 q.2.2 = true
abbrev cntEnc : Kd × List (PyData × Int) × PyData → List S := e3 (fun q => (Kd.bag q.1).d) (fun q => .tuple (q.2.1.map pd)) (fun q => q.2.2)
abbrev cntPost : Kd × List (PyData × Int) × PyData → PyData → Prop := fun q y => y = .int (tot q.2.2 q.2.1)
abbrev supPre : Option Addr → Kd × List (PyData × Int) → Prop := fun _ q => q.1.plain = true ∧ q.1.deep ≤ 7 ∧ wide 100 (.tuple (q.2.map pd)) = true ∧ val (.bag q.1) (.tuple (q.2.map pd))
/-- .. the package's, of bags -/
structure ApiB (P : Program) (w : World) (K : PySem.W.Frag) (mg : Str → Option Value) (base : Heap) : Prop where
  bag : Kn P w K mg base "bag_of" 40 pp39 bagEnc bagPre bagPost
  bagK : KnK P w K mg base "bag_of" 40 pp39 ["pairs", "kind"] [1, 0] bagEnc bagPre bagPost
  count : Kn P w K mg base "count_of" 40 pp40 cntEnc cntPre cntPost
  countK : KnK P w K mg base "count_of" 40 pp40 ["value", "bag", "kind"] [2, 1, 0] cntEnc cntPre cntPost
  supp : Kn P w K mg base "support_of" 40 pp41 bagEnc supPre fun q y => y = .tuple (suppD q.2)
  suppK : KnK P w K mg base "support_of" 40 pp41 ["bag", "kind"] [1, 0] bagEnc supPre fun q y => y = .tuple (suppD q.2)
/-- .. the package's -/
structure Api (P : Program) (w : World) (K : PySem.W.Frag) (mg : Str → Option Value) (base : Heap) : Prop where
  isVal : IsValK P w K mg base
  isValK : KnK P w K mg base "is_value" 40 pp33 ["value", "kind"] [1, 0] (e2 (fun q : Kd × PyData => q.1.d) (·.2)) (fun _ q => q.1.ok = true ∧ q.1.deep ≤ 8 ∧ wide 100 q.2 = true) fun q y => y = .bool (Lay.valued q.1 q.2)
  order : OrderK P w K mg base
  orderK : KnK P w K mg base "order" 40 pp34 ["two", "one", "kind"] [2, 1, 0] (e3 (fun q : Kd × PyData × PyData => q.1.d) (fun q => q.2.1) (fun q => q.2.2)) (fun _ q => q.1.plain = true ∧ q.1.deep ≤ 8 ∧ (wide 100 q.2.1 = true ∧ val q.1 q.2.1) ∧ wide 100 q.2.2 = true ∧ val q.1 q.2.2) fun q y => y = .int (lord q.1 q.2.1 q.2.2)
  zero : ZeroK P w K mg base
  zeroK : KnK P w K mg base "zero_of" 40 pp35 ["kind"] [0] (e1 Kd.d) (fun _ k => k.ok = true ∧ k.group = true ∧ k.deep ≤ 8) fun k y => y = zeroD k
  sum : SumK P w K mg base
  sumK : KnK P w K mg base "sum_of" 40 pp36 ["two", "one", "kind"] [2, 1, 0] (e3 (fun q : Kd × PyData × PyData => q.1.d) (fun q => q.2.1) (fun q => q.2.2)) (fun _ q => q.1.ok = true ∧ q.1.group = true ∧ q.1.deep ≤ 8 ∧ (wide 100 q.2.1 = true ∧ val q.1 q.2.1) ∧ wide 100 q.2.2 = true ∧ val q.1 q.2.2) fun q y => y = sumD q.1 q.2.1 q.2.2
  opp : OppK P w K mg base
  oppK : KnK P w K mg base "opposite" 40 pp37 ["one", "kind"] [1, 0] (e2 (fun q : Kd × PyData => q.1.d) (fun q => q.2)) (fun _ q => q.1.ok = true ∧ q.1.group = true ∧ q.1.deep ≤ 8 ∧ wide 100 q.2 = true ∧ val q.1 q.2) fun q y => y = manyD (-1) q.1 q.2
  many : ManyK P w K mg base
  manyK : KnK P w K mg base "many_of" 40 pp38 ["one", "number", "kind"] [2, 1, 0] (e3 (fun q : Kd × Int × PyData => q.1.d) (fun q => .int q.2.1) (fun q => q.2.2)) (fun _ q => q.1.ok = true ∧ q.1.group = true ∧ q.1.deep ≤ 8 ∧ q.2.1.natAbs ≤ 10 ^ 10 ∧ wide 100 q.2.2 = true ∧ val q.1 q.2.2) fun q y => y = manyD q.2.1 q.1 q.2.2
variable (L : Helps P w K mg base) (Y : Api P w K mg base)
theorem dv_wide {k : Kd} {d : PyData} {m : Nat} (hm : 4 ≤ m) (h : dv k d) : wide m d = true := vok_wide (by omega) (fun n hn => Nat.le_trans hn hm) h
abbrev PartK (P : Program) (w : World) (K : PySem.W.Frag) (mg : Str → Option Value) (base : Heap) (x : Str) : Prop := Kn P w K mg base x 50 ["_law_well_here"] (fun a : Addr => [.o a]) (fun W a => W = some a) fun _ y => y = .bool true
include L Y in
theorem kn_are_ordered (D : Df K mg "_law_are_ordered" 65 pp65) : PartK P w K mg base "_law_are_ordered" := by
  refine kn_df D sc65 (fun _ => rfl) (fun _ => nlo1) ?_
  rintro f cdv A outer s H W a hr hq rfl
  have B := L.bi
  have rr : ∀ j, j ≤ 49 → Room j (A.deeper (envOfC "_law_are_ordered" (defScope (PH.top 65)) s.heap.objs.size f cdv)) := fun j hj => hr.mono hj
  refine sts_set sc65.nd (i := 1) rfl (.inl rfl) (r_call (a, 4) (L.plain 4) (rr 5 (by omega)) hq rfl (eda_cons (vs 0) (eda_d ed_int eda_nil)) ⟨rfl, by show 1 ≤ 4; decide, Nat.le_refl 4⟩) fun d0 h0 => ?_
  obtain ⟨k, rfl, hp, hd⟩ := h0
  replace hd : k.deep ≤ 4 := hd
  have ho := Kd.plain_ok hp
  have val' : ∀ {ρ : Rho} (h0 : ρ[0]? = some (some (.o a))) (h1 : ρ[1]? = some (some (.d k.d))) {p1 p2 p3 p4 : Pos}, Ev (bodyX P w K mg base nn65 "_law_are_ordered" (defScope (PH.top 65)) f cdv A outer s H) ⟨some a, H⟩ (.Call (.Name "_law_value" p1) [.Name "_law_well_here" p2, .Name "_law_kind" p3] [] p4) ρ (dv k) := fun h0 h1 => Ev.imp (r_call (a, k) L.value (rr 16 (by omega)) hq rfl (eda_cons (vs 0 h0) (eda_d (vd 1 h1) eda_nil)) ⟨rfl, ho, hd⟩) fun y h => h
  refine sts_par 2 3 sc65.nd (by decide) (Ev.n (val' rfl rfl)) (Ev.n (val' rfl rfl)) fun s1 s2 h1 h2 => ?_
  obtain ⟨x, rfl, hx⟩ := h1
  obtain ⟨y0, rfl, hy0⟩ := h2
  refine sts_set sc65.nd (i := 3) (P := dv k) rfl (.inl rfl) (ev_if (PB := fun _ => True) (EvC.t (i_cmp op_gt (nomark _) (Ev.imp (r_call (a, 4) L.draw (rr 1 (by omega)) hq rfl (eda_cons (vs 0) (eda_d ed_int eda_nil)) ⟨rfl, by show (0 : Int) < 4; decide, by show (4 : Int) < 1073741824; decide⟩) fun y h => h.i) ed_int.i)) (fun _ => ed_s (vd 3) hy0) fun _ => ed_s (vd 2) hx) fun y hy => ?_
  have vx := hx.val
  have vy := hy.val
  have wx := dv_wide (m := 100) (by decide) hx
  have wy := dv_wide (m := 100) (by decide) hy
  have h0 : lord k x x = 0 := (lord_zero hp vx vx).mpr rfl
  have ha : lord k y x = 0 - lord k x y := by rw [lord_anti hp vx vy]; omega
  refine sts_set sc65.nd (i := 4) rfl (.inl rfl) (ed_call (k, x, y) (L.order 4) (rr 4 (by omega)) hq rfl (eda_d (vd 1) (eda_d (vd 2) (eda_d (vd 3) eda_nil))) ⟨hp, hd, vx, vy⟩ fun _ h => h) fun d1 h1 => ?_
  subst h1
  have hd8 : k.deep ≤ 8 := by omega
  refine sts_setL sc65.nd (i := 5) (PL := fun z => z = [.int (lord k x y), .int (0 - lord k x y), .int 0]) rfl (.inl rfl) (e_lst (edd (ed_call (k, x, y) Y.order (rr 40 (by omega)) hq rfl (eda_d (vd 1) (eda_d (vd 2) (eda_d (vd 3) eda_nil))) ⟨hp, hd8, ⟨wx, vx⟩, wy, vy⟩ fun _ h => h)
    (edd (ed_callK (k, y, x) Y.orderK (rr 40 (by omega)) hq rfl (evk_cons (vs 2) (evk_cons (vs 3) (evk_cons (vs 1) evk_nil))) rfl rfl ⟨hp, hd8, ⟨wy, vy⟩, wx, vx⟩ fun z hz => by rw [hz]; exact congrArg PyData.int ha)
    (edd (ed_call (k, x, x) Y.order (rr 40 (by omega)) hq rfl (eda_d (vd 1) (eda_d (vd 2) (eda_d (vd 2) eda_nil))) ⟨hp, hd8, ⟨wx, vx⟩, wx, vx⟩ fun z hz => by rw [hz]; exact congrArg PyData.int h0) edd0)))) fun d1 h1 => ?_
  subst h1
  have rng : (lord k x y).natAbs ≤ 10 ^ 40 ∧ (0 - lord k x y).natAbs ≤ 10 ^ 40 := by
    rcases lord_rng hp vx vy with h | h | h <;> rw [h] <;> decide
  refine sts_retE (e_same L.same (rr 1 (by omega)) hq (vl 5) (EvL.r (e_lst (edd (vd 4) (edd (ed_sub ed_int (vd 4)) (edd ed_int edd0))))) (finea_cons (n := 0) (fine_int rng.1) (finea_cons (n := 0) (fine_int rng.2) (finea_cons (n := 0) (fine_int (by decide)) finea_nil))) (by decide)) rfl
include L Y in
theorem kn_are_values (D : Df K mg "_law_are_values" 64 pp64) : PartK P w K mg base "_law_are_values" := by
  refine kn_df D sc64 (fun _ => rfl) (fun _ => nlo1) ?_
  rintro f cdv A outer s H W a hr hq rfl
  have B := L.bi
  have rr : ∀ j, j ≤ 49 → Room j (A.deeper (envOfC "_law_are_values" (defScope (PH.top 64)) s.heap.objs.size f cdv)) := fun j hj => hr.mono hj
  refine sts_set sc64.nd (i := 1) rfl (.inl rfl) (r_call (a, 4) (L.data 4) (rr 5 (by omega)) hq rfl (eda_cons (vs 0) (eda_d ed_int eda_nil)) ⟨rfl, by show 1 ≤ 4; decide, Nat.le_refl 4⟩) fun d0 h0 => ?_
  obtain ⟨k, rfl, ho, hd⟩ := h0
  replace hd : k.deep ≤ 4 := hd
  refine sts_par 2 3 sc64.nd (by decide) (Ev.n (r_call (a, k) L.value (rr 16 (by omega)) hq rfl (eda_cons (vs 0) (eda_d (vd 1) eda_nil)) ⟨rfl, ho, hd⟩)) (Ev.n (r_call (a, 3) (L.data 3) (rr 4 (by omega)) hq rfl (eda_cons (vs 0) (eda_d ed_int eda_nil)) ⟨rfl, by show 1 ≤ 3; decide, Nat.le_refl 3⟩)) fun s1 s2 h1 h2 => ?_
  obtain ⟨x, rfl, hx⟩ := h1
  obtain ⟨_, rfl, k2, rfl, ho2, hd2⟩ := h2
  replace hx : dv k x := hx
  replace hd2 : k2.deep ≤ 3 := hd2
  have vx := hx.val
  have wx : wide 60 x = true := dv_wide (by decide) hx
  refine sts_setL sc64.nd (i := 4) (PL := fun ds => ds.length = 2 ∧ ∀ d ∈ ds, wide 100 d = true) rfl (.inl rfl) (evl_lst (EvA.imp (eva_cons (vd 2).s (eva_cons (Ev.s (r_call a L.odd (rr 3 (by omega)) hq rfl (eda_cons (vs 0) eda_nil) rfl)) eva_nil)) fun z hz => ?_)) fun ts hts => ?_
  · obtain ⟨_, _, rfl, rfl, _, _, rfl, ⟨o, rfl, hod⟩, rfl⟩ := hz
    refine ⟨[x, o], rfl, by simp, rfl, fun d hd => ?_⟩
    simp only [List.mem_cons, List.not_mem_nil, or_false] at hd
    rcases hd with rfl | rfl
    · exact wide_mono (by decide) wx
    · exact wide_mono (by decide) hod
  refine sts_for (P := fun ds => ds = rangeD 0 4) (i_range1 (n := 4) B ed_int (by decide)) rfl .never (pg_name (i := 5) sc64.nd rfl (.inl rfl)) (tg_name 5) fun ls hls => ?_
  subst hls
  refine ⟨fun i ρ => i ≤ 4 → ∃ (ts : List PyData) (s5 : Option Lay.S), ρ = [some (.o a), some (.d k.d), some (.d x), some (.d k2.d), some (.l true ts), s5, none] ∧ ts.length = 2 + i ∧ ∀ d ∈ ts, wide 100 d = true, fun _ => ⟨ts, none, rfl, hts.1, hts.2⟩, ?_, ?_⟩
  · intro i d ρ' hi hI
    have hlt := (List.getElem?_eq_some_iff.mp hi).1
    rw [rangeD_len] at hlt
    obtain ⟨ts, s5, rfl, hl, hw⟩ := hI (by omega)
    refine ⟨_, rfl, ?_⟩
    refine st_append 4 rfl (r_call (a, x) L.spoil (rr 5 (by omega)) hq rfl (eda_cons (vs 0) (eda_d (vd 2) eda_nil)) ⟨rfl, wx⟩) (by omega) fun d1 h1 => ?_
    refine sts_nil fun _ => ⟨ts ++ [d1], _, rfl, by rw [List.length_append, hl]; simp; omega, fun d hd => ?_⟩
    rcases List.mem_append.mp hd with z | z
    · exact hw d z
    · simp at z
      rw [z]
      exact wide_mono (by decide) h1
  · intro ρ' hI
    rw [rangeD_len] at hI
    obtain ⟨ts, s5, rfl, hl, hw⟩ := hI (Nat.le_refl _)
    refine sts_cool (i := 4) rfl ?_
    refine sts_for (P := fun ds => ds = ts) (evi_var (i := 4) rfl rfl (.inl rfl)) rfl .never (pg_name (i := 6) sc64.nd rfl (.inl rfl)) (tg_name 6) fun ts' hts' => ?_
    subst hts'
    refine ⟨fun i ρ => ∃ (s5 s6 : Option Lay.S), ρ = [some (.o a), some (.d k.d), some (.d x), some (.d k2.d), some (.l false ts'), s5, s6], ⟨_, _, rfl⟩, ?_, ?_⟩
    · rintro i d ρ' hi ⟨s5, s6, rfl⟩
      have wd := hw d (List.mem_of_getElem? hi)
      refine ⟨_, rfl, ?_⟩
      refine sts_no (edt_notF (edt_val (e_same (ds := [.bool (valued k d), .bool (valued k d)]) L.same (rr 1 (by omega)) hq (EvL.r (e_lst (edd (ed_call (k, d) Y.isVal (rr 40 (by omega)) hq rfl (eda_d (vd 1) (eda_d (vd 6) eda_nil)) ⟨ho, by show k.deep ≤ 8; omega, wd⟩ fun _ h => h) (edd (ed_callK (k, d) Y.isValK (rr 40 (by omega)) hq rfl (evk_cons (vs 6) (evk_cons (vs 1) evk_nil)) rfl rfl ⟨ho, by show k.deep ≤ 8; omega, wd⟩ fun _ h => h) edd0))))
        (EvL.r (evl_rep (PA := fun z => z = [.bool (valued k d)]) (n := 2) (EvL.r (e_lst (edd (ed_call (k, d) L.isVal (rr 18 (by omega)) hq rfl (eda_d (vd 1) (eda_d (vd 6) eda_nil)) ⟨ho, hd, wd⟩ fun _ h => h) edd0))) ed_int ⟨by decide, by decide⟩ fun z hz => ⟨by rw [hz]; simp, by rw [hz]; rfl⟩)) (finea_cons (n := 0) fine_bool (finea_cons (n := 0) fine_bool finea_nil)) (by decide)))) ?_
      refine sts_no (edt_notF (edt_val (ed_call (valued k2 d) (d := .bool true) L.sameB (rr 1 (by omega)) hq rfl (eda_d (ed_call (k2, d) Y.isVal (rr 40 (by omega)) hq rfl (eda_d (vd 3) (eda_d (vd 6) eda_nil)) ⟨ho2, by show k2.deep ≤ 8; omega, wd⟩ fun _ h => h) (eda_d (ed_call (k2, d) L.isVal (rr 18 (by omega)) hq rfl (eda_d (vd 3) (eda_d (vd 6) eda_nil)) ⟨ho2, by show k2.deep ≤ 4; omega, wd⟩ fun _ h => h) eda_nil)) trivial fun _ h => h))) (sts_nil ⟨_, _, rfl⟩)
    · rintro ρ' ⟨s5, s6, rfl⟩
      refine sts_retE (ed_call (k, x) (d := .bool true) L.isVal (rr 18 (by omega)) hq rfl (eda_d (vd 1) (eda_d (vd 2) eda_nil)) ⟨ho, hd, wide_mono (by decide) wx⟩ fun y h => ?_) rfl
      rw [h, (valued_iff ho).mpr vx]
end
end Lay
/-! PE2 -/
/-! the walks: the law's sums -/
namespace Lay
open Quiet
open PySem PySem.Spec PyProof.Rows L2
section
variable {P : Program} {w : World} {K : PySem.W.Frag} {mg : Str → Option Value} {base : Heap}
theorem tims_ok : ∀ z ∈ ([.int 0, .int 1, .int (-1), .int 2, .int 3, .int (-3), .int 7, .int (10 ^ (9 : Int).toNat)] : List PyData), ∃ i : Int, z = .int i ∧ i.natAbs ≤ 10 ^ 9 := by
  intro z hz
  simp only [List.mem_cons, List.not_mem_nil, or_false] at hz
  rcases hz with rfl | rfl | rfl | rfl | rfl | rfl | rfl | rfl <;> exact ⟨_, rfl, by decide +kernel⟩
variable (L : Helps P w K mg base) (Y : Api P w K mg base)
include L Y in
theorem kn_are_sums (D : Df K mg "_law_are_sums" 66 pp66) : PartK P w K mg base "_law_are_sums" := by
  refine kn_df D sc66 (fun _ => rfl) (fun _ => nlo1) ?_
  rintro f cdv A outer s H W a hr hq rfl
  have B := L.bi
  have rr : ∀ j, j ≤ 49 → Room j (A.deeper (envOfC "_law_are_sums" (defScope (PH.top 66)) s.heap.objs.size f cdv)) := fun j hj => hr.mono hj
  refine sts_set sc66.nd (i := 1) rfl (.inl rfl) (r_call (a, 4) (L.group 4) (rr 5 (by omega)) hq rfl (eda_cons (vs 0) (eda_d ed_int eda_nil)) ⟨rfl, by show 1 ≤ 4; decide, Nat.le_refl 4⟩) fun d0 h0 => ?_
  obtain ⟨k, rfl, ⟨hg, ho⟩, hd⟩ := h0
  replace hd : k.deep ≤ 4 := hd
  have hd8 : k.deep ≤ 8 := by omega
  refine sts_par3 2 3 4 sc66.nd (by decide) (by decide) (by decide) (Ev.n (r_call (a, k) L.value (rr 16 (by omega)) hq rfl (eda_cons (vs 0) (eda_d (vd 1) eda_nil)) ⟨rfl, ho, hd⟩)) (Ev.n (r_call (a, k) L.value (rr 16 (by omega)) hq rfl (eda_cons (vs 0) (eda_d (vd 1) eda_nil)) ⟨rfl, ho, hd⟩))
    (Ev.n (r_call (a, true, _) L.pick (rr 2 (by omega)) hq rfl (eda_cons (vs 0) (eda_d (e_tup (edd ed_int (edd ed_int (edd (ed_neg ed_int) (edd ed_int (edd ed_int (edd (ed_neg ed_int) (edd ed_int (edd (ed_pow ⟨by decide, by decide, by decide⟩ ed_int ed_int) edd0))))))))) eda_nil)) ⟨rfl, Nat.le_of_ble_eq_true rfl, Nat.le_of_ble_eq_true rfl⟩)) fun s1 s2 s3 h1 h2 h3 => ?_
  obtain ⟨x, rfl, hx⟩ := h1
  obtain ⟨y0, rfl, hy0⟩ := h2
  obtain ⟨t0, rfl, ht0⟩ := h3
  obtain ⟨t, rfl, ht⟩ := tims_ok t0 ht0
  replace hx : dv k x := hx
  replace hy0 : dv k y0 := hy0
  have vx := hx.val
  have wx := dv_wide (m := 100) (by decide) hx
  have ht10 : t.natAbs ≤ 10 ^ 10 := by omega
  have hm1 : (-1 : Int).natAbs ≤ 10 ^ 10 := by decide
  have neg : ∀ {z : PyData}, dv k z → dv k (manyD (-1) k z) := fun hz => lim_mono (many_lim (n := -1) (m := 1) (by decide) (by decide) ho hg hz) (Nat.le_refl _) (by omega)
  refine sts_set sc66.nd (i := 3) (P := dv k) rfl (.inl rfl) (ev_if (PB := fun _ => True) (EvC.t (i_cmp op_gt (nomark _) (Ev.imp (r_call (a, 4) L.draw (rr 1 (by omega)) hq rfl (eda_cons (vs 0) (eda_d ed_int eda_nil)) ⟨rfl, by show (0 : Int) < 4; decide, by show (4 : Int) < 1073741824; decide⟩) fun y h => h.i) ed_int.i)) (fun _ => ed_s (vd 3) hy0)
    fun _ => Ev.imp (r_call (k, -1, x) L.many (rr 4 (by omega)) hq rfl (eda_d (vd 1) (eda_d (ed_neg ed_int) (eda_d (vd 2) eda_nil))) ⟨ho, hg, hd, hm1, vx, wx⟩) fun z hz => by rw [show z = manyD (-1) k x from hz]; exact neg hx) fun y hy => ?_
  have vy := hy.val
  have wy := dv_wide (m := 100) (by decide) hy
  have fin : ∀ {d : PyData} {c b : Nat}, lim c b k d → c ≤ 16 → b ≤ 10 ^ 40 → Fine 512 59 d := fun h hc hb => (lim_fine4 ho hd hc hb h).le (Nat.le_refl _) (by decide)
  have f0 : Fine 512 59 (zeroD k) := fin (zero_lim (c := 0) (B := 0) hg) (by decide) (by decide)
  have fs : Fine 512 59 (sumD k x y) := fin (sum_lim (c := 4) (by decide) ho hg hx hy) (by decide) (by decide +kernel)
  have fm : ∀ (i : Int) (z : PyData), i.natAbs ≤ 10 ^ 9 → dv k z → Fine 512 59 (manyD i k z) := fun i z hi hz => fin (many_lim (m := 10 ^ 9) hi (by decide) ho hg hz) (by decide) (by decide +kernel)
  have fn1 : ∀ z, dv k z → Fine 512 59 (manyD (-1) k z) := fun z hz => fm (-1) z (by decide) hz
  refine sts_setL sc66.nd (i := 5) rfl (.inl rfl) (e_lst (edd (ed_call k Y.zero (rr 40 (by omega)) hq rfl (eda_d (vd 1) eda_nil) ⟨ho, hg, hd8⟩ fun _ h => h) (edd (ed_call (k, x, y) Y.sum (rr 40 (by omega)) hq rfl (eda_d (vd 1) (eda_d (vd 2) (eda_d (vd 3) eda_nil))) ⟨ho, hg, hd8, ⟨wx, vx⟩, wy, vy⟩ fun _ h => h)
    (edd (ed_call (k, x) Y.opp (rr 40 (by omega)) hq rfl (eda_d (vd 1) (eda_d (vd 2) eda_nil)) ⟨ho, hg, hd8, wx, vx⟩ fun _ h => h) (edd (ed_call (k, t, x) Y.many (rr 40 (by omega)) hq rfl (eda_d (vd 1) (eda_d (vd 4) (eda_d (vd 2) eda_nil))) ⟨ho, hg, hd8, ht10, wx, vx⟩ fun _ h => h)
    (edd (ed_callK k Y.zeroK (rr 40 (by omega)) hq rfl (evk_cons (vs 1) evk_nil) rfl rfl ⟨ho, hg, hd8⟩ fun _ h => h) edd0)))))) fun ts hts => ?_
  subst hts
  refine sts_setL sc66.nd (i := 6) rfl (.inl rfl) (e_lst (edd (ed_call k L.zero (rr 4 (by omega)) hq rfl (eda_d (vd 1) eda_nil) ⟨hg, hd⟩ fun _ h => h) (edd (ed_call (k, x, y) L.sum (rr 15 (by omega)) hq rfl (eda_d (vd 1) (eda_d (vd 2) (eda_d (vd 3) eda_nil))) ⟨ho, hg, hd, ⟨vx, wx⟩, vy, wy⟩ fun _ h => h)
    (edd (ed_call (k, -1, x) L.many (rr 4 (by omega)) hq rfl (eda_d (vd 1) (eda_d (ed_neg ed_int) (eda_d (vd 2) eda_nil))) ⟨ho, hg, hd, hm1, vx, wx⟩ fun _ h => h) (edd (ed_call (k, t, x) L.many (rr 4 (by omega)) hq rfl (eda_d (vd 1) (eda_d (vd 4) (eda_d (vd 2) eda_nil))) ⟨ho, hg, hd, ht10, vx, wx⟩ fun _ h => h) edd0))))) fun ts hts => ?_
  subst hts
  refine sts_no (edt_notF (edt_val (e_same (ds := [zeroD k, sumD k x y, manyD (-1) k x, manyD t k x, zeroD k]) L.same (rr 1 (by omega)) hq (vl 5) (EvL.r (evl_cat (vl 6) (EvL.r (evl_slice (PL := fun z => z = [zeroD k]) (vl 6) evo_none (edo_some ed_int) fun d l u h1 h2 h3 => ?_)) fun d d2 h1 h2 => ⟨by rw [h1, h2]; exact Nat.le_of_ble_eq_true rfl, by rw [h1, h2]; rfl⟩)) (finea_cons f0 (finea_cons fs (finea_cons (fn1 x hx) (finea_cons (fm t x ht hx) (finea_cons f0 finea_nil))))) (by decide)))) ?_
  · rw [h1, h2, h3]
    exact cut_to _ 1
  refine sts_setL sc66.nd (i := 7) rfl (.inl rfl) (e_lst (edd (ed_callK (k, x, y) Y.sumK (rr 40 (by omega)) hq rfl (evk_cons (vs 3) (evk_cons (vs 2) (evk_cons (vs 1) evk_nil))) rfl rfl ⟨ho, hg, hd8, ⟨wx, vx⟩, wy, vy⟩ fun _ h => h) (edd (ed_callK (k, y) Y.oppK (rr 40 (by omega)) hq rfl (evk_cons (vs 3) (evk_cons (vs 1) evk_nil)) rfl rfl ⟨ho, hg, hd8, wy, vy⟩ fun _ h => h) edd0))) fun ts hts => ?_
  subst hts
  refine st_append 7 rfl (ed_callK (k, t, y) Y.manyK (rr 40 (by omega)) hq rfl (evk_cons (vs 3) (evk_cons (vs 4) (evk_cons (vs 1) evk_nil))) rfl rfl ⟨ho, hg, hd8, ht10, wy, vy⟩ fun _ h => h) (Nat.lt_of_succ_le (Nat.le_of_ble_eq_true rfl)) fun d1 h1 => ?_
  subst h1
  refine sts_retE (e_same (ds := [sumD k x y, manyD (-1) k y, manyD t k y]) L.same (rr 1 (by omega)) hq (vl 7) (EvL.r (e_lst (edd (e_ixL (vl 6) ed_int (by kernel_rfl)) (edd (ed_call (k, -1, y) L.many (rr 4 (by omega)) hq rfl (eda_d (vd 1) (eda_d (ed_neg ed_int) (eda_d (vd 3) eda_nil))) ⟨ho, hg, hd, hm1, vy, wy⟩ fun _ h => h) (edd (ed_call (k, t, y) L.many (rr 4 (by omega)) hq rfl (eda_d (vd 1) (eda_d (vd 4) (eda_d (vd 3) eda_nil))) ⟨ho, hg, hd, ht10, vy, wy⟩ fun _ h => h) edd0))))) (finea_cons fs (finea_cons (fn1 y hy) (finea_cons (fm t y ht hy) finea_nil))) (by decide)) rfl
end
end Lay
/-! PE3 -/
/-! the walks: the law's bags -/
namespace Lay
open Quiet
open PySem PySem.Spec PyProof.Rows L2
theorem e_sumF {X : Cx} {b : Bs} {ρ : Rho} {e : Expr} {p pos : Pos} {α : Type} {xs : List α} (g : α → Int) (B : Bi X.mg) (h : EdL X b e ρ (xs.map fun q => .int (g q))) (hg : Gl X "sum" := by rfl) (hc : X.calm = true := by rfl) (hs : starEach [e] X.env = (false, eval e X.env) :: starEach [] X.env := by rfl) : Ed X b (.Call (.Name "sum" p) [e] [] pos) ρ (.int (xs.map g).sum) := by
  have e0 : (xs.map fun q => PyData.int (g q)) = (xs.map g).map .int := by rw [List.map_map]; rfl
  rw [e0] at h
  exact e_sum B h hg hc hs
theorem bagN_idem {C : Nat → Prop} {I : Int → Prop} {k : Kd} (hp : k.plain = true) {ps : List (PyData × Int)} (h : ∀ q ∈ ps, vok C I k q.1) : bagN k (bagN k ps) = bagN k ps := by
  obtain ⟨N, _⟩ := bagN_norm hp h
  obtain ⟨N2, _⟩ := bagN_norm hp N.ok
  have nd := sorted_nodup hp N.srt N.ok
  refine norm_uniq hp N2 ⟨N.srt, N.ok, fun x n => ?_⟩
  constructor
  · intro hm
    exact ⟨((N.mem x n).mp hm).1, ⟨n, hm⟩, (tot_uniq nd hm).symm⟩
  · rintro ⟨_, ⟨m, hm⟩, e⟩
    rw [e, tot_uniq nd hm]
    exact hm
/-- the law's count -/
theorem count_tot {C : Nat → Prop} {I : Int → Prop} {k : Kd} (hp : k.plain = true) {x : PyData} (hx : vok C I k x) : ∀ {ps : List (PyData × Int)}, (∀ q ∈ ps, vok C I k q.1) → ((ps.filter fun q => decide (lord k q.1 x = 0)).map (·.2)).sum = tot x ps
  | [], _ => rfl
  | q :: ps, h => by
    have ih := count_tot hp hx (ps := ps) fun q hq => h q (List.mem_cons_of_mem _ hq)
    have e : q :: ps = [q] ++ ps := rfl
    obtain ⟨y, n⟩ := q
    have hy := h (y, n) List.mem_cons_self
    have hz := lord_zero hp hy hx
    rw [List.filter_cons]
    by_cases z : y = x
    · rw [if_pos (decide_eq_true (hz.mpr z)), List.map_cons, List.sum_cons, ih, e, tot_app, z, tot_self]
    · rw [if_neg (by simp only [decide_eq_true_eq]; exact fun w => z (hz.mp w)), ih, e, tot_app, tot_other n z, Int.zero_add]
theorem wide_pairs {m : Nat} (hm : 2 ≤ m) {ps : List (PyData × Int)} (hl : ps.length ≤ m) (h : ∀ q ∈ ps, wide m q.1 = true) : wide m (.tuple (ps.map pd)) = true := by
  refine wide_tup.mpr ⟨by rw [List.length_map]; exact hl, fun d hd => ?_⟩
  obtain ⟨q, hq, rfl⟩ := List.mem_map.mp hd
  simp [pd, wide, wideA, h q hq, hm]
section
variable {P : Program} {w : World} {K : PySem.W.Frag} {mg : Str → Option Value} {base : Heap}
theorem tims2_ok : ∀ z ∈ ([.int 1, .int (-1), .int 2, .int 0, .int 3, .int (-2), .int (-3), .int 4] : List PyData), ∃ i : Int, z = .int i ∧ i.natAbs ≤ 4 := by
  intro z hz
  simp only [List.mem_cons, List.not_mem_nil, or_false] at hz
  rcases hz with rfl | rfl | rfl | rfl | rfl | rfl | rfl | rfl <;> exact ⟨_, rfl, by decide⟩
variable (L : Helps P w K mg base) (Y : ApiB P w K mg base)
include L Y in
theorem kn_are_bags (D : Df K mg "_law_are_bags" 67 pp67) : PartK P w K mg base "_law_are_bags" := by
  refine kn_df D sc67 (fun _ => rfl) (fun _ => nlo1) ?_
  rintro f cdv A outer s H W a hr hq rfl
  have B := L.bi
  have rr : ∀ j, j ≤ 49 → Room j (A.deeper (envOfC "_law_are_bags" (defScope (PH.top 67)) s.heap.objs.size f cdv)) := fun j hj => hr.mono hj
  refine sts_parC 1 2 sc67.nd (Ev.n (r_call (a, 3) (L.plain 3) (rr 4 (by omega)) hq rfl (eda_cons (vs 0) (eda_d ed_int eda_nil)) ⟨rfl, by show 1 ≤ 3; decide, Nat.le_refl 3⟩)) (EvL.n (e_lst edd0)) fun s1 s2 h1 h2 => ?_
  obtain ⟨_, rfl, k, rfl, hp, hd⟩ := h1
  obtain ⟨_, rfl, rfl⟩ := h2
  replace hd : k.deep ≤ 3 := hd
  have hd4 : k.deep ≤ 4 := by omega
  have ho := Kd.plain_ok hp
  refine sts_set sc67.nd (i := 3) (P := fun d => d = (Kd.bag k).d) rfl (.inl rfl) (e_tup (edd ed_str (edd (vd 1) edd0))) fun d0 h0 => ?_
  subst h0
  refine sts_for (P := fun ds => ds.length ≤ 6) (i_rangeB (m := 6) B ?_ (by decide)) rfl .never (pg_name (i := 4) sc67.nd rfl (.inl rfl)) (tg_name 4) fun ls hls => ?_
  · exact Ev.imp (r_call (a, 7) L.draw (rr 1 (by omega)) hq rfl (eda_cons (vs 0) (eda_d ed_int eda_nil)) ⟨rfl, by show (0 : Int) < 7; decide, by show (7 : Int) < 1073741824; decide⟩) fun y h => h
  refine ⟨fun i ρ => i ≤ ls.length → ∃ (ps : List (PyData × Int)) (s4 s5 : Option Lay.S), ρ = [some (.o a), some (.d k.d), some (.l true (ps.map pd)), some (.d (Kd.bag k).d), s4, s5, none, none, none, none, none, none] ∧ ps.length = i ∧ ∀ q ∈ ps, dv k q.1 ∧ q.2.natAbs ≤ 4, fun _ => ⟨[], none, none, rfl, rfl, fun _ h => (nomatch h)⟩, ?_, ?_⟩
  · intro i d ρ' hi hI
    have hlt := (List.getElem?_eq_some_iff.mp hi).1
    obtain ⟨ps, s4, s5, rfl, hl, hps⟩ := hI (by omega)
    refine ⟨_, rfl, ?_⟩
    refine sts_set sc67.nd (i := 5) rfl (by first | exact .inl rfl | exact .inr rfl) (r_call (a, k) L.value (rr 16 (by omega)) hq rfl (eda_cons (vs 0) (eda_d (vd 1) eda_nil)) ⟨rfl, ho, hd4⟩) fun x0 hx0 => ?_
    refine sts_set sc67.nd (i := 5) (P := dv k) rfl (by first | exact .inl rfl | exact .inr rfl) (ev_if (PB := fun c => c = true → (ps.map pd).isEmpty = false) (EvW.t (evw_and (PB := fun c => c = !(ps.map pd).isEmpty) (PC := fun _ => True) (EdC.t (c_neL0 (ru hr) (vl 2) (e_lst edd0))) (fun _ => evw_and1 (EvC.t (i_cmpE (Ev.imp (r_call (a, 3) L.draw (rr 1 (by omega)) hq rfl (eda_cons (vs 0) (eda_d ed_int eda_nil)) ⟨rfl, by show (0 : Int) < 3; decide, by show (3 : Int) < 1073741824; decide⟩) fun y h => h.i) ed_int.i))) (fun c h1 _ _ => by simpa using h1.symm) fun h1 h => by cases h)) (fun h => ?_) fun _ => ed_s (vd 5) hx0) fun x hx => ?_
    · have hne := h rfl
      have hlen : 0 < (ps.map pd).length := by
        cases e : ps.map pd with
        | nil => rw [e] at hne; cases hne
        | cons z zs => simp
      exact ev_ix (Pa := fun z => z ∈ ps.map pd) (Ev.imp (r_call (a, false, ps.map pd) L.pick (rr 2 (by omega)) hq rfl (eda_cons (vs 0) (eda_cons (EvR.a (vl 2)) eda_nil)) ⟨rfl, hlen, by show (ps.map pd).length ≤ 1000; rw [List.length_map]; omega⟩) fun y h => h) ed_int fun z z2 hz h2 => by
        obtain ⟨q, hq', rfl⟩ := List.mem_map.mp hz
        exact ⟨_, _, q.1, rfl, h2, rfl, (hps q hq').1⟩
    refine st_append (P := fun d => ∃ n : Int, d = pd (x, n) ∧ n.natAbs ≤ 4) 2 rfl (r_tup2 (vd 5) (r_call (a, true, _) L.pick (rr 2 (by omega)) hq rfl (eda_cons (vs 0) (eda_d (e_tup (edd ed_int (edd (ed_neg ed_int) (edd ed_int (edd ed_int (edd ed_int (edd (ed_neg ed_int) (edd (ed_neg ed_int) (edd ed_int edd0))))))))) eda_nil)) ⟨rfl, Nat.le_of_ble_eq_true rfl, Nat.le_of_ble_eq_true rfl⟩) fun y z hy hz => ?_) (by rw [List.length_map]; omega) fun d hd => ?_
    · subst hy
      obtain ⟨n, rfl, hn⟩ := tims2_ok z hz
      exact ⟨n, rfl, hn⟩
    · obtain ⟨n, rfl, hn⟩ := hd
      refine sts_nil fun _ => ⟨ps ++ [(x, n)], _, _, by rw [List.map_append]; rfl, by rw [List.length_append, hl]; rfl, fun q hq' => ?_⟩
      rcases List.mem_append.mp hq' with z | z
      · exact hps q z
      · simp at z
        rw [z]
        exact ⟨hx, hn⟩
  · intro ρ' hI
    obtain ⟨ps, s4, s5, rfl, hl, hps⟩ := hI (Nat.le_refl _)
    have lps : ps.length ≤ 6 := by omega
    have vps : ∀ q ∈ ps, val k q.1 := fun q hq => (hps q hq).1.val
    have lp2 : ps.length * 4 ≤ 10 ^ 21 := by omega
    have hbl : lim 6 (10 ^ 21) (.bag k) (.tuple ((bagN k ps).map pd)) := bagN_lim hp (c := 4) (B := 10 ^ 21) (m := 4) hps lps (by decide) (Nat.le_refl _) lp2
    refine sts_parC 6 7 sc67.nd (Ev.n (ed_call (k, false, ps) L.bag (rr 11 (by omega)) hq rfl (eda_d (vd 1) (eda_cons (EvR.a (vl 2)) eda_nil)) ⟨hp, by show k.deep ≤ 10; omega, by show ps.length ≤ 1000; omega, vps⟩ fun _ h => h)) (Ev.n (r_call (a, k) L.value (rr 16 (by omega)) hq rfl (eda_cons (vs 0) (eda_d (vd 1) eda_nil)) ⟨rfl, ho, hd4⟩)) fun s1 s2 h1 h2 => ?_
    obtain ⟨_, rfl, rfl⟩ := h1
    obtain ⟨x0, rfl, hx0⟩ := h2
    replace hx0 : dv k x0 := hx0
    refine sts_set sc67.nd (i := 7) (P := dv k) rfl (by first | exact .inl rfl | exact .inr rfl) (ev_if (PB := fun c => c = true → (ps.map pd).isEmpty = false) (EvW.t (evw_and (PB := fun c => c = !(ps.map pd).isEmpty) (PC := fun _ => True) (EdC.t (c_neL0 (ru hr) (vl 2) (e_lst edd0))) (fun _ => evw_and1 (EvC.t (i_cmp op_gt (nomark _) (Ev.imp (r_call (a, 3) L.draw (rr 1 (by omega)) hq rfl (eda_cons (vs 0) (eda_d ed_int eda_nil)) ⟨rfl, by show (0 : Int) < 3; decide, by show (3 : Int) < 1073741824; decide⟩) fun y h => h.i) ed_int.i))) (fun c h1 _ _ => by simpa using h1.symm) fun h1 h => by cases h)) (fun h => ?_) fun _ => ed_s (vd 7) hx0) fun x hx => ?_
    · have hne := h rfl
      have hlen : 0 < (ps.map pd).length := by
        cases e : ps.map pd with
        | nil => rw [e] at hne; cases hne
        | cons z zs => simp
      exact ev_ix (Pa := fun z => z ∈ ps.map pd) (Ev.imp (r_call (a, false, ps.map pd) L.pick (rr 2 (by omega)) hq rfl (eda_cons (vs 0) (eda_cons (EvR.a (vl 2)) eda_nil)) ⟨rfl, hlen, by show (ps.map pd).length ≤ 1000; rw [List.length_map]; omega⟩) fun y h => h) ed_int fun z z2 hz h2 => by
        obtain ⟨q, hq', rfl⟩ := List.mem_map.mp hz
        exact ⟨_, _, q.1, rfl, h2, rfl, (hps q hq').1⟩
    obtain ⟨N, lN⟩ := bagN_norm hp vps
    generalize hbs : bagN k ps = bs at hbl N lN ⊢
    have vb : ∀ q ∈ bs, val k q.1 := N.ok
    have vx := hx.val
    have wx := dv_wide (m := 100) (by decide) hx
    have wbag : wide 100 (.tuple (bs.map pd)) = true := vok_wide (by decide) (fun n hn => by omega) hbl
    have vbag := hbl.val
    have lb : bs.length ≤ 6 := by omega
    have hct := count_tot hp vx vb
    refine sts_set sc67.nd (i := 8) rfl (.inl rfl) (e_sumF (fun q : PyData × Int => q.2) B (e_mapF2 5 11 (ga := (·.1)) (gb := fun q => .int q.2) (fun q : PyData × Int => decide (lord k q.1 x = 0)) (fun q : PyData × Int => .int q.2) (i_tup (vd 6)) (by omega) (fun q hq' s H C cl fp => EdC.t (c_eqI (ed_call (k, q.1, x) (L.order 4) (rr 4 (by omega)) hq rfl (eda_d (vd 1) (eda_d (vd 5) (eda_d (vd 7) eda_nil))) ⟨hp, hd4, vb q hq', vx⟩ fun _ h => h) ed_int)) fun q hq' _ s H C cl fp => vd 11)) fun d1 h1 => ?_
    rw [hct] at h1
    subst h1
    refine sts_set sc67.nd (i := 9) rfl (.inl rfl) (e_tuple (ds := suppD bs) B (EvL.r (e_mapF2 5 11 (xs := bs) (ga := (·.1)) (gb := fun q => .int q.2) (fun q : PyData × Int => decide (0 < q.2)) (fun q : PyData × Int => pd (q.1, 1)) (i_tup (vd 6)) (by omega) (fun q hq s H C cl fp => EdC.t (edc_gt (vd 11) ed_int)) fun q hq _ s H C cl fp => e_tup (edd (vd 5) (edd ed_int edd0))))) fun d1 h1 => ?_
    subst h1
    have fbag : Fine 4000 59 (.tuple (bs.map pd)) := (lim_fine4 (k := .bag k) hp (by simp only [Kd.deep]; omega) (by decide) (by decide +kernel) hbl).le (by decide) (by decide)
    have kq : ∀ q ∈ bs, lim 6 (10 ^ 21) k q.1 ∧ q.2.natAbs ≤ 10 ^ 21 := by
      obtain ⟨xs, ex, _, hx2, _⟩ := hbl
      have : bs = xs := by
        have e1 := congrArg (List.map unpd) (PyData.tuple.inj ex)
        rwa [unpd_map, unpd_map] at e1
      subst this
      exact fun q hq => ⟨(hx2 q hq).1, (hx2 q hq).2.2⟩
    have fsup : Fine 4000 59 (.tuple (suppD bs)) := by
      have e0 : suppD bs = ((bs.filter fun q => decide (0 < q.2)).map fun q => (q.1, (1 : Int))).map pd := by
        unfold suppD
        rw [List.map_map]
        rfl
      have h1 := fine_pairs (n := 512) (m := 8) (xs := (bs.filter fun q => decide (0 < q.2)).map fun q => (q.1, (1 : Int))) fun q hq' => by
        obtain ⟨q0, hq0, rfl⟩ := List.mem_map.mp hq'
        exact ⟨lim_fine4 ho hd4 (by decide) (by decide +kernel) (kq q0 (List.mem_filter.mp hq0).1).1, by show (1 : Int).natAbs ≤ _; decide⟩
      rw [e0]
      refine (fine_tup h1).le ?_ (by decide)
      have h2 : ((bs.filter fun q => decide (0 < q.2)).map fun q => (q.1, (1 : Int))).length ≤ 6 := by
        rw [List.length_map]
        exact Nat.le_trans (List.length_filter_le _ _) lb
      have h3 : ((bs.filter fun q => decide (0 < q.2)).map fun q => (q.1, (1 : Int))).length * (512 + 3) ≤ 6 * (512 + 3) := Nat.mul_le_mul_right _ h2
      omega
    have fcnt : Fine 0 59 (.int (tot x bs)) := fine_int (by
      have h1 := tot_le (x := x) (ps := bs) fun q hq => (kq q hq).2
      have h2 : bs.length * 10 ^ 21 ≤ 6 * 10 ^ 21 := Nat.mul_le_mul_right _ lb
      omega)
    have wps : wide 100 (.tuple (ps.map pd)) = true := wide_pairs (by decide) (by omega) fun q hq => dv_wide (by decide) (hps q hq).1
    have hd7 : k.deep ≤ 7 := by omega
    refine sts_no (edt_notF (edt_val (e_same (ds := [.tuple (bs.map pd), .tuple (bs.map pd)]) L.same (rr 1 (by omega)) hq (EvL.r (e_lst (edd (ed_call (k, ps) Y.bag (rr 40 (by omega)) hq rfl (eda_d (vd 3) (eda_d (e_tuple B (vl 2)) eda_nil)) ⟨hp, hd7, vps, wps⟩ fun y h => ?_) (edd (ed_callK (k, bs) Y.bagK (rr 40 (by omega)) hq rfl (evk_cons (vs 6) (evk_cons (vs 3) evk_nil)) rfl rfl ⟨hp, hd7, vb, wbag⟩ fun y h => ?_) edd0)))) (EvL.r (e_lst (edd (vd 6) (edd (vd 6) edd0)))) (finea_cons fbag (finea_cons fbag finea_nil)) (by decide)))) ?_
    · rw [h]
      show PyData.tuple ((bagN k ps).map pd) = _
      rw [hbs]
    · rw [h]
      show PyData.tuple ((bagN k bs).map pd) = _
      rw [← hbs, bagN_idem hp vps]
    refine sts_setL sc67.nd (i := 10) rfl (.inl rfl) (e_lst (edd (ed_call (k, bs, x) Y.count (rr 40 (by omega)) hq rfl (eda_d (vd 3) (eda_d (vd 6) (eda_d (vd 7) eda_nil))) ⟨hp, hd7, ⟨vbag, wbag⟩, vx, wx⟩ fun _ h => h) (edd (ed_call (k, bs) Y.supp (rr 40 (by omega)) hq rfl (eda_d (vd 3) (eda_d (vd 6) eda_nil)) ⟨hp, hd7, wbag, vbag⟩ fun _ h => h) (edd (ed_callK (k, bs, x) Y.countK (rr 40 (by omega)) hq rfl (evk_cons (vs 7) (evk_cons (vs 6) (evk_cons (vs 3) evk_nil))) rfl rfl ⟨hp, hd7, ⟨vbag, wbag⟩, vx, wx⟩ fun _ h => h) edd0)))) fun ts hts => ?_
    subst hts
    refine sts_retE (e_same (ds := [.int (tot x bs), .tuple (suppD bs), .int (tot x bs), .tuple (suppD bs)]) L.same (rr 1 (by omega)) hq (EvL.r (evl_cat (vl 10) (EvL.r (e_lst (edd (ed_callK (k, bs) Y.suppK (rr 40 (by omega)) hq rfl (evk_cons (vs 6) (evk_cons (vs 3) evk_nil)) rfl rfl ⟨hp, hd7, wbag, vbag⟩ fun _ h => h) edd0))) fun d d2 h1 h2 => ⟨by rw [h1, h2]; exact Nat.le_of_ble_eq_true rfl, by rw [h1, h2]; rfl⟩)) (EvL.r (e_lst (edd (vd 8) (edd (vd 9) (edd (vd 8) (edd (vd 9) edd0)))))) (finea_cons fcnt (finea_cons fsup (finea_cons fcnt (finea_cons fsup finea_nil)))) (by decide)) rfl
end
end Lay
/-! PE4 -/
/-! the walks: the law of one number -/
namespace Lay
open Quiet
open PySem PySem.Spec PyProof.Rows L2
section
variable {P : Program} {w : World} {K : PySem.W.Frag} {mg : Str → Option Value} {base : Heap}
abbrev RightK (P : Program) (w : World) (K : PySem.W.Frag) (mg : Str → Option Value) (base : Heap) : Prop := Kn P w K mg base "_law_right" 51 pp68 (fun a : Addr => [.o a]) (fun W a => W = some a) fun _ y => y = .bool true
theorem kn_law_right (B : Bi mg) (D : Df K mg "_law_right" 68 pp68) (h1 : PartK P w K mg base "_law_are_values") (h2 : PartK P w K mg base "_law_are_ordered") (h3 : PartK P w K mg base "_law_are_sums") (h4 : PartK P w K mg base "_law_are_bags") : RightK P w K mg base := by
  refine kn_df D sc68 (fun _ => rfl) (fun _ => nlo1) ?_
  rintro f cdv A outer s H W a hr hq rfl
  refine sts_for (P := fun ds => ds = rangeD 0 3) (i_range1 (n := 3) B ed_int (by decide)) rfl .never (pg_name (i := 1) sc68.nd rfl (.inl rfl)) (tg_name 1) fun ls hls => ?_
  subst hls
  refine ⟨fun i ρ => ∃ s1 : Option Lay.S, ρ = [some (.o a), s1], ⟨_, rfl⟩, ?_, ?_⟩
  · rintro i d ρ' hi ⟨s1, rfl⟩
    refine ⟨_, rfl, ?_⟩
    refine sts_no (EdW.t (edw_orF (edt_notF (edt_val (ed_call a (d := .bool true) h1 hr hq rfl (eda_cons (vs 0) eda_nil) rfl fun _ h => h))) (edw_or1 (edt_notF (edt_val (ed_call a (d := .bool true) h2 hr hq rfl (eda_cons (vs 0) eda_nil) rfl fun _ h => h)))))) ?_
    refine sts_no (EdW.t (edw_orF (edt_notF (edt_val (ed_call a (d := .bool true) h3 hr hq rfl (eda_cons (vs 0) eda_nil) rfl fun _ h => h))) (edw_or1 (edt_notF (edt_val (ed_call a (d := .bool true) h4 hr hq rfl (eda_cons (vs 0) eda_nil) rfl fun _ h => h)))))) (sts_nil ⟨_, rfl⟩)
  · rintro ρ' ⟨s1, rfl⟩
    exact sts_retE ed_bl rfl
end
end Lay
/-! PB9 -/
/-! dicts of ints by data: what stands in the heap -/
namespace Lay
open PySem PySem.Spec PyProof.Rows L2
section
variable {X : Cx} {pins : List (Addr × Obj)} {σ : L2.St} {H : Hp} {s : Shared}
mutual
theorem nested_of (I : Inv X pins σ H s) : ∀ {v : V} {d : PyData} {u : Value}, Dn H v d → keyD d = true → RelV v u → NestedIs s.heap (nkD d) u
  | _, _, _, .non, k, _ => by simp [keyD] at k
  | _, _, _, .bl b, k, _ => by simp [keyD] at k
  | _, _, u, .int i, _, r => by
    obtain ⟨t, rfl⟩ := r
    exact .int i t
  | _, _, u, .str x, _, r => by
    obtain ⟨t, rfl⟩ := r
    exact .text x t
  | _, _, u, @Dn.tup _ a xs ds h t, k, r => by
    cases r
    obtain ⟨its, rv, ⟨o, h1, h2, n, h3⟩, _⟩ := I.tuple h.sq
    refine .tup h1 h2 h3 ?_
    exact nested_ofA I t (by simpa [keyD] using k) rv
  | _, _, _, .oth _ _, k, _ => by simp [keyD] at k
theorem nested_ofA (I : Inv X pins σ H s) : ∀ {vs : List V} {ds : List PyData} {us : List Value}, DnA H vs ds → keyA ds = true → Vals vs us → NestedAll s.heap (nkD.nkA ds) us
  | _, _, _, .nil, _, r => by
    cases r
    exact .nil
  | _, _, _, .cons h t, k, r => by
    rw [keyA, Bool.and_eq_true] at k
    cases r with
    | cons r1 r2 => exact .cons (nested_of I h k.1 r1) (nested_ofA I t k.2 r2)
end
end
mutual
theorem nkD_inj : ∀ {d e : PyData}, keyD d = true → keyD e = true → nkD d = nkD e → d = e
  | .int i, .int j, _, _, h => by
    simp only [nkD] at h
    rw [NestedKey.num.inj h]
  | .int i, .str j, _, _, h => by simp [nkD] at h
  | .int i, .tuple j, _, _, h => by simp [nkD] at h
  | .str i, .int j, _, _, h => by simp [nkD] at h
  | .str i, .str j, _, _, h => by
    simp only [nkD] at h
    rw [NestedKey.text.inj h]
  | .str i, .tuple j, _, _, h => by simp [nkD] at h
  | .tuple i, .int j, _, _, h => by simp [nkD] at h
  | .tuple i, .str j, _, _, h => by simp [nkD] at h
  | .tuple ds, .tuple es, k1, k2, h => by
    simp only [nkD] at h
    rw [nkA_inj (by simpa [keyD] using k1) (by simpa [keyD] using k2) (NestedKey.tup.inj h)]
  | .none, _, k, _, _ => by simp [keyD] at k
  | .bool _, _, k, _, _ => by simp [keyD] at k
  | .list _, _, k, _, _ => by simp [keyD] at k
  | .dict _, _, k, _, _ => by simp [keyD] at k
  | .int _, .none, _, k, _ => by simp [keyD] at k
  | .int _, .bool _, _, k, _ => by simp [keyD] at k
  | .int _, .list _, _, k, _ => by simp [keyD] at k
  | .int _, .dict _, _, k, _ => by simp [keyD] at k
  | .str _, .none, _, k, _ => by simp [keyD] at k
  | .str _, .bool _, _, k, _ => by simp [keyD] at k
  | .str _, .list _, _, k, _ => by simp [keyD] at k
  | .str _, .dict _, _, k, _ => by simp [keyD] at k
  | .tuple _, .none, _, k, _ => by simp [keyD] at k
  | .tuple _, .bool _, _, k, _ => by simp [keyD] at k
  | .tuple _, .list _, _, k, _ => by simp [keyD] at k
  | .tuple _, .dict _, _, k, _ => by simp [keyD] at k
theorem nkA_inj : ∀ {ds es : List PyData}, keyA ds = true → keyA es = true → nkD.nkA ds = nkD.nkA es → ds = es
  | [], [], _, _, _ => rfl
  | [], _ :: _, _, _, h => by simp [nkD.nkA] at h
  | _ :: _, [], _, _, h => by simp [nkD.nkA] at h
  | d :: ds, e :: es, k1, k2, h => by
    rw [keyA, Bool.and_eq_true] at k1 k2
    simp only [nkD.nkA, List.cons.injEq] at h
    rw [nkD_inj k1.1 k2.1 h.1, nkA_inj k1.2 k2.2 h.2]
end
/-- a value of a plain kind is a key -/
theorem val_key {C : Nat → Prop} {I : Int → Prop} : ∀ {k : Kd} {d : PyData}, k.plain = true → vok C I k d → keyD d = true ∧ (nkD d).depth ≤ k.deep
  | .unit, d, _, h => by
    cases (show d = .tuple [] from h)
    refine ⟨by simp [keyD, keyA], ?_⟩
    simp [nkD, nkD.nkA, NestedKey.depth, NestedKey.depthAll, Kd.deep]
  | .num, d, _, h => by
    obtain ⟨i, rfl, _⟩ := h
    refine ⟨by simp [keyD], ?_⟩
    simp [nkD, NestedKey.depth, Kd.deep]
  | .pair a b, d, hp, h => by
    simp only [Kd.plain, Bool.and_eq_true] at hp
    obtain ⟨x, y, rfl, hx, hy⟩ := h
    obtain ⟨x1, x2⟩ := val_key hp.1 hx
    obtain ⟨y1, y2⟩ := val_key hp.2 hy
    refine ⟨by simp [keyD, keyA, x1, y1], ?_⟩
    simp only [nkD, nkD.nkA, NestedKey.depth, NestedKey.depthAll, Kd.deep]
    omega
  | .either a b, d, hp, h => by
    simp only [Kd.plain, Bool.and_eq_true] at hp
    rcases h with ⟨x, rfl, hx⟩ | ⟨x, rfl, hx⟩
    · obtain ⟨x1, x2⟩ := val_key hp.1 hx
      refine ⟨by simp [keyD, keyA, x1], ?_⟩
      simp only [nkD, nkD.nkA, NestedKey.depth, NestedKey.depthAll, Kd.deep]
      omega
    · obtain ⟨x1, x2⟩ := val_key hp.2 hx
      refine ⟨by simp [keyD, keyA, x1], ?_⟩
      simp only [nkD, nkD.nkA, NestedKey.depth, NestedKey.depthAll, Kd.deep]
      omega
end Lay
/-! PB10 -/
/-! dicts of ints by data: looking up and storing, told by data -/
namespace Lay
open PySem PySem.Spec PyProof.Rows L2
abbrev Ents := List (NestedKey × Addr × Value)
/-- the entries xs are those of kvs -/
structure EntsOf (kvs : List (PyData × Int)) (as : List Addr) (xs : Ents) : Prop where
  keys : xs.map (·.1) = kvs.map fun x => nkD x.1
  ads : xs.map (·.2.1) = as
  vals : Vals (kvs.map fun x => V.int x.2) (xs.map (·.2.2))
section
variable {kvs : List (PyData × Int)} {as : List Addr} {xs : Ents} {d : PyData} {n : Int} {a : Addr} {v : Value}
open Classical in
theorem at_get : ∀ {kvs : List (PyData × Int)} {xs : Ents}, xs.map (·.1) = kvs.map (fun x => nkD x.1) → Vals (kvs.map fun x => V.int x.2) (xs.map (·.2.2)) → (∀ x ∈ kvs, keyD x.1 = true) → keyD d = true → RelO ((getK kvs d).map V.int) ((atKey xs (nkD d)).map (·.2))
  | [], [], _, _, _, _ => trivial
  | [], _ :: _, h, _, _, _ => by simp at h
  | _ :: _, [], h, _, _, _ => by simp at h
  | q :: kvs, x :: xs, h, hv, hk, hd => by
    simp only [List.map_cons, List.cons.injEq] at h
    cases hv with
    | cons r t =>
      have ih := at_get h.2 t (fun y hy => hk y (List.mem_cons_of_mem _ hy)) hd
      unfold getK atKey at ih ⊢
      rw [List.find?_cons, List.find?_cons]
      by_cases e : q.1 = d
      · have e2 : x.1 = nkD d := by rw [h.1, e]
        rw [decide_eq_true e, decide_eq_true e2]
        exact r
      · have e2 : ¬ x.1 = nkD d := fun z => e (nkD_inj (hk q List.mem_cons_self) hd (by rw [← h.1, z]))
        rw [decide_eq_false e, decide_eq_false e2]
        exact ih
theorem any_at (h : xs.map (·.1) = kvs.map fun x => nkD x.1) (hv : Vals (kvs.map fun x => V.int x.2) (xs.map (·.2.2))) (hk : ∀ x ∈ kvs, keyD x.1 = true) (hd : keyD d = true) : (atKey xs (nkD d)).isSome = (getK kvs d).isSome := by
  have := at_get h hv hk hd
  cases e1 : getK kvs d <;> cases e2 : atKey xs (nkD d) <;> rw [e1, e2] at this <;> first | rfl | cases this
open Classical in
theorem getK_any : (getK kvs d).isSome = kvs.any fun q => decide (q.1 = d) := by
  unfold getK
  rw [Option.isSome_map]
  induction kvs with
  | nil => rfl
  | cons q kvs ih =>
    rw [List.find?_cons, List.any_cons]
    by_cases e : q.1 = d
    · simp [e]
    · simp [e, ih]
/-- storing -/
theorem ents_store (E : EntsOf kvs as xs) (hk : ∀ x ∈ kvs, keyD x.1 = true) (hd : keyD d = true) (hv : RelV (.int n) v) : EntsOf (stK kvs d n) (if (getK kvs d).isSome then as else as ++ [a]) (storedH xs (nkD d) a v) := by
  have hs := any_at E.keys E.vals hk hd
  have ha := getK_any (kvs := kvs) (d := d)
  unfold storedH stK
  cases e : (getK kvs d).isSome with
  | false =>
    rw [hs, e, if_neg Bool.false_ne_true, if_neg Bool.false_ne_true, if_neg (by rw [← ha, e]; exact Bool.false_ne_true)]
    refine ⟨?_, ?_, ?_⟩
    · rw [List.map_append, List.map_append, E.keys]
      rfl
    · rw [List.map_append, E.ads]
      rfl
    · rw [List.map_append, List.map_append]
      exact vals_app E.vals (.cons hv .nil)
  | true =>
    rw [hs, e, if_pos rfl, if_pos rfl, if_pos (by rw [← ha, e])]
    obtain ⟨k1, k2, k3⟩ := E
    clear hs ha e
    subst k2
    induction kvs generalizing xs with
    | nil =>
      cases xs with
      | nil => exact ⟨rfl, rfl, .nil⟩
      | cons x xs => simp at k1
    | cons q kvs ih =>
      cases xs with
      | nil => simp at k1
      | cons x xs =>
        simp only [List.map_cons, List.cons.injEq] at k1
        cases k3 with
        | cons r t =>
          obtain ⟨i1, i2, i3⟩ := ih (fun y hy => hk y (List.mem_cons_of_mem _ hy)) k1.2 t
          by_cases z : q.1 = d
          · have z2 : x.1 = nkD d := by rw [k1.1, z]
            refine ⟨?_, ?_, ?_⟩
            · rw [List.map_cons, List.map_cons, List.map_cons, List.map_cons, i1, if_pos z, putAt, if_pos z2, z, z2]
            · rw [List.map_cons, List.map_cons, List.map_cons, i2, putAt, if_pos z2]
            · rw [List.map_cons, List.map_cons, List.map_cons, List.map_cons, if_pos z, putAt, if_pos z2]
              exact .cons hv i3
          · have z2 : ¬ x.1 = nkD d := fun w => z (nkD_inj (hk q List.mem_cons_self) hd (by rw [← k1.1, w]))
            refine ⟨?_, ?_, ?_⟩
            · rw [List.map_cons, List.map_cons, List.map_cons, List.map_cons, i1, if_neg z, putAt, if_neg z2, k1.1]
            · rw [List.map_cons, List.map_cons, List.map_cons, i2, putAt, if_neg z2]
            · rw [List.map_cons, List.map_cons, List.map_cons, List.map_cons, if_neg z, putAt, if_neg z2]
              exact .cons r i3
end
section
variable {X : Cx} {pins : List (Addr × Obj)} {σ : L2.St} {H : Hp} {s : Shared} {p : Addr} {as : List Addr} {kvs : List (PyData × Int)}
/-- a tracked dict with tuple keys, as KE has it -/
theorem dct_of (I : Inv X pins σ H s) (h : H p = some (.ext (DctRaw X.w p as kvs))) (ha : DnA H (as.map V.ref) (kvs.map (·.1))) (hk : ∀ x ∈ kvs, tupKey x.1 = true ∧ keyD x.1 = true ∧ (nkD x.1).depth ≤ 8) :
    ∃ xs : Ents, s.heap.DictOfH (nestedKind X.prog X.w) p xs ∧ EntsOf kvs as xs := by
  obtain ⟨⟨o, es, ep, ho, hx, hd, xs, he, k1, k2, hv, nd⟩, _, _⟩ := (show ObjOk X.prog X.w H s.heap p (.ext (DctRaw X.w p as kvs)) from I.hok p _ h)
  refine ⟨xs, ⟨o, es, ep, ho, hx, hd, he, fun x hm => ?_, nd⟩, ⟨k1, k2, hv⟩⟩
  obtain ⟨i, hi⟩ := List.mem_iff_getElem?.mp hm
  have g1 : (kvs.map fun x => nkD x.1)[i]? = some x.1 := by rw [← k1, List.getElem?_map, hi]; rfl
  have g2 : as[i]? = some x.2.1 := by rw [← k2, List.getElem?_map, hi]; rfl
  rw [List.getElem?_map] at g1
  cases e : kvs[i]? with
  | none => rw [e] at g1; cases g1
  | some q =>
    rw [e] at g1
    have g1 : nkD q.1 = x.1 := Option.some.inj g1
    obtain ⟨u, u1, u2⟩ := ha.get (i := i) (d := q.1) (by rw [List.getElem?_map, e]; rfl)
    rw [List.getElem?_map, g2] at u1
    cases u1
    obtain ⟨_, c2, c3⟩ := hk q (List.mem_of_getElem? e)
    rw [← g1]
    exact ⟨nested_of I u2 c2 rfl, c3⟩
/-- .. and back -/
theorem dct_ok {h' : Heap} {H' : Hp} {xs : Ents} (D : h'.DictOfH (nestedKind X.prog X.w) p xs) (E : EntsOf kvs as xs) : ObjOk X.prog X.w H' h' p (.ext (DctRaw X.w p as kvs)) := by
  obtain ⟨o, es, ep, ho, hx, hd, he, _, nd⟩ := D
  refine ⟨⟨o, es, ep, ho, hx, hd, xs, he, E.keys, E.ads, E.vals, nd⟩, ⟨o, ho⟩, fun h1 h2 ⟨o', es', ep', ho', r⟩ k => ⟨o', es', ep', k _ ho', r⟩⟩
end
end Lay
/-! PB11 -/
/-! dicts of ints by data: get, store, place -/
namespace Lay
open PySem PySem.Spec PyProof.Rows L2
/-- a key of its sort -/
def KeyFit (t : Bool) (d : PyData) : Prop := match t with
  | false => ∃ i : Int, d = .int i
  | true => tupKey d = true ∧ keyD d = true ∧ (nkD d).depth ≤ 8
section
open Classical in
theorem int_get : ∀ (ns : List (Int × Int)) (i : Int), valV (ns.map fun x => ((.inl x.1 : L2.Key), V.int x.2)) (.inl i) = (getK (ns.map fun x => (.int x.1, x.2)) (.int i)).map V.int
  | [], _ => rfl
  | q :: ns, i => by
    have ih := int_get ns i
    unfold valV getK at ih ⊢
    rw [List.map_cons, List.map_cons, List.find?_cons, List.find?_cons]
    by_cases e : q.1 = i
    · simp [e]
    · have e1 : ¬ (Sum.inl q.1 : L2.Key) = Sum.inl i := fun z => e (Sum.inl.inj z)
      have e2 : ¬ (PyData.int q.1) = PyData.int i := fun z => e (PyData.int.inj z)
      simp only [decide_eq_false e1, decide_eq_false e2]
      exact ih
open Classical in
theorem int_store (ns : List (Int × Int)) (i n : Int) : ∃ ms : List (Int × Int), putK (ns.map fun x => ((.inl x.1 : L2.Key), V.int x.2)) (.inl i) (.int n) = ms.map (fun x => (.inl x.1, .int x.2)) ∧ stK (ns.map fun x => (.int x.1, x.2)) (.int i) n = ms.map fun x => (.int x.1, x.2) := by
  have ha : ((ns.map fun x => ((.inl x.1 : L2.Key), V.int x.2)).any fun kv => decide (kv.1 = .inl i)) = ns.any fun x => decide (x.1 = i) := by
    rw [List.any_map]
    congr 1
    funext x
    simp
  have hb : ((ns.map fun x => (PyData.int x.1, x.2)).any fun q => decide (q.1 = .int i)) = ns.any fun x => decide (x.1 = i) := by
    rw [List.any_map]
    congr 1
    funext x
    simp
  unfold putK stK
  rw [ha, hb]
  cases ns.any fun x => decide (x.1 = i) with
  | false =>
    refine ⟨ns ++ [(i, n)], ?_, ?_⟩
    · rw [if_neg Bool.false_ne_true, List.map_append]
      rfl
    · rw [if_neg Bool.false_ne_true, List.map_append]
      rfl
  | true =>
    refine ⟨ns.map fun x => if x.1 = i then (x.1, n) else x, ?_, ?_⟩
    · rw [if_pos rfl, List.map_map, List.map_map]
      refine List.map_congr_left fun x _ => ?_
      by_cases e : x.1 = i <;> simp [Function.comp, e]
    · rw [if_pos rfl, List.map_map, List.map_map]
      refine List.map_congr_left fun x _ => ?_
      by_cases e : x.1 = i <;> simp [Function.comp, e]
end
section
variable {X : Cx} {pins : List (Addr × Obj)} {σ : L2.St} {H : Hp} {s : Shared} {p : Addr} {t : Bool} {kvs : List (PyData × Int)} {d : PyData} {y : V} {u r : Value} {n n0 : Int}
theorem ct_dictAt (h : CtOk H p (.dk X.w t kvs)) : DictAt X H p := by
  intro pins σ s I
  cases t with
  | false =>
    obtain ⟨_, ns, _, q⟩ := h
    obtain ⟨a1, a2, _⟩ := isD_at I (.inl ⟨_, .inl q⟩)
    exact ⟨a1, a2⟩
  | true =>
    obtain ⟨_, _, as, q, ha, hk⟩ := h
    obtain ⟨xs, D, _⟩ := dct_of I q ha hk
    refine ⟨D.typeIs, fun c e => ?_⟩
    cases e
    obtain ⟨o, _, _, h1, h2, _⟩ := D
    exact ⟨o, h1, h2.2.1⟩
theorem ct_getAt (hu : X.A.units + 64 < cLine) (h : CtOk H p (.dk X.w t kvs)) (dn : Dn H y d) (kf : KeyFit t d) {Q : VK} (q : Q (.int ((getK kvs d).getD n0)) H) : GetAt X H p y (.int n0) Q := by
  intro pins σ s u r I ru rr
  cases t with
  | false =>
    obtain ⟨_, ns, rfl, hp⟩ := h
    obtain ⟨i, rfl⟩ := kf
    cases dn
    refine d_get2 (o := valV (ns.map fun x => ((.inl x.1 : L2.Key), V.int x.2)) (.inl i)) (d := .int n0) (by omega) I (.k (k := .inl i) hp) ru rr fun w' s' I' rw' => ⟨.int ((getK (ns.map fun x => (.int x.1, x.2)) (.int i)).getD n0), H, I', ?_, q⟩
    rw [int_get] at rw'
    cases e : getK (ns.map fun x => (PyData.int x.1, x.2)) (.int i) with
    | none => rw [e] at rw'; exact rw'
    | some m => rw [e] at rw'; exact rw'
  | true =>
    obtain ⟨_, lo, as, hp, ha, hk⟩ := h
    obtain ⟨k1, k2, k3⟩ := kf
    obtain ⟨xs, D, E⟩ := dct_of I hp ha hk
    cases dn with
    | @tup a vs ds hx tx =>
      cases ru
      have hkey : (nestedKind X.prog X.w).is s.heap (nkD (.tuple ds)) a := ⟨nested_of I (.tup hx tx) k2 rfl, k3⟩
      refine call_meetsIn PySem.F.slot_dict_get D.typeIs PySem.F.entry_dict_get (PySem.F.args_dict_get_3 _ _ _) (meetsH_dict_get_default (nestedKind X.prog X.w) p a lo r) ⟨by show X.A.units + 1 + 8 < cLine; omega, _, xs, hkey, D, .int ((getK kvs (.tuple ds)).getD n0), H, I.tok _, ?_, q⟩
      have := at_get E.keys E.vals (fun x hx => (hk x hx).2.1) k2
      cases e1 : getK kvs (.tuple ds) with
      | none =>
        cases e2 : atKey xs (nkD (.tuple ds)) with
        | none => exact rr
        | some z =>
          rw [e1, e2] at this
          cases this
      | some m =>
        cases e2 : atKey xs (nkD (.tuple ds)) with
        | none =>
          rw [e1, e2] at this
          cases this
        | some z =>
          rw [e1, e2] at this
          exact this
    | _ => cases k1
end
end Lay
/-! PB12 -/
/-! dicts of ints by data: storing -/
namespace Lay
open PySem PySem.Spec PyProof.Rows L2
theorem stK_len (kvs : List (PyData × Int)) (d : PyData) (n : Int) : (stK kvs d n).length ≤ kvs.length + 1 := by
  classical
  unfold stK
  split
  · rw [List.length_map]
    omega
  · rw [List.length_append]
    simp
theorem stK_mem {P : PyData → Prop} {kvs : List (PyData × Int)} {d : PyData} {n : Int} (h : ∀ x ∈ kvs, P x.1) (hd : P d) : ∀ x ∈ stK kvs d n, P x.1 := by
  classical
  unfold stK
  intro x hx
  split at hx
  · obtain ⟨q, hq, rfl⟩ := List.mem_map.mp hx
    split
    · exact h q hq
    · exact h q hq
  · rcases List.mem_append.mp hx with z | z
    · exact h x z
    · simp at z
      rw [z]
      exact hd
open Classical in
theorem stK_keys {kvs : List (PyData × Int)} {d : PyData} {n : Int} : (stK kvs d n).map (·.1) = if (getK kvs d).isSome then kvs.map (·.1) else kvs.map (·.1) ++ [d] := by
  have ha := getK_any (kvs := kvs) (d := d)
  unfold stK
  cases e : (getK kvs d).isSome with
  | true =>
    rw [if_pos (by rw [← ha, e]), if_pos rfl, List.map_map]
    refine List.map_congr_left fun x _ => ?_
    by_cases z : x.1 = d <;> simp [Function.comp, z]
  | false =>
    rw [if_neg (by rw [← ha, e]; exact Bool.false_ne_true), if_neg Bool.false_ne_true, List.map_append]
    rfl
section
variable {X : Cx} {pins : List (Addr × Obj)} {σ : L2.St} {H : Hp} {s : Shared} {p : Addr} {t : Bool} {kvs : List (PyData × Int)} {d : PyData} {y : V} {u r : Value} {n : Int}
theorem ct_set {E : Value → Shared → Prop} {Q : Unit → Shared → Prop} (hu : X.A.units + 64 < cLine) (I : Inv X pins σ H s) (h : CtOk H p (.dk X.w t kvs)) (hl : kvs.length < 100000) (dn : Dn H y d) (kf : KeyFit t d) (ru : RelV y u) (rr : RelV (.int n) r)
    (q : ∀ o' s', CtOk (upd H p o') p (.dk X.w t (stK kvs d n)) → Kp H (upd H p o') → Inv X pins σ (upd H p o') s' → Q () s') : wpAny (model X.prog X.w) X.A (setItem (.ref p) u r) Q E s := by
  have hl' : (stK kvs d n).length ≤ 100000 := by
    have := stK_len kvs d n
    omega
  cases t with
  | false =>
    obtain ⟨_, ns, rfl, hp⟩ := h
    obtain ⟨i, rfl⟩ := kf
    cases dn
    obtain ⟨ms, e1, e2⟩ := int_store ns i n
    have hz : (ns.map fun x => ((.inl x.1 : L2.Key), V.int x.2)).length < sizeLine := by
      rw [List.length_map]
      rw [List.length_map] at hl
      exact Nat.lt_trans hl (by decide)
    refine d_setItem (by omega) I (.k (k := .inl i) (v := .int n) hp hz) ru rr fun s' I' => q (.dK (putK (ns.map fun x => ((.inl x.1 : L2.Key), V.int x.2)) (.inl i) (.int n))) s' ?_ (.mut hp rfl rfl) I'
    exact ⟨hl', ms, e2, by rw [upd_same, e1]⟩
  | true =>
    obtain ⟨_, lo, as, hp, ha, hk⟩ := h
    obtain ⟨k1, k2, k3⟩ := kf
    obtain ⟨xs, D, En⟩ := dct_of I hp ha hk
    cases dn with
    | @tup a vs ds hx tx =>
      cases ru
      have hkey : (nestedKind X.prog X.w).is s.heap (nkD (.tuple ds)) a := ⟨nested_of I (.tup hx tx) k2 rfl, k3⟩
      have hz : xs.length ≤ sizeLine := by
        have e := congrArg List.length En.keys
        rw [List.length_map, List.length_map] at e
        rw [e]
        exact Nat.le_trans (Nat.le_of_lt hl) (by decide)
      refine wpAny_setItem_heap (hsz := hz) (by show X.A.units + 1 + 8 < cLine; omega) hkey D fun h' D' hs => ?_
      have E2 := ents_store (a := a) En (fun x hx => (hk x hx).2.1) k2 rr
      generalize has : (if (getK kvs (.tuple ds)).isSome then as else as ++ [a]) = as' at E2
      have kp : Kp H (upd H p (.ext (DctRaw X.w p as' (stK kvs (.tuple ds) n)))) := by
        refine ⟨fun b xs ⟨ob, e, d⟩ => ⟨ob, ?_, d⟩, fun b o e l => ?_⟩
        · have : b ≠ p := fun z => by
            rw [z, hp] at e
            cases e
          rw [upd_ne this]
          exact e
        · have : b ≠ p := fun z => by
            rw [z, hp] at e
            cases e
            cases l
          exact ⟨o, by rw [upd_ne this]; exact e, l⟩
      obtain ⟨o, _, _, ho, _⟩ := id D'
      have I' := d_write (t' := s.toks + (nestedKind X.prog X.w).draws (nkD (.tuple ds))) I (by rw [hp]; exact True.intro) hs ⟨o, ho⟩ (dct_ok (X := X) (H' := upd H p (.ext (DctRaw X.w p as' (stK kvs (.tuple ds) n)))) D' E2)
      refine q (.ext (DctRaw X.w p as' (stK kvs (.tuple ds) n))) _ ⟨hl', lo, as', upd_same, ?_, stK_mem (P := fun z => tupKey z = true ∧ keyD z = true ∧ (nkD z).depth ≤ 8) hk ⟨k1, k2, k3⟩⟩ kp I'
      rw [stK_keys]
      clear I'
      generalize upd H p (.ext (DctRaw X.w p as' (stK kvs (.tuple ds) n))) = H2 at kp ⊢
      rw [← has]
      cases (getK kvs (.tuple ds)).isSome with
      | true =>
        rw [if_pos rfl, if_pos rfl]
        exact ha.keep kp
      | false =>
        rw [if_neg Bool.false_ne_true, if_neg Bool.false_ne_true, List.map_append]
        exact (ha.keep kp).app (.one ((Dn.tup hx tx).keep kp))
    | _ => cases k1
end
end Lay
/-! PB13 -/
/-! dicts of ints by data: in expressions and blocks -/
namespace Lay
open PySem PySem.Spec PyProof.Rows L2
section
variable {X : Cx} {b : Bs} {ρ : Rho} {e e2 : Expr} {pos p p2 p3 apos cpos : Pos} {x : Str} {m t : Bool} {kvs : List (PyData × Int)} {d : PyData} {n n0 : Int} {K : Post} {rest : List Stmt}
/-- d.get(key, n0), d a name -/
theorem e_dget (i : Nat) {j : Nat} (hu : X.A.units + 64 < cLine) (h : Ed X b e ρ d) (kf : KeyFit t d) (hi : ρ[i]? = some (some (.c m (.dk X.w t kvs))) := by rfl) (hN : X.N[i]? = some x := by rfl) (hv : Vis X.env.scope x := by first | exact Or.inl rfl | exact Or.inr (Or.inl rfl) | exact Or.inr (Or.inr rfl))
    (hd : (x == ("__debug__" : Str)) = false := by decide) (hcd : (x == ("__classdict__" : Str)) = false := by decide) (mm : M2 X (.Name x p) "get" apos e (.Constant (.int n0) j p2) cpos := by exact ⟨rfl, rfl, rfl, rfl⟩) :
    Ed X b (.Call (.Attribute (.Name x p) "get" apos) [e, .Constant (.int n0) j p2] [] cpos) ρ (.int ((getK kvs d).getD n0)) := by
  intro σ H ok Q q
  obtain ⟨v0, g0, a, rfl, hw, hc⟩ := ok.at_ i _ hi
  refine exp_dget (.of (pe_var hN hv hd hcd) ⟨_, g0, a, rfl, ct_dictAt hc, h σ H ok _ fun v H1 d' s1 w1 r1 e1 => .of pe_int ?_⟩) mm
  subst e1
  exact ct_getAt hu (hc.keep (kp_of s1 ok.wl w1) fun o z => s1 _ _ hw z) r1 kf (q _ H1 _ s1 w1 (.int _) rfl)
def rSetC (X : Cx) : V → V → V → Hp → (Hp → Prop) → Prop := fun o i v H Q => ∃ p t kvs d n, o = .ref p ∧ v = .int n ∧ CtOk H p (.dk X.w t kvs) ∧ kvs.length < 100000 ∧ Dn H i d ∧ KeyFit t d ∧ ∀ o', CtOk (upd H p o') p (.dk X.w t (stK kvs d n)) → Kp H (upd H p o') → Q (upd H p o')
theorem set_dct (hu : X.A.units + 64 < cLine) : PSet X (rSetC X) := by
  rintro pins s σ H o i v ov iv u Q I ro ri rv ⟨p, t, kvs, d, n, rfl, rfl, hc, hl, hi, kf, q⟩
  cases ro
  exact ct_set hu I hc hl hi kf ri rv fun o' s' h1 h2 I' => ⟨_, I', q o' h1 h2⟩
/-- d[key] = n, d an own name -/
theorem st_dset (i : Nat) (hu : X.A.units + 64 < cLine) (h : Ed X b e2 ρ (.int n)) (hk : Ed X b e ρ d) (kf : KeyFit t d) (hl : kvs.length < 100000) (kk : Sts X b rest (ρ.set i (some (.c true (.dk X.w t (stK kvs d n))))) K)
    (hi : ρ[i]? = some (some (.c true (.dk X.w t kvs))) := by rfl) (hN : X.N[i]? = some x := by rfl) (hv : Vis X.env.scope x := by first | exact Or.inl rfl | exact Or.inr (Or.inl rfl) | exact Or.inr (Or.inr rfl))
    (hd : (x == ("__debug__" : Str)) = false := by decide) (hcd : (x == ("__classdict__" : Str)) = false := by decide)
    (ha : ∀ v, assign (.Subscript (.Name x p2) e p3) X.env v = (do
      let ov ← holding [v] (eval (.Name x p2) X.env)
      let iv ← holding [v, ov] (eval e X.env)
      standAt p3
      holding [v, ov, iv] (setItem ov iv v)
      release [v, ov, iv] []) := by intro _; rfl)
    (hs : swapsWithSole [.Subscript (.Name x p2) e p3] e2 pos.line X.env = pure false := by rfl) (hw : swappedStores [.Subscript (.Name x p2) e p3] e2 X.env = pure none := by rfl)
    (h1 : (assignEach [.Subscript (.Name x p2) e p3] X.env).map (·.2) = [assign (.Subscript (.Name x p2) e p3) X.env] := by rfl) : Sts X b (.Assign [.Subscript (.Name x p2) e p3] e2 pos :: rest) ρ K := by
  refine sts_cons fun σ H ok D tk => ?_
  obtain ⟨v0, g0, a, rfl, hwl, hc⟩ := ok.at_ i _ hi
  refine .of (ps_asg peW (pg_sub (pe_var hN hv hd hcd) peW (set_dct hu) ha) hs hw h1) (h σ H ok _ fun v H1 d1 s1 w1 rv pv => ?_)
  subst pv
  cases rv
  refine ⟨_, g0, hk σ H1 (ok.go s1 w1) _ fun v2 H2 d2 s2 w2 r2 q2 => ?_⟩
  subst q2
  have sA := s1.trans s2
  have ok2 := ok.go sA w2
  have hc2 := hc.keep (kp_of sA ok.wl w2) fun o z => sA _ _ hwl z
  refine ⟨a, t, kvs, _, n, rfl, rfl, hc2, hl, r2, kf, fun o' c' kp => ?_⟩
  exact tk.nx _ _ _ ((Go.sb ok.wl w2 sA).trans w2 (.mutC hi g0 kp)) (ok2.mutC hi g0 kp c') kk
def rIxC (X : Cx) : R2 := fun x y H Q => ∃ p t kvs d n, x = .ref p ∧ CtOk H p (.dk X.w t kvs) ∧ Dn H y d ∧ KeyFit t d ∧ getK kvs d = some n ∧ Q (.int n) H
theorem ix_dct (hu : X.A.units + 64 < cLine) : IxR X (rIxC X) := by
  rintro value slice pins s σ H x y v u Q I rx ry ⟨p, t, kvs, d, n, rfl, hc, dn, kf, hg, q⟩ hs
  cases rx
  cases t with
  | false =>
    obtain ⟨_, ns, rfl, hp⟩ := hc
    obtain ⟨i, rfl⟩ := kf
    cases dn
    obtain ⟨a1, _, _⟩ := isD_at I (.inl ⟨_, .inl hp⟩)
    refine tail_any a1 slot_dict_getitem.lookup (d_getItem (y := .int i) (v := .int n) (by omega) I (.inl ⟨_, .inl i, .inl hp, rfl, ?_⟩) ry fun w' s' I' rw' => ⟨.int n, H, I', rw', q⟩) hs
    rw [int_get, hg]
    rfl
  | true =>
    obtain ⟨_, lo, as, hp, ha, hk⟩ := hc
    obtain ⟨k1, k2, k3⟩ := kf
    obtain ⟨xs, D, En⟩ := dct_of I hp ha hk
    cases dn with
    | @tup a vs ds hx tx =>
      cases ry
      have hkey : (nestedKind X.prog X.w).is s.heap (nkD (.tuple ds)) a := ⟨nested_of I (.tup hx tx) k2 rfl, k3⟩
      have e := at_get En.keys En.vals (fun x hx => (hk x hx).2.1) k2
      rw [hg] at e
      cases e2 : atKey xs (nkD (.tuple ds)) with
      | none =>
        rw [e2] at e
        cases e
      | some z =>
        rw [e2] at e
        exact tail_any D.typeIs slot_dict_getitem.lookup (wpAny_getItem_heap (by show X.A.units + 1 + 8 < cLine; omega) hkey D e2 ⟨.int n, H, I.tok _, e, q⟩) hs
    | _ => cases k1
/-- d[key], there -/
theorem e_dix (i : Nat) (hu : X.A.units + 64 < cLine) (h : Ed X b e ρ d) (kf : KeyFit t d) (hg : getK kvs d = some n) (hi : ρ[i]? = some (some (.c m (.dk X.w t kvs))) := by rfl) (hN : X.N[i]? = some x := by rfl) (hv : Vis X.env.scope x := by first | exact Or.inl rfl | exact Or.inr (Or.inl rfl) | exact Or.inr (Or.inr rfl))
    (hd : (x == ("__debug__" : Str)) = false := by decide) (hcd : (x == ("__classdict__" : Str)) = false := by decide) (hs : PlainIx e := by exact fun _ _ => rfl) : Ed X b (.Subscript (.Name x p) e pos) ρ (.int n) := by
  intro σ H ok Q q
  obtain ⟨v0, g0, a, rfl, hw, hc⟩ := ok.at_ i _ hi
  refine .of (pe_ix (ix_dct hu) (pe_var hN hv hd hcd) peW hs) ⟨_, g0, h σ H ok _ fun v H1 d' s1 w1 r1 e1 => ?_⟩
  subst e1
  exact ⟨a, t, kvs, _, n, rfl, hc.keep (kp_of s1 ok.wl w1) fun o z => s1 _ _ hw z, r1, kf, hg, q _ H1 _ s1 w1 (.int _) rfl⟩
end
end Lay
/-! PB14 -/
/-! dict(a tuple of pairs): the pairs read -/
namespace Lay
open PySem PySem.Spec PyProof.Rows L2
section
variable {X : Cx} {pins : List (Addr × Obj)} {σ : L2.St} {H : Hp} {s : Shared}
theorem pairs_read (I : Inv X pins σ H s) : ∀ {xs : List (PyData × Int)} {vs : List V} {its : List Value}, DnA H vs (xs.map pd) → Vals vs its →
    ∃ (ts : List Addr) (ps : List (Value × Value)), its = ts.map Value.ref ∧ ps.length = xs.length ∧ ∀ (j : Nat) (q : PyData × Int), xs[j]? = some q → ∃ T k v kv, ts[j]? = some T ∧ ps[j]? = some (k, v) ∧ s.heap.IsTuple T #[k, v] ∧ Dn H kv q.1 ∧ RelV kv k ∧ RelV (.int q.2) v
  | [], _, _, h, r => by
    cases h
    cases r
    exact ⟨[], [], rfl, rfl, fun j q e => by simp at e⟩
  | x :: xs, _, _, h, r => by
    cases h with
    | cons h t =>
      cases r with
      | cons r1 r2 =>
        obtain ⟨ts, ps, e1, e2, e3⟩ := pairs_read I t r2
        cases h with
        | @tup a ys _ hx tx =>
          cases r1
          cases tx with
          | cons d1 tx =>
            cases tx with
            | cons d2 tx =>
              cases tx
              cases d2
              obtain ⟨its, rv, ⟨o, h1, h2, n, h3⟩, _⟩ := I.tuple hx.sq
              cases rv with
              | @cons _ uk _ _ rk rv =>
                cases rv with
                | @cons _ un _ _ rn rv =>
                  cases rv
                  refine ⟨a :: ts, (uk, un) :: ps, by rw [e1]; rfl, by rw [List.length_cons, List.length_cons, e2], fun j q e => ?_⟩
                  cases j with
                  | zero =>
                    simp at e
                    subst e
                    exact ⟨a, _, _, _, rfl, rfl, ⟨o, h1, h2, n, h3⟩, d1, rk, rn⟩
                  | succ j => simpa using e3 j q (by simpa using e)
end
end Lay
/-! PB15 -/
/-! dict(a tuple of pairs): distinct keys -/
namespace Lay
open PySem PySem.Spec PyProof.Rows L2
theorem storedAllH_new : ∀ (ps xs : Ents), ((xs ++ ps).map (·.1)).Nodup → storedAllH xs ps = xs ++ ps
  | [], xs, _ => by
    unfold storedAllH
    simp
  | p :: ps, xs, h => by
    have hn : atKey xs p.1 = none := by
      cases e : atKey xs p.1 with
      | none => rfl
      | some z =>
        exfalso
        unfold atKey at e
        obtain ⟨q, hq, _⟩ := Option.map_eq_some_iff.mp e
        have h1 := List.mem_of_find?_eq_some hq
        have h2 : q.1 = p.1 := by simpa using List.find?_some hq
        rw [List.map_append, List.nodup_append] at h
        exact h.2.2 q.1 (List.mem_map.mpr ⟨q, h1, rfl⟩) p.1 (by simp) h2
    have e : storedAllH xs (p :: ps) = storedAllH (storedH xs p.1 p.2.1 p.2.2) ps := rfl
    rw [e, storedH_new hn, storedAllH_new ps (xs ++ [(p.1, p.2.1, p.2.2)]) (by simpa using h)]
    simp
theorem merged_new {κ : Type} [DecidableEq κ] : ∀ (ps xs : List (κ × Value)), ((xs ++ ps).map (·.1)).Nodup → merged xs ps = xs ++ ps
  | [], xs, _ => by
    unfold merged
    simp
  | p :: ps, xs, h => by
    have hn : (xs.any fun kv => decide (kv.1 = p.1)) = false := by
      rw [List.any_eq_false]
      intro q hq e
      have e : q.1 = p.1 := by simpa using e
      rw [List.map_append, List.nodup_append] at h
      exact h.2.2 q.1 (List.mem_map.mpr ⟨q, hq, rfl⟩) p.1 (by simp) e
    have e : merged xs (p :: ps) = merged (stored xs p.1 p.2) ps := rfl
    have e2 : stored xs p.1 p.2 = xs ++ [(p.1, p.2)] := by
      unfold stored
      rw [hn, if_neg Bool.false_ne_true]
    rw [e, e2, merged_new ps (xs ++ [(p.1, p.2)]) (by simpa using h)]
    simp
end Lay
/-! PA9 -/
/-! enumerate(a tuple) -/
namespace Lay
open PySem PySem.Spec PyProof.Rows L2
def Itu (K : PySem.W.Frag) (a : Addr) : It :=
  ⟨fun i H => ∃ (xs : List V) (x : V), SqT K H a xs ∧ xs[i]? = some x, fun i H v H' => ∃ T x o, v = .ref T ∧ o.dict = none ∧ H T = none ∧ H' = upd H T (.frz o (.tup [.int (i : Nat), x])) ∧ ∀ xs, SqT K H a xs → xs[i]? = some x, fun i H => ∃ xs : List V, SqT K H a xs ∧ xs.length = i⟩
theorem turn_tup {P : Program} {w : World} {K : PySem.W.Frag} {elts : List Expr} {kk : Nat} {tpos : Pos} (a e it : Addr) (hai : a ≠ it) (hea : e ≠ a) :
    Turn P w K (.Tuple elts kk tpos) (Itu K a) [e, it] e (fun i h => (∃ old, IsEnum h e it ((i : Nat) : Int) old) ∧ h.IsTupleIter it a i ∧ e ≠ it) where
  mem := by simp
  obj := fun i h st b hb => by
    obtain ⟨⟨old, he⟩, ⟨o, ho, hc, hd⟩, _⟩ := st
    rcases (show b = e ∨ b = it by simpa using hb) with z | z
    · rw [z]
      exact ⟨_, he, fun v q => nomatch q⟩
    · rw [z]
      exact ⟨o, ho, fun v q => by rw [hd] at q; cases q⟩
  keep := fun i h h' st k => by
    obtain ⟨⟨old, he⟩, hi, hne⟩ := st
    exact ⟨⟨old, k e (by simp) _ he⟩, hi.at fun o q => k it (by simp) o q, hne⟩
  item := by
    intro X hP hw hK hc i pins s σ H E I hf st hg
    subst hP hw hK
    obtain ⟨⟨old, he⟩, hit, hne⟩ := st
    obtain ⟨xs, x, hq, hx⟩ := hg
    obtain ⟨its, rv, p, hz⟩ := I.tuple hq
    obtain ⟨u, hu, ru⟩ := rv.get hx
    have hel : e < s.heap.objs.size := Heap.lt_size he
    have hil : it < s.heap.objs.size := by
      obtain ⟨_, q, _⟩ := hit
      exact Heap.lt_size q
    have hlt : i < its.toArray.size := by
      have := (List.getElem?_eq_some_iff.mp hu).1
      simpa using this
    refine wpAny_pyNext_enum_itemD (Draws.tuple (A := X.A.in1) (by exact I.ok.hd hc) it a hai its.toArray) he ⟨hit, p⟩ hlt hne (by simp [hne, hea]) fun y h' tk hy ho st' hT hsz hk => ?_
    have ey : y = u := by
      have : its.toArray[i]? = some u := by simpa using hu
      rw [this] at hy
      exact (Option.some.inj hy).symm
    subst ey
    refine ⟨_, rfl, wpAny_letOwnedTupleGo_enum (s := { s with heap := h', toks := tk + 1 }) ho fun h'' he' sb => ?_⟩
    have hT2 : h''.get? s.heap.objs.size = some { cls := .type "tuple", data := .seq #[.int i tk, y] } := (sb.2 _ (Nat.ne_of_gt hel)).trans hT
    have new : ObjOk X.prog X.w (upd H s.heap.objs.size (.frz { cls := .type "tuple", data := .seq #[.int i tk, y] } (.tup [.int (i : Nat), x]))) h'' s.heap.objs.size (.frz { cls := .type "tuple", data := .seq #[.int i tk, y] } (.tup [.int (i : Nat), x])) :=
      ⟨hT2, by show 2 ≤ sizeLine; decide, [.int i tk, y], .cons ⟨_, rfl⟩ (.cons ru .nil), ⟨_, hT2, rfl, _, rfl⟩⟩
    have I1 : Inv X pins σ (upd H s.heap.objs.size (.frz { cls := .type "tuple", data := .seq #[.int i tk, y] } (.tup [.int (i : Nat), x]))) { s with heap := h'', toks := tk + 1 } :=
      I.turnedNew (ch := [e, it]) (fun b ob hb q => (sb.2 b (fun z => hb (by simp [z]))).trans (hk b ob (fun z => hb (by simp [z])) (fun z => hb (by simp [z])) q)) hf (Nat.le_refl _) new
    refine ⟨.ref s.heap.objs.size, _, I1, rfl, ⟨_, x, _, rfl, rfl, I.hok.fresh (Nat.le_refl _), rfl, fun ys hy => ?_⟩, ⟨⟨y, ?_⟩, st'.1.at fun o q => (sb.2 it (Ne.symm hne)).trans q, hne⟩, fun b hb => ?_⟩
    · rw [I.tuple_inj hy hq]; exact hx
    · have e1 : ((i + 1 : Nat) : Int) = (i : Int) + 1 := by omega
      rw [e1]
      exact he'
    · have hb' : b < s.heap.objs.size := by
        rcases (show b = e ∨ b = it by simpa using hb) with z | z
        · rw [z]
          exact hel
        · rw [z]
          exact hil
      rw [upd_ne (Nat.ne_of_lt hb')]
      exact (hf b hb).1
  done := by
    intro X hP hw hK hc i pins s σ H E I hf st hg
    subst hP hw hK
    obtain ⟨⟨old, he⟩, hit, hne⟩ := st
    obtain ⟨xs, hq, hx⟩ := hg
    obtain ⟨its, rv, p, hz⟩ := I.tuple hq
    obtain ⟨f0, f1, f2, f3, f4, f5⟩ := hf it (by simp)
    have hn : its.toArray.size = i := by rw [List.size_toArray, ← rv.length, hx]
    refine wpAny_pyNext_enum_endD (n := its.toArray.size) (Draws.tuple (A := X.A.in1) (by exact I.ok.hd hc) it a hai its.toArray) he ⟨by rw [hn]; exact hit, p⟩ fun h' eb => ⟨rfl, I.turned (t' := s.toks) (fun b o hb q => eb b o hb q) f0 f1 f3 f4 f5⟩
  self := fun A i s Q E st h => let ⟨⟨_, he⟩, _⟩ := st; wpAny_pyIter_enum he h
abbrev tupIt (a : Addr) : Obj := { cls := .type "tuple_iterator", data := .fields #[.ref a, .int 0 0] }
abbrev enumOf (it : Addr) : Obj := { cls := .type "enumerate", data := .fields #[.none, .bool false, .ref it, rawInt 0, .none, .none] }
section
open PySem.AutoSeq1 (wpAny_loadPart')
theorem meets_enum_tup (a : Addr) (its : Array Value) (n : Nat) (D : Option Addr) (S : Array (Option Value)) :
    Meets (Builtin.«enumerate.__new__» ⟨[.type "enumerate", .ref a], []⟩) fun _ R s => s.heap.get? a = some { cls := .type "tuple", dict := D, data := .seq its n, slots := S } ∧
      R (.ok (.ret (.ref (s.heap.push (tupIt a)).objs.size))) { s with heap := (s.heap.push (tupIt a)).push (enumOf s.heap.objs.size) } := by
  refine .of_wp fun prog w A R st H => ?_
  obtain ⟨hp, gl, dp, tk, os⟩ := st
  obtain ⟨g, hR⟩ := H
  have sub := sub_enumerate
  have T : Heap.IsTuple (Shared.heap ⟨hp, gl, dp, tk, os⟩) a its := ⟨_, g, rfl, n, rfl⟩
  wp_walk using wpAny_loadPart' g
  refine wpAny_stack_any fun _ => wpAny_pure ?_
  split
  · rename_i c _ _ _ _ _
    cases (c == Value.type "enumerate") <;> (wp_walk using wpAny_loadPart' g, wpAny_pyIter_tuple T; exact ⟨_, rfl, hR⟩)
  · wp_walk using wpAny_loadPart' g, wpAny_pyIter_tuple T
    exact ⟨_, rfl, hR⟩
end
theorem call_enum_tup {prog : Program} {w : World} {A : Around} {E : Value → Shared → Prop} {s : Shared} {a : Addr} {its : Array Value} {Q : Value → Shared → Prop} (T : s.heap.IsTuple a its)
    (h : ∀ h', IsEnum h' (s.heap.objs.size + 1) s.heap.objs.size 0 .none → h'.IsTupleIter s.heap.objs.size a 0 → (∀ b o, s.heap.get? b = some o → h'.get? b = some o) → Q (.ref (s.heap.objs.size + 1)) { s with heap := h' }) : wpAny (model prog w) A (call (.type "enumerate") [.ref a]) Q E s := by
  obtain ⟨⟨c, D, dt, S⟩, g, hc, n, hd⟩ := T
  cases (show c = .type "tuple" from hc)
  cases (show dt = .seq its n from hd)
  refine callType_new F.called_enumerate (by decide) (F.typeCall_enumerate_1 _) (F.newCall_enumerate_1 _) (fun obj => F.args_object_init_2 obj _) F.entry_enumerate_new (meets_enum_tup a its n D S) ⟨g, ?_⟩
  have hz : (s.heap.push (tupIt a)).objs.size = s.heap.objs.size + 1 := Heap.size_push ..
  show _ ∧ _
  rw [hz]
  have he : IsEnum ((s.heap.push (tupIt a)).push (enumOf s.heap.objs.size)) (s.heap.objs.size + 1) s.heap.objs.size 0 .none := by
    have := Heap.get?_push_size (s.heap.push (tupIt a)) (o := enumOf s.heap.objs.size) rfl
    rw [hz] at this
    exact this
  exact ⟨⟨_, he, rfl⟩, h _ he ⟨_, Heap.get?_push_of_some _ (Heap.get?_push_size _ rfl), rfl, rfl⟩ fun b o x => Heap.get?_push_of_some _ (Heap.get?_push_of_some _ x)⟩
section
variable {X : Cx} {b : Bs} {ρ : Rho} {e : Expr} {p pos tpos : Pos} {elts : List Expr} {kk : Nat}
theorem pi_enum_tup {ta : TA} (hg : Gl X "enumerate") (hm : X.mg "enumerate" = none) (ha : PA X [e] ta) (hs : starEach [e] X.env = [(false, eval e X.env)] := by rfl) :
    PI X (.Tuple elts kk tpos) (.Call (.Name "enumerate" p) [e] [] pos) (fun σ H R => ta σ H fun vs H1 => ∃ a xs, vs = [.ref a] ∧ SqT X.K H1 a xs ∧ R (Itu X.K a) H1) := by
  refine ⟨fun pins s σ H R I h => ?_⟩
  refine Call_ (ld_blt I hg hm boot_enumerate (PyProof.Rows.callWith_type1 (thn (ha.run pos pins s σ H _ I h) fun us s1 ⟨vs, H1, I1, r1, a, xs, ex, hq, q⟩ => ?_) hs rfl))
  subst ex
  cases r1 with
  | cons r rr =>
    cases rr
    cases r
    obtain ⟨its, rv, T, hz⟩ := I1.tuple hq
    have hal : a < s1.heap.objs.size := T.lt
    refine call_enum_tup T fun h' he hit hk => wpAny_pyIter_enum he ?_
    have I2 : Inv X pins σ H1 { s1 with heap := h' } := I1.kept (t' := s1.toks) hk
    refine ⟨s1.heap.objs.size + 1, [s1.heap.objs.size + 1, s1.heap.objs.size], _, _, H1, rfl, I2, turn_tup a (s1.heap.objs.size + 1) s1.heap.objs.size (Nat.ne_of_lt hal) (Nat.ne_of_gt (Nat.lt_succ_of_lt hal)), ⟨⟨.none, he⟩, hit, Nat.succ_ne_self _⟩, fun c hc => ?_, q⟩
    have hle : s1.heap.objs.size ≤ c := by
      rcases (show c = s1.heap.objs.size + 1 ∨ c = s1.heap.objs.size by simpa using hc) with z | z
      · rw [z]
        exact Nat.le_add_right _ _
      · rw [z]
        exact Nat.le_refl _
    exact I1.fpOk hle (I1.hok.fresh hle)
def enumD (xs : List PyData) : List PyData := xs.mapIdx fun i x => .tuple [.int (i : Nat), x]
theorem evi_enum {nn : Bool} {xs : List PyData} (hg : Gl X "enumerate") (hm : X.mg "enumerate" = none) (h : Ed X b e ρ (.tuple xs)) (hs : starEach [e] X.env = [(false, eval e X.env)] := by rfl) (hs1 : starEach [e] X.env = (false, eval e X.env) :: starEach [] X.env := by rfl) :
    EvI X b nn (.Tuple elts kk tpos) (.Call (.Name "enumerate" p) [e] [] pos) ρ fun z => z = enumD xs := by
  refine ⟨_, pi_enum_tup hg hm (pa_cons peW pa_nil hs1) hs, fun σ H ok R q => h σ H ok _ fun v H1 d s w r e1 => ?_⟩
  subst e1
  cases r with
  | @tup a vs _ h1 t1 =>
    refine ⟨a, vs, rfl, h1.sq, ?_⟩
    refine q _ H1 (fun H' => ∃ vs, Tp H' a vs ∧ DnA H' vs xs) _ (fun _ => False) s w rfl (fun H' ⟨vs, g1, g2⟩ w' => ?_) (fun H' k _ => ⟨vs, k.t _ _ h1, t1.keep k⟩) fun _ z => z.elim
    have hl : (enumD xs).length = xs.length := by
      unfold enumD
      rw [List.length_mapIdx]
    rw [hl]
    refine ⟨fun i hi => ?_, ⟨vs, g1.sq, g2.len⟩, fun i x H2 hi ⟨T, x1, o, e1, ho, hT, e2, f1⟩ => ?_⟩
    · obtain ⟨u, h2, _⟩ := g2.get (List.getElem?_eq_getElem hi)
      exact ⟨vs, u, g1.sq, h2⟩
    · subst e1 e2
      obtain ⟨d1, q1, q2⟩ := g2.getV (f1 vs (g1.sq))
      refine ⟨.new hT, w'.upd (w'.ne hT), .tuple [.int (i : Nat), d1], ?_, .tup (.new ho) (.cons (.int _) (.cons (q2.keep (.new hT)) .nil))⟩
      unfold enumD
      rw [List.getElem?_mapIdx, q1]
      rfl
end
end Lay
/-! PC10 -/
/-! the walks: check_pairs -/
namespace Lay
open Quiet
open PySem PySem.Spec PyProof.Rows L2
section
variable {P : Program} {w : World} {K : PySem.W.Frag} {mg : Str → Option Value} {base : Heap}
abbrev CntedK (P : Program) (w : World) (K : PySem.W.Frag) (mg : Str → Option Value) (base : Heap) (n : Nat) : Prop := Kn P w K mg base "is_counted" (V2 n + 1) pp16 (e2 (fun q : Kd × PyData => q.1.d) (·.2)) (fun _ q => q.1.ok = true ∧ q.1.deep ≤ n ∧ wide 100 q.2 = true) fun q y => y = .bool (counted (valued q.1) q.2)
theorem i_enum {X : Cx} {b : Bs} {ρ : Rho} {e : Expr} {p pos tpos : Pos} {elts : List Expr} {kk : Nat} {nn : Bool} {xs : List PyData} (B : Bi X.mg) (h : Ed X b e ρ (.tuple xs)) (hg : Gl X "enumerate" := by rfl) (hs : starEach [e] X.env = [(false, eval e X.env)] := by rfl) (hs1 : starEach [e] X.env = (false, eval e X.env) :: starEach [] X.env := by rfl) :
    EvI X b nn (.Tuple elts kk tpos) (.Call (.Name "enumerate" p) [e] [] pos) ρ fun z => z = enumD xs := evi_enum hg B.enum h hs hs1
theorem kn_check_pairs (B : Bi mg) (D : Df K mg "check_pairs" 23 pp23) (F : CntedK P w K mg base 8) : Kn P w K mg base "check_pairs" 36 pp23 (e2 (fun q : Kd × List (PyData × Int) => q.1.d) (fun q => .tuple (q.2.map pd))) (fun _ q => q.1.plain = true ∧ q.1.deep ≤ 8 ∧ (∀ e ∈ q.2, val q.1 e.1) ∧ wide 100 (.tuple (q.2.map pd)) = true) fun _ y => y = .none := by
  refine kn_df D sc23 (fun _ => rfl) nl2 ?_
  rintro f cdv A outer s H W ⟨k, ps⟩ hr hq ⟨hp, hd, hv, hw⟩
  replace hd : k.deep ≤ 8 := hd
  have ho : k.ok = true := Kd.plain_ok hp
  obtain ⟨hl, hw2⟩ := wide_tup.mp hw
  refine sts_no (edt_notF (t_tup B (vd 1))) ?_
  refine sts_for (P := fun z => z = enumD (ps.map pd)) (i_enum B (vd 1)) rfl .never (gp_twoF rfl sc23.nd rfl rfl) (tg_two (K := K) 2 3) fun ds e => ?_
  subst e
  refine ⟨fun i ρ => ∃ s2 s3 : Option Lay.S, ρ = [some (.d k.d), some (.d (.tuple (ps.map pd))), s2, s3], ⟨_, _, rfl⟩, ?_, ?_⟩
  · rintro i d ρ' hi ⟨s2, s3, rfl⟩
    unfold enumD at hi
    rw [List.getElem?_mapIdx] at hi
    cases hx : (ps.map pd)[i]? with
    | none => rw [hx] at hi; cases hi
    | some z =>
      rw [hx] at hi
      cases hi
      have hm := List.mem_of_getElem? hx
      obtain ⟨q, hq', rfl⟩ := List.mem_map.mp hm
      refine ⟨_, ⟨_, _, rfl, rfl⟩, ?_⟩
      refine sts_no (edt_notF (edt_val (ed_call (k, pd q) (d := .bool true) F hr hq rfl (eda_d (vd 0) (eda_d (vd 3) eda_nil)) ⟨ho, hd, hw2 _ hm⟩ fun y h => ?_))) (sts_nil ⟨_, _, rfl⟩)
      rw [h]
      simp only [counted, pd, whole, (valued_iff ho).mpr (hv q hq'), Bool.and_self]
  · rintro ρ' ⟨s2, s3, rfl⟩
    exact sts_nil rfl
end
end Lay
/-! PB16 -/
/-! dict(a tuple of pairs), called -/
namespace Lay
open PySem PySem.Spec PyProof.Rows L2
section
variable {P : Program} {w : World} {H : Hp}
/-- the pairs that were read, as entries -/
theorem ents_of_pairs : ∀ {xs : List (PyData × Int)} {ps : List (Value × Value)}, ps.length = xs.length →
    (∀ (j : Nat) (q : PyData × Int), xs[j]? = some q → ∃ k v kv, ps[j]? = some (k, v) ∧ Dn H kv q.1 ∧ RelV kv k ∧ RelV (.int q.2) v) → (∀ q ∈ xs, tupKey q.1 = true) →
    ∃ (as : List Addr) (es : Ents), EntsOf xs as es ∧ DnA H (as.map V.ref) (xs.map (·.1)) ∧ es.length = xs.length ∧ ∀ (i : Nat) (key v : Value), ps[i]? = some (key, v) → ∃ k b, es[i]? = some (k, b, v) ∧ key = .ref b
  | [], [], _, _, _ => ⟨[], [], ⟨rfl, rfl, .nil⟩, .nil, rfl, fun i key v e => by simp at e⟩
  | [], _ :: _, hl, _, _ => by simp at hl
  | _ :: _, [], hl, _, _ => by simp at hl
  | q :: xs, p :: ps, hl, h, ht => by
    obtain ⟨as, es, E, D, l, r⟩ := ents_of_pairs (xs := xs) (ps := ps) (by simpa using hl) (fun j q e => by simpa using h (j + 1) q (by simpa using e)) fun q hq => ht q (List.mem_cons_of_mem _ hq)
    obtain ⟨k, v, kv, e1, d1, r1, r2⟩ := h 0 q rfl
    have e1' : p = (k, v) := Option.some.inj e1
    subst e1'
    have t1 := ht q List.mem_cons_self
    obtain ⟨d, n⟩ := q
    cases d1 with
    | @tup a ys ds hx tx =>
      cases r1
      refine ⟨a :: as, (nkD (.tuple ds), a, v) :: es, ⟨?_, ?_, .cons r2 E.vals⟩, .cons (.tup hx tx) D, by rw [List.length_cons, List.length_cons, l], fun i key u e => ?_⟩
      · rw [List.map_cons, List.map_cons, E.keys]
      · rw [List.map_cons, E.ads]
      · cases i with
        | zero =>
          have e' : (Value.ref a, v) = (key, u) := Option.some.inj e
          injection e' with e1 e2
          subst e1 e2
          exact ⟨_, _, rfl, rfl⟩
        | succ i => simpa using r i key u (by simpa using e)
    | _ => cases t1
theorem ints_of_pairs : ∀ {xs : List (PyData × Int)} {ps : List (Value × Value)}, ps.length = xs.length →
    (∀ (j : Nat) (q : PyData × Int), xs[j]? = some q → ∃ k v kv, ps[j]? = some (k, v) ∧ Dn H kv q.1 ∧ RelV kv k ∧ RelV (.int q.2) v) → (∀ q ∈ xs, ∃ i : Int, q.1 = .int i) →
    ∃ (ns : List (Int × Int)) (vs : List (L2.Key × Value)), xs = ns.map (fun x => (.int x.1, x.2)) ∧ KV (ns.map fun x => ((.inl x.1 : L2.Key), V.int x.2)) vs ∧ vs.length = xs.length ∧ ∀ (i : Nat) (key v : Value), ps[i]? = some (key, v) → ∃ k, vs[i]? = some (k, v) ∧ (mixKind P w).is k key = true
  | [], [], _, _, _ => ⟨[], [], rfl, .nil, rfl, fun i key v e => by simp at e⟩
  | [], _ :: _, hl, _, _ => by simp at hl
  | _ :: _, [], hl, _, _ => by simp at hl
  | q :: xs, p :: ps, hl, h, ht => by
    obtain ⟨ns, vs, E, D, l, r⟩ := ints_of_pairs (xs := xs) (ps := ps) (by simpa using hl) (fun j q e => by simpa using h (j + 1) q (by simpa using e)) fun q hq => ht q (List.mem_cons_of_mem _ hq)
    obtain ⟨k, v, kv, e1, d1, r1, r2⟩ := h 0 q rfl
    have e1' : p = (k, v) := Option.some.inj e1
    subst e1'
    obtain ⟨i, ei⟩ := ht q List.mem_cons_self
    obtain ⟨d, n⟩ := q
    have ei' : d = .int i := ei
    subst ei'
    cases d1
    obtain ⟨t, rfl⟩ := r1
    refine ⟨(i, n) :: ns, (.inl i, v) :: vs, by rw [E]; rfl, .cons ⟨rfl, r2⟩ D, by rw [List.length_cons, List.length_cons, l], fun j key u e => ?_⟩
    cases j with
    | zero =>
      have e' : (Value.int i t, v) = (key, u) := Option.some.inj e
      injection e' with e1 e2
      subst e1 e2
      exact ⟨_, rfl, mixKind_int P w i t⟩
    | succ j => simpa using r j key u (by simpa using e)
end
section
variable {X : Cx}
def rDict (X : Cx) : List V → Hp → VK → Prop := fun vs H Q => ∃ a xs t, vs = [.ref a] ∧ Dn H (.ref a) (.tuple (xs.map pd)) ∧ (∀ q ∈ xs, KeyFit t q.1) ∧ (xs.map (·.1)).Nodup ∧ xs.length ≤ 1000 ∧
  ∀ p o', H p = none → CtOk (upd H p o') p (.dk X.w t xs) → Q (.ref p) (upd H p o')
theorem cr_dict (hc : X.calm = true) (hu : X.A.units + 64 < cLine) : CallR X (.type "dict") (rDict X) := by
  rintro pins s σ H vs us Q I r ⟨a, xs, t, ev, hd, hk, nd, hl, q⟩
  subst ev
  cases r with
  | cons r rr =>
    cases rr
    cases r
    cases hd with
    | @tup _ ys _ hx tx =>
      obtain ⟨ob, hob, hod⟩ := id hx
      obtain ⟨h0, hz, its, rv, o, h1, h2, n, h3⟩ := (show ObjOk X.prog X.w H s.heap a (.frz ob (.tup ys)) from I.hok a _ hob)
      rw [h0] at h1
      cases h1
      obtain ⟨ts, ps, e1, e2, e3⟩ := pairs_read I tx rv
      subst e1
      have hfr : H s.heap.objs.size = none := I.hok.fresh (Nat.le_refl _)
      have hm : (s.heap.objs.size == sysModules) = false := beq_eq_false_iff_ne.mpr (Nat.ne_of_gt I.big)
      have lts : ts.length = ps.length := by
        have := tx.len
        have l2 := rv.length
        rw [List.length_map] at this l2
        omega
      have hps : ps.length ≤ sizeLine := by rw [e2]; exact Nat.le_trans hl (by decide)
      have ok : PlainSeq "tuple" s.heap a (ts.map Value.ref).toArray ∧ PairItems s.heap (ts.map Value.ref).toArray (fun j => ts.getD j 0) ps := by
        refine ⟨⟨ob, n, h0, h2, hod, h3⟩, by rw [List.size_toArray, List.length_map, lts], fun j k v hj => ?_⟩
        have hlt : j < xs.length := by
          rw [← e2]
          exact (List.getElem?_eq_some_iff.mp hj).1
        obtain ⟨T, k', v', kv, z1, z2, z3, _⟩ := e3 j _ (List.getElem?_eq_getElem hlt)
        rw [hj] at z2
        cases z2
        have eT : ts.getD j 0 = T := by rw [List.getD_eq_getElem?_getD, z1]; rfl
        refine ⟨?_, .inl (by show s.heap.IsTuple (ts.getD j 0) #[k, v]; rw [eT]; exact z3)⟩
        show _ = some (Value.ref (ts.getD j 0))
        rw [eT, List.getElem?_toArray, List.getElem?_map, z1]
        rfl
      have e3' : ∀ (j : Nat) (q : PyData × Int), xs[j]? = some q → ∃ k v kv, ps[j]? = some (k, v) ∧ Dn H kv q.1 ∧ RelV kv k ∧ RelV (.int q.2) v := fun j q e => by
        obtain ⟨T, k, v, kv, z1, z2, z3, z4⟩ := e3 j q e
        exact ⟨k, v, kv, z2, z4⟩
      have K0 := PairArg.tuple (prog := X.prog) (w := X.w) a (ts.map Value.ref).toArray (fun j => ts.getD j 0) ps
      cases t with
      | false =>
        obtain ⟨ns, vs, ex, kv, lv, pk⟩ := ints_of_pairs (P := X.prog) (w := X.w) e2 e3' hk
        refine PySem.call_dict_pairs (knd := mixKind X.prog X.w) (kvs := vs) K0 (I.ok.hd hc) ok ⟨by rw [lv, e2], pk⟩ hps fun h' tk hd' hkp => ?_
        have hnd : ((([] : List (L2.Key × Value)) ++ vs).map (·.1)).Nodup := by
          rw [List.nil_append, ← kv.keys, List.map_map]
          rw [ex, List.map_map] at nd
          exact List.pairwise_map.mpr ((List.pairwise_map.mp nd).imp fun {x y} h e => h (congrArg PyData.int (Sum.inl.inj e)))
        rw [merged_new vs [] hnd, List.nil_append] at hd'
        have hlen : (ns.map fun x => ((.inl x.1 : L2.Key), V.int x.2)).length ≤ sizeLine := by
          rw [kv.length, lv]
          exact Nat.le_trans hl (by decide)
        refine ⟨.ref s.heap.objs.size, upd H s.heap.objs.size (.dK (ns.map fun x => ((.inl x.1 : L2.Key), V.int x.2))), I.laid (t' := tk) (fun b o e => hkp b o (List.not_mem_nil) e) (Nat.le_refl _) (show ObjOk X.prog X.w _ _ _ (.dK _) from ⟨hlen, hm, vs, kv, hd'⟩), rfl, q _ _ hfr ?_⟩
        exact ⟨Nat.le_trans hl (by decide), ns, ex, upd_same⟩
      | true =>
        obtain ⟨as, es, E, D, le, pk⟩ := ents_of_pairs e2 e3' fun q hq => (hk q hq).1
        have kk : ∀ q ∈ xs, tupKey q.1 = true ∧ keyD q.1 = true ∧ (nkD q.1).depth ≤ 8 := fun q hq => hk q hq
        have hks : KeysStay (nestedKind X.prog X.w) s.heap s.heap.objs.size [] es := by
          intro h' hkp x hm'
          obtain ⟨i, hi⟩ := List.mem_iff_getElem?.mp hm'
          have g1 : (xs.map fun x => nkD x.1)[i]? = some x.1 := by rw [← E.keys, List.getElem?_map, hi]; rfl
          have g2 : as[i]? = some x.2.1 := by rw [← E.ads, List.getElem?_map, hi]; rfl
          rw [List.getElem?_map] at g1
          cases e : xs[i]? with
          | none => rw [e] at g1; cases g1
          | some q =>
            rw [e] at g1
            have g1 : nkD q.1 = x.1 := Option.some.inj g1
            obtain ⟨u, u1, u2⟩ := D.get (i := i) (d := q.1) (by rw [List.getElem?_map, e]; rfl)
            rw [List.getElem?_map, g2] at u1
            cases u1
            obtain ⟨_, c2, c3⟩ := kk q (List.mem_of_getElem? e)
            rw [← g1]
            exact ⟨NestedIs.at (fun b ob vs n hb _ => hkp b ob (Nat.ne_of_lt (Heap.lt_size hb)) List.not_mem_nil hb) _ _ (nested_of I u2 c2 rfl), c3⟩
        refine PySem.call_dict_pairsH (knd := nestedKind X.prog X.w) (ps := es) K0 (I.ok.hd hc) (by show X.A.units + 1 + 1 + 8 < cLine; omega) ok ⟨by rw [le, e2], pk⟩ hks hps fun h' tk hd' hkp => ?_
        have hnd : ((([] : Ents) ++ es).map (·.1)).Nodup := by
          rw [List.nil_append, E.keys]
          have : (xs.map fun x => nkD x.1) = (xs.map (·.1)).map nkD := by rw [List.map_map]; rfl
          rw [this]
          refine List.pairwise_map.mpr (nd.imp_of_mem fun {x y} hx hy hn e => hn ?_)
          obtain ⟨q1, m1, rfl⟩ := List.mem_map.mp hx
          obtain ⟨q2, m2, rfl⟩ := List.mem_map.mp hy
          exact nkD_inj (kk q1 m1).2.1 (kk q2 m2).2.1 e
        rw [storedAllH_new es [] hnd, List.nil_append] at hd'
        refine ⟨.ref s.heap.objs.size, upd H s.heap.objs.size (.ext (DctRaw X.w s.heap.objs.size as xs)), I.laid (t' := tk) (fun b o e => hkp b o (List.not_mem_nil) e) (Nat.le_refl _) (dct_ok (X := X) hd' E), rfl, q _ _ hfr ?_⟩
        exact ⟨Nat.le_trans hl (by decide), hm, as, upd_same, D.keep (.new hfr), kk⟩
end
end Lay
/-! PC11 -/
/-! dict(pairs) in expressions and blocks -/
namespace Lay
open PySem PySem.Spec PyProof.Rows L2
section
variable {X : Cx} {b : Bs} {ρ : Rho} {e e2 : Expr} {pos p px apos cpos p2 : Pos} {x : Str} {K : Post} {rest : List Stmt} {xs : List (PyData × Int)} {d : PyData} {n0 : Int}
theorem bt_dict : bootBuiltins "dict" = some (.type "dict") := by decide +kernel
/-- dict(a tuple of pairs) -/
theorem exp_dict (t : Bool) (B : Bi X.mg) (hu : X.A.units + 64 < cLine) (h : Ed X b e ρ (.tuple (xs.map pd))) (hk : ∀ q ∈ xs, KeyFit t q.1) (nd : (xs.map (·.1)).Nodup) (hl : xs.length ≤ 1000) {σ : L2.St} {H : Hp} (ok : EnvOk b H σ ρ) {Q : VK}
    (q : ∀ a H1 o', SB b.W H H1 → Wl b.W H1 → H1 a = none → CtOk (upd H1 a o') a (.dk X.w t xs) → Q (.ref a) (upd H1 a o')) (hc : X.calm = true := by rfl) (hg : Gl X "dict" := by rfl) (hs : starEach [e] X.env = (false, eval e X.env) :: starEach [] X.env := by rfl) : Exp X (.Call (.Name "dict" p) [e] [] pos) σ H Q := by
  refine exp_callT (cr_dict hc hu) hg B.dict bt_dict (exa_one (h σ H ok _ fun v H1 d s w r e1 => ?_) hs) (he := hs)
  subst e1
  cases r with
  | tup h1 t1 => exact ⟨_, xs, t, rfl, .tup h1 t1, hk, nd, hl, fun a o' hn hc => q a H1 o' s w hn hc⟩
/-- x = dict(a tuple of pairs) -/
theorem st_dict (i : Nat) (t : Bool) (B : Bi X.mg) (hu : X.A.units + 64 < cLine) (h : Ed X b e ρ (.tuple (xs.map pd))) (hk : ∀ q ∈ xs, KeyFit t q.1) (nd : (xs.map (·.1)).Nodup) (hl : xs.length ≤ 1000) (k : Sts X b rest (ρ.set i (some (.c true (.dk X.w t xs)))) K)
    (hN : X.N.Nodup) (hi : X.N[i]? = some x := by rfl) (hx : Loc X.env.scope x := by exact .inl rfl) (hc : X.calm = true := by rfl) (hg : Gl X "dict" := by rfl) (hs : starEach [e] X.env = (false, eval e X.env) :: starEach [] X.env := by rfl) (hsw : swapsWith (.Call (.Name "dict" p) [e] [] pos) (some (.Name x px)) pos.line X.env = pure false := by rfl)
    (hf : X.fn x = true ∨ X.env.scope.names.lookup x = some .local := by first | exact .inl rfl | exact .inr rfl) {spos : Pos} (hsw : swapsWith (.Call (.Name "dict" p) [e] [] pos) (some (.Name x px)) spos.line X.env = pure false := by rfl) : Sts X b (.Assign [.Name x px] (.Call (.Name "dict" p) [e] [] pos) spos :: rest) ρ K := by
  refine sts_cons fun σ H ok D tk => ?_
  refine .of (ps_set hN hi hx peW hsw hf) (exp_dict t B hu h hk nd hl ok (fun a H1 o' s w hn hct => ?_) hc hg hs)
  have sA := s.trans (SB.new (W := b.W) (o := o') hn)
  have wA := w.upd (o := o') (w.ne hn)
  have h0 := s.fresh w hn
  exact tk.nx _ _ _ (.setL h0 i (kp_of sA ok.wl wA) sA) (ok.setC (ok.go sA wA) h0 hct) k
/-- dict(a tuple of pairs).get(key, n0) -/
theorem e_dictGet (t : Bool) (B : Bi X.mg) (hu : X.A.units + 64 < cLine) (h : Ed X b e ρ (.tuple (xs.map pd))) (hk : ∀ q ∈ xs, KeyFit t q.1) (nd : (xs.map (·.1)).Nodup) (hl : xs.length ≤ 1000) (h2 : Ed X b e2 ρ d) (kf : KeyFit t d) {j : Nat}
    (hc : X.calm = true := by rfl) (hg : Gl X "dict" := by rfl) (hs : starEach [e] X.env = (false, eval e X.env) :: starEach [] X.env := by rfl) (mm : M2 X (.Call (.Name "dict" p) [e] [] pos) "get" apos e2 (.Constant (.int n0) j p2) cpos := by exact ⟨rfl, rfl, rfl, rfl⟩) :
    Ed X b (.Call (.Attribute (.Call (.Name "dict" p) [e] [] pos) "get" apos) [e2, .Constant (.int n0) j p2] [] cpos) ρ (.int ((getK xs d).getD n0)) := by
  intro σ H ok Q q
  refine exp_dget (exp_dict t B hu h hk nd hl ok (fun a H1 o' s w hn hct => ?_) hc hg hs) mm
  have sA := s.trans (SB.new (W := b.W) (o := o') hn)
  have wA := w.upd (o := o') (w.ne hn)
  refine ⟨a, rfl, ct_dictAt hct, h2 σ _ (ok.go sA wA) _ fun v H2 d' s2 w2 r2 e2 => .of pe_int ?_⟩
  subst e2
  exact ct_getAt hu (hct.keep (kp_of s2 wA w2) fun o z => s2 _ _ (w.ne hn) z) r2 kf (q _ H2 _ (sA.trans s2) w2 (.int _) rfl)
end
end Lay
/-! PB17 -/
/-! sorted(a dict): its keys, as the machine compares them -/
namespace Lay
open PySem PySem.Spec PyProof.Rows L2
section
variable {X : Cx} {pins : List (Addr × Obj)} {σ : L2.St} {H : Hp} {s : Shared} {p : Addr} {t : Bool} {kvs : List (PyData × Int)} {k : Kd} {d0 d e : PyData} {x y : V} {u v : Value}
/-- the keys as they stand in the table -/
theorem ct_keys (I : Inv X pins σ H s) (h : CtOk H p (.dk X.w t kvs)) : (p == sysModules) = false ∧ ∃ es ep, s.heap.DictRaw p es ep ∧ es.size = kvs.length ∧ ∀ i (hi : i < es.size), ∃ q x, kvs[i]? = some q ∧ RelV x es[i].key ∧ Dn H x q.1 := by
  cases t with
  | false =>
    obtain ⟨_, ns, rfl, hp⟩ := h
    obtain ⟨_, lo, vs, kv, D⟩ := dk_of I.hok hp
    obtain ⟨es, ep, raw, hz, f⟩ := D.raw
    have lv : vs.length = ns.length := by rw [← kv.length, List.length_map]
    refine ⟨lo, es, ep, raw, by rw [hz, lv, List.length_map], fun i hi => ?_⟩
    have hi2 : i < vs.length := by omega
    obtain ⟨f1, _⟩ := f i hi vs[i].1 vs[i].2 (List.getElem?_eq_getElem hi2)
    have hi3 : i < ns.length := by omega
    have ek : vs[i].1 = .inl ns[i].1 := by
      have e1 : ((ns.map fun x => ((.inl x.1 : L2.Key), V.int x.2)).map (·.1))[i]? = (vs.map (·.1))[i]? := by rw [kv.keys]
      rw [List.getElem?_map, List.getElem?_map, List.getElem?_map, List.getElem?_eq_getElem hi2, List.getElem?_eq_getElem hi3] at e1
      exact (Option.some.inj e1).symm
    rw [ek] at f1
    obtain ⟨tk, ev⟩ := Value.isInt_shape (show Value.isInt ns[i].1 es[i].key = true from f1)
    refine ⟨(.int ns[i].1, ns[i].2), .int ns[i].1, ?_, ⟨tk, ev⟩, .int _⟩
    rw [List.getElem?_map, List.getElem?_eq_getElem hi3]
    rfl
  | true =>
    obtain ⟨_, lo, as, hp, ha, hk⟩ := h
    obtain ⟨xs, D, E⟩ := dct_of I hp ha hk
    obtain ⟨es, ep, raw, hz, f⟩ := D.raw
    have lx : xs.length = kvs.length := by
      have := congrArg List.length E.keys
      rwa [List.length_map, List.length_map] at this
    refine ⟨lo, es, ep, raw, by rw [hz, lx], fun i hi => ?_⟩
    obtain ⟨z, hz1, hz2, _⟩ := f i hi
    have g2 : as[i]? = some z.2.1 := by rw [← E.ads, List.getElem?_map, hz1]; rfl
    have hi3 : i < kvs.length := by omega
    obtain ⟨w, w1, w2⟩ := ha.get (i := i) (d := kvs[i].1) (by rw [List.getElem?_map, List.getElem?_eq_getElem hi3]; rfl)
    rw [List.getElem?_map, g2] at w1
    cases w1
    exact ⟨kvs[i], .ref z.2.1, List.getElem?_eq_getElem hi3, hz2, w2⟩
/-- one value, one key -/
theorem key_fun (I : Inv X pins σ H s) (h1 : Dn H x d) (h2 : Dn H y e) (r1 : RelV x v) (r2 : RelV y v) (k1 : keyD d = true) (k2 : keyD e = true) : d = e := nkD_inj k1 k2 (NestedIs.inj _ _ _ (nested_of I h1 k1 r1) (nested_of I h2 k2 r2))
def KeyAt (H : Hp) (k : Kd) (v : Value) : Prop := ∃ d x, RelV x v ∧ Dn H x d ∧ val k d
open Classical in
/-- the datum that a value stands for -/
noncomputable def kf (H : Hp) (k : Kd) (d0 : PyData) (v : Value) : PyData := if h : KeyAt H k v then h.choose else d0
theorem kf_val (h0 : val k d0) (v : Value) : val k (kf H k d0 v) := by
  unfold kf
  split
  · rename_i h
    exact h.choose_spec.choose_spec.2.2
  · exact h0
theorem kf_eq (I : Inv X pins σ H s) (hp : k.plain = true) (r : RelV x v) (h : Dn H x d) (hv : val k d) : kf H k d0 v = d := by
  have h0 : KeyAt H k v := ⟨d, x, r, h, hv⟩
  unfold kf
  rw [dif_pos h0]
  obtain ⟨y, r', h', hv'⟩ := h0.choose_spec
  exact key_fun I h' h r' r (val_key hp hv').1 (val_key hp hv).1
noncomputable def ltK (H : Hp) (k : Kd) (d0 : PyData) (v u : Value) : Bool := decide (lord k (kf H k d0 v) (kf H k d0 u) < 0)
theorem swo_K (hp : k.plain = true) (h0 : val k d0) : SrtO.Swo (ltK H k d0) := by
  refine ⟨fun x y h => ?_, fun x y z h1 h2 => ?_⟩
  · have a := of_decide_eq_true h
    have b := lord_anti hp (kf_val (H := H) h0 x) (kf_val (H := H) h0 y)
    exact decide_eq_false (by omega)
  · have vx := kf_val (H := H) h0 x
    have vy := kf_val (H := H) h0 y
    have vz := kf_val (H := H) h0 z
    have a := of_decide_eq_false h1
    have b := of_decide_eq_false h2
    refine decide_eq_false fun c => ?_
    by_cases e0 : lord k (kf H k d0 y) (kf H k d0 x) = 0
    · have e1 := (lord_zero hp vy vx).mp e0
      rw [e1] at b
      exact b c
    · have e1 := lord_anti hp vy vx
      exact b (lord_tr hp vz vx vy c (by omega))
/-- how keys of that kind are sorted -/
def kindS : Kd → SortKind
  | .num => oneType'
  | _ => tuples' true
section
variable {prog : Program} {w : World} {A : Around} {E : Value → Shared → Prop} {Q : Bool → Shared → Prop} {dx dy : PyData} {as bs : List Addr}
theorem lt_one (f : Bool) {n : Nat} {k : Bool} (hn : f = false) (L : SeqAt.RcLt A s v u k) (q : Q k s) : wpAny (model prog w) A (oneLt' f v u) Q E s := by
  subst hn
  exact PySem.W.kat_one _ _ (L prog w _ _ q)
theorem reads_lt (hp : k.plain = true) (hn : k ≠ .unit) (hx : val k dx) (hy : val k dy) (ra : Reads s.heap v dx as) (rb : Reads s.heap u dy bs) (hu : A.units + 4 * k.deep < cLine) (q : Q (decide (lord k dx dy < 0)) s) : wpAny (model prog w) A (keyLt' (kindS k) v u) Q E s := by
  cases k with
  | unit => exact absurd rfl hn
  | num =>
    obtain ⟨i, rfl, _⟩ := hx
    obtain ⟨j, rfl, _⟩ := hy
    cases ra
    cases rb
    refine PySem.W.kat_lt_int ?_
    have e : decide (lord Kd.num (.int i) (.int j) < 0) = decide (i < j) := by
      refine decide_eq_decide.mpr ?_
      simp only [lord]
      split <;> split <;> simp <;> omega
    rw [e] at q
    exact q
  | pair a b =>
    simp only [Kd.plain, Bool.and_eq_true] at hp
    simp only [Kd.deep] at hu
    obtain ⟨x1, x2, rfl, hx1, hx2⟩ := hx
    obtain ⟨y1, y2, rfl, hy1, hy2⟩ := hy
    cases ra with
    | @tuple l o vs n _ _ h1 h2 h3 h4 =>
      cases rb with
      | @tuple l' o' vs' n' _ _ k1 k2 k3 k4 =>
        obtain ⟨u0, u1, u2, _, _, _, e1, r0, r1, r2⟩ := readsAll3 h4
        obtain ⟨v0, v1, v2, _, _, _, e2, q0, q1, q2⟩ := readsAll3 k4
        subst e1 e2
        have E0 := eqAt_str (A := A) r0 q0 (by decide +kernel) (by decide +kernel) (by omega)
        rw [beq_self_eq_true] at E0
        have E1 := eqAt_val (A := A) hp.1 hx1 hy1 r1 q1 (by omega)
        have E2 := eqAt_val (A := A) hp.2 hx2 hy2 r2 q2 (by omega)
        have L1 := lt_reads (A := A) hp.1 hx1 hy1 r1 q1 (by omega)
        have L2 := lt_reads (A := A) hp.2 hx2 hy2 r2 q2 (by omega)
        refine PySem.W.kat_lt h1 h3 k1 k3 ?_
        show PySem.W.KatLex prog w A true false _ [(u0, v0), (u1, v1), (u2, v2)] 0 s
        refine PySem.W.kat_cons (E0 prog w _ _ (PySem.W.kat_yes (PySem.W.kat_cons (E1 prog w _ _ (PySem.W.kat_go (fun z1 => ?_) fun z1 => ?_)))))
        · have z1 := of_decide_eq_true z1
          refine PySem.W.kat_yes (PySem.W.kat_cons (E2 prog w _ _ (PySem.W.kat_go (fun z2 => ?_) fun z2 => ?_)))
          · have z2 := of_decide_eq_true z2
            refine PySem.W.kat_yes (PySem.W.kat_nil ?_)
            have e : decide (lord (.pair a b) (.tuple [.str "pair", x1, x2]) (.tuple [.str "pair", y1, y2]) < 0) = false := by simp [lord, z1, z2]
            rw [e] at q
            exact q
          · refine PySem.W.kat_no (lt_one _ (n := 0) rfl L2 ?_)
            have e : decide (lord (.pair a b) (.tuple [.str "pair", x1, x2]) (.tuple [.str "pair", y1, y2]) < 0) = decide (lord b x2 y2 < 0) := by simp [lord, z1]
            rw [e] at q
            exact q
        · have z1 := of_decide_eq_false z1
          refine PySem.W.kat_no (lt_one _ (n := 0) rfl L1 ?_)
          have e : decide (lord (.pair a b) (.tuple [.str "pair", x1, x2]) (.tuple [.str "pair", y1, y2]) < 0) = decide (lord a x1 y1 < 0) := by simp [lord, z1]
          rw [e] at q
          exact q
  | either a b =>
    simp only [Kd.plain, Bool.and_eq_true] at hp
    simp only [Kd.deep] at hu
    have go : ∀ (t1 t2 : Str) (c : Kd) (x1 y1 : PyData), dx = .tuple [.str t1, x1] → dy = .tuple [.str t2, y1] → sOk t1 = true → sOk t2 = true → (t1 = t2 → c.plain = true ∧ c.deep ≤ max a.deep b.deep ∧ val c x1 ∧ val c y1 ∧ lord (.either a b) dx dy = lord c x1 y1) → (t1 ≠ t2 → decide (lord (.either a b) dx dy < 0) = decide (t1.cps.toList < t2.cps.toList)) → wpAny (model prog w) A (keyLt' (kindS (.either a b)) v u) Q E s := by
      intro t1 t2 c x1 y1 ex ey o1 o2 hs hd
      subst ex ey
      cases ra with
      | @tuple l o vs n _ _ h1 h2 h3 h4 =>
        cases rb with
        | @tuple l' o' vs' n' _ _ k1 k2 k3 k4 =>
          obtain ⟨u0, u1, _, _, e1, r0, r1⟩ := readsAll2 h4
          obtain ⟨v0, v1, _, _, e2, q0, q1⟩ := readsAll2 k4
          subst e1 e2
          have E0 := eqAt_str (A := A) r0 q0 o1 o2 (by omega)
          refine PySem.W.kat_lt h1 h3 k1 k3 ?_
          show PySem.W.KatLex prog w A true false _ [(u0, v0), (u1, v1)] 0 s
          by_cases et : t1 = t2
          · obtain ⟨c1, c2, c3, c4, c5⟩ := hs et
            rw [c5] at q
            have E1 := eqAt_val (A := A) c1 c3 c4 r1 q1 (by omega)
            have L1 := lt_reads (A := A) c1 c3 c4 r1 q1 (by omega)
            subst et
            rw [beq_self_eq_true] at E0
            refine PySem.W.kat_cons (E0 prog w _ _ (PySem.W.kat_yes (PySem.W.kat_cons (E1 prog w _ _ (PySem.W.kat_go (fun z1 => ?_) fun z1 => ?_)))))
            · have z1 := of_decide_eq_true z1
              rw [z1] at q
              exact PySem.W.kat_yes (PySem.W.kat_nil q)
            · exact PySem.W.kat_no (lt_one _ (n := 0) rfl L1 q)
          · rw [hd et] at q
            have en : (t1 == t2) = false := beq_eq_false_iff_ne.mpr et
            rw [en] at E0
            refine PySem.W.kat_cons (E0 prog w _ _ (PySem.W.kat_no ?_))
            cases r0
            cases q0
            exact oneLt_any_str q
    have n1 : ¬ (Str.ofString "left" = Str.ofString "right") := lr_ne
    have n2 : ¬ (Str.ofString "right" = Str.ofString "left") := fun e => lr_ne e.symm
    rcases hx with ⟨x1, ex, hx1⟩ | ⟨x1, ex, hx1⟩ <;> rcases hy with ⟨y1, ey, hy1⟩ | ⟨y1, ey, hy1⟩
    · exact go _ _ a x1 y1 ex ey (by decide +kernel) (by decide +kernel) (fun _ => ⟨hp.1, Nat.le_max_left _ _, hx1, hy1, by rw [ex, ey]; simp only [lord, if_true]⟩) fun z => absurd rfl z
    · exact go _ _ a x1 y1 ex ey (by decide +kernel) (by decide +kernel) (fun z => absurd z n1) fun _ => by
        rw [ex, ey]
        simp only [lord, if_true, n1, if_false]
        decide +kernel
    · exact go _ _ a x1 y1 ex ey (by decide +kernel) (by decide +kernel) (fun z => absurd z n2) fun _ => by
        rw [ex, ey]
        simp only [lord, if_true, n2, if_false]
        decide +kernel
    · exact go _ _ b x1 y1 ex ey (by decide +kernel) (by decide +kernel) (fun _ => ⟨hp.2, Nat.le_max_right _ _, hx1, hy1, by rw [ex, ey]; simp only [lord, if_true, n2, if_false]⟩) fun z => absurd rfl z
  | bag a => simp [Kd.plain] at hp
end
end
end Lay
/-! PB18 -/
/-! sorted(a dict), called -/
namespace Lay
open PySem PySem.Spec PyProof.Rows L2
section
variable {X : Cx} {pins : List (Addr × Obj)} {σ : L2.St} {H : Hp} {s : Shared} {k : Kd} {d0 : PyData} {v u : Value}
theorem key_reads (I : Inv X pins σ H s) (h : KeyAt H k v) : ∃ d as, Reads s.heap v d as ∧ val k d ∧ ∃ x, RelV x v ∧ Dn H x d := by
  obtain ⟨d, x, r, h, hv⟩ := h
  obtain ⟨as, ra⟩ := Dp.reads I d x v (h.dp (val_lay hv).1) r
  exact ⟨d, as, ra, hv, x, r, h⟩
theorem key_lt {A : Around} {E : Value → Shared → Prop} {Q : Bool → Shared → Prop} (I : Inv X pins σ H s) (hp : k.plain = true) (hn : k ≠ .unit) (h1 : KeyAt H k v) (h2 : KeyAt H k u) (hu : A.units + 4 * k.deep < cLine) (q : Q (ltK H k d0 v u) s) : wpAny (model X.prog X.w) A (keyLt' (kindS k) v u) Q E s := by
  obtain ⟨d, as, ra, hv, x, r1, n1⟩ := key_reads I h1
  obtain ⟨e, bs, rb, hw, y, r2, n2⟩ := key_reads I h2
  have e0 : ltK H k d0 v u = decide (lord k d e < 0) := by
    unfold ltK
    rw [kf_eq I hp r1 n1 hv, kf_eq I hp r2 n2 hw]
  rw [e0] at q
  exact reads_lt hp hn hv hw ra rb hu q
theorem tagged {h : Heap} : ∀ {vs : List Value}, (∀ v ∈ vs, ∃ a o xs n x t, v = .ref a ∧ h.get? a = some o ∧ o.cls = .type "tuple" ∧ o.data = .seq xs n ∧ xs[0]? = some (.str x t)) → ∃ fs : List Value, PySem.W.KatTups h vs fs ∧ fs.length = vs.length ∧ ∀ f ∈ fs, ∃ x t, f = Value.str x t
  | [], _ => ⟨[], .nil, rfl, fun f hf => nomatch hf⟩
  | v :: vs, hv => by
    obtain ⟨fs, k1, k2, k3⟩ := tagged (vs := vs) fun u hu => hv u (List.mem_cons_of_mem _ hu)
    obtain ⟨a, o, xs, n, x, t, rfl, e1, e2, e3, e4⟩ := hv v List.mem_cons_self
    refine ⟨.str x t :: fs, .cons e1 e2 e3 e4 k1, congrArg Nat.succ k2, fun f hf => ?_⟩
    rcases List.mem_cons.mp hf with z | z
    · exact ⟨x, t, z⟩
    · exact k3 f z
theorem key_kind {A : Around} {E : Value → Shared → Prop} {Q : SortKind → Shared → Prop} {vs : List Value} (I : Inv X pins σ H s) (hp : k.plain = true) (hn : k ≠ .unit) (h2 : 2 ≤ vs.length) (hv : ∀ v ∈ vs, KeyAt H k v) (q : Q (kindS k) s) : wpAny (model X.prog X.w) A (keyKind' vs.toArray) Q E s := by
  have tup : kindS k = tuples' true → (∀ d, val k d → ∃ t ds, d = .tuple (.str t :: ds)) → wpAny (model X.prog X.w) A (keyKind' vs.toArray) Q E s := fun ek sh => by
    obtain ⟨fs, k1, k2, k3⟩ := tagged (h := s.heap) (vs := vs) fun v hm => by
      obtain ⟨d, as, ra, hd, _⟩ := key_reads I (hv v hm)
      obtain ⟨t, ds, rfl⟩ := sh d hd
      cases ra with
      | @tuple l o ws n _ _ e1 e2 e3 e4 =>
        obtain ⟨ws⟩ := ws
        cases e4 with
        | cons r0 r1 =>
          cases r0
          exact ⟨l, o, _, n, _, _, rfl, e1, e2, e3, rfl⟩
    refine PySem.W.kat_kind (T := .type "str") k1 (by omega) (fun f hf => ?_) (by decide) ?_
    · obtain ⟨x, t, rfl⟩ := k3 f hf
      exact PySem.W.Looks.now
    · have e : (Value.type "str" != Value.type "tuple") = true := by decide
      rw [e, ← ek]
      exact q
  cases k with
  | unit => exact absurd rfl hn
  | num =>
    match vs, h2, hv with
    | v1 :: v2 :: vs, _, hv =>
      have hI : ∀ {us : List Value}, (∀ v ∈ us, KeyAt H .num v) → ∃ ns, IntsAre us ns := fun {us} => by
        induction us with
        | nil => exact fun _ => ⟨[], .nil⟩
        | cons u us ih =>
          intro h
          obtain ⟨ns, hns⟩ := ih fun v hm => h v (List.mem_cons_of_mem _ hm)
          obtain ⟨d, x, r, n, i, rfl, _⟩ := h u List.mem_cons_self
          cases n
          obtain ⟨t, rfl⟩ := r
          exact ⟨i :: ns, .cons i t hns⟩
      obtain ⟨ns, hns⟩ := hI hv
      rw [keyKind_ints hns]
      exact wpAny_pure q
  | pair a b => exact tup rfl fun d ⟨x, y, e, _⟩ => ⟨_, _, e⟩
  | either a b => exact tup rfl fun d h => by rcases h with ⟨x, e, _⟩ | ⟨x, e, _⟩ <;> exact ⟨_, _, e⟩
  | bag a => simp [Kd.plain] at hp
/-- the values' own things -/
theorem vals_abs : ∀ {vs : List Value}, (∀ v ∈ vs, KeyAt H k v) → Vals (vs.map fun v => (absV v).getD .non) vs
  | [], _ => .nil
  | v :: vs, h => by
    obtain ⟨d, x, r, _⟩ := h v List.mem_cons_self
    refine .cons ?_ (vals_abs fun u hu => h u (List.mem_cons_of_mem _ hu))
    show RelV ((absV v).getD .non) v
    rw [r.abs]
    exact r
theorem dna_kf (I : Inv X pins σ H s) (hp : k.plain = true) : ∀ {vs : List Value}, (∀ v ∈ vs, KeyAt H k v) → DnA H (vs.map fun v => (absV v).getD .non) (vs.map (kf H k d0))
  | [], _ => .nil
  | v :: vs, h => by
    obtain ⟨d, x, r, n, hv⟩ := h v List.mem_cons_self
    refine .cons ?_ (dna_kf I hp fun u hu => h u (List.mem_cons_of_mem _ hu))
    show Dn H ((absV v).getD .non) (kf H k d0 v)
    rw [kf_eq I hp r n hv, r.abs]
    exact n
/-- some value of a plain kind -/
def Kd.some : Kd → PyData
  | .unit => .tuple []
  | .num => .int 0
  | .pair a b => .tuple [.str "pair", a.some, b.some]
  | .either a _ => .tuple [.str "left", a.some]
  | .bag _ => .tuple []
theorem some_val : ∀ {k : Kd}, k.plain = true → val k k.some
  | .unit, _ => rfl
  | .num, _ => ⟨0, rfl, trivial⟩
  | .pair a b, h => by
    simp only [Kd.plain, Bool.and_eq_true] at h
    exact ⟨_, _, rfl, some_val h.1, some_val h.2⟩
  | .either a b, h => by
    simp only [Kd.plain, Bool.and_eq_true] at h
    exact .inl ⟨_, rfl, some_val h.1⟩
  | .bag _, h => by simp [Kd.plain] at h
theorem cr_sortedD (hc : X.calm = true) (hu : X.A.units + 64 < cLine) : CallR X (.builtin "sorted") (fun xs H Q => ∃ a t kvs k, xs = [.ref a] ∧ CtOk H a (.dk X.w t kvs) ∧ Kd.plain k = true ∧ k.deep ≤ 8 ∧ (∀ q ∈ kvs, val k q.1) ∧ (kvs.map (·.1)).Nodup ∧
    ∀ p ys us, H p = none → ys.Perm (kvs.map (·.1)) → (ys.Pairwise fun x y => lord k x y < 0) → DnA H us ys → Q (.ref p) (upd H p (.lst us))) := by
  rintro pins s σ H xs us Q I r ⟨a, t, kvs, k, rfl, ct, hp, hd, hv, nd, q⟩
  obtain ⟨_, rfl, rx⟩ := vals1 r
  cases rx
  obtain ⟨lo, es, ep, raw, hz, ke⟩ := ct_keys I ct
  have hl : kvs.length ≤ 100000 := ct.1
  refine Calls.call_function_entry PyProof.Rows.kind_sorted PyProof.Rows.plain_sorted PyProof.Rows.entry_sorted (PyProof.Rows.args_sorted1 _) ?_
  unfold Builtin.«sorted»
  refine wpAny_bind (m := checkCount "sorted" 1 1 _) (wpAny_pure ?_)
  refine wpAny_bind (PySem.W.kdu_collect (A := X.A.in1) (KdlSrc.rawDict (prog := X.prog) (w := X.w) (es := es) (ep := ep) lo) (I.ok.hd hc) raw (by rw [hz]; exact Nat.le_trans hl (by decide)) fun h1 tk acc kp items => ?_)
  have I1 : Inv X pins σ H { s with heap := h1, toks := tk } := I.kept (t' := tk) kp
  generalize hvs : acc.toList = vs
  have lv : vs.length = kvs.length := by rw [← hvs, Array.length_toList, items.1, hz]
  have at_ : ∀ (j : Nat) (v : Value), vs[j]? = some v → ∃ q x, kvs[j]? = some q ∧ RelV x v ∧ Dn H x q.1 := fun j v e => by
    rw [← hvs, Array.getElem?_toList] at e
    obtain ⟨hi, ev⟩ := items.2 j v e
    obtain ⟨q, x, e1, e2, e3⟩ := ke j hi
    exact ⟨q, x, e1, by rw [ev]; exact e2, e3⟩
  have keys : ∀ v ∈ vs, KeyAt H k v := fun v hm => by
    obtain ⟨j, hj⟩ := List.mem_iff_getElem?.mp hm
    obtain ⟨q, x, e1, e2, e3⟩ := at_ j v hj
    exact ⟨q.1, x, e2, e3, hv q (List.mem_of_getElem? e1)⟩
  refine wpAny_bind (wpAny_newList ?_ (by rw [lv]; exact Nat.le_trans hl (by decide)))
  have hoL : (h1.push (seqObj "list" vs.toArray 0)).get? h1.objs.size = some (seqObj "list" vs.toArray 0) := Heap.get?_push_size _ rfl
  show wpAny _ _ _ _ _ { s with heap := h1.push (seqObj "list" vs.toArray 0), toks := tk }
  have hfr : H h1.objs.size = none := I1.hok.fresh (Nat.le_refl _)
  -- the end, however it was sorted
  have fin : ∀ out : List Value, out.Perm vs → (out.map (kf H k k.some)).Pairwise (fun x y => lord k x y < 0) → EP X pins σ Q (.ref h1.objs.size) { s with heap := sortedHeap (h1.push (seqObj "list" vs.toArray 0)) h1.objs.size vs out.toArray, toks := tk } := fun out ho hs => by
    have ko : ∀ v ∈ out, KeyAt H k v := fun v hm => keys v (ho.mem_iff.mp hm)
    obtain ⟨e', he'⟩ := PyProof.Rows.sortedHeap_at (vs := vs) (out := out.toArray) hoL
    have lo' : out.length ≤ sizeLine := by
      rw [ho.length_eq, lv]
      exact Nat.le_trans hl (by decide)
    have eqk : vs.map (kf H k k.some) = kvs.map (·.1) := by
      refine List.ext_getElem? fun j => ?_
      rw [List.getElem?_map, List.getElem?_map]
      cases e : vs[j]? with
      | none =>
        have : kvs[j]? = none := List.getElem?_eq_none (by rw [← lv]; exact List.getElem?_eq_none_iff.mp e)
        rw [this]
        rfl
      | some v =>
        obtain ⟨q, x, e1, e2, e3⟩ := at_ j v e
        rw [e1]
        exact congrArg some (kf_eq I hp e2 e3 (hv q (List.mem_of_getElem? e1)))
    refine ⟨.ref h1.objs.size, upd H h1.objs.size (.lst (out.map fun v => (absV v).getD .non)), I1.laid (t' := tk) (fun b ob e => ?_) (Nat.le_refl _) (show ObjOk X.prog X.w _ _ _ (.lst _) from ⟨by rw [List.length_map]; exact lo', out, e', vals_abs ko, he'⟩), rfl, q _ (out.map (kf H k k.some)) _ hfr ?_ hs (dna_kf I hp ko)⟩
    · have hb : b < h1.objs.size := Heap.lt_size e
      rw [PyProof.Rows.sortedHeap_old (Nat.ne_of_lt hb) (by rw [size_push']; exact Nat.lt_succ_of_lt hb)]
      exact Heap.get?_push_of_some _ e
    · rw [← eqk]
      exact ho.map _
  have eqk : vs.map (kf H k k.some) = kvs.map (·.1) := by
    refine List.ext_getElem? fun j => ?_
    rw [List.getElem?_map, List.getElem?_map]
    cases e : vs[j]? with
    | none =>
      have : kvs[j]? = none := List.getElem?_eq_none (by rw [← lv]; exact List.getElem?_eq_none_iff.mp e)
      rw [this]
      rfl
    | some v =>
      obtain ⟨q, x, e1, e2, e3⟩ := at_ j v e
      rw [e1]
      exact congrArg some (kf_eq I hp e2 e3 (hv q (List.mem_of_getElem? e1)))
  have ndv : (vs.map (kf H k k.some)).Nodup := by rw [eqk]; exact nd
  have hv0 : val k k.some := some_val hp
  refine wpAny_bind (wpAny_holding (wpAny_call_entry PyProof.Rows.slot_list_sort ⟨_, hoL, rfl⟩ PyProof.Rows.entry_list_sort
    (SrtO.list_sort_ord (s := { s with heap := h1.push (seqObj "list" vs.toArray 0), toks := tk }) (swo_K (H := H) hp hv0) hoL (by rw [lv]; exact Nat.le_trans hl (by decide)) (fun h2 h' keep => ?_) fun out hs hb => ⟨_, rfl, wpAny_pure ⟨_, rfl, fin out hb.perm ?_⟩⟩) (PyProof.Rows.args_list_sort _)))
  · have hn : k ≠ .unit := fun z => by
      subst z
      match vs, h2, keys, ndv with
      | v1 :: v2 :: vs, _, keys, ndv =>
        have e1 : ∀ v, KeyAt H .unit v → kf H .unit Kd.unit.some v = .tuple [] := fun v _ => kf_val (k := .unit) hv0 v
        have hne := (List.nodup_cons.mp ndv).1
        refine hne ?_
        show kf H .unit Kd.unit.some v1 ∈ (v2 :: vs).map (kf H .unit Kd.unit.some)
        rw [e1 v1 (keys v1 List.mem_cons_self), List.map_cons, e1 v2 (keys v2 (List.mem_cons_of_mem _ List.mem_cons_self))]
        exact List.mem_cons_self
    have kp' : ∀ b ob, s.heap.get? b = some ob → h'.get? b = some ob := fun b ob e => by
      have e1 := kp b ob e
      exact keep b ob (Nat.ne_of_lt (Heap.lt_size e1)) (Heap.get?_push_of_some _ e1)
    have I2 : Inv X pins σ H { s with heap := h', toks := tk } := I.kept (t' := tk) kp'
    refine ⟨kindS k, fun Q E hq => key_kind I2 hp hn h2 keys hq, fun p q hp1 hp2 => ?_⟩
    exact key_lt (d0 := k.some) I2 hp hn (keys _ hp1) (keys _ hp2) (by show X.A.units + 1 + 1 + 4 * k.deep < cLine; omega) ⟨rfl, rfl⟩
  · have ndo : (out.map (kf H k k.some)).Nodup := ((hb.perm.map _).nodup_iff).mpr ndv
    have hs' : (out.map (kf H k k.some)).Pairwise fun x y => ¬ lord k y x < 0 := List.pairwise_map.mpr (hs.imp fun {x y} h => of_decide_eq_false h)
    have vk : ∀ d ∈ out.map (kf H k k.some), val k d := fun d hd => by
      obtain ⟨v, _, rfl⟩ := List.mem_map.mp hd
      exact kf_val hv0 v
    refine (ndo.and hs').imp_of_mem fun {x y} hx hy ⟨n, h⟩ => ?_
    have a := lord_anti hp (vk x hx) (vk y hy)
    have b : lord k x y ≠ 0 := fun z => n ((lord_zero hp (vk x hx) (vk y hy)).mp z)
    omega
end
end Lay
/-! PC12 -/
/-! sorted(d) in expressions; comprehensions over what is only half known -/
namespace Lay
open PySem PySem.Spec PyProof.Rows L2
section
variable {X : Cx} {b : Bs} {ρ : Rho} {pos p px : Pos} {x : Str} {m t : Bool} {kvs : List (PyData × Int)} {k : Kd}
/-- sorted(d), d a name -/
theorem e_sorted (i : Nat) (B : Bi X.mg) (hu : X.A.units + 64 < cLine) (hp : k.plain = true) (hd : k.deep ≤ 8) (hv : ∀ q ∈ kvs, val k q.1) (nd : (kvs.map (·.1)).Nodup) (hi : ρ[i]? = some (some (.c m (.dk X.w t kvs))) := by rfl) (hN : X.N[i]? = some x := by rfl)
    (hvs : Vis X.env.scope x := by first | exact Or.inl rfl | exact Or.inr (Or.inl rfl) | exact Or.inr (Or.inr rfl)) (hdb : (x == ("__debug__" : Str)) = false := by decide) (hcd : (x == ("__classdict__" : Str)) = false := by decide) (hc : X.calm = true := by rfl) (hg : Gl X "sorted" := by rfl)
    (hs : starEach [.Name x px] X.env = (false, eval (.Name x px) X.env) :: starEach [] X.env := by rfl) : EvL X b (.Call (.Name "sorted" p) [.Name x px] [] pos) ρ fun ys => ys.Perm (kvs.map (·.1)) ∧ ys.Pairwise fun x y => lord k x y < 0 := by
  intro σ H ok Q q
  obtain ⟨v0, g0, a, rfl, hw, hct⟩ := ok.at_ i _ hi
  refine exp_callB (cr_sortedD hc hu) hg B.sorted (by decide +kernel) (exa_one (.of (pe_var hN hvs hdb hcd) ⟨_, g0, ?_⟩) hs) (he := hs)
  refine ⟨a, t, kvs, k, rfl, hct, hp, hd, hv, nd, fun c ys us hn hpm hs r => ?_⟩
  exact q c _ us ys hn (.new hn) (ok.wl.upd (ok.wl.ne hn)) upd_same (r.keep (.new hn)) ⟨hpm, hs⟩
variable {iter elt c : Expr} {scope : Scope} {PI PL : List PyData → Prop}
/-- [elt for x in iter if c], of what is walked PI is known -/
theorem e_mapP (i : Nat) {x : Str} (kf : PyData → Bool) (f : PyData → PyData) (hi : EvI X b false (.Name x p) iter ρ PI) (hl : ∀ ds, PI ds → ds.length ≤ 50000)
    (ht : ∀ ds, PI ds → ∀ y ∈ ds, ∀ (s : Shared) (H : Hp) (C : Addr) (cl : List (Str × Addr)) (fp : List Addr), EdT (X.blk s H scope (compEnvC scope cl C X.env) fp) b c ((ρ.set i none).set i (some (.d y))) (kf y))
    (body : ∀ ds, PI ds → ∀ y ∈ ds, kf y = true → ∀ (s : Shared) (H : Hp) (C : Addr) (cl : List (Str × Addr)) (fp : List Addr), Ed (X.blk s H scope (compEnvC scope cl C X.env) fp) b elt ((ρ.set i none).set i (some (.d y))) (f y))
    (fin : ∀ ds, PI ds → PL ((ds.filter kf).map f))
    (hc : X.calm = true := by rfl) (hN : decide X.N.Nodup = true := by kernel_rfl) (hb : blkC X.N X.env.scope scope [(x, i)] = true := by kernel_rfl) (hx : X.N[i]? = some x := by rfl) (hx2 : scope.names.lookup x = some .local := by rfl)
    (hs : ∀ x, foldedSetIterable iter X.env x = pure x := by intro _; rfl) : EvL X b (.ListComp elt [⟨.Name x p, iter, [c], 0⟩] scope pos) ρ PL := by
  refine evl_lc (own := [(x, i)]) hc (nd_by hN) (blkOk_by hb) hi (fun s H C cl fp => pg_name (i := i) (nd_by hN) hx (.inl (rel_loc hx2)) (.inr (rel_loc hx2))) (tg_name i) (fun j hj => hj) (fun ds pd => ?_) hs
  obtain ⟨h1, ys, h2, h3, h4⟩ := map_body (X := X) (b := b) (ρ := ρ) (elt := elt) (ifs := [c]) (scope := scope) (own := [(x, i)]) (F := FName i) (xs := ds) (gd := id) kf f (hl ds pd) (fun y hy => ⟨_, rfl, fun s H C cl fp => ⟨edts_one (ht ds pd y hy s H C cl fp), fun z => body ds pd y hy z s H C cl fp⟩⟩) ds (List.map_id ds).symm
  exact ⟨h1, ys, h2, by rw [h3]; exact fin ds pd, h4⟩
end
/-- how the keys of that kind stand in a dict -/
def kt : Kd → Bool
  | .num => false
  | _ => true
theorem val_fit {k : Kd} {d : PyData} (hp : k.plain = true) (hd : k.deep ≤ 8) (h : val k d) : KeyFit (kt k) d := by
  obtain ⟨h1, h2⟩ := val_key hp h
  cases k with
  | num =>
    obtain ⟨i, rfl, _⟩ := h
    exact ⟨i, rfl⟩
  | unit =>
    cases (show d = .tuple [] from h)
    exact ⟨rfl, h1, by omega⟩
  | pair a b =>
    obtain ⟨x, y, rfl, _⟩ := h
    exact ⟨rfl, h1, by omega⟩
  | either a b =>
    rcases h with ⟨x, rfl, _⟩ | ⟨x, rfl, _⟩
    · exact ⟨rfl, h1, by omega⟩
    · exact ⟨rfl, h1, by omega⟩
  | bag a => simp [Kd.plain] at hp
end Lay
/-! PC13 -/
/-! the walks: bag_by, sum_of_bags, bag_of, count_of -/
namespace Lay
open Quiet
open PySem PySem.Spec PyProof.Rows L2
section
variable {P : Program} {w : World} {K : PySem.W.Frag} {mg : Str → Option Value} {base : Heap}
theorem dheld_val {k : Kd} {ps kvs : List (PyData × Int)} (h : Dheld ps kvs) (hv : ∀ q ∈ ps, val k q.1) : ∀ q ∈ kvs, val k q.1 := fun q hq => by
  obtain ⟨x, n⟩ := q
  obtain ⟨⟨m, hm⟩, _⟩ := (h.mem x n).mp hq
  exact hv (x, m) hm
abbrev BagByK (P : Program) (w : World) (K : PySem.W.Frag) (mg : Str → Option Value) (base : Heap) : Prop := Kn P w K mg base "bag_by" 1 pp27 (fun q : Kd × List (PyData × Int) × List (PyData × Int) => [.c false (.dk w (kt q.1) q.2.2)])
  (fun _ q => q.1.plain = true ∧ q.1.deep ≤ 8 ∧ (∀ e ∈ q.2.1, val q.1 e.1) ∧ Dheld q.2.1 q.2.2 ∧ q.2.2.length ≤ 1000) fun q y => y = .tuple ((bagN q.1 q.2.1).map pd)
theorem kn_bag_by (B : Bi mg) (D : Df K mg "bag_by" 27 pp27) : BagByK P w K mg base := by
  refine kn_df D sc27 (fun _ => rfl) (fun a s hs c e => ?_) ?_
  · rw [List.mem_singleton] at hs
    rw [hs] at e
    cases e
  rintro f cdv A outer s H W ⟨k, ps, kvs⟩ hr hq ⟨hp, hd, hv, hh, hl⟩
  replace hd : k.deep ≤ 8 := hd
  replace hl : kvs.length ≤ 1000 := hl
  have hkv := dheld_val hh hv
  refine sts_retE (e_tuple B (EvL.r (e_mapP 1 (PI := fun ys => ys.Perm (kvs.map (·.1)) ∧ ys.Pairwise fun x y => lord k x y < 0) (PL := fun z => z = (bagN k ps).map pd) (fun d => decide ((getK kvs d).getD 0 ≠ 0)) (fun d => pd (d, (getK kvs d).getD 0))
    (evi_L (e_sorted 0 B (ru hr) hp hd hkv hh.nd)) (fun ds ⟨pm, _⟩ => by rw [pm.length_eq, List.length_map]; omega) ?_ ?_ ?_))) rfl
  · rintro ds ⟨pm, _⟩ y hy s H C cl fp
    have hm : y ∈ kvs.map (·.1) := pm.mem_iff.mp hy
    obtain ⟨⟨y', n⟩, hn, rfl⟩ := List.mem_map.mp hm
    have hg : getK kvs y' = some n := (getK_mem hh.nd).mpr hn
    refine EdC.t (c_neIk (e_dix 0 (ru hr) (vd 1) (val_fit hp hd (hkv _ hn)) hg) ed_int ?_)
    rw [hg]
    simp
  · rintro ds ⟨pm, _⟩ y hy _ s H C cl fp
    have hm : y ∈ kvs.map (·.1) := pm.mem_iff.mp hy
    obtain ⟨⟨y', n⟩, hn, rfl⟩ := List.mem_map.mp hm
    have hg : getK kvs y' = some n := (getK_mem hh.nd).mpr hn
    rw [hg]
    exact e_tup (edd (vd 1) (edd (e_dix 0 (ru hr) (vd 1) (val_fit hp hd (hkv _ hn)) hg) edd0))
  · rintro ds ⟨pm, srt⟩
    have n1 := dict_norm (k := k) (C := fun _ => True) (I := fun _ => True) hh hv srt fun x => pm.mem_iff
    have n2 := (bagN_norm (k := k) (C := fun _ => True) (I := fun _ => True) hp hv).1
    rw [norm_uniq hp n2 n1, List.map_map]
    rfl
theorem kn_sum_of_bags (B : Bi mg) (D : Df K mg "sum_of_bags" 28 pp28) (F : BagByK P w K mg base) : SumsK P w K mg base 2 := by
  refine kn_df D sc28 (fun _ => rfl) nl2 ?_
  rintro f cdv A outer s H W ⟨k, p1, p2⟩ hr hq ⟨hp, hd, hv, nd, l1, l2⟩
  replace hd : k.deep ≤ 8 := hd
  replace l1 : p1.length ≤ 100 := l1
  replace l2 : p2.length ≤ 100 := l2
  have v1 : ∀ q ∈ p1, val k q.1 := fun q h => hv q (List.mem_append_left _ h)
  have v2 : ∀ q ∈ p2, val k q.1 := fun q h => hv q (List.mem_append_right _ h)
  refine st_dict 2 (kt k) B (ru hr) (vd 0) (fun q h => val_fit hp hd (v1 q h)) nd (by omega) ?_ sc28.nd
  refine sts_for (P := fun ds => ds = p2.map pd) (evi_tup (Ev.imp (vd 1) fun d e => ⟨_, e, rfl⟩)) rfl .never (gp_twoF rfl sc28.nd rfl rfl) (tg_two (K := K) 3 4) fun ds e => ?_
  subst e
  refine ⟨fun i ρ => ∃ (kvs : List (PyData × Int)) (s3 s4 : Option Lay.S), ρ = [some (.d (.tuple (p1.map pd))), some (.d (.tuple (p2.map pd))), some (.c true (.dk w (kt k) kvs)), s3, s4] ∧ Dheld (p1 ++ p2.take i) kvs ∧ kvs.length ≤ p1.length + i, ⟨p1, _, _, rfl, by simpa using dheld_self nd, Nat.le_refl _⟩, ?_, ?_⟩
  · rintro i d ρ' hi ⟨kvs, s3, s4, rfl, hh, hl⟩
    rw [List.getElem?_map] at hi
    cases hx : p2[i]? with
    | none => rw [hx] at hi; cases hi
    | some q =>
      rw [hx] at hi
      cases hi
      obtain ⟨y, n⟩ := q
      have hlt := (List.getElem?_eq_some_iff.mp hx).1
      have hy := v2 _ (List.mem_of_getElem? hx)
      refine ⟨_, ⟨_, _, rfl, rfl⟩, ?_⟩
      have hl' : kvs.length < 100000 := by omega
      refine st_dset (t := kt k) (kvs := kvs) (d := y) 2 (ru hr) (ed_add (e_dget (t := kt k) (kvs := kvs) 2 (ru hr) (vd 3) (val_fit hp hd hy)) (vd 4)) (vd 3) (val_fit hp hd hy) hl' (sts_nil ⟨_, _, _, rfl, ?_, ?_⟩)
      · have e : p2.take (i + 1) = p2.take i ++ [(y, n)] := by rw [List.take_succ, hx]; rfl
        rw [e, ← List.append_assoc]
        exact hh.step y n
      · have := stK_len kvs y ((getK kvs y).getD 0 + n)
        show (stK kvs y ((getK kvs y).getD 0 + n)).length ≤ p1.length + (i + 1)
        omega
  · rintro ρ' ⟨kvs, s3, s4, rfl, hh, hl⟩
    rw [List.length_map] at hh hl
    rw [List.take_length] at hh
    refine sts_cool (i := 2) rfl ?_
    exact sts_retE (ed_call (k, p1 ++ p2, kvs) F hr hq rfl (eda_cons (vs 2) eda_nil) ⟨hp, hd, hv, hh, by show kvs.length ≤ 1000; omega⟩ fun _ h => h) rfl
variable (C : Chks P w K mg base)
abbrev CheckPK (P : Program) (w : World) (K : PySem.W.Frag) (mg : Str → Option Value) (base : Heap) : Prop := Kn P w K mg base "check_pairs" 36 pp23 (e2 (fun q : Kd × List (PyData × Int) => q.1.d) (fun q => .tuple (q.2.map pd))) (fun _ q => q.1.plain = true ∧ q.1.deep ≤ 8 ∧ (∀ e ∈ q.2, val q.1 e.1) ∧ wide 100 (.tuple (q.2.map pd)) = true) fun _ y => y = .none
include C in
theorem kn_bag_of (D : Df K mg "bag_of" 39 pp39) (G : CheckPK P w K mg base) (F : SumsK P w K mg base 2) : Kn P w K mg base "bag_of" 40 pp39 bagEnc bagPre bagPost := by
  refine kn_df D sc39 (fun _ => rfl) nl2 ?_
  rintro f cdv A outer s H W ⟨k, ps⟩ hr hq ⟨hp, hd, hv, hw⟩
  replace hd : k.deep ≤ 7 := hd
  have lp := (wide_tup.mp hw).1
  rw [List.length_map] at lp
  refine sts_drop (e_chkBag C ⟨rfl, rfl, rfl, rfl, rfl⟩ (hr.mono (by omega)) hq (vd 0) hp hd) fun _ _ => ?_
  refine sts_drop (ed_call (k, ps) G (hr.mono (by omega)) hq rfl (eda_d (e_at 1 (vd 0)) (eda_d (vd 1) eda_nil)) ⟨hp, by show k.deep ≤ 8; omega, hv, hw⟩ fun _ h => h) fun _ _ => ?_
  exact sts_retE (ed_call (k, [], ps) F (hr.mono (by omega)) hq rfl (eda_d (e_tup edd0) (eda_d (vd 1) eda_nil)) ⟨hp, by show k.deep ≤ 8; omega, hv, List.nodup_nil, Nat.zero_le _, lp⟩ fun _ h => h) rfl
include C in
theorem kn_count_of (D : Df K mg "count_of" 40 pp40) : Kn P w K mg base "count_of" 40 pp40 cntEnc cntPre cntPost := by
  refine kn_df D sc40 (fun _ => rfl) nl3 ?_
  rintro f cdv A outer s H W ⟨k, xs, y⟩ hr hq ⟨hp, hd, ⟨hx, wx⟩, hy, wy⟩
  replace hd : k.deep ≤ 7 := hd
  replace hx : val (.bag k) (.tuple (xs.map pd)) := hx
  replace hy : val k y := hy
  have lx := (wide_tup.mp wx).1
  rw [List.length_map] at lx
  replace lx : xs.length ≤ 100 := lx
  obtain ⟨xs', ex, _, hv, hs⟩ := id hx
  have ex' : xs = xs' := by
    have e := congrArg (List.map unpd) (PyData.tuple.inj ex)
    rwa [unpd_map, unpd_map] at e
  subst ex'
  have nd := sorted_nodup hp hs fun e he => (hv e he).1
  refine sts_drop (e_chkBag C ⟨rfl, rfl, rfl, rfl, rfl⟩ (hr.mono (by omega)) hq (vd 0) hp hd) fun _ _ => ?_
  refine sts_drop (ed_call (Kd.bag k, PyData.tuple (xs.map pd)) C.chkVal (hr.mono (by omega)) hq rfl (eda_d (vd 0) (eda_d (vd 1) eda_nil)) ⟨hp, by simp only [Kd.deep]; omega, wx, hx⟩ fun _ h => h) fun _ _ => ?_
  refine sts_drop (ed_call (k, y) C.chkVal (hr.mono (by omega)) hq rfl (eda_d (e_at 1 (vd 0)) (eda_d (vd 2) eda_nil)) ⟨Kd.plain_ok hp, by show k.deep ≤ 8; omega, wy, hy⟩ fun _ h => h) fun _ _ => ?_
  refine sts_retE (e_dictGet (kt k) C.bi (ru hr) (vd 1) (fun q h => val_fit hp (by omega) (hv q h).1) nd (by omega) (vd 2) (val_fit hp (by omega) hy)) ?_
  show PyData.int _ = PyData.int _
  rw [(dheld_self nd).get]
end
end Lay
/-! PE5 -/
/-! the script: read, never written -/
namespace Lay
open PySem PySem.Spec PyProof.Rows L2
/-- the script as it stood at the entry of a frame that has no well -/
structure Scr (K : PySem.W.Frag) (b : Bs) (a : Addr) (ns : List Int) : Prop where
  w : b.W = none
  at_ : SqL K b.H0 a (ns.map V.int)
section
variable {X : Cx} {b : Bs} {ρ : Rho} {a : Addr} {ns : List Int} {σ : L2.St} {H : Hp} {x : Str} {e2 : Expr} {p px p2 pos : Pos}
theorem Scr.now {K : PySem.W.Frag} (S : Scr K b a ns) (ok : EnvOk b H σ ρ) : SqL K H a (ns.map V.int) := by
  have nw : b.W ≠ some a := by rw [S.w]; exact fun z => nomatch z
  rcases S.at_ with (h | ⟨o, h⟩) | h
  · exact .inl (.inl (ok.base a _ nw h))
  · exact .inl (.inr ⟨o, ok.base a _ nw h⟩)
  · exact .inr h
theorem e_scrLen (i : Nat) (B : Bi X.mg) (S : Scr X.K b a ns) (hi : ρ[i]? = some (some (.o a)) := by rfl) (hN : X.N[i]? = some x := by rfl) (hv : Vis X.env.scope x := by first | exact Or.inl rfl | exact Or.inr (Or.inl rfl) | exact Or.inr (Or.inr rfl))
    (hd : (x == ("__debug__" : Str)) = false := by decide) (hcd : (x == ("__classdict__" : Str)) = false := by decide) (hg : Gl X "len" := by rfl) (hs : starEach [.Name x px] X.env = (false, eval (.Name x px) X.env) :: starEach [] X.env := by rfl) : Ed X b (.Call (.Name "len" p) [.Name x px] [] pos) ρ (.int ns.length) := by
  intro σ H ok Q q
  obtain ⟨v, h1, h2⟩ := ok.at_ i _ hi
  cases (show v = .ref a from h2)
  exact exp_callB call_len_seq hg B.len (by decide +kernel) (exa_one (.of (pe_var hN hv hd hcd) ⟨_, h1, _, _, rfl, .inl (S.now ok), by rw [List.length_map]; exact q _ H _ .refl ok.wl (.int _) rfl⟩) hs) (he := hs)
theorem e_scrAt (i : Nat) {j : Nat} (S : Scr X.K b a ns) (h : Ed X b e2 ρ (.int j)) (hj : j < ns.length) (hi : ρ[i]? = some (some (.o a)) := by rfl) (hN : X.N[i]? = some x := by rfl) (hv : Vis X.env.scope x := by first | exact Or.inl rfl | exact Or.inr (Or.inl rfl) | exact Or.inr (Or.inr rfl))
    (hd : (x == ("__debug__" : Str)) = false := by decide) (hcd : (x == ("__classdict__" : Str)) = false := by decide) (hs : PlainIx e2 := by exact fun _ _ => rfl) : Ev X b (.Subscript (.Name x px) e2 pos) ρ isI := by
  intro σ H ok Q q
  obtain ⟨v, h1, h2⟩ := ok.at_ i _ hi
  cases (show v = .ref a from h2)
  refine .of (pe_ix ix_list (pe_var hN hv hd hcd) peW hs) ⟨_, h1, h σ H ok _ fun y H2 d2 s2 w2 r2 e2 => ?_⟩
  subst e2
  cases r2
  exact ⟨_, _, (j : Int), .int ns[j], rfl, rfl, S.now (ok.go s2 w2), atI_nat (by rw [List.getElem?_map, List.getElem?_eq_getElem hj]; rfl), q _ H2 _ s2 w2 (.int _) ⟨_, rfl⟩⟩
theorem e_scrCut (i : Nat) {j : Nat} (S : Scr X.K b a ns) (h : Ed X b e2 ρ (.int j)) (hi : ρ[i]? = some (some (.o a)) := by rfl) (hN : X.N[i]? = some x := by rfl) (hv : Vis X.env.scope x := by first | exact Or.inl rfl | exact Or.inr (Or.inl rfl) | exact Or.inr (Or.inr rfl))
    (hd : (x == ("__debug__" : Str)) = false := by decide) (hcd : (x == ("__classdict__" : Str)) = false := by decide) : EvL X b (.Subscript (.Name x px) (.Slice none (some e2) none p2) pos) ρ fun ds => ∀ d ∈ ds, isI d := by
  intro σ H ok Q q
  obtain ⟨v, h1, h2⟩ := ok.at_ i _ hi
  cases (show v = .ref a from h2)
  obtain ⟨tl, pl, fl⟩ := evo_none (X := X) (b := b) (ρ := ρ)
  obtain ⟨th, ph, fh⟩ := edo_some h
  refine .of (pe_slice sl_list (pe_var hN hv hd hcd) pl ph) ⟨_, h1, fl σ H ok _ fun l H2 s2 w2 e2 => fh σ H2 (ok.go s2 w2) _ fun u H3 s3 w3 e3 => ?_⟩
  have s4 := s2.trans s3
  refine ⟨a, _, rfl, S.now (ok.go s4 w3), fun t ht => ?_⟩
  refine q t _ _ (cutD (ns.map .int) l u) (s4.fresh w3 ht) (s4.trans (.new ht)) (w3.upd (w3.ne ht)) upd_same (((DnA.ints ns).cut l u).keep (.new ht)) fun d hd => ?_
  have := List.mem_of_mem_drop (List.mem_of_mem_take hd)
  obtain ⟨n, _, rfl⟩ := List.mem_map.mp this
  exact ⟨n, rfl⟩
end
section
variable {X : Cx} {b : Bs} {ρ : Rho} {e e2 : Expr} {p pos : Pos} {i j : Int}
theorem e_max (B : Bi X.mg) (h1 : Ed X b e ρ (.int i)) (h2 : Ed X b e2 ρ (.int j)) (hc : X.calm = true := by rfl) (hg : Gl X "max" := by rfl) (hs : starEach [e, e2] X.env = (false, eval e X.env) :: starEach [e2] X.env := by rfl) (hs1 : starEach [e2] X.env = (false, eval e2 X.env) :: starEach [] X.env := by rfl) (hpl : (backTo pos (starEach [e2] X.env)).any (·.1) = false := by rfl) :
    Ed X b (.Call (.Name "max" p) [e, e2] [] pos) ρ (.int (if j > i then j else i)) := by
  intro σ H ok Q q
  refine exp_callB (call_max2 hc) hg B.max (by decide +kernel) (exa_two (h1 σ H ok _ fun v H1 d s w r p1 => h2 σ H1 (ok.go s w) _ fun u H2 d2 s2 w2 r2 p2 => ?_) hs hs1) (he := hs) (hpl := hpl)
  subst p1 p2
  cases r
  cases r2
  exact ⟨i, j, rfl, q _ H2 _ (s.trans s2) w2 (.int _) rfl⟩
theorem e_min (B : Bi X.mg) (h1 : Ed X b e ρ (.int i)) (h2 : Ed X b e2 ρ (.int j)) (hc : X.calm = true := by rfl) (hg : Gl X "min" := by rfl) (hs : starEach [e, e2] X.env = (false, eval e X.env) :: starEach [e2] X.env := by rfl) (hs1 : starEach [e2] X.env = (false, eval e2 X.env) :: starEach [] X.env := by rfl) (hpl : (backTo pos (starEach [e2] X.env)).any (·.1) = false := by rfl) :
    Ed X b (.Call (.Name "min" p) [e, e2] [] pos) ρ (.int (if j < i then j else i)) := by
  intro σ H ok Q q
  refine exp_callB (call_min2 hc) hg B.min (by decide +kernel) (exa_two (h1 σ H ok _ fun v H1 d s w r p1 => h2 σ H1 (ok.go s w) _ fun u H2 d2 s2 w2 r2 p2 => ?_) hs hs1) (he := hs) (hpl := hpl)
  subst p1 p2
  cases r
  cases r2
  exact ⟨i, j, rfl, q _ H2 _ (s.trans s2) w2 (.int _) rfl⟩
theorem i_abs (B : Bi X.mg) (h : Ev X b e ρ isI) (hg : Gl X "abs" := by rfl) (hs : starEach [e] X.env = (false, eval e X.env) :: starEach [] X.env := by rfl) : Ev X b (.Call (.Name "abs" p) [e] [] pos) ρ isI := ev_abs hg B.abs (h.imp fun d ⟨i, hi⟩ => ⟨i, hi, _, rfl⟩) hs
end
end Lay
/-! PE6 -/
/-! the well and the law: what they promise -/
namespace Lay
open PySem PySem.Spec PyProof.Rows L2
/-- a well of a script's number -/
def spWell (K : PySem.W.Frag) : List V → Hp → VK → Prop := fun vs H Q => ∃ (a : Addr) (ns : List Int) (t : Nat), vs = [.ref a, .int t] ∧ SqL K H a (ns.map V.int) ∧
  ∀ p H', SB none H H' → H p = none → (∃ i j k l : Int, H' p = some (.lst [.int i, .int j, .int k, .int l])) → Q (.ref p) H'
def spLaw (K : PySem.W.Frag) : List V → Hp → VK → Prop := fun vs H Q => ∃ (a : Addr) (ns : List Int), vs = [.ref a] ∧ SqL K H a (ns.map V.int) ∧ ∀ H', SB none H H' → Q (.bl true) H'
section
variable {P : Program} {w : World} {K : PySem.W.Frag} {mg : Str → Option Value} {base : Heap}
structure WellK (P : Program) (w : World) (K : PySem.W.Frag) (mg : Str → Option Value) (base : Heap) : Prop where
  ex : ∃ f fd, Fok P w K mg base 1 f fd pp43 (spWell K) ∧ mg "_law_well" = some (.ref f) ∧ PySem.W.keepIn K (.ref f) = true ∧ Binds K fd pp43 []
end
theorem sts_run {X : Cx} {b : Bs} {ss : List Stmt} {ρ : Rho} {K : Post} {σ : L2.St} {H : Hp} {D : Ends} (h : Sts X b ss ρ K) (ok : EnvOk b H σ ρ) (t : Takes b ρ σ H K D) : Exs X ss σ H D := h σ H ok D t
section
variable {X : Cx} {b : Bs} {ρ : Rho} {σ : L2.St} {H : Hp} {Q : VK} {es : List Expr} {e : Expr} {p p2 pos pos2 : Pos} {a : Addr} {t : Nat} {ns : List Int}
theorem exp_well (F : WellK X.prog X.w X.K X.mg X.base) (hr : Room 1 X.A) (hq : X.A.guards = some []) (S : Scr X.K b a ns) (ok : EnvOk b H σ ρ) (ha : EdA X b (e :: es) ρ [.o a, .d (.int t)]) (hg : Gl X "_law_well")
    (q : ∀ c H1, SB none H H1 → H c = none → (∃ i j k l : Int, H1 c = some (.lst [.int i, .int j, .int k, .int l])) → Q (.ref c) H1) (he : starEach (e :: es) X.env = (false, eval e X.env) :: starEach es X.env := by rfl) (hpl : (backTo pos (starEach es X.env)).any (·.1) = false := by rfl) : Exp X (.Call (.Name "_law_well" p) (e :: es) [] pos) σ H Q := by
  obtain ⟨f, fd, G, hm, hk, hb⟩ := F.ex
  intro pins s I
  refine wpAny_Call_Name_kw (ld_glob I hg hm ?_ (by decide))
  refine PySem.W.callWith_K (h₀ := X.base) I.ok.mod.kin hk ?_ he hpl
  refine thn (ha σ H ok (fun vs H1 => spWell X.K vs H1 Q) (fun vs H1 ss s1 w1 r1 p1 => ?_) pos pins s I) fun us s1 ⟨vs, H1, I1, r, pr⟩ => ⟨I1.kIn, ?_⟩
  · subst p1
    cases r1 with
    | cons ra r1 =>
      cases r1 with
      | cons rt r1 =>
        cases r1
        cases (show _ = V.ref a from ra)
        cases (show Dn H1 _ (.int t) from rt)
        have s1' : SB none H H1 := by
          have e := S.w
          rw [e] at s1
          exact s1
        refine ⟨a, ns, t, rfl, S.now (ok.go s1 w1), fun c H2 s2 hn hl => q c H2 (s1'.trans s2) ?_ hl⟩
        exact s1'.fresh Wl.none hn
  · have hl : us.length = pp43.length := by rw [← r.length]; exact G.len _ _ _ pr
    have hbd := hb s1 us I1.kIn (by rw [List.append_nil]; exact hl)
    rw [List.append_nil] at hbd
    refine wpAny_call (codeAny_mono (run_fok G hr hq I1 hbd r pr) fun z s' ⟨u, h1, h2⟩ => ?_)
    subst h1
    exact h2
/-- _law_right(_law_well(..)) -/
theorem ed_right (R : RightK X.prog X.w X.K X.mg X.base) (F : WellK X.prog X.w X.K X.mg X.base) (hr : Room 51 X.A) (hq : X.A.guards = some []) (S : Scr X.K b a ns) (ha : EdA X b (e :: es) ρ [.o a, .d (.int t)]) (hg : Gl X "_law_well" := by rfl) (hg2 : Gl X "_law_right" := by rfl)
    (he : starEach (e :: es) X.env = (false, eval e X.env) :: starEach es X.env := by rfl) (hpl : (backTo pos2 (starEach es X.env)).any (·.1) = false := by rfl)
    (he2 : starEach [.Call (.Name "_law_well" p2) (e :: es) [] pos2] X.env = (false, eval (.Call (.Name "_law_well" p2) (e :: es) [] pos2) X.env) :: starEach [] X.env := by rfl) (hpl2 : (backTo pos (starEach [] X.env)).any (·.1) = false := by rfl) :
    Ed X b (.Call (.Name "_law_right" p) [.Call (.Name "_law_well" p2) (e :: es) [] pos2] [] pos) ρ (.bool true) := by
  obtain ⟨f, fd, G, hm, hk, hb, _⟩ := R.ex
  intro σ H ok Q q pins s I
  refine wpAny_Call_Name_kw (ld_glob I hg2 hm ?_ (by decide))
  refine PySem.W.callWith_K (h₀ := X.base) I.ok.mod.kin hk ?_ he2 hpl2
  refine thn (exa_one (Q := fun vs H1 => Pr (fun a : Addr => [Lay.S.o a]) (fun W a => W = some a) (fun _ y => y = .bool true) vs H1 Q) (exp_well F (hr.mono (by decide)) hq S ok ha hg (fun c H1 s1 hn hl => ?_) he hpl) he2 pos pins s I) fun us s1 ⟨vs, H1, I1, r, pr⟩ => ⟨I1.kIn, ?_⟩
  · obtain ⟨i, j, k, l, hl⟩ := hl
    have bw := S.w
    refine ⟨some c, c, .cons rfl .nil, fun c' e => ?_, rfl, fun v H' d s2 w2 rv pv => q v H' d ?_ ?_ rv pv⟩
    · cases e
      exact ⟨i, j, k, l, hl⟩
    · intro d o _ e
      have n1 : d ≠ c := ne_of_none e hn
      exact s2 d o (fun z => n1 (Option.some.inj z).symm) (s1 d o (fun z => nomatch z) e)
    · rw [bw]
      exact Wl.none
  · have hl : us.length = pp68.length := by rw [← r.length]; exact G.len _ _ _ pr
    have hbd := hb s1 us I1.kIn (by rw [List.append_nil]; exact hl)
    rw [List.append_nil] at hbd
    refine wpAny_call (codeAny_mono (run_fok G hr hq I1 hbd r pr) fun z s' ⟨u, h1, h2⟩ => ?_)
    subst h1
    exact h2
end
end Lay
/-! PE7 -/
/-! the walks: the well, the law -/
namespace Lay
open Quiet
open PySem PySem.Spec PyProof.Rows L2
section
variable {P : Program} {w : World} {K : PySem.W.Frag} {mg : Str → Option Value} {base : Heap}
theorem well_ok (B : Bi mg) (D : Df K mg "_law_well" 43 pp43) : WellK P w K mg base := by
  obtain ⟨f, fd, F, hm, bd⟩ := D.ex
  refine ⟨f, fd, fok_of F sc43 (fun vs H Q ⟨a, ns, t, e, _⟩ => by rw [e]; rfl) fun cdv A outer s H vs Q hr hq ⟨a, ns, t, ev, hS, q⟩ => ?_, hm, F.kp, bd⟩
  subst ev
  have S : Scr K ⟨none, H⟩ a ns := ⟨rfl, hS⟩
  have key : Sts (bodyX P w K mg base nn43 "_law_well" (defScope (PH.top 43)) f cdv A outer s H) ⟨none, H⟩ (defBody (PH.top 43)) [some (.o a), some (.d (.int t)), none, none, none] { rl := fun ds => ∃ i j k l : Int, ds = [.int i, .int j, .int k, .int l] } := by
    refine sts_set sc43.nd (i := 2) (P := isI) rfl (.inl rfl) (i_add ed_int.i (i_mul ed_int.w (vd 1).i)) fun d hd => ?_
    obtain ⟨m, rfl⟩ := hd
    refine sts_for (P := fun ds => ∀ d ∈ ds, isI d) (evi_L (e_scrCut 0 S ed_int)) rfl .never (pg_name (i := 3) sc43.nd rfl (.inl rfl)) (tg_name 3) fun ds hds => ?_
    refine ⟨fun i ρ => ∃ (m : Int) (s3 : Option Lay.S), ρ = [some (.o a), some (.d (.int t)), some (.d (.int m)), s3, none], ⟨_, _, rfl⟩, ?_, ?_⟩
    · rintro i d ρ' hi ⟨m, s3, rfl⟩
      obtain ⟨c, rfl⟩ := hds d (List.mem_of_getElem? hi)
      refine ⟨_, rfl, ?_⟩
      refine sts_set sc43.nd (i := 2) (P := isI) rfl (.inl rfl) (Ev.imp (i_mod (n := 2147483563) (by decide) (i_int B (i_add (i_add (i_mulR (vd 2).i ed_int.w) (Ev.imp (i_mod (n := 2147483587) (by decide) (i_int B (vd 3).i) ed_int) fun _ h => h.i)) ed_int.i)) ed_int) fun _ h => h.i) fun d hd => ?_
      obtain ⟨m', rfl⟩ := hd
      exact sts_nil ⟨_, _, rfl⟩
    · rintro ρ' ⟨m, s3, rfl⟩
      refine sts_set sc43.nd (i := 4) (P := isI) rfl (.inl rfl) (ev_if (PB := fun k => k = decide ((t : Int) < (ns.length : Int))) (EdC.t (edc_lt (vd 1) (e_scrLen 0 B S))) (fun z => i_int B (e_scrAt 0 S (vd 1) (by have := of_decide_eq_true z.symm; omega))) fun _ => ed_int.i) fun d hd => ?_
      obtain ⟨o, rfl⟩ := hd
      refine sts_set sc43.nd (i := 2) (P := isI) rfl (.inl rfl) (Ev.imp (i_mod (n := 2147483563) (by decide) (i_int B (i_add (i_add (i_mulR (vd 2).i ed_int.w) (i_mulR (Ev.imp (i_mod (n := 2147483587) (by decide) (i_int B (vd 4).i) ed_int) fun _ h => h.i) ed_int.w)) ed_int.i)) ed_int) fun _ h => h.i) fun d hd => ?_
      obtain ⟨m', rfl⟩ := hd
      refine sts_retL (evl_lst (EvA.imp (eva_cons (Ev.s (ev_if (P := isI) (PB := fun _ => True) (EvW.t (evw_or (PB := fun _ => True) (PC := fun _ => True) (EvC.t (i_cmp op_lt (nomark _) (vd 4).i ed_int.i)) (fun _ => evw_or1 (EvC.t (i_cmp op_ge (nomark _) (vd 4).i (ed_pow ⟨by decide, by decide, by decide⟩ ed_int ed_int).i))) (fun _ _ _ => trivial) fun _ => trivial)) (fun _ => i_abs B (vd 4).i) fun _ => ed_int.i)) (eva_cons (vd 2).s (eva_cons ed_int.s (eva_cons ed_int.s eva_nil)))) fun z hz => ?_))
      obtain ⟨_, _, rfl, ⟨_, rfl, i0, rfl⟩, _, _, rfl, rfl, _, _, rfl, rfl, _, _, rfl, rfl, rfl⟩ := hz
      exact ⟨[.int i0, .int m', .int 0, .int 2], rfl, by simp, _, _, _, _, rfl⟩
  refine sts_run key (start_ok (W := none) (ss := [.o a, .d (.int t)]) (.cons rfl (.cons (Dn.int _) .nil)) Wl.none nlo2 (by show 2 ≤ 5; decide)) ⟨fun _ _ _ _ _ z => z.elim, fun _ _ _ _ _ _ z => z.elim, fun _ _ _ _ _ z => z.elim, fun p H' us ds sb wl h0 hp r ⟨i, j, k, l, e⟩ => ?_⟩
  subst e
  have eu := DnA.ints_of (ns := [i, j, k, l]) r
  exact q p H' sb h0 ⟨i, j, k, l, by rw [hp, eu]; rfl⟩
end
section
variable {P : Program} {w : World} {K : PySem.W.Frag} {mg : Str → Option Value} {base : Heap}
theorem all_true {α : Type} (xs : List α) : (xs.all fun _ => true) = true := by simp
theorem law_ok (B : Bi mg) (D : Df K mg "law" 69 pp69) (R : RightK P w K mg base) (F : WellK P w K mg base) : ∃ f fd, Fok P w K mg base 52 f fd pp69 (spLaw K) ∧ mg "law" = some (.ref f) ∧ Binds K fd pp69 [] := by
  obtain ⟨f, fd, G, hm, bd⟩ := D.ex
  refine ⟨f, fd, fok_of G sc69 (fun vs H Q ⟨a, ns, e, _⟩ => by rw [e]; rfl) fun cdv A outer s H vs Q hr hq ⟨a, ns, ev, hS, q⟩ => ?_, hm, bd⟩
  subst ev
  have S : Scr K ⟨none, H⟩ a ns := ⟨rfl, hS⟩
  have key : Sts (bodyX P w K mg base nn69 "law" (defScope (PH.top 69)) f cdv A outer s H) ⟨none, H⟩ (defBody (PH.top 69)) [some (.o a), none] { rt := fun d => d = .bool true } := by
    obtain ⟨n, hn, h3⟩ : ∃ n : Nat, (if (if (3 : Int) < (ns.length : Int) then (3 : Int) else (ns.length : Int)) > 2 then (if (3 : Int) < (ns.length : Int) then (3 : Int) else (ns.length : Int)) else 2) = (n : Int) ∧ n ≤ 3 := by
      by_cases h : (3 : Int) < (ns.length : Int)
      · exact ⟨3, by rw [if_pos h, if_pos (by decide)]; rfl, Nat.le_refl 3⟩
      · rw [if_neg h]
        by_cases h2 : (ns.length : Int) > 2
        · exact ⟨ns.length, by rw [if_pos h2], by omega⟩
        · exact ⟨2, by rw [if_neg h2]; rfl, by decide⟩
    refine sts_retE (ed_castB (e_allM (xs := List.range n) (fun _ => true) B (e_map 1 (gd := fun i : Nat => PyData.int (0 + (i : Nat))) _ (evi_range1 rfl B.range (Ev.imp (e_max B ed_int (e_min B (e_scrLen 0 B S) ed_int)) fun d hd => ⟨n, by rw [hd, hn], by omega, rfl⟩)) (by rw [List.length_range]; omega) fun i hi s H C cl fp => ?_)) (all_true _)) rfl
    exact ed_right (t := i) R F hr hq S (eda_cons (vs 0) (eda_d (ed_cast (vd 1) (by simp)) eda_nil))
  exact sts_run key (start_ok (W := none) (ss := [.o a]) (.cons rfl .nil) Wl.none nlo1 (by show 1 ≤ 2; decide)) ⟨fun _ _ _ _ _ z => z.elim, fun v H' d sb wl r e => by subst e; cases r; exact q H' sb, fun _ _ _ _ _ z => z.elim, fun _ _ _ _ _ _ _ _ _ z => z.elim⟩
end
end Lay
/-! PF1 -/
/-! the defs of the text as the head leaves them (printed) -/
namespace Lay
open PySem PySem.Spec PyProof.Rows L2
theorem len1 {α : Type} {us : List α} (h : us.length = 1) : ∃ a, us = [a] := List.length_eq_one_iff.mp h
theorem len2 {α : Type} {us : List α} (h : us.length = 2) : ∃ a b, us = [a, b] := by
  match us, h with
  | [a, b], _ => exact ⟨a, b, rfl⟩
theorem len3 {α : Type} {us : List α} (h : us.length = 3) : ∃ a b c, us = [a, b, c] := by
  match us, h with
  | [a, b, c], _ => exact ⟨a, b, c, rfl⟩
section
variable {K : PySem.W.Frag} {mg : Str → Option Value} {h : Heap} {w : World} (X : K.In h) (G : h.Ns mainGlobals mg) (c : He.SaysX PH.fa PH.fn PH.tabs [] PH.sizesB w h K)
include X G c in
theorem df_of {x : Str} {i : Nat} {ps : List Str} (j m : Nat) (hf : PH.fa[m]? = some (.glo x) := by rfl) (hd : PH.fn[j]? = some (PH.dd i x) := by rfl)
    (bd : ∀ (kV doc pm : Value) (an : Option Addr) (cdv ct : Value) (us : List Value), us.length = ps.length → bindArgs (PySem.W.fnOf x x (defArgs (PH.top i)) (defBody (PH.top i)) (defScope (PH.top i)) .none kV doc pm an cdv ct) ⟨us, []⟩ = pure (ps.zip us)) : Df K mg x i ps := by
  obtain ⟨fd, F⟩ := c.t.d.def_ j hd
  exact ⟨_, fd, F, He.glo_ok X G (c.t.d.fact m hf), L2.FunD.bindsN F bd⟩
include X G c in
theorem df7 : Df K mg "is_whole" 7 pp7 := df_of X G c 0 0 rfl rfl fun kV doc pm an cdv ct us hl => by
  obtain ⟨a, rfl⟩ := len1 hl
  kernel_rfl
include X G c in
theorem df12 : Df K mg "is_plain" 12 pp12 := df_of X G c 2 2 rfl rfl fun kV doc pm an cdv ct us hl => by
  obtain ⟨a, rfl⟩ := len1 hl
  kernel_rfl
include X G c in
theorem df13 : Df K mg "is_data" 13 pp13 := df_of X G c 3 3 rfl rfl fun kV doc pm an cdv ct us hl => by
  obtain ⟨a, rfl⟩ := len1 hl
  kernel_rfl
include X G c in
theorem df14 : Df K mg "is_group" 14 pp14 := df_of X G c 4 4 rfl rfl fun kV doc pm an cdv ct us hl => by
  obtain ⟨a, rfl⟩ := len1 hl
  kernel_rfl
include X G c in
theorem df15 : Df K mg "is_valued" 15 pp15 := df_of X G c 5 5 rfl rfl fun kV doc pm an cdv ct us hl => by
  obtain ⟨a, b, rfl⟩ := len2 hl
  kernel_rfl
include X G c in
theorem df16 : Df K mg "is_counted" 16 pp16 := df_of X G c 6 6 rfl rfl fun kV doc pm an cdv ct us hl => by
  obtain ⟨a, b, rfl⟩ := len2 hl
  kernel_rfl
include X G c in
theorem df17 : Df K mg "are_counted" 17 pp17 := df_of X G c 7 7 rfl rfl fun kV doc pm an cdv ct us hl => by
  obtain ⟨a, b, rfl⟩ := len2 hl
  kernel_rfl
include X G c in
theorem df19 : Df K mg "check_kind_that" 19 pp19 := df_of X G c 8 8 rfl rfl fun kV doc pm an cdv ct us hl => by
  obtain ⟨a, b, rfl⟩ := len2 hl
  kernel_rfl
include X G c in
theorem df20 : Df K mg "check_data" 20 pp20 := df_of X G c 9 9 rfl rfl fun kV doc pm an cdv ct us hl => by
  obtain ⟨a, rfl⟩ := len1 hl
  kernel_rfl
include X G c in
theorem df21 : Df K mg "check_value" 21 pp21 := df_of X G c 10 10 rfl rfl fun kV doc pm an cdv ct us hl => by
  obtain ⟨a, b, rfl⟩ := len2 hl
  kernel_rfl
include X G c in
theorem df22 : Df K mg "check_whole" 22 pp22 := df_of X G c 11 11 rfl rfl fun kV doc pm an cdv ct us hl => by
  obtain ⟨a, rfl⟩ := len1 hl
  kernel_rfl
include X G c in
theorem df23 : Df K mg "check_pairs" 23 pp23 := df_of X G c 12 12 rfl rfl fun kV doc pm an cdv ct us hl => by
  obtain ⟨a, b, rfl⟩ := len2 hl
  kernel_rfl
include X G c in
theorem df25 : Df K mg "zero_by" 25 pp25 := df_of X G c 13 13 rfl rfl fun kV doc pm an cdv ct us hl => by
  obtain ⟨a, rfl⟩ := len1 hl
  kernel_rfl
include X G c in
theorem df26 : Df K mg "is_paired" 26 pp26 := df_of X G c 14 14 rfl rfl fun kV doc pm an cdv ct us hl => by
  obtain ⟨a, rfl⟩ := len1 hl
  kernel_rfl
include X G c in
theorem df27 : Df K mg "bag_by" 27 pp27 := df_of X G c 15 15 rfl rfl fun kV doc pm an cdv ct us hl => by
  obtain ⟨a, rfl⟩ := len1 hl
  kernel_rfl
include X G c in
theorem df28 : Df K mg "sum_of_bags" 28 pp28 := df_of X G c 16 16 rfl rfl fun kV doc pm an cdv ct us hl => by
  obtain ⟨a, b, rfl⟩ := len2 hl
  kernel_rfl
include X G c in
theorem df29 : Df K mg "plus_by" 29 pp29 := df_of X G c 17 17 rfl rfl fun kV doc pm an cdv ct us hl => by
  obtain ⟨a, b, rfl⟩ := len2 hl
  kernel_rfl
include X G c in
theorem df30 : Df K mg "times_by" 30 pp30 := df_of X G c 18 18 rfl rfl fun kV doc pm an cdv ct us hl => by
  obtain ⟨a, b, rfl⟩ := len2 hl
  kernel_rfl
include X G c in
theorem df32 : Df K mg "is_bag" 32 pp32 := df_of X G c 19 19 rfl rfl fun kV doc pm an cdv ct us hl => by
  obtain ⟨a, rfl⟩ := len1 hl
  kernel_rfl
include X G c in
theorem df33 : Df K mg "is_value" 33 pp33 := df_of X G c 20 20 rfl rfl fun kV doc pm an cdv ct us hl => by
  obtain ⟨a, b, rfl⟩ := len2 hl
  kernel_rfl
include X G c in
theorem df34 : Df K mg "order" 34 pp34 := df_of X G c 21 21 rfl rfl fun kV doc pm an cdv ct us hl => by
  obtain ⟨a, b, c, rfl⟩ := len3 hl
  kernel_rfl
include X G c in
theorem df35 : Df K mg "zero_of" 35 pp35 := df_of X G c 22 22 rfl rfl fun kV doc pm an cdv ct us hl => by
  obtain ⟨a, rfl⟩ := len1 hl
  kernel_rfl
include X G c in
theorem df36 : Df K mg "sum_of" 36 pp36 := df_of X G c 23 23 rfl rfl fun kV doc pm an cdv ct us hl => by
  obtain ⟨a, b, c, rfl⟩ := len3 hl
  kernel_rfl
include X G c in
theorem df37 : Df K mg "opposite" 37 pp37 := df_of X G c 24 24 rfl rfl fun kV doc pm an cdv ct us hl => by
  obtain ⟨a, b, rfl⟩ := len2 hl
  kernel_rfl
include X G c in
theorem df38 : Df K mg "many_of" 38 pp38 := df_of X G c 25 25 rfl rfl fun kV doc pm an cdv ct us hl => by
  obtain ⟨a, b, c, rfl⟩ := len3 hl
  kernel_rfl
include X G c in
theorem df39 : Df K mg "bag_of" 39 pp39 := df_of X G c 26 26 rfl rfl fun kV doc pm an cdv ct us hl => by
  obtain ⟨a, b, rfl⟩ := len2 hl
  kernel_rfl
include X G c in
theorem df40 : Df K mg "count_of" 40 pp40 := df_of X G c 27 27 rfl rfl fun kV doc pm an cdv ct us hl => by
  obtain ⟨a, b, c, rfl⟩ := len3 hl
  kernel_rfl
include X G c in
theorem df41 : Df K mg "support_of" 41 pp41 := df_of X G c 28 28 rfl rfl fun kV doc pm an cdv ct us hl => by
  obtain ⟨a, b, rfl⟩ := len2 hl
  kernel_rfl
include X G c in
theorem df43 : Df K mg "_law_well" 43 pp43 := df_of X G c 29 29 rfl rfl fun kV doc pm an cdv ct us hl => by
  obtain ⟨a, b, rfl⟩ := len2 hl
  kernel_rfl
include X G c in
theorem df44 : Df K mg "_law_draw" 44 pp44 := df_of X G c 30 30 rfl rfl fun kV doc pm an cdv ct us hl => by
  obtain ⟨a, b, rfl⟩ := len2 hl
  kernel_rfl
include X G c in
theorem df45 : Df K mg "_law_pick" 45 pp45 := df_of X G c 31 31 rfl rfl fun kV doc pm an cdv ct us hl => by
  obtain ⟨a, b, rfl⟩ := len2 hl
  kernel_rfl
include X G c in
theorem df46 : Df K mg "_law_same" 46 pp46 := df_of X G c 32 32 rfl rfl fun kV doc pm an cdv ct us hl => by
  obtain ⟨a, b, rfl⟩ := len2 hl
  kernel_rfl
include X G c in
theorem df47 : Df K mg "_law_odd" 47 pp47 := df_of X G c 33 33 rfl rfl fun kV doc pm an cdv ct us hl => by
  obtain ⟨a, rfl⟩ := len1 hl
  kernel_rfl
include X G c in
theorem df48 : Df K mg "_law_number" 48 pp48 := df_of X G c 34 34 rfl rfl fun kV doc pm an cdv ct us hl => by
  obtain ⟨a, rfl⟩ := len1 hl
  kernel_rfl
include X G c in
theorem df49 : Df K mg "_law_plain" 49 pp49 := df_of X G c 35 35 rfl rfl fun kV doc pm an cdv ct us hl => by
  obtain ⟨a, b, rfl⟩ := len2 hl
  kernel_rfl
include X G c in
theorem df50 : Df K mg "_law_group" 50 pp50 := df_of X G c 36 36 rfl rfl fun kV doc pm an cdv ct us hl => by
  obtain ⟨a, b, rfl⟩ := len2 hl
  kernel_rfl
include X G c in
theorem df51 : Df K mg "_law_data" 51 pp51 := df_of X G c 37 37 rfl rfl fun kV doc pm an cdv ct us hl => by
  obtain ⟨a, b, rfl⟩ := len2 hl
  kernel_rfl
include X G c in
theorem df52 : Df K mg "_law_is_whole" 52 pp52 := df_of X G c 38 38 rfl rfl fun kV doc pm an cdv ct us hl => by
  obtain ⟨a, rfl⟩ := len1 hl
  kernel_rfl
include X G c in
theorem df53 : Df K mg "_law_is_headed" 53 pp53 := df_of X G c 39 39 rfl rfl fun kV doc pm an cdv ct us hl => by
  obtain ⟨a, b, rfl⟩ := len2 hl
  kernel_rfl
include X G c in
theorem df54 : Df K mg "_law_order" 54 pp54 := df_of X G c 40 40 rfl rfl fun kV doc pm an cdv ct us hl => by
  obtain ⟨a, b, c, rfl⟩ := len3 hl
  kernel_rfl
include X G c in
theorem df55 : Df K mg "_law_bag" 55 pp55 := df_of X G c 41 41 rfl rfl fun kV doc pm an cdv ct us hl => by
  obtain ⟨a, b, rfl⟩ := len2 hl
  kernel_rfl
include X G c in
theorem df56 : Df K mg "_law_value" 56 pp56 := df_of X G c 42 42 rfl rfl fun kV doc pm an cdv ct us hl => by
  obtain ⟨a, b, rfl⟩ := len2 hl
  kernel_rfl
include X G c in
theorem df57 : Df K mg "_law_is_value" 57 pp57 := df_of X G c 43 43 rfl rfl fun kV doc pm an cdv ct us hl => by
  obtain ⟨a, b, rfl⟩ := len2 hl
  kernel_rfl
include X G c in
theorem df58 : Df K mg "_law_is_bag" 58 pp58 := df_of X G c 44 44 rfl rfl fun kV doc pm an cdv ct us hl => by
  obtain ⟨a, b, rfl⟩ := len2 hl
  kernel_rfl
include X G c in
theorem df59 : Df K mg "_law_zero" 59 pp59 := df_of X G c 45 45 rfl rfl fun kV doc pm an cdv ct us hl => by
  obtain ⟨a, rfl⟩ := len1 hl
  kernel_rfl
include X G c in
theorem df60 : Df K mg "_law_sum" 60 pp60 := df_of X G c 46 46 rfl rfl fun kV doc pm an cdv ct us hl => by
  obtain ⟨a, b, c, rfl⟩ := len3 hl
  kernel_rfl
include X G c in
theorem df61 : Df K mg "_law_many" 61 pp61 := df_of X G c 47 47 rfl rfl fun kV doc pm an cdv ct us hl => by
  obtain ⟨a, b, c, rfl⟩ := len3 hl
  kernel_rfl
include X G c in
theorem df62 : Df K mg "_law_bent" 62 pp62 := df_of X G c 48 48 rfl rfl fun kV doc pm an cdv ct us hl => by
  obtain ⟨a, b, rfl⟩ := len2 hl
  kernel_rfl
include X G c in
theorem df63 : Df K mg "_law_spoilt" 63 pp63 := df_of X G c 49 49 rfl rfl fun kV doc pm an cdv ct us hl => by
  obtain ⟨a, b, rfl⟩ := len2 hl
  kernel_rfl
include X G c in
theorem df64 : Df K mg "_law_are_values" 64 pp64 := df_of X G c 50 50 rfl rfl fun kV doc pm an cdv ct us hl => by
  obtain ⟨a, rfl⟩ := len1 hl
  kernel_rfl
include X G c in
theorem df65 : Df K mg "_law_are_ordered" 65 pp65 := df_of X G c 51 51 rfl rfl fun kV doc pm an cdv ct us hl => by
  obtain ⟨a, rfl⟩ := len1 hl
  kernel_rfl
include X G c in
theorem df66 : Df K mg "_law_are_sums" 66 pp66 := df_of X G c 52 52 rfl rfl fun kV doc pm an cdv ct us hl => by
  obtain ⟨a, rfl⟩ := len1 hl
  kernel_rfl
include X G c in
theorem df67 : Df K mg "_law_are_bags" 67 pp67 := df_of X G c 53 53 rfl rfl fun kV doc pm an cdv ct us hl => by
  obtain ⟨a, rfl⟩ := len1 hl
  kernel_rfl
include X G c in
theorem df68 : Df K mg "_law_right" 68 pp68 := df_of X G c 54 54 rfl rfl fun kV doc pm an cdv ct us hl => by
  obtain ⟨a, rfl⟩ := len1 hl
  kernel_rfl
include X G c in
theorem df69 : Df K mg "law" 69 pp69 := df_of X G c 55 55 rfl rfl fun kV doc pm an cdv ct us hl => by
  obtain ⟨a, rfl⟩ := len1 hl
  kernel_rfl
include X G c in
theorem dfk : DfK K mg := by
  obtain ⟨fd, F⟩ := c.t.d.def_ 1 (d := PH.dd 11 "is_kinded" [.int 100]) rfl
  obtain ⟨d1, v1, b1⟩ := L2.FunD.binds1 (ps := pp11) F 1 0 (List.cons_ne_nil _ _) rfl fun T kV doc pm an cdv ct us its h1 h2 => by
    obtain ⟨a, rfl⟩ := len1 h1
    obtain ⟨z, rfl⟩ := len1 (show its.length = 1 from h2)
    exact ⟨_, rfl, rfl⟩
  obtain ⟨d2, v2, b2⟩ := L2.FunD.binds1 (ps := pp11) F 2 1 (List.cons_ne_nil _ _) rfl fun T kV doc pm an cdv ct us its h1 h2 => by
    obtain ⟨a, b, rfl⟩ := len2 h1
    obtain ⟨z, rfl⟩ := len1 (show its.length = 1 from h2)
    exact ⟨_, rfl, rfl⟩
  cases (show Vals [] d2 from v2)
  exact ⟨_, fd, d1, F, He.glo_ok X G (c.t.d.fact 1 (f := .glo "is_kinded") rfl), b2, v1, b1⟩
include X G c in
theorem bi_of : Bi mg where
  isi := He.free_ok X G (c.t.d.fact 57 (f := .free "isinstance") rfl)
  int := He.free_ok X G (c.t.d.fact 58 (f := .free "int") rfl)
  bool := He.free_ok X G (c.t.d.fact 59 (f := .free "bool") rfl)
  tuple := He.free_ok X G (c.t.d.fact 60 (f := .free "tuple") rfl)
  str := He.free_ok X G (c.t.d.fact 61 (f := .free "str") rfl)
  all := He.free_ok X G (c.t.d.fact 62 (f := .free "all") rfl)
  len := He.free_ok X G (c.t.d.fact 63 (f := .free "len") rfl)
  zip := He.free_ok X G (c.t.d.fact 64 (f := .free "zip") rfl)
  sorted := He.free_ok X G (c.t.d.fact 65 (f := .free "sorted") rfl)
  dict := He.free_ok X G (c.t.d.fact 66 (f := .free "dict") rfl)
  enum := He.free_ok X G (c.t.d.fact 67 (f := .free "enumerate") rfl)
  range := He.free_ok X G (c.t.d.fact 68 (f := .free "range") rfl)
  abs := He.free_ok X G (c.t.d.fact 69 (f := .free "abs") rfl)
  divmod := He.free_ok X G (c.t.d.fact 70 (f := .free "divmod") rfl)
  repr := He.free_ok X G (c.t.d.fact 71 (f := .free "repr") rfl)
  list := He.free_ok X G (c.t.d.fact 72 (f := .free "list") rfl)
  sum := He.free_ok X G (c.t.d.fact 73 (f := .free "sum") rfl)
  max := He.free_ok X G (c.t.d.fact 74 (f := .free "max") rfl)
  min := He.free_ok X G (c.t.d.fact 75 (f := .free "min") rfl)
include X G c in
theorem sizes_of : Sizes K w mg := by
  obtain ⟨es, n, D⟩ := c.t.tab 0 (t := (PH.sizesAt, ["unit", "num", "pair", "either", "bag", "fun"])) rfl
  refine ⟨PH.sizesAt K, es, n, He.glo_ok X G (c.t.d.fact 56 (f := .glo "KIND_SIZES") rfl), D, fun q hq => ?_⟩
  have go := fun z hz => He.valsB_ok (K := K) (a := PH.sizesAt K) c.more (q := z) hz
  have all : ∀ q ∈ ([("unit", 1), ("num", 1), ("pair", 3), ("either", 3), ("bag", 2)] : List (Str × Int)), (q.1, He.Dv.int q.2) ∈ ([("unit", .int 1), ("num", .int 1), ("pair", .int 3), ("either", .int 3), ("bag", .int 2), ("fun", .int 3)] : List (Str × He.Dv)) := by
    intro q hq
    simp only [List.mem_cons, List.not_mem_nil, or_false] at hq
    rcases hq with rfl | rfl | rfl | rfl | rfl <;> simp
  exact go _ (all q hq)
end
end Lay
/-! PF2 -/
/-! all promises, from the head's facts -/
namespace Lay
open PySem PySem.Spec PyProof.Rows L2
section
variable {P : Program} {base : Heap} {K : PySem.W.Frag} {mg : Str → Option Value} {h : Heap} {w : World} (X : K.In h) (G : h.Ns mainGlobals mg) (c : He.SaysX PH.fa PH.fn PH.tabs [] PH.sizesB w h K)
include X G c in
theorem chks_of : Chks P w K mg base := by
  have B := bi_of X G c
  have whole := kn_is_whole (P := P) (w := w) (base := base) B (df7 X G c)
  have plain := kn_is_plain (P := P) (w := w) (base := base) B (df12 X G c)
  have data := kn_is_data (P := P) (w := w) (base := base) B (df13 X G c)
  have vals := kn_is_valued (P := P) (w := w) (base := base) B (df7 X G c) (df15 X G c) (df16 X G c) (df17 X G c) 8 (by decide)
  have that := kn_check_kind_that (df19 X G c) 8 (kn_is_kinded B (sizes_of X G c) (dfk X G c) plain 8)
  exact { bi := B, that := that, plain := plain 8, data := data 8, group := kn_is_group B (df14 X G c) 8, bag := kn_is_bag (df32 X G c), chkData := kn_check_data (df20 X G c) 8 (by decide) that (data 8), chkVal := kn_check_value (df21 X G c) 8 vals, chkWhole := kn_check_whole (df22 X G c) whole, valued := vals }
include X G c in
theorem api_of : Api P w K mg base := by
  have C := chks_of (P := P) (base := base) X G c
  have B := C.bi
  have paired := kn_is_paired (P := P) (w := w) (base := base) (df26 X G c)
  have sums := kn_sum_of_bags (P := P) (w := w) (base := base) B (df28 X G c) (kn_bag_by B (df27 X G c))
  have times := kn_times_by B (df30 X G c) paired 8
  have f1 := kn_is_value C (df33 X G c)
  have f2 := kn_order C (df34 X G c)
  have f3 := kn_zero_of C (df35 X G c) (kn_zero_by (df25 X G c) 8)
  have f4 := kn_sum_of C (df36 X G c) 2 (by decide) (kn_plus_by B (df29 X G c) 2 sums paired 8)
  have f5 := kn_opposite C (df37 X G c) times
  have f6 := kn_many_of C (df38 X G c) times
  refine { isVal := f1, order := f2, zero := f3, sum := f4, opp := f5, many := f6, isValK := knk_of f1 (df33 X G c) ?_, orderK := knk_of f2 (df34 X G c) ?_, zeroK := knk_of f3 (df35 X G c) ?_, sumK := knk_of f4 (df36 X G c) ?_, oppK := knk_of f5 (df37 X G c) ?_, manyK := knk_of f6 (df38 X G c) ?_ }
  · intro kV doc pm an cdv ct ws hl
    obtain ⟨a, b, rfl⟩ := len2 hl
    kernel_rfl
  · intro kV doc pm an cdv ct ws hl
    obtain ⟨a, b, d, rfl⟩ := len3 hl
    kernel_rfl
  · intro kV doc pm an cdv ct ws hl
    obtain ⟨a, rfl⟩ := len1 hl
    kernel_rfl
  · intro kV doc pm an cdv ct ws hl
    obtain ⟨a, b, d, rfl⟩ := len3 hl
    kernel_rfl
  · intro kV doc pm an cdv ct ws hl
    obtain ⟨a, b, rfl⟩ := len2 hl
    kernel_rfl
  · intro kV doc pm an cdv ct ws hl
    obtain ⟨a, b, d, rfl⟩ := len3 hl
    kernel_rfl
include X G c in
theorem apib_of : ApiB P w K mg base := by
  have C := chks_of (P := P) (base := base) X G c
  have B := C.bi
  have whole := kn_is_whole (P := P) (w := w) (base := base) B (df7 X G c)
  have sums := kn_sum_of_bags (P := P) (w := w) (base := base) B (df28 X G c) (kn_bag_by B (df27 X G c))
  have pairs := kn_check_pairs B (df23 X G c) (kn_is_counted B (df16 X G c) 8 whole C.valued)
  have f1 := kn_bag_of C (df39 X G c) pairs sums
  have f2 := kn_count_of C (df40 X G c)
  have f3 := kn_support_of C (df41 X G c)
  refine { bag := f1, count := f2, supp := f3, bagK := knk_of f1 (df39 X G c) ?_, countK := knk_of f2 (df40 X G c) ?_, suppK := knk_of f3 (df41 X G c) ?_ }
  · intro kV doc pm an cdv ct ws hl
    obtain ⟨a, b, rfl⟩ := len2 hl
    kernel_rfl
  · intro kV doc pm an cdv ct ws hl
    obtain ⟨a, b, d, rfl⟩ := len3 hl
    kernel_rfl
  · intro kV doc pm an cdv ct ws hl
    obtain ⟨a, b, rfl⟩ := len2 hl
    kernel_rfl
include X G c in
theorem helps_of : Helps P w K mg base := by
  have B := bi_of X G c
  have draw := kn_law_draw (P := P) (w := w) (base := base) B (df44 X G c)
  have pick := kn_law_pick B (df45 X G c) draw
  have plain := kn_law_plain (df49 X G c) draw
  have order := kn_law_order (P := P) (w := w) (base := base) B (df54 X G c)
  have bag := kn_law_bag B (df55 X G c) 10 (order 10)
  have odd := kn_law_odd (df47 X G c) pick
  have bent := kn_law_bent B (df62 X G c) draw odd (kn_law_is_whole B (df52 X G c))
  exact { bi := B, draw := draw, pick := pick, same := kn_law_same B (df46 X G c), sameB := kn_law_sameB B (df46 X G c), odd := odd, plain := plain, group := kn_law_group (df50 X G c) draw plain, data := kn_law_data (df51 X G c) draw plain, order := order, bag := bag, value := kn_law_value B (df56 X G c) draw (kn_law_number B (df48 X G c) draw pick) pick bag 4 (by decide), isVal := kn_law_is_value B (df52 X G c) (df53 X G c) (df54 X G c) (df57 X G c) (df58 X G c) 4 (by decide), zero := kn_law_zero (df59 X G c) 4, sum := kn_law_sum (df60 X G c) 10 bag 4 (by decide), many := kn_law_many B (df61 X G c) 4, spoil := kn_law_spoilt B (df63 X G c) draw bent }
include X G c in
theorem law_all : ∃ f fd, Fok P w K mg base 52 f fd pp69 (spLaw K) ∧ mg "law" = some (.ref f) ∧ Binds K fd pp69 [] := by
  have B := bi_of X G c
  have L := helps_of (P := P) (base := base) X G c
  have Y := api_of (P := P) (base := base) X G c
  have Z := apib_of (P := P) (base := base) X G c
  exact law_ok B (df69 X G c) (kn_law_right B (df68 X G c) (kn_are_values L Y (df64 X G c)) (kn_are_ordered L Y (df65 X G c)) (kn_are_sums L Y (df66 X G c)) (kn_are_bags L Z (df67 X G c))) (well_ok B (df43 X G c))
end
end Lay
/-! PF3 -/
/-! the end -/
namespace Lay
open PySem PySem.Spec PyProof.Rows L2
section
variable {P : Program} {w : World} {K : PySem.W.Frag} {mg mb : Str → Option Value} {fa a : Addr} {s : Shared} {us : List Value} {ns : List Int}
/-- only the script is tracked, or nothing -/
structure Start (P : Program) (w : World) (K : PySem.W.Frag) (s : Shared) (a : Addr) (ns : List Int) (H : Hp) : Prop where
  one : ∀ b u, H b = some u → b = a ∧ ∃ o xs, u = .frz o (.lst xs)
  seq : SqL K H a (ns.map V.int)
  ok : HOk P w H s.heap
  free : H a ≠ none → K.lookup a = none
theorem start_of (KX : K.In s.heap) (ha : s.heap.get? a = some { cls := .type "list", data := .seq us.toArray }) (hi : IntsAre us ns) (hl : ns.length ≤ sizeLine) : ∃ H, Start P w K s a ns H := by
  have rv := vals_ints hi
  cases hk : K.lookup a with
  | some o =>
    have e := KX a o hk
    rw [ha] at e
    cases e
    refine ⟨fun _ => none, fun b u e => (nomatch e), .inr ⟨_, us.toArray, _, hk, rfl, rfl, rfl, ?_, rv⟩, fun b u e => (nomatch e), fun n => (n rfl).elim⟩
    rw [List.size_toArray, hi.length]
    exact hl
  | none =>
    refine ⟨upd (fun _ => none) a (.frz { cls := .type "list", data := .seq us.toArray } (.lst (ns.map V.int))), fun b u e => ?_, .inl (.inr ⟨_, upd_same⟩), fun b u e => ?_, fun _ => hk⟩
    · by_cases hb : b = a
      · rw [hb, upd_same] at e
        cases e
        exact ⟨hb, _, _, rfl⟩
      · rw [upd_ne hb] at e
        cases e
    · by_cases hb : b = a
      · rw [hb, upd_same] at e
        cases e
        rw [hb]
        exact ⟨ha, by rw [List.length_map]; exact hl, us, 0, rv, ha⟩
      · rw [upd_ne hb] at e
        cases e
theorem end_call (KX : K.In s.heap) (hns : s.heap.Ns mainGlobals mg) (hb : s.heap.Ns builtinsNs mb) (hbb : ∀ x : Str, x ≠ "__name__" → mb x = bootBuiltins x) (lim : s.heap.NoLimit) (hg : s.gens = #[])
    (ha : s.heap.get? a = some { cls := .type "list", data := .seq us.toArray }) (hi : IntsAre us ns) (hl : ns.length ≤ sizeLine) (hr : Room 52 callerA) (hm : mg "law" = some (.ref fa))
    (F : ∀ base : Heap, ∃ f fd, Fok P w K mg base 52 f fd pp69 (spLaw K) ∧ mg "law" = some (.ref f) ∧ Binds K fd pp69 []) :
    codeAny (model P w) callerA (.call (.ref fa) ⟨[.ref a], []⟩) (fun r s' => r = .ok (.ret (.bool true)) ∧ OldK s.heap s'.heap ∧ s'.os = s.os ∧ AllBare s'.gens) s := by
  obtain ⟨H, S⟩ := start_of (P := P) (w := w) KX ha hi hl
  have stay : ∀ {b o es ep}, s.heap.get? b = some o → o.data = .dict es ep → H b = none := fun {b o es ep} e d => by
    cases q : H b with
    | none => rfl
    | some u =>
      obtain ⟨hb, _⟩ := S.one b u q
      rw [hb, ha] at e
      cases e
      cases d
  have nsk : ∀ {b m}, s.heap.Ns b m → (hidT s.heap H).Ns b m := fun {b m} ⟨o, es, ep, e, d, r⟩ => ⟨o, es, ep, hidT_get e (stay e d), d, r⟩
  have kin : K.In (hidT s.heap H) := fun b o e => hidT_get (KX b o e) (by
    cases q : H b with
    | none => rfl
    | some u =>
      obtain ⟨hb, _⟩ := S.one b u q
      subst hb
      have := S.free (by rw [q]; exact fun z => nomatch z)
      rw [e] at this
      cases this)
  obtain ⟨mc, l1, l2⟩ := lim
  obtain ⟨f, fd, G, hm', bd⟩ := F (hidT s.heap H)
  rw [hm] at hm'
  cases hm'
  have e0 : Env0 P w K mg (hidT s.heap H) callerA [] s H := ⟨rfl, ⟨kin, nsk hns, ⟨mb, nsk hb, hbb⟩, ⟨mc, nsk l1, l2⟩⟩, fun b o e => of_hidT e, Nat.le_of_eq (hidT_size _ _), trivial, fun b hb => (nomatch hb), S.ok, .of_eq hg⟩
  refine codeAny_mono (G.run callerA [] s H ⟨[.ref a], []⟩ [.ref a] [.ref a] (fun v _ => v = .bl true) hr rfl e0 (bd s [.ref a] KX rfl) (.cons rfl .nil) ⟨a, ns, rfl, S.seq, fun _ _ => rfl⟩) fun r s' hq => ?_
  obtain ⟨u, rfl, v, H', os, bare, un, ok', rv, ev⟩ := hq
  subst ev
  obtain rfl : u = Value.bool true := rv
  refine ⟨rfl, OldK.of_keep fun b o e => ?_, os, bare⟩
  cases q : H b with
  | none => exact un.keep b o e q (fun z => nomatch z) (fun z => nomatch z)
  | some u =>
    obtain ⟨_, ob, xs, eu⟩ := S.one b u q
    subst eu
    obtain ⟨k1, _⟩ := S.ok b _ q
    obtain ⟨k2, _⟩ := ok' b _ (un.frzs b ob _ q)
    rw [e] at k1
    cases k1
    exact k2
end
end Lay
open PySem PySem.W PySem.Calls PyProof.Rows
theorem PySem.Challenge.cw_changewise_k03_whole_values_order_sums_a_holds : PySem.Challenge.rw_changewise_k03_whole_values_order_sums_a.Holds := by
  w_on; o_law
  refine HandSHeadRun.head_any (r := PH.R) (q := PH.qv) (H := PH.hk) (ob := PH.ob) (M := 20000) (loose := PH.loose) (d := HandSHeadRun.topDef PH.R.prog 69) (kwd := []) PH.ob_eq (by kernel_rfl) (fun s => by kernel_rfl) PH.run (by kernel_rfl) (by kernel_rfl) (by kernel_rfl) (by rfl) (by first | assumption | decide +kernel) (by decide +kernel) ⟨rfl, rfl, rfl, rfl, rfl, by decide +kernel⟩ ?hw ?hc
  case hw => w_witness2
  case hc =>
    refine Att.attach_call (n := 63) rfl (by kernel_rfl) fun w s₀ s₁ mg mb fa o pm cd doc a vs ns G Y ho hd hcd hmg0 hobj hints hlen hg => ?_
    obtain ⟨K, KX, c⟩ := Y
    have hmg : mg ("law" : PySem.Str) = some (.ref fa) := by
      have e : (HandSHeadRun.topDef PH.R.prog 69).name = ("law" : PySem.Str) := by kernel_rfl
      rw [← e]
      exact hmg0
    exact Lay.end_call KX G.T.g G.T.b G.T.builtins G.T.nolimit hg hobj hints (Nat.le_trans hlen (by decide)) ⟨rfl, by decide, by decide⟩ hmg fun base => Lay.law_all KX G.T.g c
