import PyProof.Rows.All
import Wide.All
import OpenK.AllK
import Wide.FinOn
import HandS.Base
import HandS.Call
import HandS.Comp
import HandS.List
import HandS.Dict
import HandS.Exc
import HandS.CallSlots
import HandS.Small
import HandS.IsInst
import HandS.Conv
import HandS.Finally
import HandS.ExcOwn
import HandS.Defaults
import HandS.MakeKwOnly
import HandS.OwnEq
import KE.KOpsOwn
import HandS.Iter
import HandS.DictComp
import HandS.NoneIn
import KE.KEqDict
import HandS.More
import HandS.TupLen
import HandS.Codes
import HandS.SortInts
import HandS.RaiseMore
import HandS.ListItems
import HandS.Sort
import KE.KDictSum
import PyProof.ReprRoads
import HandS.SlotsOwn
import HandS.DictSub
import HandS.FStr
import HandS.Style
import HandS.HeadEnd
import HandS.Deep
import HandS.HeadHook4
import HandS.Words
import KE.KStateDown
import HandS.Ends
import HandS.Head0
import HandS.Head1
import HandS.Head2
import HandS.HeadHook1
import HandS.HeadHook2
import PyProof.Rows.ReprOcc
import PySem.Challenge.RW_heardlogs_k21_whole_clocks_by_dicts
set_option Elab.async false
set_option linter.all false
set_option maxRecDepth 100000
/-! E0: values of the evaluator, how they stand in HandS's abstract heap, and how they last. -/
namespace EV
open PySem PySem.Spec PyProof.Rows L2

/-- a dict's key: an int or a str; a tuple of those -/
inductive KK where
  | a (k : Key) | t (ks : List Key)
  deriving DecidableEq

/-- a value: a tree that never changes, or the place of an object that may change -/
inductive U where
  | non | bl (b : Bool) | int (i : Int) | str (x : Str)
  | tup (xs : List U) | lst (xs : List U) | dct (ks : List KK) (xs : List U) | ins (c : Nat) (ns : List Str) (xs : List U)
  | ref (n : Nat)
  /-- a built-in type, a class of the module's -/
  | ty (T : String) | cl (c : Nat)
  /-- a list, a tuple of the module's or of the script: read alone -/
  | fl (xs : List U) | ft (xs : List U)
  /-- a dict that may change, locked for a while: as a store's content alone -/
  | lkd (ks : List KK) (xs : List U)
instance : Inhabited U := ⟨.non⟩

/-- the program's side -/
structure Ge where
  P : Program
  w : World
  K : PySem.W.Frag
  mg : Str → Option Value
  base : Heap
  cls : List Addr

/-- where the objects stand that may change; where those stand that are being made -/
structure Ph where
  l : List Addr
  g : List Addr
instance : Membership Addr Ph := ⟨fun φ a => a ∈ φ.l ∨ a ∈ φ.g⟩
theorem Ph.mem {φ : Ph} {a : Addr} : a ∈ φ ↔ a ∈ φ.l ∨ a ∈ φ.g := Iff.rfl
theorem Ph.nl {φ : Ph} {a : Addr} (h : a ∉ φ) : a ∉ φ.l := fun z => h (.inl z)
theorem Ph.ng {φ : Ph} {a : Addr} (h : a ∉ φ) : a ∉ φ.g := fun z => h (.inr z)
theorem Ph.not {φ : Ph} {a : Addr} (h1 : a ∉ φ.l) (h2 : a ∉ φ.g) : a ∉ φ := fun z => z.elim h1 h2
def Kt (K : PySem.W.Frag) (a : Addr) (xs : List V) : Prop :=
  ∃ (o : Obj) (its : Array Value) (n : Nat), K.lookup a = some o ∧ o.cls = .type "tuple" ∧ o.data = .seq its n ∧ its.size ≤ sizeLine ∧ Vals xs its.toList
def Kl (K : PySem.W.Frag) (a : Addr) (xs : List V) : Prop :=
  ∃ (o : Obj) (its : Array Value) (n : Nat), K.lookup a = some o ∧ o.cls = .type "list" ∧ o.dict = none ∧ o.data = .seq its n ∧ its.size ≤ sizeLine ∧ Vals xs its.toList

/-- a dict's object: keys ints and texts, or tuples of those -/
def DO (ks : List KK) (xs : List V) (o : Option HO) : Prop :=
  ks.length = xs.length ∧ ((∃ kk : List Key, ks = kk.map KK.a ∧ o = some (.dK (kk.zip xs))) ∨ (∃ kk : List (List Key), ks = kk.map KK.t ∧ kk ≠ [] ∧ o = some (.dT (kk.zip xs))))

section
variable (G : Ge) (φ : Ph) (H : Hp)
mutual
/-- a tree stands at a value; none of its objects is at φ -/
def RT : U → V → Prop
  | .non, v => v = .non
  | .bl b, v => v = .bl b
  | .int i, v => v = .int i
  | .str x, v => v = .str x
  | .ref _, _ => False
  | .lkd _ _, _ => False
  | .ty T, v => v = .ty T
  | .cl c, v => ∃ C, G.cls[c]? = some C ∧ v = .ref C
  | .tup us, v => ∃ a xs, v = .ref a ∧ a ∉ φ ∧ H a = some (.tup xs) ∧ RTs us xs
  | .lst us, v => ∃ a xs, v = .ref a ∧ a ∉ φ ∧ H a = some (.lst xs) ∧ RTs us xs
  | .ft us, v => ∃ a xs, v = .ref a ∧ Kt G.K a xs ∧ RTs us xs
  | .fl us, v => ∃ a xs, v = .ref a ∧ ((a ∉ φ ∧ Rd H a (.lst xs)) ∨ Kl G.K a xs) ∧ RTs us xs
  | .dct ks us, v => ∃ a xs o, v = .ref a ∧ a ∉ φ ∧ DO ks xs (some o) ∧ Rd H a o ∧ RTs us xs
  | .ins c ns us, v => ∃ a C dx xs, v = .ref a ∧ a ∉ φ ∧ G.cls[c]? = some C ∧ ns.length = xs.length ∧ H a = some (.ins C dx (ns.zip xs)) ∧ RTs us xs
def RTs : List U → List V → Prop
  | [], vs => vs = []
  | u :: us, vs => ∃ v r, vs = v :: r ∧ RT u v ∧ RTs us r
end
/-- a value of the evaluator stands at a value -/
def RV (u : U) (v : V) : Prop := (∃ n a, u = .ref n ∧ φ.l[n]? = some a ∧ v = .ref a) ∨ RT G φ H u v
abbrev RVs : List U → List V → Prop := Paired (RV G φ H)
/-- the content of an object that may change -/
def CO : U → Option HO → Prop
  | .lst us, o => ∃ xs, o = some (.lst xs) ∧ RVs G φ H us xs
  | .dct ks us, o => ∃ xs, DO ks xs o ∧ RVs G φ H us xs
  | .lkd ks us, o => ∃ xs od o', o = some (.frz od o') ∧ DO ks xs (some o') ∧ RVs G φ H us xs
  | .ins c ns us, o => ∃ C dx xs, G.cls[c]? = some C ∧ ns.length = xs.length ∧ o = some (.ins C dx (ns.zip xs)) ∧ RVs G φ H us xs
  | _, _ => False
end
def U.isRef : U → Bool
  | .ref _ => true
  | _ => false
/-- what an object holds -/
def U.elems : U → List U
  | .tup us => us | .lst us => us | .dct _ us => us | .ins _ _ us => us | .fl us => us | .ft us => us | .lkd _ us => us
  | _ => []
/-- B: the bases of the frames that run, b the newest: an object older than a base holds no place of a younger one -/
structure StOk (G : Ge) (φ : Ph) (H : Hp) (B : Nat → Prop) (b : Nat) (st : List U) : Prop where
  len : φ.l.length = st.length
  nd : (φ.l ++ φ.g).Nodup
  ok : ∀ (n : Nat) (u : U) (a : Addr), st[n]? = some u → φ.l[n]? = some a → CO G φ H u (H a)
  gh : ∀ a, a ∈ φ.g → ∃ o, H a = some o ∧ ∀ xs, o ≠ .tup xs
  le : b ≤ st.length
  top : ∀ c, B c → c ≤ b
  wf : ∀ c, B c → ∀ (n : Nat) (u : U), n < c → st[n]? = some u → ∀ m, U.ref m ∈ u.elems → m < c
/-- what lasts -/
def isDict : HO → Bool
  | .dK _ => true
  | .dT _ => true
  | _ => false
/-- an object stays; a dict may have been locked -/
def Kp (o o' : HO) : Prop := o' = o ∨ (isDict o = true ∧ ∃ od, o' = .frz od o)
structure Las (φ : Ph) (H : Hp) (φ' : Ph) (H' : Hp) : Prop where
  pre : ∃ ψ, φ'.l = φ.l ++ ψ
  keep : ∀ a o, H a = some o → a ∉ φ → (∃ o', H' a = some o' ∧ Kp o o') ∧ a ∉ φ'
structure Ext (φ : Ph) (H : Hp) (φ' : Ph) (H' : Hp) : Prop extends Las φ H φ' H' where
  geq : φ'.g = φ.g
  gkp : ∀ a, a ∈ φ.g → H' a = H a
  fz : ∀ a od o, H a = some (.frz od o) → H' a = some (.frz od o)
theorem Kp.same {o o' : HO} (h : Kp o o') (n : isDict o = false) : o' = o := by
  rcases h with h | ⟨d, _⟩
  · exact h
  · rw [n] at d; cases d
theorem Kp.trans {o o' o2 : HO} (h : Kp o o') (h2 : Kp o' o2) : Kp o o2 := by
  rcases h with rfl | ⟨d, od, rfl⟩
  · exact h2
  · exact .inr ⟨d, od, h2.same rfl⟩

/-! ### pairs of lists -/
section
variable {α β : Type} {F F' : α → β → Prop}
theorem pGet : ∀ {us : List α} {vs : List β} {i : Nat} {u : α}, Paired F us vs → us[i]? = some u → ∃ v, vs[i]? = some v ∧ F u v
  | _, _, _, _, .nil, e => by simp at e
  | _, _, 0, _, .cons h _, e => by simp at e; subst e; exact ⟨_, rfl, h⟩
  | _, _, i + 1, _, .cons _ t, e => by
    obtain ⟨x, e1, e2⟩ := pGet (i := i) t (by simpa using e)
    exact ⟨x, by simpa using e1, e2⟩
theorem pGet2 : ∀ {us : List α} {vs : List β} {i : Nat} {v : β}, Paired F us vs → vs[i]? = some v → ∃ u, us[i]? = some u ∧ F u v
  | _, _, _, _, .nil, e => by simp at e
  | _, _, 0, _, .cons h _, e => by simp at e; subst e; exact ⟨_, rfl, h⟩
  | _, _, i + 1, _, .cons _ t, e => by
    obtain ⟨x, e1, e2⟩ := pGet2 (i := i) t (by simpa using e)
    exact ⟨x, by simpa using e1, e2⟩
theorem pApp : ∀ {us ws : List α} {vs xs : List β}, Paired F us vs → Paired F ws xs → Paired F (us ++ ws) (vs ++ xs)
  | _, _, _, _, .nil, h' => h'
  | _, _, _, _, .cons h t, h' => .cons h (pApp t h')
theorem pTake : ∀ {us : List α} {vs : List β} (n : Nat), Paired F us vs → Paired F (us.take n) (vs.take n)
  | _, _, 0, _ => .nil
  | _, _, n + 1, .nil => .nil
  | _, _, n + 1, .cons h t => .cons h (pTake n t)
theorem pDrop : ∀ {us : List α} {vs : List β} (n : Nat), Paired F us vs → Paired F (us.drop n) (vs.drop n)
  | _, _, 0, h => h
  | _, _, n + 1, .nil => .nil
  | _, _, n + 1, .cons h t => pDrop n t
theorem pSet {u : α} {v : β} (q : F u v) : ∀ {us : List α} {vs : List β} (n : Nat), Paired F us vs → Paired F (us.set n u) (vs.set n v)
  | _, _, n, .nil => .nil
  | _, _, 0, .cons h t => .cons q t
  | _, _, n + 1, .cons h t => .cons h (pSet q n t)
theorem pRev : ∀ {us : List α} {vs : List β}, Paired F us vs → Paired F us.reverse vs.reverse
  | _, _, .nil => .nil
  | _, _, .cons h t => by rw [List.reverse_cons, List.reverse_cons]; exact pApp (pRev t) (.cons h .nil)
theorem pMono (f : ∀ a b, F a b → F' a b) : ∀ {us : List α} {vs : List β}, Paired F us vs → Paired F' us vs
  | _, _, .nil => .nil
  | _, _, .cons h t => .cons (f _ _ h) (pMono f t)
theorem pMonoMem : ∀ {us : List α} {vs : List β}, (∀ a b, a ∈ us → F a b → F' a b) → Paired F us vs → Paired F' us vs
  | _, _, f, .nil => .nil
  | _, _, f, .cons h t => .cons (f _ _ (List.mem_cons_self ..) h) (pMonoMem (fun a b m => f a b (List.mem_cons_of_mem _ m)) t)
end

section
variable {G : Ge} {φ φ' φ2 : Ph} {H H' H2 : Hp} {st : List U} {a p : Addr} {o : HO} {B : Nat → Prop} {b : Nat}
theorem Las.refl : Las φ H φ H := ⟨⟨[], by simp⟩, fun _ _ e n => ⟨⟨_, e, .inl rfl⟩, n⟩⟩
theorem Las.trans (x : Las φ H φ' H') (y : Las φ' H' φ2 H2) : Las φ H φ2 H2 := by
  obtain ⟨⟨ψ, e⟩, k⟩ := x
  obtain ⟨⟨ψ', e'⟩, k'⟩ := y
  exact ⟨⟨ψ ++ ψ', by rw [e', e, List.append_assoc]⟩, fun a o h n => let ⟨⟨o', h1, p1⟩, n1⟩ := k a o h n; let ⟨⟨o2, h2, p2⟩, n2⟩ := k' a o' h1 n1; ⟨⟨o2, h2, p1.trans p2⟩, n2⟩⟩
theorem Ext.refl : Ext φ H φ H := ⟨Las.refl, rfl, fun _ _ => rfl, fun _ _ _ e => e⟩
theorem Ext.trans (x : Ext φ H φ' H') (y : Ext φ' H' φ2 H2) : Ext φ H φ2 H2 :=
  ⟨x.toLas.trans y.toLas, y.geq.trans x.geq, fun a h => (y.gkp a (by rw [x.geq]; exact h)).trans (x.gkp a h), fun a od o e => y.fz a od o (x.fz a od o e)⟩
theorem Las.alloc (h : H p = none) : Las φ H φ (upd H p o) := ⟨⟨[], by simp⟩, fun a u e n => ⟨⟨u, by rw [upd_ne (ne_of_none e h)]; exact e, .inl rfl⟩, n⟩⟩
theorem Ext.alloc (S : StOk G φ H B b st) (h : H p = none) : Ext φ H φ (upd H p o) :=
  ⟨Las.alloc h, rfl, fun a m => by obtain ⟨u, e, _⟩ := S.gh a m; rw [upd_ne (ne_of_none e h)], fun a od o' e => by rw [upd_ne (ne_of_none e h)]; exact e⟩
theorem Ext.live (S : StOk G φ H B b st) (h : H p = none) : Ext φ H ⟨φ.l ++ [p], φ.g⟩ (upd H p o) :=
  ⟨⟨⟨[p], rfl⟩, fun a u e n => ⟨⟨u, by rw [upd_ne (ne_of_none e h)]; exact e, .inl rfl⟩, Ph.not (by
    simp only [List.mem_append, List.mem_singleton, not_or]; exact ⟨Ph.nl n, ne_of_none e h⟩) (Ph.ng (φ := φ) n)⟩⟩, rfl, fun a m => by obtain ⟨u, e, _⟩ := S.gh a m; rw [upd_ne (ne_of_none e h)], fun a od o' e => by rw [upd_ne (ne_of_none e h)]; exact e⟩
theorem StOk.lg (S : StOk G φ H B b st) (h : a ∈ φ.l) : a ∉ φ.g := fun z => (List.nodup_append.mp S.nd).2.2 a h a z rfl
theorem Las.set (h : a ∈ φ.l) : Las φ H φ (upd H a o) :=
  ⟨⟨[], by simp⟩, fun b u e n => ⟨⟨u, by rw [upd_ne (fun z => n (by rw [z]; exact .inl h))]; exact e, .inl rfl⟩, n⟩⟩
theorem Ext.set (S : StOk G φ H B b st) (h : a ∈ φ.l) (nf : ∀ od o', H a ≠ some (.frz od o')) : Ext φ H φ (upd H a o) :=
  ⟨Las.set h, rfl, fun c m => by rw [upd_ne (show c ≠ a from fun z => S.lg h (z ▸ m))], fun c od o' e => by rw [upd_ne (show c ≠ a from fun z => nf od o' (z ▸ e))]; exact e⟩
theorem Las.get {n : Nat} (x : Las φ H φ' H') (h : φ.l[n]? = some a) : φ'.l[n]? = some a := by
  obtain ⟨⟨ψ, e⟩, _⟩ := x
  rw [e, List.getElem?_append_left (List.getElem?_eq_some_iff.mp h).1]; exact h
theorem Ext.get {n : Nat} (x : Ext φ H φ' H') (h : φ.l[n]? = some a) : φ'.l[n]? = some a := x.toLas.get h
theorem Ext.lock {d : Addr} {od : Obj} (h : H d = some o) (hd : isDict o = true) (nd : d ∉ φ) : Ext φ H φ (upd H d (.frz od o)) := ⟨⟨⟨[], by simp⟩, fun b u e n => by
  by_cases hb : b = d
  · subst hb
    rw [h] at e; cases e
    exact ⟨⟨_, upd_same, .inr ⟨hd, od, rfl⟩⟩, n⟩
  · exact ⟨⟨u, by rw [upd_ne hb]; exact e, .inl rfl⟩, n⟩⟩, rfl, fun a m => by rw [upd_ne (show a ≠ d from fun z => nd (.inr (z ▸ m)))], fun a od' o' e => by rw [upd_ne (show a ≠ d from fun z => by rw [z, h] at e; cases e; cases hd)]; exact e⟩
theorem DO.any {ks : List KK} {xs : List V} {o : Option HO} (h : DO ks xs o) : ∃ u, o = some u := by
  rcases h.2 with ⟨_, _, e⟩ | ⟨_, _, _, e⟩ <;> exact ⟨_, e⟩
/-! what a tree leans on: objects that are not at φ -/
mutual
theorem RT.mono (k : ∀ a o, H a = some o → a ∉ φ → (∃ o', H' a = some o' ∧ Kp o o') ∧ a ∉ φ') : ∀ (u : U) (v : V), RT G φ H u v → RT G φ' H' u v
  | .non, _, h => by unfold RT at h ⊢; exact h
  | .bl _, _, h => by unfold RT at h ⊢; exact h
  | .int _, _, h => by unfold RT at h ⊢; exact h
  | .str _, _, h => by unfold RT at h ⊢; exact h
  | .ref n, _, h => by unfold RT at h; exact h.elim
  | .lkd _ _, _, h => by unfold RT at h; exact h.elim
  | .ty _, _, h => by unfold RT at h ⊢; exact h
  | .cl _, _, h => by unfold RT at h ⊢; exact h
  | .tup us, _, h => by
    unfold RT at h ⊢
    obtain ⟨a, xs, e, n, t, r⟩ := h
    obtain ⟨⟨o', t', p⟩, n'⟩ := k a _ t n
    cases p.same rfl
    exact ⟨a, xs, e, n', t', RTs.mono k us xs r⟩
  | .lst us, _, h => by
    unfold RT at h ⊢
    obtain ⟨a, xs, e, n, t, r⟩ := h
    obtain ⟨⟨o', t', p⟩, n'⟩ := k a _ t n
    cases p.same rfl
    exact ⟨a, xs, e, n', t', RTs.mono k us xs r⟩
  | .ft us, _, h => by
    unfold RT at h ⊢
    obtain ⟨a, xs, e, t, r⟩ := h
    exact ⟨a, xs, e, t, RTs.mono k us xs r⟩
  | .fl us, _, h => by
    unfold RT at h ⊢
    obtain ⟨a, xs, e, d, r⟩ := h
    refine ⟨a, xs, e, ?_, RTs.mono k us xs r⟩
    rcases d with ⟨n, r | ⟨o, r⟩⟩ | k'
    · obtain ⟨⟨o', t', p⟩, n'⟩ := k a _ r n
      cases p.same rfl
      exact .inl ⟨n', .inl t'⟩
    · obtain ⟨⟨o', t', p⟩, n'⟩ := k a _ r n
      cases p.same rfl
      exact .inl ⟨n', .inr ⟨o, t'⟩⟩
    · exact .inr k'
  | .dct ks us, _, h => by
    unfold RT at h ⊢
    obtain ⟨a, xs, o, e, n, d, q, r⟩ := h
    have key : Rd H' a o ∧ a ∉ φ' := by
      rcases q with q | ⟨od, q⟩
      · obtain ⟨⟨o', t', p⟩, n'⟩ := k a _ q n
        rcases p with rfl | ⟨_, od, rfl⟩
        · exact ⟨.inl t', n'⟩
        · exact ⟨.inr ⟨od, t'⟩, n'⟩
      · obtain ⟨⟨o', t', p⟩, n'⟩ := k a _ q n
        cases p.same rfl
        exact ⟨.inr ⟨od, t'⟩, n'⟩
    exact ⟨a, xs, o, e, key.2, d, key.1, RTs.mono k us xs r⟩
  | .ins c ns us, _, h => by
    unfold RT at h ⊢
    obtain ⟨a, C, dx, xs, e, n, hc, hl, d, r⟩ := h
    obtain ⟨⟨o', t', p⟩, n'⟩ := k a _ d n
    cases p.same rfl
    exact ⟨a, C, dx, xs, e, n', hc, hl, t', RTs.mono k us xs r⟩
theorem RTs.mono (k : ∀ a o, H a = some o → a ∉ φ → (∃ o', H' a = some o' ∧ Kp o o') ∧ a ∉ φ') : ∀ (us : List U) (vs : List V), RTs G φ H us vs → RTs G φ' H' us vs
  | [], _, h => by unfold RTs at h ⊢; exact h
  | u :: us, _, h => by
    unfold RTs at h ⊢
    obtain ⟨v, r, e, h1, h2⟩ := h
    exact ⟨v, r, e, RT.mono k u v h1, RTs.mono k us r h2⟩
end
theorem RTs.pr : ∀ {us : List U} {vs : List V}, RTs G φ H us vs → Paired (RT G φ H) us vs
  | [], _, h => by unfold RTs at h; subst h; exact .nil
  | u :: us, _, h => by unfold RTs at h; obtain ⟨v, r, rfl, h1, h2⟩ := h; exact .cons h1 (RTs.pr h2)
theorem RTs.of : ∀ {us : List U} {vs : List V}, Paired (RT G φ H) us vs → RTs G φ H us vs
  | _, _, .nil => by unfold RTs; rfl
  | _, _, .cons h t => by unfold RTs; exact ⟨_, _, rfl, h, RTs.of t⟩
theorem RT.rv {u : U} {v : V} (h : RT G φ H u v) : RV G φ H u v := .inr h
theorem RTs.rvs {us : List U} {vs : List V} (h : RTs G φ H us vs) : RVs G φ H us vs := pMono (fun _ _ => RT.rv) h.pr
theorem RT.nref {u : U} {v : V} (h : RT G φ H u v) : u.isRef = false := by cases u <;> first | rfl | (unfold RT at h; exact h.elim)
theorem RV.rt {u : U} {v : V} (h : RV G φ H u v) (n : u.isRef = false) : RT G φ H u v := by
  rcases h with ⟨n, a, rfl, _⟩ | h
  · cases n <;> contradiction
  · exact h
theorem RV.mono' (x : Las φ H φ' H') {u : U} {v : V} (h : RV G φ H u v) : RV G φ' H' u v := by
  rcases h with ⟨n, a, e, l, r⟩ | h
  · exact .inl ⟨n, a, e, x.get l, r⟩
  · exact .inr (h.mono x.keep)
theorem RV.mono (x : Ext φ H φ' H') {u : U} {v : V} (h : RV G φ H u v) : RV G φ' H' u v := h.mono' x.toLas
theorem RVs.mono' (x : Las φ H φ' H') {us : List U} {vs : List V} (h : RVs G φ H us vs) : RVs G φ' H' us vs := pMono (fun _ _ => RV.mono' x) h
theorem RVs.mono (x : Ext φ H φ' H') {us : List U} {vs : List V} (h : RVs G φ H us vs) : RVs G φ' H' us vs := h.mono' x.toLas
def noref (us : List U) : Bool := us.all fun u => !u.isRef
theorem RVs.rts {us : List U} {vs : List V} (h : RVs G φ H us vs) (n : noref us = true) : RTs G φ H us vs :=
  .of (pMonoMem (fun u v m r => r.rt (by have := List.all_eq_true.mp n u m; simpa using this)) h)
theorem CO.any {u : U} {o : Option HO} (h : CO G φ H u o) : ∃ x, o = some x := by
  cases u <;> simp only [CO] at h
  · obtain ⟨xs, e, _⟩ := h; exact ⟨_, e⟩
  · obtain ⟨xs, e, _⟩ := h; exact e.any
  · obtain ⟨_, _, xs, _, _, e, _⟩ := h; exact ⟨_, e⟩
  · obtain ⟨xs, od, o', e, _⟩ := h; exact ⟨_, e⟩
theorem CO.mono' {u : U} {o : Option HO} (x : Las φ H φ' H') (h : CO G φ H u o) : CO G φ' H' u o := by
  cases u <;> simp only [CO] at h ⊢
  · obtain ⟨xs, e, r⟩ := h; exact ⟨xs, e, r.mono' x⟩
  · obtain ⟨xs, e, r⟩ := h; exact ⟨xs, e, r.mono' x⟩
  · obtain ⟨C, dx, xs, c, l, e, r⟩ := h; exact ⟨C, dx, xs, c, l, e, r.mono' x⟩
  · obtain ⟨xs, od, o', e, d, r⟩ := h; exact ⟨xs, od, o', e, d, r.mono' x⟩
theorem CO.mono {u : U} {o : Option HO} (x : Ext φ H φ' H') (h : CO G φ H u o) : CO G φ' H' u o := h.mono' x.toLas
theorem StOk.at {n : Nat} {u : U} (S : StOk G φ H B b st) (e : st[n]? = some u) : ∃ a, φ.l[n]? = some a ∧ a ∈ φ.l ∧ CO G φ H u (H a) := by
  have hn : n < φ.l.length := by rw [S.len]; exact (List.getElem?_eq_some_iff.mp e).1
  exact ⟨φ.l[n], List.getElem?_eq_some_iff.mpr ⟨hn, rfl⟩, List.getElem_mem _, S.ok n u _ e (List.getElem?_eq_some_iff.mpr ⟨hn, rfl⟩)⟩
theorem StOk.any (S : StOk G φ H B b st) (h : a ∈ φ) : ∃ o, H a = some o := by
  rcases h with h | h
  · obtain ⟨n, hn, rfl⟩ := List.getElem_of_mem h
    exact (S.ok n (st[n]'(by rw [← S.len]; exact hn)) _ (List.getElem?_eq_some_iff.mpr ⟨_, rfl⟩) (List.getElem?_eq_some_iff.mpr ⟨hn, rfl⟩)).any
  · obtain ⟨o, e, _⟩ := S.gh a h; exact ⟨o, e⟩
theorem StOk.fresh (S : StOk G φ H B b st) (h : H p = none) : p ∉ φ := fun z => by obtain ⟨o, e⟩ := S.any z; rw [h] at e; cases e
theorem StOk.ndl (S : StOk G φ H B b st) : φ.l.Nodup := (List.nodup_append.mp S.nd).1
theorem StOk.alloc (S : StOk G φ H B b st) (h : H p = none) : StOk G φ (upd H p o) B b st := ⟨S.len, S.nd, fun n u a e1 e2 => by
  have q := S.ok n u a e1 e2
  obtain ⟨x, ex⟩ := q.any
  rw [upd_ne (ne_of_none ex h)]
  exact q.mono' (Las.alloc h), fun a m => by
  obtain ⟨u, e, nt⟩ := S.gh a m
  exact ⟨u, by rw [upd_ne (ne_of_none e h)]; exact e, nt⟩, S.le, S.top, S.wf⟩
/-- a ghost is changed -/
theorem Las.ghost {D : Addr} (h : D ∈ φ.g) : Las φ H φ (upd H D o) := ⟨⟨[], by simp⟩, fun a u e n => ⟨⟨u, by rw [upd_ne (show a ≠ D from fun z => n (.inr (z ▸ h)))]; exact e, .inl rfl⟩, n⟩⟩
theorem StOk.ghost {D : Addr} (S : StOk G φ H B b st) (h : D ∈ φ.g) (nt : ∀ xs, o ≠ .tup xs) : StOk G φ (upd H D o) B b st := ⟨S.len, S.nd, fun n u a e1 e2 => by
  have q := S.ok n u a e1 e2
  rw [upd_ne (show a ≠ D from fun z => S.lg (List.mem_of_getElem? e2) (z ▸ h))]
  exact q.mono' (Las.ghost h), fun a m => by
  by_cases ha : a = D
  · exact ⟨o, by rw [ha]; exact upd_same, nt⟩
  · obtain ⟨u, e, nt⟩ := S.gh a m
    exact ⟨u, by rw [upd_ne ha]; exact e, nt⟩, S.le, S.top, S.wf⟩
/-- a ghost comes -/
theorem Las.push (h : H p = none) : Las φ H ⟨φ.l, p :: φ.g⟩ (upd H p o) := ⟨⟨[], by simp⟩, fun a u e n => ⟨⟨u, by rw [upd_ne (ne_of_none e h)]; exact e, .inl rfl⟩, Ph.not (Ph.nl (φ := φ) n) (by
  simp only [List.mem_cons, not_or]; exact ⟨ne_of_none e h, Ph.ng (φ := φ) n⟩)⟩⟩
theorem StOk.push (S : StOk G φ H B b st) (h : H p = none) (nt : ∀ xs, o ≠ .tup xs) : StOk G ⟨φ.l, p :: φ.g⟩ (upd H p o) B b st := by
  have nf := S.fresh h
  refine ⟨S.len, ?_, fun n u a e1 e2 => ?_, fun a m => ?_, S.le, S.top, S.wf⟩
  · obtain ⟨n1, n2, n3⟩ := List.nodup_append.mp S.nd
    refine List.nodup_append.mpr ⟨n1, List.nodup_cons.mpr ⟨Ph.ng nf, n2⟩, fun x hx y hy => ?_⟩
    rcases List.mem_cons.mp hy with e | hy
    · rw [e]; exact fun z => Ph.nl nf (z ▸ hx)
    · exact n3 x hx y hy
  · have q := S.ok n u a e1 e2
    obtain ⟨x, ex⟩ := q.any
    rw [upd_ne (ne_of_none ex h)]
    exact q.mono' (Las.push h)
  · rcases List.mem_cons.mp m with e | m
    · exact ⟨o, by rw [e]; exact upd_same, nt⟩
    · obtain ⟨u, e, nt⟩ := S.gh a m
      exact ⟨u, by rw [upd_ne (ne_of_none e h)]; exact e, nt⟩
/-- a ghost goes: a tree from now on -/
theorem Las.pop {l g : List Addr} {D : Addr} : Las ⟨l, D :: g⟩ H ⟨l, g⟩ H := ⟨⟨[], by simp⟩, fun a u e n => ⟨⟨u, e, .inl rfl⟩, Ph.not (Ph.nl (φ := ⟨l, D :: g⟩) n) fun z => Ph.ng (φ := ⟨l, D :: g⟩) n (List.mem_cons_of_mem _ z)⟩⟩
theorem StOk.pop {l g : List Addr} {D : Addr} (S : StOk G ⟨l, D :: g⟩ H B b st) : StOk G ⟨l, g⟩ H B b st ∧ D ∉ (⟨l, g⟩ : Ph) := by
  obtain ⟨n1, n2, n3⟩ := List.nodup_append.mp S.nd
  refine ⟨⟨S.len, List.nodup_append.mpr ⟨n1, (List.nodup_cons.mp n2).2, fun x hx y hy => n3 x hx y (List.mem_cons_of_mem _ hy)⟩, fun n u a e1 e2 => (S.ok n u a e1 e2).mono' Las.pop, fun a m => S.gh a (List.mem_cons_of_mem _ m), S.le, S.top, S.wf⟩, Ph.not (fun z => n3 D z D (List.mem_cons_self ..) rfl) (List.nodup_cons.mp n2).1⟩
/-- a ghost becomes an object that may change -/
theorem Las.live' {l g : List Addr} {D : Addr} : Las ⟨l, D :: g⟩ H ⟨l ++ [D], g⟩ H := ⟨⟨[D], rfl⟩, fun a u e n => ⟨⟨u, e, .inl rfl⟩, Ph.not (by
  simp only [List.mem_append, List.mem_singleton, not_or]
  exact ⟨Ph.nl (φ := ⟨l, D :: g⟩) n, fun z => Ph.ng (φ := ⟨l, D :: g⟩) n (by rw [z]; exact List.mem_cons_self ..)⟩) fun z => Ph.ng (φ := ⟨l, D :: g⟩) n (List.mem_cons_of_mem _ z)⟩⟩
theorem StOk.live' {u : U} {l g : List Addr} {D : Addr} (S : StOk G ⟨l, D :: g⟩ H B b st) (c : CO G ⟨l, D :: g⟩ H u (H D)) : StOk G ⟨l ++ [D], g⟩ H B b (st ++ [u]) := by
  obtain ⟨n1, n2, n3⟩ := List.nodup_append.mp S.nd
  have ln := S.len
  simp only at ln
  refine ⟨by simp [ln], ?_, fun n w a e1 e2 => ?_, fun a m => S.gh a (List.mem_cons_of_mem _ m), by have := S.le; simp; omega, S.top, fun c hc n w hn e m hm => ?_⟩
  · refine List.nodup_append.mpr ⟨List.nodup_append.mpr ⟨n1, by simp, fun x hx y hy => ?_⟩, (List.nodup_cons.mp n2).2, fun x hx y hy => ?_⟩
    · simp at hy; subst hy; exact n3 x hx y (List.mem_cons_self ..)
    · rcases List.mem_append.mp hx with hx | hx
      · exact n3 x hx y (List.mem_cons_of_mem _ hy)
      · simp at hx; subst hx; exact fun z => (List.nodup_cons.mp n2).1 (z ▸ hy)
  · by_cases hn : n < st.length
    · rw [List.getElem?_append_left hn] at e1
      simp only at e2
      rw [List.getElem?_append_left (by rw [ln]; exact hn)] at e2
      exact (S.ok n w a e1 e2).mono' Las.live'
    · have e : n = st.length := by
        have := (List.getElem?_eq_some_iff.mp e1).1
        simp at this; omega
      subst e
      rw [← ln] at e2
      simp at e1 e2
      subst e1; subst e2
      exact c.mono' Las.live'
  · have := S.top c hc
    have := S.le
    rw [List.getElem?_append_left (by omega)] at e
    exact S.wf c hc n w hn e m hm
theorem StOk.live {u : U} (S : StOk G φ H B b st) (h : H p = none) (c : CO G φ H u (some o)) : StOk G ⟨φ.l ++ [p], φ.g⟩ (upd H p o) B b (st ++ [u]) := by
  have nf := S.fresh h
  refine ⟨by simp [S.len], ?_, fun n w a e1 e2 => ?_, fun a m => ?_, by have := S.le; simp; omega, S.top, fun c hc n w hn e m hm => ?_⟩
  · obtain ⟨n1, n2, n3⟩ := List.nodup_append.mp S.nd
    refine List.nodup_append.mpr ⟨List.nodup_append.mpr ⟨n1, by simp, fun x hx y hy => ?_⟩, n2, fun x hx y hy => ?_⟩
    · simp at hy; subst hy; exact fun z => Ph.nl nf (z ▸ hx)
    · rcases List.mem_append.mp hx with hx | hx
      · exact n3 x hx y hy
      · simp at hx; subst hx; exact fun z => Ph.ng nf (z ▸ hy)
  · by_cases hn : n < st.length
    · rw [List.getElem?_append_left hn] at e1
      rw [List.getElem?_append_left (by rw [S.len]; exact hn)] at e2
      have q := S.ok n w a e1 e2
      obtain ⟨x, ex⟩ := q.any
      rw [upd_ne (ne_of_none ex h)]
      exact q.mono (Ext.live S h)
    · have e : n = st.length := by
        have := (List.getElem?_eq_some_iff.mp e1).1
        simp at this; omega
      subst e
      rw [← S.len] at e2
      simp at e1 e2
      subst e1; subst e2
      rw [upd_same]
      exact c.mono (Ext.live S h)
  · obtain ⟨u, e, nt⟩ := S.gh a m
    exact ⟨u, by rw [upd_ne (ne_of_none e h)]; exact e, nt⟩
  · have := S.top c hc
    have := S.le
    rw [List.getElem?_append_left (by omega)] at e
    exact S.wf c hc n w hn e m hm
/-- a tuple stands apart -/
theorem StOk.tupNot (S : StOk G φ H B b st) {xs : List V} (h : H a = some (.tup xs)) : a ∉ φ := fun z => by
  rcases z with z | z
  · obtain ⟨n, hn, rfl⟩ := List.getElem_of_mem z
    have q := S.ok n (st[n]'(by rw [← S.len]; exact hn)) _ (List.getElem?_eq_some_iff.mpr ⟨_, rfl⟩) (List.getElem?_eq_some_iff.mpr ⟨hn, rfl⟩)
    rw [h] at q
    generalize st[n]'(by rw [← S.len]; exact hn) = w at q
    cases w <;> simp only [CO] at q
    · obtain ⟨_, e, _⟩ := q; cases e
    · obtain ⟨_, ⟨_, ⟨_, _, e⟩ | ⟨_, _, _, e⟩⟩, _⟩ := q <;> cases e
    · obtain ⟨_, _, _, _, _, e, _⟩ := q; cases e
    · obtain ⟨_, _, _, e, _⟩ := q; cases e
  · obtain ⟨o, e, nt⟩ := S.gh _ z
    rw [h] at e; cases e
    exact nt xs rfl
/-- a tree's dict is locked -/
theorem StOk.lock {d : Addr} {od : Obj} (S : StOk G φ H B b st) (h : H d = some o) (hd : isDict o = true) (nd : d ∉ φ) : StOk G φ (upd H d (.frz od o)) B b st := ⟨S.len, S.nd, fun n u a e1 e2 => by
  have q := S.ok n u a e1 e2
  rw [upd_ne (show a ≠ d from fun z => nd (.inl (z ▸ List.mem_of_getElem? e2)))]
  exact q.mono (Ext.lock h hd nd), fun a m => by
  obtain ⟨u, e, nt⟩ := S.gh a m
  exact ⟨u, by rw [upd_ne (show a ≠ d from fun z => nd (.inr (z ▸ m)))]; exact e, nt⟩, S.le, S.top, S.wf⟩
/-- a write at a young object; or of nothing but trees -/
theorem StOk.set {n : Nat} {u : U} (S : StOk G φ H B b st) (e : φ.l[n]? = some a) (c : CO G φ H u (some o)) (hw : b ≤ n ∨ ∀ m, U.ref m ∈ u.elems → ∃ w, st[n]? = some w ∧ U.ref m ∈ w.elems) : StOk G φ (upd H a o) B b (st.set n u) := by
  have ha : a ∈ φ.l := List.mem_of_getElem? e
  refine ⟨by simp [S.len], S.nd, fun m w d e1 e2 => ?_, fun c m => ?_, by rw [List.length_set]; exact S.le, S.top, fun c hc m w hm e1 k hk => ?_⟩
  · by_cases hm : m = n
    · subst hm
      rw [e] at e2; cases e2
      rw [upd_same]
      rw [List.getElem?_set_self (by have := (List.getElem?_eq_some_iff.mp e).1; rw [S.len] at this; exact this)] at e1
      cases e1
      exact c.mono' (Las.set ha)
    · rw [List.getElem?_set_ne (Ne.symm hm)] at e1
      have hb : d ≠ a := fun z => by
        subst z
        obtain ⟨h1, z1⟩ := List.getElem?_eq_some_iff.mp e
        obtain ⟨h2, z2⟩ := List.getElem?_eq_some_iff.mp e2
        exact hm ((List.getElem_inj S.ndl).mp (z2.trans z1.symm))
      rw [upd_ne hb]
      exact (S.ok m w d e1 e2).mono' (Las.set ha)
  · obtain ⟨u, e, nt⟩ := S.gh c m
    exact ⟨u, by rw [upd_ne (show c ≠ a from fun z => S.lg ha (z ▸ m))]; exact e, nt⟩
  · by_cases hmn : m = n
    · subst hmn
      rw [List.getElem?_set_self (by have := (List.getElem?_eq_some_iff.mp e).1; rw [S.len] at this; exact this)] at e1
      cases e1
      rcases hw with z | z
      · have := S.top c hc; omega
      · obtain ⟨w, e3, e4⟩ := z k hk
        exact S.wf c hc m w hm e3 k e4
    · rw [List.getElem?_set_ne (Ne.symm hmn)] at e1
      exact S.wf c hc m w hm e1 k hk
end
end EV

set_option maxRecDepth 100000
/-! E1: results, what is wanted behind them, the lift of an evaluator's function to HandS's readings. -/
namespace EV
open PySem PySem.Spec PyProof.Rows L2

inductive Res (α : Type) where
  | stuck | ok (a : α) (st : List U) | exc (e : U) (st : List U)
def Res.bind {α β : Type} (r : Res α) (f : α → List U → Res β) : Res β :=
  match r with
  | .stuck => .stuck
  | .ok a st => f a st
  | .exc e st => .exc e st
def ofO {α : Type} : Option (α × List U) → Res α
  | none => .stuck
  | some (a, st) => .ok a st

/-- how an exception stands -/
def RX (G : Ge) (φ : Ph) (H : Hp) (e : U) (cls : Value) (d : Option Addr) : Prop :=
  ∃ c ns us C, e = .ins c ns us ∧ G.cls[c]? = some C ∧ cls = .ref C ∧ ((ns = [] ∧ us = [] ∧ d = none) ∨ ∃ dx xs, d = some dx ∧ dx ∉ φ ∧ ns.length = xs.length ∧ H dx = some (.xd (ns.zip xs)) ∧ RTs G φ H us xs)

abbrev XW := Value → Option Addr → Hp → Prop
def Post {α : Type} (G : Ge) (W : XW) (B : Nat → Prop) (b : Nat) (φ : Ph) (H : Hp) (r : Res α) (K : α → Ph → Hp → List U → Prop) : Prop :=
  match r with
  | .stuck => False
  | .ok u st => ∀ φ' H', Ext φ H φ' H' → StOk G φ' H' B b st → K u φ' H' st
  | .exc e st => ∀ φ' H' cls d, Ext φ H φ' H' → StOk G φ' H' B b st → RX G φ' H' e cls d → W cls d H'
def PostO {α : Type} (G : Ge) (B : Nat → Prop) (b : Nat) (φ : Ph) (H : Hp) (r : Option (α × List U)) (K : α → Ph → Hp → List U → Prop) : Prop :=
  match r with
  | none => False
  | some (u, st) => ∀ φ' H', Ext φ H φ' H' → StOk G φ' H' B b st → K u φ' H' st
section
variable {α β : Type} {G : Ge} {W : XW} {B : Nat → Prop} {b : Nat} {φ φ' : Ph} {H H' : Hp} {r : Res α} {K K' : α → Ph → Hp → List U → Prop}
theorem Post.ext (x : Ext φ H φ' H') (h : Post G W B b φ H r K) : Post G W B b φ' H' r K := by
  cases r with
  | stuck => exact h
  | ok u st => exact fun φ2 H2 y S => h φ2 H2 (x.trans y) S
  | exc e st => exact fun φ2 H2 c d y S => h φ2 H2 c d (x.trans y) S
theorem Post.imp (h : Post G W B b φ H r K) (i : ∀ u φ' H' st', Ext φ H φ' H' → StOk G φ' H' B b st' → K u φ' H' st' → K' u φ' H' st') : Post G W B b φ H r K' := by
  cases r with
  | stuck => exact h
  | ok u st => exact fun φ2 H2 y S => i _ _ _ _ y S (h φ2 H2 y S)
  | exc e st => exact h
theorem Post.bind {f : α → List U → Res β} {K : β → Ph → Hp → List U → Prop} (h : Post G W B b φ H (r.bind f) K) : Post G W B b φ H r fun u φ' H' st' => Post G W B b φ' H' (f u st') K := by
  cases r with
  | stuck => exact h
  | ok u st => exact fun φ2 H2 y S => Post.ext y h
  | exc e st => exact h
theorem Post.ofO {r : Option (α × List U)} (h : Post G W B b φ H (ofO r) K) : PostO G B b φ H r K := by
  cases r with
  | none => exact h
  | some p => exact h
theorem Post.okk {u : α} {st : List U} (h : Post G W B b φ H (.ok u st) K) (S : StOk G φ H B b st) : K u φ H st := h φ H .refl S
end

abbrev En := List (Option U)
/-- the slots -/
def StR (G : Ge) (φ : Ph) (H : Hp) (ρ : En) (σ : L2.St) : Prop := ρ.length = σ.length ∧ ∀ (i : Nat) (u : U), ρ[i]? = some (some u) → ∃ v, σ[i]? = some (some v) ∧ RV G φ H u v
theorem StR.mono {G : Ge} {φ φ' : Ph} {H H' : Hp} {ρ : En} {σ : L2.St} (x : Ext φ H φ' H') (h : StR G φ H ρ σ) : StR G φ' H' ρ σ := ⟨h.1, fun i u e => let ⟨v, a, r⟩ := h.2 i u e; ⟨v, a, r.mono x⟩⟩
theorem StR.set {G : Ge} {φ : Ph} {H : Hp} {ρ : En} {σ : L2.St} {u : U} {v : V} (h : StR G φ H ρ σ) (r : RV G φ H u v) (i : Nat) : StR G φ H (ρ.set i (some u)) (σ.set i (some v)) := by
  refine ⟨by simp [h.1], fun j w e => ?_⟩
  by_cases hj : j = i
  · subst hj
    have hl : j < ρ.length := by have := (List.getElem?_eq_some_iff.mp e).1; simpa using this
    rw [List.getElem?_set_self hl] at e
    cases e
    exact ⟨v, List.getElem?_set_self (by rw [← h.1]; exact hl), r⟩
  · rw [List.getElem?_set_ne (Ne.symm hj)] at e
    obtain ⟨x, a, q⟩ := h.2 j w e
    exact ⟨x, by rw [List.getElem?_set_ne (Ne.symm hj)]; exact a, q⟩
theorem StR.unset {G : Ge} {φ : Ph} {H : Hp} {ρ : En} {σ : L2.St} (h : StR G φ H ρ σ) (i : Nat) : StR G φ H (ρ.set i none) (σ.set i none) := by
  refine ⟨by simp [h.1], fun j w e => ?_⟩
  by_cases hj : j = i
  · subst hj
    have hl : j < ρ.length := by have := (List.getElem?_eq_some_iff.mp e).1; simpa using this
    rw [List.getElem?_set_self hl] at e
    cases e
  · rw [List.getElem?_set_ne (Ne.symm hj)] at e
    obtain ⟨x, a, q⟩ := h.2 j w e
    exact ⟨x, by rw [List.getElem?_set_ne (Ne.symm hj)]; exact a, q⟩

/-- an evaluator's function -/
abbrev Ev (α : Type) := Nat → En → List U → Res α
section
variable (G : Ge) (W : WX)
def lift (f : Ev U) : TE := fun σ H Q => ∃ φ st ρ B b, StR G φ H ρ σ ∧ StOk G φ H B b st ∧ Post G (fun c d H => W c d σ H) B b φ H (f b ρ st) fun u φ' H' _ => ∀ v, RV G φ' H' u v → Q v H'
def liftT (f : Ev Bool) : TT := fun σ H Q => ∃ φ st ρ B b, StR G φ H ρ σ ∧ StOk G φ H B b st ∧ Post G (fun c d H => W c d σ H) B b φ H (f b ρ st) fun u φ' H' _ => Q u H'
def liftA (f : Ev (List U)) : TA := fun σ H Q => ∃ φ st ρ B b, StR G φ H ρ σ ∧ StOk G φ H B b st ∧ Post G (fun c d H => W c d σ H) B b φ H (f b ρ st) fun us φ' H' _ => ∀ vs, RVs G φ' H' us vs → Q vs H'
end
theorem PEi {X : Cx} {e : Expr} {t t' : TE} (h : PE X e t) (i : ∀ σ H Q, t' σ H Q → t σ H Q) : PE X e t' := ⟨fun pins s σ H Q I q => h.run pins s σ H Q I (i _ _ _ q)⟩
theorem PTi {X : Cx} {e : Expr} {t t' : TT} (h : PT X e t) (i : ∀ σ H Q, t' σ H Q → t σ H Q) : PT X e t' := ⟨fun pins s σ H Q I q => h.run pins s σ H Q I (i _ _ _ q)⟩
theorem PWi {X : Cx} {e : Expr} {t t' : TT} (h : PW X e t) (i : ∀ σ H Q, t' σ H Q → t σ H Q) : PW X e t' := ⟨fun whole pins s σ H Q I q => h.run whole pins s σ H Q I (i _ _ _ q)⟩
theorem PAi {X : Cx} {e : List Expr} {t t' : TA} (h : PA X e t) (i : ∀ σ H Q, t' σ H Q → t σ H Q) : PA X e t' := ⟨fun pos pins s σ H Q I q => h.run pos pins s σ H Q I (i _ _ _ q)⟩
theorem PSi {X : Cx} {e : Stmt} {t t' : TS} (h : PS X e t) (i : ∀ D σ H, t' D σ H → t D σ H) : PS X e t' := ⟨fun pins s σ H D I q => h.run pins s σ H D I (i _ _ _ q)⟩
theorem PSsi {X : Cx} {e : List Stmt} {t t' : TS} (h : PSs X e t) (i : ∀ D σ H, t' D σ H → t D σ H) : PSs X e t' := ⟨fun pins s σ H D I q => h.run pins s σ H D I (i _ _ _ q)⟩

section
variable {G : Ge} {W : WX} {X : Cx} {a c e : Expr} {fa fb fc : Ev U} {pos : Pos}
variable {σ : L2.St} {H : Hp} {Q : VK}
/-- .. of a bind, from the left -/
theorem lift_bind {f : U → Ev U} (h : lift G W (fun b ρ st => (fa b ρ st).bind fun x st1 => f x b ρ st1) σ H Q) :
    lift G W fa σ H fun v H1 => ∃ φ st ρ B b u, StR G φ H1 ρ σ ∧ StOk G φ H1 B b st ∧ RV G φ H1 u v ∧ Post G (fun c d H => W c d σ H) B b φ H1 (f u b ρ st) fun u φ' H' _ => ∀ v, RV G φ' H' u v → Q v H' := by
  obtain ⟨φ, st, ρ, B, b, R, S, P⟩ := h
  exact ⟨φ, st, ρ, B, b, R, S, P.bind.imp fun u φ' H' st' x S' q v r => ⟨φ', st', ρ, B, b, u, R.mono x, S', r, q⟩⟩
/-! ### names, constants -/
def eVar (i : Nat) : Ev U := fun _ ρ st => match ρ[i]? with
  | some (some u) => .ok u st
  | _ => .stuck
theorem s_var {i : Nat} {x : Str} (hN : X.N[i]? = some x) (hv : Vis X.env.scope x) (hd : (x == ("__debug__" : Str)) = false) (hcd : (x == ("__classdict__" : Str)) = false) : PE X (.Name x pos) (lift G W (eVar i)) :=
  PEi (pe_var hN hv hd hcd) fun σ H Q ⟨φ, st, ρ, B, b, R, S, P⟩ => by
    unfold eVar at P
    split at P
    · rename_i u e
      obtain ⟨v, e2, r⟩ := R.2 i u e
      exact ⟨v, e2, P.okk S v r⟩
    · exact P.elim
def eC (u : U) : Ev U := fun _ _ st => .ok u st
/-- a constant: a value that stands everywhere -/
theorem s_con {u : U} {v : V} (h : PE X e (tC v)) (r : ∀ φ H, RT G φ H u v) : PE X e (lift G W (eC u)) :=
  PEi h fun σ H Q ⟨φ, st, ρ, B, b, R, S, P⟩ => P.okk S v (r φ H).rv
/-! ### two-place operations -/
abbrev Pr2 := Nat → U → U → List U → Option (U × List U)
def e2 (p : Pr2) (fa fb : Ev U) : Ev U := fun b ρ st => (fa b ρ st).bind fun x st1 => (fb b ρ st1).bind fun y st2 => ofO (p b x y st2)
def r2 (G : Ge) (p : Pr2) : R2 := fun x y H Q => ∃ φ st B b u w, StOk G φ H B b st ∧ RV G φ H u x ∧ RV G φ H w y ∧ PostO G B b φ H (p b u w st) fun u φ' H' _ => ∀ v, RV G φ' H' u v → Q v H'
theorem s_e2 {p : Pr2} (h : lift G W (e2 p fa fb) σ H Q) : tOp (r2 G p) (lift G W fa) (lift G W fb) σ H Q := by
  obtain ⟨φ, st, ρ, B, b, R, S, P⟩ := h
  refine ⟨φ, st, ρ, B, b, R, S, P.bind.imp fun u φ1 H1 st1 x1 S1 q v r => ?_⟩
  exact ⟨φ1, st1, ρ, B, b, R.mono x1, S1, q.bind.imp fun w φ2 H2 st2 x2 S2 q2 y r2 => ⟨φ2, st2, B, b, u, w, S2, r.mono x2, r2, q2.ofO⟩⟩
theorem s_bin {op : Operator} {p : Pr2} (ho : OpR X (binaryOp op) (r2 G p)) (ha : PE X a (lift G W fa)) (hb : PE X c (lift G W fb)) : PE X (.BinOp a op c pos) (lift G W (e2 p fa fb)) :=
  PEi (pe_op ho ha hb) fun _ _ _ h => s_e2 h
theorem s_cmp {op : CmpOp} {p : Pr2} (ho : OpR X (compareOp op) (r2 G p)) (ha : PE X a (lift G W fa)) (hb : PE X c (lift G W fb)) (hm : behindInMarks op c = false) : PE X (.Compare a [op] [c] pos) (lift G W (e2 p fa fb)) :=
  PEi (pe_cmpR ho ha hb hm) fun _ _ _ h => s_e2 h
abbrev Pr1 := Nat → U → List U → Option (U × List U)
def e1 (p : Pr1) (fa : Ev U) : Ev U := fun b ρ st => (fa b ρ st).bind fun x st1 => ofO (p b x st1)
def r1 (G : Ge) (p : Pr1) : V → Hp → VK → Prop := fun x H Q => ∃ φ st B b u, StOk G φ H B b st ∧ RV G φ H u x ∧ PostO G B b φ H (p b u st) fun u φ' H' _ => ∀ v, RV G φ' H' u v → Q v H'
theorem s_e1 {p : Pr1} (h : lift G W (e1 p fa) σ H Q) : tUn (r1 G p) (lift G W fa) σ H Q := by
  obtain ⟨φ, st, ρ, B, b, R, S, P⟩ := h
  exact ⟨φ, st, ρ, B, b, R, S, P.bind.imp fun u φ1 H1 st1 x1 S1 q v r => ⟨φ1, st1, B, b, u, S1, r, q.ofO⟩⟩
theorem s_un {op : UnaryOp} {p : Pr1} (ho : UnR X (unaryOp op) (r1 G p)) (ha : PE X a (lift G W fa)) : PE X (.UnaryOp op a pos) (lift G W (e1 p fa)) :=
  PEi (pe_un ho ha) fun _ _ _ h => s_e1 h
/-! ### and, or, not; tests -/
def U.bool? : U → Option Bool
  | .bl c => some c
  | _ => none
def eBool (f : Ev U) (g : Bool → Ev U) : Ev U := fun b ρ st => (f b ρ st).bind fun x st1 => match x with
  | .bl c => g c b ρ st1
  | _ => .stuck
def eAnd (fa fb : Ev U) : Ev U := eBool fa fun c => if c = true then fb else eC (.bl false)
def eOr (fa fb : Ev U) : Ev U := eBool fa fun c => if c = true then eC (.bl true) else fb
def eNot (fa : Ev U) : Ev U := eBool fa fun c => eC (.bl (!c))
theorem RT.bl_ {φ : Ph} {c : Bool} {v : V} (h : RT G φ H (.bl c) v) : v = .bl c := by unfold RT at h; exact h
theorem RV.bl_ {φ : Ph} {c : Bool} {v : V} (h : RV G φ H (.bl c) v) : v = .bl c := (h.rt rfl).bl_
theorem rt_bl {φ : Ph} {H : Hp} {c : Bool} : RT G φ H (.bl c) (.bl c) := by unfold RT; rfl
theorem rt_int {φ : Ph} {H : Hp} {i : Int} : RT G φ H (.int i) (.int i) := by unfold RT; rfl
theorem rt_str {φ : Ph} {H : Hp} {x : Str} : RT G φ H (.str x) (.str x) := by unfold RT; rfl
theorem rt_non {φ : Ph} {H : Hp} : RT G φ H .non .non := by unfold RT; rfl
theorem s_eBool {g : Bool → Ev U} (h : lift G W (eBool fa g) σ H Q) : lift G W fa σ H fun x H1 => ∃ c, x = .bl c ∧ lift G W (g c) σ H1 Q := by
  obtain ⟨φ, st, ρ, B, b, R, S, P⟩ := h
  refine ⟨φ, st, ρ, B, b, R, S, P.bind.imp fun u φ1 H1 st1 x1 S1 q v r => ?_⟩
  cases u with
  | bl c => exact ⟨c, r.bl_, φ1, st1, ρ, B, b, R.mono x1, S1, q⟩
  | _ => exact q.elim
theorem lift_eC {u : U} {v : V} (h : lift G W (eC u) σ H Q) (r : ∀ φ H, RT G φ H u v) : Q v H := by
  obtain ⟨φ, st, ρ, B, b, R, S, P⟩ := h
  exact P.okk S v (r φ H).rv
theorem s_and {rest : List Expr} (ha : PE X a (lift G W fa)) (hb : PE X (.BoolOp .And (c :: rest) pos) (lift G W fb)) : PE X (.BoolOp .And (a :: c :: rest) pos) (lift G W (eAnd fa fb)) :=
  PEi (pe_and ha hb) fun σ H Q h => by
    refine (show lift G W fa σ H _ from ?_)
    obtain ⟨φ, st, ρ, B, b, R, S, P⟩ := s_eBool h
    refine ⟨φ, st, ρ, B, b, R, S, P.imp fun u φ' H' st' x' S' q v r => ?_⟩
    obtain ⟨k, e, q⟩ := q v r
    refine ⟨k, e, ?_⟩
    cases k with
    | true => rw [if_pos rfl] at q ⊢; exact q
    | false => rw [if_neg (by decide)] at q ⊢; exact lift_eC q fun _ _ => rt_bl
theorem s_or {rest : List Expr} (ha : PE X a (lift G W fa)) (hb : PE X (.BoolOp .Or (c :: rest) pos) (lift G W fb)) : PE X (.BoolOp .Or (a :: c :: rest) pos) (lift G W (eOr fa fb)) :=
  PEi (pe_or ha hb) fun σ H Q h => by
    refine (show lift G W fa σ H _ from ?_)
    obtain ⟨φ, st, ρ, B, b, R, S, P⟩ := s_eBool h
    refine ⟨φ, st, ρ, B, b, R, S, P.imp fun u φ' H' st' x' S' q v r => ?_⟩
    obtain ⟨k, e, q⟩ := q v r
    refine ⟨k, e, ?_⟩
    cases k with
    | false => rw [if_neg (by decide)] at q ⊢; exact q
    | true => rw [if_pos rfl] at q ⊢; exact lift_eC q fun _ _ => rt_bl
theorem s_not (ha : PE X a (lift G W fa)) : PE X (.UnaryOp .Not a pos) (lift G W (eNot fa)) :=
  PEi (pe_not ha) fun σ H Q h => by
    refine (show lift G W fa σ H _ from ?_)
    obtain ⟨φ, st, ρ, B, b, R, S, P⟩ := s_eBool h
    refine ⟨φ, st, ρ, B, b, R, S, P.imp fun u φ' H' st' x' S' q v r => ?_⟩
    obtain ⟨k, e, q⟩ := q v r
    exact ⟨k, e, lift_eC q fun _ _ => rt_bl⟩
/-- a test -/
def tIfE (t : Ev Bool) (fa fb : Ev U) : Ev U := fun b ρ st => (t b ρ st).bind fun c st1 => if c = true then fa b ρ st1 else fb b ρ st1
theorem s_ifExp {tc : Ev Bool} {d : Expr} (hc : PT X d (liftT G W tc)) (ha : PE X a (lift G W fa)) (hb : PE X c (lift G W fb)) : PE X (.IfExp d a c pos) (lift G W (tIfE tc fa fb)) :=
  PEi (pe_ifExp hc ha hb) fun σ H Q ⟨φ, st, ρ, B, b, R, S, P⟩ => by
    refine ⟨φ, st, ρ, B, b, R, S, P.bind.imp fun k φ' H' st' x' S' q => ?_⟩
    cases k with
    | true => rw [if_pos rfl] at q ⊢; exact ⟨φ', st', ρ, B, b, R.mono x', S', q⟩
    | false => rw [if_neg (by decide)] at q ⊢; exact ⟨φ', st', ρ, B, b, R.mono x', S', q⟩
def eTAnd (t u : Ev Bool) : Ev Bool := fun b ρ st => (t b ρ st).bind fun c st1 => if c = true then u b ρ st1 else .ok false st1
def eTOr (t u : Ev Bool) : Ev Bool := fun b ρ st => (t b ρ st).bind fun c st1 => if c = true then .ok true st1 else u b ρ st1
def eTNot (t : Ev Bool) : Ev Bool := fun b ρ st => (t b ρ st).bind fun c st1 => .ok (!c) st1
variable {ta tb : Ev Bool}
theorem s_tand1 (ha : PT X a (liftT G W ta)) : PW X (.BoolOp .And [a] pos) (liftT G W ta) := pw_and1 ha
theorem s_tor1 (ha : PT X a (liftT G W ta)) : PW X (.BoolOp .Or [a] pos) (liftT G W ta) := pw_or1 ha
theorem s_tand {rest : List Expr} (ha : PT X a (liftT G W ta)) (hb : PW X (.BoolOp .And (c :: rest) pos) (liftT G W tb)) : PW X (.BoolOp .And (a :: c :: rest) pos) (liftT G W (eTAnd ta tb)) :=
  PWi (pw_and ha hb) fun σ H Q ⟨φ, st, ρ, B, b, R, S, P⟩ => by
    refine ⟨φ, st, ρ, B, b, R, S, P.bind.imp fun k φ' H' st' x' S' q => ?_⟩
    cases k with
    | true => rw [if_pos rfl] at q ⊢; exact ⟨φ', st', ρ, B, b, R.mono x', S', q⟩
    | false => rw [if_neg (by decide)] at q ⊢; exact q.okk S'
theorem s_tor {rest : List Expr} (ha : PT X a (liftT G W ta)) (hb : PW X (.BoolOp .Or (c :: rest) pos) (liftT G W tb)) : PW X (.BoolOp .Or (a :: c :: rest) pos) (liftT G W (eTOr ta tb)) :=
  PWi (pw_or ha hb) fun σ H Q ⟨φ, st, ρ, B, b, R, S, P⟩ => by
    refine ⟨φ, st, ρ, B, b, R, S, P.bind.imp fun k φ' H' st' x' S' q => ?_⟩
    cases k with
    | false => rw [if_neg (by decide)] at q ⊢; exact ⟨φ', st', ρ, B, b, R.mono x', S', q⟩
    | true => rw [if_pos rfl] at q ⊢; exact q.okk S'
theorem s_tnot (ha : PT X a (liftT G W ta)) : PT X (.UnaryOp .Not a pos) (liftT G W (eTNot ta)) :=
  PTi (pt_not ha) fun σ H Q ⟨φ, st, ρ, B, b, R, S, P⟩ => ⟨φ, st, ρ, B, b, R, S, P.bind.imp fun k φ' H' st' x' S' q => q.okk S'⟩
/-- a value's truth -/
def truth (u : U) (st : List U) : Option Bool := match u with
  | .non => some false
  | .bl c => some c
  | .int i => some (i != 0)
  | .lst us => some !us.isEmpty
  | .tup us => some !us.isEmpty
  | .ref n => match st[n]? with
    | some (.lst us) => some !us.isEmpty
    | _ => none
  | .fl us => some !us.isEmpty
  | _ => none
def eTest (f : Ev U) : Ev Bool := fun b ρ st => (f b ρ st).bind fun x st1 => match truth x st1 with
  | some c => .ok c st1
  | none => .stuck
theorem isEmpty_len {α β : Type} {F : α → β → Prop} {xs : List α} {ys : List β} (p : Paired F xs ys) : xs.isEmpty = ys.isEmpty := by cases p <;> rfl
theorem RVs.len {φ : Ph} {us : List U} {vs : List V} (h : RVs G φ H us vs) : us.length = vs.length := Paired.length h
theorem rt_lst {φ : Ph} {us : List U} {v : V} (h : RT G φ H (.lst us) v) : ∃ a xs, v = .ref a ∧ a ∉ φ ∧ H a = some (.lst xs) ∧ RTs G φ H us xs := by unfold RT at h; exact h
theorem rt_tup {φ : Ph} {us : List U} {v : V} (h : RT G φ H (.tup us) v) : ∃ a xs, v = .ref a ∧ a ∉ φ ∧ H a = some (.tup xs) ∧ RTs G φ H us xs := by unfold RT at h; exact h
theorem rt_fl {φ : Ph} {us : List U} {v : V} (hK : X.K = G.K) (h : RT G φ H (.fl us) v) : ∃ a xs, v = .ref a ∧ SqL X.K H a xs ∧ RTs G φ H us xs := by
  unfold RT at h
  obtain ⟨a, xs, e, d, r⟩ := h
  refine ⟨a, xs, e, ?_, r⟩
  rcases d with ⟨_, d⟩ | d
  · exact .inl d
  · rw [hK]; exact .inr d
theorem rt_ft {φ : Ph} {us : List U} {v : V} (hK : X.K = G.K) (h : RT G φ H (.ft us) v) : ∃ a xs, v = .ref a ∧ SqT X.K H a xs ∧ RTs G φ H us xs := by
  unfold RT at h
  obtain ⟨a, xs, e, d, r⟩ := h
  exact ⟨a, xs, e, by rw [hK]; exact .inr d, r⟩
theorem rt_dct {φ : Ph} {ks : List KK} {us : List U} {v : V} (h : RT G φ H (.dct ks us) v) : ∃ a xs o, v = .ref a ∧ a ∉ φ ∧ DO ks xs (some o) ∧ Rd H a o ∧ RTs G φ H us xs := by unfold RT at h; exact h
theorem rt_ins {φ : Ph} {c : Nat} {ns : List Str} {us : List U} {v : V} (h : RT G φ H (.ins c ns us) v) : ∃ a C dx xs, v = .ref a ∧ a ∉ φ ∧ G.cls[c]? = some C ∧ ns.length = xs.length ∧ H a = some (.ins C dx (ns.zip xs)) ∧ RTs G φ H us xs := by unfold RT at h; exact h
theorem rt_int' {φ : Ph} {i : Int} {v : V} (h : RT G φ H (.int i) v) : v = .int i := by unfold RT at h; exact h
theorem rt_str' {φ : Ph} {i : Str} {v : V} (h : RT G φ H (.str i) v) : v = .str i := by unfold RT at h; exact h
theorem rt_non' {φ : Ph} {v : V} (h : RT G φ H .non v) : v = .non := by unfold RT at h; exact h
theorem RV.int_ {φ : Ph} {i : Int} {v : V} (h : RV G φ H (.int i) v) : v = .int i := rt_int' (h.rt rfl)
theorem RV.str_ {φ : Ph} {i : Str} {v : V} (h : RV G φ H (.str i) v) : v = .str i := rt_str' (h.rt rfl)
theorem RV.non_ {φ : Ph} {v : V} (h : RV G φ H .non v) : v = .non := rt_non' (h.rt rfl)
theorem rv_ref {φ : Ph} {n : Nat} {v : V} {B : Nat → Prop} {b : Nat} {st : List U} {u : U} (S : StOk G φ H B b st) (h : RV G φ H (.ref n) v) (e : st[n]? = some u) : ∃ a, v = .ref a ∧ φ.l[n]? = some a ∧ a ∈ φ ∧ CO G φ H u (H a) := by
  rcases h with ⟨m, a, e1, e2, e3⟩ | h
  · cases e1
    obtain ⟨a', h1, h2, h3⟩ := S.at e
    rw [e2] at h1; cases h1
    exact ⟨a, e3, e2, .inl h2, h3⟩
  · exact absurd h.nref (by simp [U.isRef])
theorem truth_ok {φ : Ph} {B : Nat → Prop} {b : Nat} {st : List U} {u : U} {v : V} {k : Bool} (hK : X.K = G.K) (S : StOk G φ H B b st) (r : RV G φ H u v) (e : truth u st = some k) : TruV X.K v H k := by
  cases u with
  | non => have := r.rt rfl; unfold RT at this; subst this; exact (Option.some.inj e).symm
  | bl c => have := r.bl_; subst this; exact (Option.some.inj e).symm
  | int i => have := r.rt rfl; unfold RT at this; subst this; exact (Option.some.inj e).symm
  | lst us =>
    obtain ⟨a, xs, rfl, _, h, r⟩ := rt_lst (r.rt rfl)
    exact .inl ⟨xs, .of h, by rw [← isEmpty_len r.pr]; exact (Option.some.inj e).symm⟩
  | tup us =>
    obtain ⟨a, xs, rfl, _, h, r⟩ := rt_tup (r.rt rfl)
    exact .inr (.inl ⟨xs, .of h, by rw [← isEmpty_len r.pr]; exact (Option.some.inj e).symm⟩)
  | fl us =>
    obtain ⟨a, xs, rfl, h, r⟩ := rt_fl (X := X) hK (r.rt rfl)
    exact .inl ⟨xs, h, by rw [← isEmpty_len r.pr]; exact (Option.some.inj e).symm⟩
  | ref n =>
    simp only [truth] at e
    split at e
    · rename_i us eu
      obtain ⟨a, rfl, _, _, c⟩ := rv_ref S r eu
      obtain ⟨xs, c, r2⟩ := c
      exact .inl ⟨xs, .of c, by rw [← isEmpty_len r2]; exact (Option.some.inj e).symm⟩
    · cases e
  | _ => simp [truth] at e
theorem s_test (hK : X.K = G.K) (ha : PE X a (lift G W fa)) (he : ∀ whole, isTrue a X.env whole = (do let v ← whole; standAt a.pos; holding [v] (truthy v))) : PT X a (liftT G W (eTest fa)) := by
  refine PTi (pt_truth ha he) fun σ H Q h => ?_
  obtain ⟨φ, st, ρ, B, b, R, S, P⟩ := h
  refine ⟨φ, st, ρ, B, b, R, S, P.bind.imp fun u φ' H' st' x' S' q v r => ?_⟩
  cases e : truth u st' with
  | none => rw [e] at q; exact q.elim
  | some k => rw [e] at q; exact ⟨k, truth_ok hK S' r e, q.okk S'⟩
def eTB (f : Ev U) : Ev Bool := fun b ρ st => (f b ρ st).bind fun x st1 => match x with
  | .bl c => .ok c st1
  | _ => .stuck
theorem s_tcmp {op : CmpOp} {p : Pr2} (ho : OpR X (compareOp op) (r2 G p)) (ha : PE X a (lift G W fa)) (hb : PE X c (lift G W fb)) (hm : behindInMarks op c = false) : PT X (.Compare a [op] [c] pos) (liftT G W (eTB (e2 p fa fb))) := by
  refine PTi (pt_cmpR ho ha hb hm) fun σ H Q h => ?_
  have h2 : lift G W (e2 p fa fb) σ H fun x H' => ∃ k, x = .bl k ∧ Q k H' := by
    obtain ⟨φ, st, ρ, B, b, R, S, P⟩ := h
    refine ⟨φ, st, ρ, B, b, R, S, P.bind.imp fun u φ' H' st' x' S' q v r => ?_⟩
    cases u with
    | bl k => exact ⟨k, r.bl_, q.okk S'⟩
    | _ => exact q.elim
  exact s_e2 h2
end
end EV

set_option maxRecDepth 100000
/-! E2: argument lists, displays, calls of built-ins and methods, subscripts, slices. -/
namespace EV
open PySem PySem.Spec PyProof.Rows L2

/-- a new object: a tree, or one that may change -/
def mk (live : Bool) (head : List U → U) (us : List U) (st : List U) : Option (U × List U) :=
  if live = true then some (.ref st.length, st ++ [head us]) else if noref us = true then some (head us, st) else none

section
variable {G : Ge} {W : WX} {X : Cx} {a c e : Expr} {es : List Expr} {fa fb fc : Ev U} {fs : Ev (List U)} {pos : Pos}
variable {σ : L2.St} {H : Hp} {Q : VK} {φ : Ph} {B : Nat → Prop} {b : Nat} {st : List U}
/-- what a new object of a head must be -/
structure HeadOk (G : Ge) (head : List U → U) (o : List V → HO) (n : Nat) : Prop where
  tree : ∀ {φ H us vs a}, us.length = n → RTs G φ H us vs → a ∉ φ → H a = some (o vs) → RT G φ H (head us) (.ref a)
  live : ∀ {φ H us vs}, us.length = n → RVs G φ H us vs → CO G φ H (head us) (some (o vs))
theorem head_lst {n : Nat} : HeadOk G .lst HO.lst n := ⟨fun {φ H us vs a} _ r n e => by unfold RT; exact ⟨a, vs, rfl, n, e, r⟩, fun {φ H us vs} _ r => ⟨vs, rfl, r⟩⟩
/-- the new object has come -/
theorem mk_ok {live : Bool} {head : List U → U} {o : List V → HO} {us : List U} {vs : List V} {p : Addr} {K : U → Ph → Hp → List U → Prop} (h : HeadOk G head o us.length)
    (S : StOk G φ H B b st) (r : RVs G φ H us vs) (P : PostO G B b φ H (mk live head us st) K) (hp : H p = none) :
    ∃ φ' u st', Ext φ H φ' (upd H p (o vs)) ∧ StOk G φ' (upd H p (o vs)) B b st' ∧ RV G φ' (upd H p (o vs)) u (.ref p) ∧ K u φ' (upd H p (o vs)) st' := by
  unfold mk at P
  split at P
  · have x : Ext φ H ⟨φ.l ++ [p], φ.g⟩ (upd H p (o vs)) := Ext.live S hp
    have S' := S.live hp (h.live rfl r)
    exact ⟨_, _, _, x, S', .inl ⟨st.length, p, rfl, by rw [← S.len]; simp, rfl⟩, P _ _ x S'⟩
  · split at P
    · rename_i n
      have x : Ext φ H φ (upd H p (o vs)) := Ext.alloc S hp
      have S' := S.alloc (o := o vs) hp
      refine ⟨_, _, _, x, S', .inr (h.tree rfl (RTs.mono x.keep _ _ (r.rts n)) (S.fresh hp) upd_same), P _ _ x S'⟩
    · exact P.elim
/-- .. and is handed on -/
theorem mk_fin {live : Bool} {head : List U → U} {o : List V → HO} {us : List U} {vs : List V} (h : HeadOk G head o us.length)
    (S : StOk G φ H B b st) (r : RVs G φ H us vs) (P : PostO G B b φ H (mk live head us st) fun u φ' H' _ => ∀ v, RV G φ' H' u v → Q v H') (p : Addr) (hp : H p = none) : Q (.ref p) (upd H p (o vs)) :=
  let ⟨_, _, _, _, _, r', q⟩ := mk_ok h S r P hp
  q _ r'
/-! ### argument lists -/
def eNil : Ev (List U) := fun _ _ st => .ok [] st
def eCons (fa : Ev U) (fs : Ev (List U)) : Ev (List U) := fun b ρ st => (fa b ρ st).bind fun x st1 => (fs b ρ st1).bind fun xs st2 => .ok (x :: xs) st2
theorem s_nil : PA X [] (liftA G W eNil) := PAi pa_nil fun σ H Q ⟨φ, st, ρ, B, b, R, S, P⟩ => P.okk S [] .nil
theorem s_cons (ha : PE X a (lift G W fa)) (hr : PA X es (liftA G W fs)) (hs : starEach (a :: es) X.env = (false, eval a X.env) :: starEach es X.env) : PA X (a :: es) (liftA G W (eCons fa fs)) :=
  PAi (pa_cons ha hr hs) fun σ H Q ⟨φ, st, ρ, B, b, R, S, P⟩ =>
    ⟨φ, st, ρ, B, b, R, S, P.bind.imp fun u φ1 H1 st1 x1 S1 q v r => ⟨φ1, st1, ρ, B, b, R.mono x1, S1, q.bind.imp fun us φ2 H2 st2 x2 S2 q2 vs rs =>
      q2.okk S2 _ (.cons (r.mono x2) rs)⟩⟩
abbrev PrA := Nat → List U → List U → Option (U × List U)
def eA (p : PrA) (fs : Ev (List U)) : Ev U := fun b ρ st => (fs b ρ st).bind fun xs st1 => ofO (p b xs st1)
def rA (G : Ge) (p : PrA) : List V → Hp → VK → Prop := fun xs H Q => ∃ φ st B b us, StOk G φ H B b st ∧ RVs G φ H us xs ∧ PostO G B b φ H (p b us st) fun u φ' H' _ => ∀ v, RV G φ' H' u v → Q v H'
theorem s_eA {p : PrA} (h : lift G W (eA p fs) σ H Q) : liftA G W fs σ H fun vs H1 => rA G p vs H1 Q := by
  obtain ⟨φ, st, ρ, B, b, R, S, P⟩ := h
  exact ⟨φ, st, ρ, B, b, R, S, P.bind.imp fun us φ1 H1 st1 x1 S1 q vs r => ⟨φ1, st1, B, b, us, S1, r, q.ofO⟩⟩
/-- f(e, ..), a built-in function; a built-in type -/
theorem s_callB {id : String} {x : Str} {p : PrA} {np : Pos} (hc : CallR X (.builtin id) (rA G p)) (hg : Gl X x) (hm : X.mg x = none) (hv : bootBuiltins x = some (.builtin id)) (ha : PA X (e :: es) (liftA G W fs)) (hn : x ≠ "__name__") (hdb : (x == ("__debug__" : Str)) = false)
    (he : starEach (e :: es) X.env = (false, eval e X.env) :: starEach es X.env) (hpl : (backTo pos (starEach es X.env)).any (·.1) = false) : PE X (.Call (.Name x np) (e :: es) [] pos) (lift G W (eA p fs)) :=
  PEi (pe_callB hc hg hm hv ha hn hdb he hpl) fun _ _ _ h => s_eA h
theorem s_callTy {id : String} {x : Str} {p : PrA} {np : Pos} (hc : CallR X (.type id) (rA G p)) (hg : Gl X x) (hm : X.mg x = none) (hv : bootBuiltins x = some (.type id)) (ha : PA X (e :: es) (liftA G W fs)) (hn : x ≠ "__name__") (hdb : (x == ("__debug__" : Str)) = false)
    (he : starEach (e :: es) X.env = (false, eval e X.env) :: starEach es X.env) (hpl : (backTo pos (starEach es X.env)).any (·.1) = false) : PE X (.Call (.Name x np) (e :: es) [] pos) (lift G W (eA p fs)) :=
  PEi (pe_callTy hc hg hm hv ha hn hdb he hpl) fun _ _ _ h => s_eA h
/-! ### displays -/
def eTup (fs : Ev (List U)) : Ev U := fun b ρ st => (fs b ρ st).bind fun us st1 => if noref us = true ∧ us.length ≤ sizeLine then .ok (.tup us) st1 else .stuck
theorem s_tup {k : Nat} (h : PA X es (liftA G W fs)) : PE X (.Tuple es k pos) (lift G W (eTup fs)) :=
  PEi (pe_tup h) fun σ H Q ⟨φ, st, ρ, B, b, R, S, P⟩ => by
    refine ⟨φ, st, ρ, B, b, R, S, P.bind.imp fun us φ1 H1 st1 x1 S1 q vs r => ?_⟩
    split at q
    · rename_i n
      refine ⟨by rw [← r.len]; exact n.2, fun p hp => ?_⟩
      have x2 : Ext φ1 H1 φ1 (upd H1 p (.tup vs)) := Ext.alloc S1 hp
      refine q φ1 _ x2 (S1.alloc hp) _ (RT.rv ?_)
      unfold RT
      exact ⟨p, vs, rfl, S1.fresh hp, upd_same, RTs.mono x2.keep _ _ (r.rts n.1)⟩
    · exact q.elim
def eLst (live : Bool) (fs : Ev (List U)) : Ev U := fun b ρ st => (fs b ρ st).bind fun us st1 => if us.length ≤ sizeLine then ofO (mk live .lst us st1) else .stuck
theorem s_lst {live : Bool} (h : PA X es (liftA G W fs)) : PE X (.List es pos) (lift G W (eLst live fs)) :=
  PEi (pe_lst h) fun σ H Q ⟨φ, st, ρ, B, b, R, S, P⟩ => by
    refine ⟨φ, st, ρ, B, b, R, S, P.bind.imp fun us φ1 H1 st1 x1 S1 q vs r => ?_⟩
    split at q
    · rename_i n
      exact ⟨by rw [← r.len]; exact n, fun p hp => mk_fin head_lst S1 r q.ofO p hp⟩
    · exact q.elim
/-! ### a[b] -/
theorem s_ix {p : Pr2} (hr : IxR X (r2 G p)) (ha : PE X a (lift G W fa)) (hb : PE X c (lift G W fb)) (hs : PlainIx c) : PE X (.Subscript a c pos) (lift G W (e2 p fa fb)) :=
  PEi (pe_ix hr ha hb hs) fun _ _ _ h => s_e2 h
/-! ### a[lo:hi] -/
def U.int? : U → Option Int
  | .int i => some i
  | _ => none
abbrev Part := Option (Ev U)
def ePart : Part → Ev (Option Int)
  | none => fun _ _ st => .ok none st
  | some f => fun b ρ st => (f b ρ st).bind fun x st1 => match x with
    | .int i => .ok (some i) st1
    | _ => .stuck
def liftO (G : Ge) (W : WX) (f : Ev (Option Int)) : TO := fun σ H Q => ∃ φ st ρ B b, StR G φ H ρ σ ∧ StOk G φ H B b st ∧ Post G (fun c d H => W c d σ H) B b φ H (f b ρ st) fun u φ' H' _ => Q u H'
theorem POi {X : Cx} {e : Option Expr} {t t' : TO} (h : PO X e t) (i : ∀ σ H Q, t' σ H Q → t σ H Q) : PO X e t' := ⟨fun pins s σ H Q I q => h.run pins s σ H Q I (i _ _ _ q)⟩
theorem s_part0 : PO X none (liftO G W (ePart none)) := POi po_none fun σ H Q ⟨φ, st, ρ, B, b, R, S, P⟩ => P.okk S
theorem s_part1 (h : PE X e (lift G W fa)) : PO X (some e) (liftO G W (ePart (some fa))) := POi (po_some h) fun σ H Q ⟨φ, st, ρ, B, b, R, S, P⟩ =>
  ⟨φ, st, ρ, B, b, R, S, P.bind.imp fun u φ1 H1 st1 x1 S1 q v r => by
    cases u with
    | int i => exact ⟨i, r.int_, q.okk S1⟩
    | _ => exact q.elim⟩
abbrev PrSl := U → Option Int → Option Int → List U → Option (U × List U)
def eSl (p : PrSl) (fa : Ev U) (lo hi : Part) : Ev U := fun b ρ st => (fa b ρ st).bind fun x st1 => (ePart lo b ρ st1).bind fun l st2 => (ePart hi b ρ st2).bind fun h st3 => ofO (p x l h st3)
def rSl (G : Ge) (p : PrSl) : V → Option Int → Option Int → Hp → VK → Prop := fun x lo hi H Q => ∃ φ st B b u, StOk G φ H B b st ∧ RV G φ H u x ∧ PostO G B b φ H (p u lo hi st) fun u φ' H' _ => ∀ v, RV G φ' H' u v → Q v H'
theorem s_sl {p : PrSl} {lo hi : Option Expr} {pl ph : Part} {pp : Pos} (hr : SlR X (rSl G p)) (ha : PE X a (lift G W fa)) (hl : PO X lo (liftO G W (ePart pl))) (hh : PO X hi (liftO G W (ePart ph))) :
    PE X (.Subscript a (.Slice lo hi none pp) pos) (lift G W (eSl p fa pl ph)) :=
  PEi (pe_slice hr ha hl hh) fun σ H Q ⟨φ, st, ρ, B, b, R, S, P⟩ =>
    ⟨φ, st, ρ, B, b, R, S, P.bind.imp fun u φ1 H1 st1 x1 S1 q v r => ⟨φ1, st1, ρ, B, b, R.mono x1, S1, q.bind.imp fun l φ2 H2 st2 x2 S2 q2 =>
      ⟨φ2, st2, ρ, B, b, (R.mono x1).mono x2, S2, q2.bind.imp fun h φ3 H3 st3 x3 S3 q3 => ⟨φ3, st3, B, b, u, S3, (r.mono x2).mono x3, q3.ofO⟩⟩⟩⟩
/-! ### methods of built-in types -/
/-- the value is of that built-in type -/
def tyU (T : String) (u : U) (st : List U) : Bool := match u with
  | .str _ => T == "str"
  | .lst _ => T == "list"
  | .fl _ => T == "list"
  | .dct _ _ => T == "dict"
  | .ref n => match st[n]? with
    | some (.lst _) => T == "list"
    | some (.dct _ _) => T == "dict"
    | _ => false
  | _ => false
theorem DO.isd {ks : List KK} {xs : List V} {o : HO} {p : Addr} (h : DO ks xs (some o)) (r : Rd H p o) : IsD H p := by
  rcases h.2 with ⟨_, _, e⟩ | ⟨_, _, _, e⟩
  · cases e; exact .inl ⟨_, r⟩
  · cases e; exact .inr ⟨_, r⟩
theorem tyU_is {T : String} {u : U} {v : V} {vv : Value} {pins : List (Addr × Obj)} {s : Shared} (hK : X.K = G.K) (I : Inv X pins σ H s) (S : StOk G φ H B b st) (r : RV G φ H u v) (rv : RelV v vv) (e : tyU T u st = true) :
    s.TypeIs vv T ∧ ∀ a, vv = .ref a → ∃ ob, s.heap.get? a = some ob ∧ ob.dict = none := by
  cases u with
  | str x => cases r.str_; exact tyV_is I rv (show tyV X.K T (.str x) H from beq_iff_eq.mp e)
  | lst us =>
    obtain ⟨a, xs, rfl, _, h, r⟩ := rt_lst (r.rt rfl)
    exact tyV_is I rv (show tyV X.K T (.ref a) H from .inl ⟨beq_iff_eq.mp e, xs, .of h⟩)
  | fl us =>
    obtain ⟨a, xs, rfl, h, r⟩ := rt_fl (X := X) hK (r.rt rfl)
    exact tyV_is I rv (show tyV X.K T (.ref a) H from .inl ⟨beq_iff_eq.mp e, xs, h⟩)
  | dct ks us =>
    obtain ⟨a, xs, o, rfl, _, h, hr, r⟩ := rt_dct (r.rt rfl)
    obtain rfl : vv = Value.ref a := rv
    obtain ⟨h1, h2, _⟩ := isD_at I (h.isd hr)
    rw [beq_iff_eq.mp e]
    exact ⟨h1, h2⟩
  | ref n =>
    simp only [tyU] at e
    split at e
    · rename_i us eu
      obtain ⟨a, rfl, _, _, c⟩ := rv_ref S r eu
      obtain ⟨xs, c, r2⟩ := c
      exact tyV_is I rv (show tyV X.K T (.ref a) H from .inl ⟨beq_iff_eq.mp e, xs, .of c⟩)
    · rename_i ks us eu
      obtain ⟨a, rfl, _, _, c⟩ := rv_ref S r eu
      obtain ⟨xs, c, r2⟩ := c
      obtain ⟨o, eo⟩ := c.any
      rw [eo] at c
      obtain rfl : vv = Value.ref a := rv
      obtain ⟨h1, h2, _⟩ := isD_at I (c.isd (.inl eo))
      rw [beq_iff_eq.mp e]
      exact ⟨h1, h2⟩
    · cases e
  | _ => simp [tyU] at e
abbrev PrM := Nat → U → List U → List U → Option (U × List U)
def eM (T : String) (p : PrM) (fa : Ev U) (fs : Ev (List U)) : Ev U := fun b ρ st => (fa b ρ st).bind fun x st1 => if tyU T x st1 = true then (fs b ρ st1).bind fun xs st2 => ofO (p b x xs st2) else .stuck
def rM (G : Ge) (p : PrM) : V → List V → Hp → VK → Prop := fun x xs H Q => ∃ φ st B b u us, StOk G φ H B b st ∧ RV G φ H u x ∧ RVs G φ H us xs ∧ PostO G B b φ H (p b u us st) fun u φ' H' _ => ∀ v, RV G φ' H' u v → Q v H'
theorem s_bm {T id : String} {name : Str} {p : PrM} {apos : Pos} (hK : X.K = G.K) (pa : PlainAttrs T) (slot : Slot T name id) (hty : typeOf (.builtin id) = pure (.type "method_descriptor")) (hm : MtR X id (rM G p)) (ho : PE X a (lift G W fa)) (ha : PA X (e :: es) (liftA G W fs))
    (hbase : attributeBase a name X.env (eval a X.env) = eval a X.env)
    (hfew : ((backTo pos (starEach (e :: es) X.env)).all (fun x => !x.1) && (backToKw pos (keywordEach [] X.env)).all (fun x => x.1.isSome)
      && decide ((e :: es).length + ([] : List Keyword).length + (if ([] : List Keyword).isEmpty then 0 else 1) < 30)) = true)
    (hline : (apos.endLine == pos.line) = true) (hs : starEach (e :: es) X.env = (false, eval e X.env) :: starEach es X.env) (hplain : (backTo pos (starEach es X.env)).any (·.1) = false) :
    PE X (.Call (.Attribute a name apos) (e :: es) [] pos) (lift G W (eM T p fa fs)) :=
by
  refine ⟨fun pins s σ H Q I ⟨φ, st, ρ, B, b, R, S, P⟩ => ?_⟩
  have h1 : lift G W fa σ H fun v H1 => ∃ φ1 st1 u, StOk G φ1 H1 B b st1 ∧ StR G φ1 H1 ρ σ ∧ RV G φ1 H1 u v ∧ tyU T u st1 = true ∧
      Post G (fun c d H => W c d σ H) B b φ1 H1 ((fs b ρ st1).bind fun xs st2 => ofO (p b u xs st2)) fun u φ' H' _ => ∀ v, RV G φ' H' u v → Q v H' :=
    ⟨φ, st, ρ, B, b, R, S, P.bind.imp fun u φ1 H1 st1 x1 S1 q v r => by
      split at q
      · rename_i ty
        exact ⟨φ1, st1, u, S1, R.mono x1, r, ty, q⟩
      · exact q.elim⟩
  refine wpAny_Call_method_late hbase hfew hline rfl (thn (ho.run pins s σ H _ I h1) fun v s1 ⟨x, H1, I1, rx, φ1, st1, u, S1, R1, r, ty, q⟩ => ?_)
  obtain ⟨h1, h2⟩ := tyU_is hK I1 S1 r rx ty
  refine ⟨T, id, pa, slot, hty, h1, h2, ?_⟩
  have hA := ha.run pos pins s1 σ H1 (fun xs H2 => rM G p x xs H2 Q) I1 ⟨φ1, st1, ρ, B, b, R1, S1, q.bind.imp fun us φ2 H2 st2 x2 S2 q2 vs rs => ⟨φ2, st2, B, b, u, us, S2, r.mono x2, rs, q2.ofO⟩⟩
  rw [hs] at hA ⊢
  refine Calls.callWith_builtin (by show (false || (backTo pos (starEach es X.env)).any (·.1)) = false; rw [hplain] <;> rfl) (Calls.evalArgs_plain ?_)
  exact thn hA fun us s2 ⟨vs, H2, I2, r2, q2⟩ => hm pins s2 σ H2 x vs v us Q I2 rx r2 q2
theorem s_bm0 {T id : String} {name : Str} {p : PrM} {apos : Pos} (hK : X.K = G.K) (pa : PlainAttrs T) (slot : Slot T name id) (hty : typeOf (.builtin id) = pure (.type "method_descriptor")) (hm : MtR X id (rM G p)) (ho : PE X a (lift G W fa))
    (hbase : attributeBase a name X.env (eval a X.env) = eval a X.env) (hline : (apos.endLine == pos.line) = true) :
    PE X (.Call (.Attribute a name apos) [] [] pos) (lift G W (eM T p fa eNil)) :=
by
  refine ⟨fun pins s σ H Q I ⟨φ, st, ρ, B, b, R, S, P⟩ => ?_⟩
  have h1 : lift G W fa σ H fun v H1 => ∃ φ1 st1 u, StOk G φ1 H1 B b st1 ∧ RV G φ1 H1 u v ∧ tyU T u st1 = true ∧
      PostO G B b φ1 H1 (p b u [] st1) fun u φ' H' _ => ∀ v, RV G φ' H' u v → Q v H' :=
    ⟨φ, st, ρ, B, b, R, S, P.bind.imp fun u φ1 H1 st1 x1 S1 q v r => by
      split at q
      · rename_i ty
        exact ⟨φ1, st1, u, S1, r, ty, (q.bind.okk S1).ofO⟩
      · exact q.elim⟩
  refine wpAny_Call_method0_late hbase hline (thn (ho.run pins s σ H _ I h1) fun v s1 ⟨x, H1, I1, rx, φ1, st1, u, S1, r, ty, q⟩ => ?_)
  obtain ⟨h1, h2⟩ := tyU_is hK I1 S1 r rx ty
  exact ⟨T, id, pa, slot, hty, h1, h2, Calls.callWith_builtin rfl (PySem.evalArgs_none (hm pins s1 σ H1 x [] v [] Q I1 rx .nil ⟨φ1, st1, B, b, u, [], S1, r, .nil, q⟩))⟩
/-! ### e.f -/
def eFld (f : Str) (fa : Ev U) : Ev U := fun b ρ st => (fa b ρ st).bind fun x st1 => match (match x with | .ref n => st1[n]? | u => some u) with
  | some (.ins c ns us) => (match (ns.zip us).lookup f with
    | some u => .ok u st1
    | none => .stuck)
  | _ => .stuck
/-- what the class at C must be for its instances' attribute f -/
def FldOk (G : Ge) (f : Str) : Prop := ∀ (c : Nat) (C : Addr), G.cls[c]? = some C → Cls G.K C ∧ NoAttr G.K C f
theorem lookup_zip {F : U → V → Prop} {f : Str} {u : U} : ∀ {ns : List Str} {us : List U} {xs : List V}, Paired F us xs → (ns.zip us).lookup f = some u → ∃ x, (ns.zip xs).lookup f = some x ∧ F u x
  | [], _, _, _, e => by simp at e
  | _ :: _, _, _, .nil, e => by simp at e
  | n :: ns, _, _, .cons h t, e => by
    rw [List.zip_cons_cons, List.lookup_cons] at e ⊢
    cases hb : f == n with
    | true => rw [hb] at e; cases e; exact ⟨_, rfl, h⟩
    | false => rw [hb] at e; exact lookup_zip t e
theorem s_fld {f : Str} (hK : X.K = G.K) (hf : FldOk G f) (ha : PE X a (lift G W fa)) (hb : attributeBase a f X.env (eval a X.env) = eval a X.env) : PE X (.Attribute a f pos) (lift G W (eFld f fa)) :=
  PEi (pe_fld ha hb) fun σ H Q ⟨φ, st, ρ, B, b, R, S, P⟩ => by
    refine ⟨φ, st, ρ, B, b, R, S, P.bind.imp fun u φ1 H1 st1 x1 S1 q v r => ?_⟩
    split at q
    · rename_i c ns us eu
      split at q
      · rename_i w ew
        have key : ∃ p C dx xs, v = .ref p ∧ G.cls[c]? = some C ∧ H1 p = some (.ins C dx (ns.zip xs)) ∧ RVs G φ1 H1 us xs := by
          cases u with
          | ref n =>
            obtain ⟨p, e1, _, _, co⟩ := rv_ref S1 r eu
            obtain ⟨C, dx, xs, hc, _, e2, r2⟩ := co
            exact ⟨p, C, dx, xs, e1, hc, e2, r2⟩
          | ins c' ns' us' =>
            cases eu
            obtain ⟨p, C, dx, xs, e1, _, hc, _, e2, r2⟩ := rt_ins (r.rt rfl)
            exact ⟨p, C, dx, xs, e1, hc, e2, r2.rvs⟩
          | _ => cases eu
        obtain ⟨p, C, dx, xs, rfl, hc, hH, rs⟩ := key
        obtain ⟨y, ey, ry⟩ := lookup_zip rs ew
        unfold FldOk at hf
        rw [← hK] at hf
        exact ⟨p, C, dx, _, y, rfl, hH, (hf c C hc).1, (hf c C hc).2, ey, q.okk S1 y ry⟩
      · exact q.elim
    · exact q.elim
end
end EV

set_option maxRecDepth 100000
/-! E3: frames: a callee's new objects become trees; calls, methods, instances made. -/
namespace EV
open PySem PySem.Spec PyProof.Rows L2

/-- an object that may change, as a tree; what is older than n stays a place -/
def frz : Nat → Nat → List U → U → Option U
  | 0, n, _, u => match u with
    | .ref m => if m < n then some (.ref m) else none
    | u => some u
  | k + 1, n, st, u => match u with
    | .ref m => if m < n then some (.ref m) else match st[m]? with
      | some (.lst us) => if noref us = true then some (.lst us) else (us.mapM (frz k n st)).bind fun ws => if noref ws = true then some (.lst ws) else none
      | some (.dct ks us) => if noref us = true then some (.dct ks us) else (us.mapM (frz k n st)).bind fun ws => if noref ws = true then some (.dct ks ws) else none
      | some (.ins c ns us) => if noref us = true then some (.ins c ns us) else (us.mapM (frz k n st)).bind fun ws => if noref ws = true then some (.ins c ns ws) else none
      | _ => none
    | u => some u
/-- behind a callee whose new objects nobody else holds -/
def leave (n : Nat) : Res U → Res U
  | .stuck => .stuck
  | .ok u st => match frz 8 n st u with
    | some w => .ok w (st.take n)
    | none => .stuck
  | .exc e st => .exc e (st.take n)
section
variable {G : Ge} {φ φ' : Ph} {ψ : List Addr} {H H' : Hp} {B : Nat → Prop} {b : Nat} {st : List U}
theorem StOk.enter (S : StOk G φ H B b st) : StOk G φ H (fun c => B c ∨ c = st.length) st.length st := by
  refine ⟨S.len, S.nd, S.ok, S.gh, Nat.le_refl _, fun c hc => ?_, fun c hc n u hn e m hm => ?_⟩
  · rcases hc with hc | hc
    · exact Nat.le_trans (S.top c hc) S.le
    · exact Nat.le_of_eq hc
  · rcases hc with hc | rfl
    · exact S.wf c hc n u hn e m hm
    · obtain ⟨a, e1, _, co⟩ := S.at e
      have key : ∀ (us : List U) (xs : List V), RVs G φ H us xs → U.ref m ∈ us → m < st.length := fun us xs r hm => by
        obtain ⟨i, hi, e2⟩ := List.getElem_of_mem hm
        obtain ⟨v, _, rv⟩ := pGet r (List.getElem?_eq_some_iff.mpr ⟨hi, e2⟩)
        rcases rv with ⟨m', a', e3, e4, _⟩ | rt
        · cases e3
          rw [← S.len]; exact (List.getElem?_eq_some_iff.mp e4).1
        · exact absurd rt.nref (by simp [U.isRef])
      cases u <;> simp only [CO] at co
      · obtain ⟨xs, _, r⟩ := co; exact key _ xs r hm
      · obtain ⟨xs, _, r⟩ := co; exact key _ xs r hm
      · obtain ⟨_, _, xs, _, _, _, r⟩ := co; exact key _ xs r hm
      · obtain ⟨xs, _, _, _, _, r⟩ := co; exact key _ xs r hm
theorem rt_less : (∀ a o, H a = some o → a ∉ (⟨φ.l ++ ψ, φ.g⟩ : Ph) → (∃ o', H a = some o' ∧ Kp o o') ∧ a ∉ φ) := fun a o e n => ⟨⟨o, e, .inl rfl⟩, fun z => n (z.elim (fun z => .inl (List.mem_append_left _ z)) .inr)⟩
theorem rv_less {u : U} {v : V} (h : RV G ⟨φ.l ++ ψ, φ.g⟩ H u v) (m : ∀ n, u = .ref n → n < φ.l.length) : RV G φ H u v := by
  rcases h with ⟨n, a, e, l, r⟩ | h
  · refine .inl ⟨n, a, e, ?_, r⟩
    rwa [List.getElem?_append_left (m n e)] at l
  · exact .inr (h.mono rt_less)
theorem CO.less {u : U} {o : Option HO} (h : CO G ⟨φ.l ++ ψ, φ.g⟩ H u o) (m : ∀ n, U.ref n ∈ u.elems → n < φ.l.length) : CO G φ H u o := by
  have key : ∀ {us : List U} {xs : List V}, (∀ n, U.ref n ∈ us → n < φ.l.length) → RVs G ⟨φ.l ++ ψ, φ.g⟩ H us xs → RVs G φ H us xs := fun m r =>
    pMonoMem (fun u v hm rv => rv_less rv fun n e => m n (e ▸ hm)) r
  cases u <;> simp only [CO] at h ⊢
  · obtain ⟨xs, e, r⟩ := h; exact ⟨xs, e, key m r⟩
  · obtain ⟨xs, e, r⟩ := h; exact ⟨xs, e, key m r⟩
  · obtain ⟨C, dx, xs, c, l, e, r⟩ := h; exact ⟨C, dx, xs, c, l, e, key m r⟩
  · obtain ⟨xs, od, o', e, d, r⟩ := h; exact ⟨xs, od, o', e, d, key m r⟩
theorem StOk.leave (S0 : StOk G φ H B b st) {st' : List U} {n : Nat} (hn : n = φ.l.length) (S : StOk G ⟨φ.l ++ ψ, φ.g⟩ H' (fun c => B c ∨ c = n) n st') : StOk G φ H' B b (st'.take n) := by
  have hl : n ≤ st'.length := S.le
  refine ⟨?_, S0.nd, fun m u a e1 e2 => ?_, S.gh, ?_, S0.top, fun c hc m u hm e => ?_⟩
  · rw [List.length_take]; omega
  · have hm : m < n := by rw [hn]; exact (List.getElem?_eq_some_iff.mp e2).1
    rw [List.getElem?_take_of_lt hm] at e1
    have q := S.ok m u a e1 (by rw [List.getElem?_append_left (by omega)]; exact e2)
    refine q.less fun k hk => ?_
    rw [← hn]
    exact S.wf n (.inr rfl) m u hm e1 k hk
  · rw [List.length_take]
    have h1 := S0.le
    rw [← S0.len] at h1
    omega
  · have hc' := S.top c (.inl hc)
    rw [List.getElem?_take_of_lt (by omega)] at e
    exact S.wf c (.inl hc) m u hm e
theorem mapM_paired {φ : Ph} {H : Hp} {f : U → Option U} : ∀ {us ws : List U} {xs : List V}, (∀ u w v, RV G ⟨φ.l ++ ψ, φ.g⟩ H u v → f u = some w → RV G φ H w v) → us.mapM f = some ws → RVs G ⟨φ.l ++ ψ, φ.g⟩ H us xs → RVs G φ H ws xs
  | [], ws, _, h, e, .nil => by simp at e; subst e; exact .nil
  | u :: us, ws, _, h, e, .cons r t => by
    rw [List.mapM_cons] at e
    cases e1 : f u with
    | none => rw [e1] at e; cases e
    | some w =>
      rw [e1] at e
      cases e2 : us.mapM f with
      | none => rw [e2] at e; cases e
      | some ws' =>
        rw [e2] at e
        cases e
        exact .cons (h u w _ r e1) (mapM_paired h e2 t)
theorem frz_ok {n : Nat} (hn : n = φ.l.length) (S : StOk G ⟨φ.l ++ ψ, φ.g⟩ H B b st) : ∀ (k : Nat) (u w : U) (v : V), RV G ⟨φ.l ++ ψ, φ.g⟩ H u v → frz k n st u = some w → RV G φ H w v := by
  have tree : ∀ (u w : U) (v : V), RV G ⟨φ.l ++ ψ, φ.g⟩ H u v → u.isRef = false → some u = some w → RV G φ H w v := fun u w v r t e => by
    cases e
    exact .inr ((r.rt t).mono rt_less)
  have old : ∀ (m : Nat) (w : U) (v : V), RV G ⟨φ.l ++ ψ, φ.g⟩ H (.ref m) v → m < n → some (U.ref m) = some w → RV G φ H w v := fun m w v r hm e => by
    cases e
    exact rv_less r fun k e => by cases e; omega
  intro k
  induction k with
  | zero =>
    intro u w v r e
    cases u with
    | ref m =>
      simp only [frz] at e
      split at e
      · exact old m w v r (by assumption) e
      · cases e
    | _ => simp only [frz] at e; exact tree _ w v r rfl e
  | succ k ih =>
    intro u w v r e
    cases u with
    | ref m =>
      simp only [frz] at e
      split at e
      · exact old m w v r (by assumption) e
      · rename_i hm
        have new : ∀ a, (φ.l ++ ψ)[m]? = some a → a ∉ φ := fun a ea z => by
          rcases z with z | z
          · obtain ⟨i, hi, e2⟩ := List.getElem_of_mem z
            have h1 : (φ.l ++ ψ)[i]? = some a := by rw [List.getElem?_append_left hi]; exact List.getElem?_eq_some_iff.mpr ⟨hi, e2⟩
            obtain ⟨x1, y1⟩ := List.getElem?_eq_some_iff.mp ea
            obtain ⟨x2, y2⟩ := List.getElem?_eq_some_iff.mp h1
            have := (List.getElem_inj S.ndl).mp (y1.trans y2.symm)
            omega
          · exact S.lg (show a ∈ (⟨φ.l ++ ψ, φ.g⟩ : Ph).l from List.mem_of_getElem? ea) z
        have els : ∀ (us : List U) (xs : List V) (head : List U → U), RVs G ⟨φ.l ++ ψ, φ.g⟩ H us xs → (if noref us = true then some (head us) else (us.mapM (frz k n st)).bind fun ws => if noref ws = true then some (head ws) else none) = some w →
            ∃ ws, w = head ws ∧ RTs G φ H ws xs := fun us xs head r2 e => by
          split at e
          · rename_i nr
            exact ⟨us, (Option.some.inj e).symm, RTs.mono rt_less _ _ (r2.rts nr)⟩
          · cases e2 : us.mapM (frz k n st) with
            | none => rw [e2] at e; cases e
            | some ws =>
              rw [e2] at e
              simp only [Option.bind_some] at e
              split at e
              · rename_i nr
                exact ⟨ws, (Option.some.inj e).symm, (mapM_paired ih e2 r2).rts nr⟩
              · cases e
        split at e
        · rename_i us eu
          obtain ⟨a, rfl, ea, _, xs, co, r2⟩ := rv_ref S r eu
          obtain ⟨ws, rfl, r3⟩ := els us xs _ r2 e
          exact .inr (by unfold RT; exact ⟨a, xs, rfl, new a ea, co, r3⟩)
        · rename_i ks us eu
          obtain ⟨a, rfl, ea, _, xs, co, r2⟩ := rv_ref S r eu
          obtain ⟨ws, rfl, r3⟩ := els us xs (U.dct ks) r2 e
          obtain ⟨o, eo⟩ := co.any
          exact .inr (by unfold RT; exact ⟨a, xs, o, rfl, new a ea, by rw [← eo]; exact co, .inl eo, r3⟩)
        · rename_i c ns us eu
          obtain ⟨a, rfl, ea, _, C, dx, xs, hc, hl, co, r2⟩ := rv_ref S r eu
          obtain ⟨ws, rfl, r3⟩ := els us xs (U.ins c ns) r2 e
          exact .inr (by unfold RT; exact ⟨a, C, dx, xs, rfl, new a ea, hc, hl, co, r3⟩)
        · cases e
    | _ => simp only [frz] at e; exact tree _ w v r rfl e
theorem RX.less {e : U} {cls : Value} {d : Option Addr} (x : RX G ⟨φ.l ++ ψ, φ.g⟩ H e cls d) : RX G φ H e cls d := by
  obtain ⟨c, ns, us, C, e, hc, ec, h⟩ := x
  refine ⟨c, ns, us, C, e, hc, ec, ?_⟩
  rcases h with h | ⟨dx, xs, e1, n, l, e2, r⟩
  · exact .inl h
  · exact .inr ⟨dx, xs, e1, fun z => n (z.elim (fun z => .inl (List.mem_append_left _ z)) .inr), l, e2, RTs.mono rt_less _ _ r⟩
theorem ext_less (x : Ext φ H ⟨φ.l ++ ψ, φ.g⟩ H') : Ext φ H φ H' := ⟨⟨⟨[], by simp⟩, fun a o e n => ⟨(x.keep a o e n).1, n⟩⟩, rfl, x.gkp, x.fz⟩
/-- from what is wanted behind `leave` to what the callee must give -/
theorem Post.leave {W : XW} {r : Res U} {K : U → Ph → Hp → List U → Prop} {n : Nat} (S : StOk G φ H B b st) (hn : n = st.length) (P : Post G W B b φ H (EV.leave n r) K) :
    Post G W (fun c => B c ∨ c = n) n φ H r fun u φ' H' st' => ∀ v, RV G φ' H' u v → ∃ w, RV G φ H' w v ∧ K w φ H' (st'.take n) := by
  have hl : n = φ.l.length := by rw [hn, S.len]
  cases r with
  | stuck => exact P
  | ok u st' =>
    intro φ' H' x S' v rv
    obtain ⟨ψ, rfl⟩ : ∃ ψ, φ' = ⟨φ.l ++ ψ, φ.g⟩ := by
      obtain ⟨ψ, e⟩ := x.pre
      exact ⟨ψ, by cases φ'; simp only at e; rw [e, ← x.geq]⟩
    simp only [EV.leave] at P
    cases e : frz 8 n st' u with
    | none => rw [e] at P; exact P.elim
    | some w =>
      rw [e] at P
      exact ⟨w, frz_ok hl S' 8 u w v rv e, P φ H' (ext_less x) (S.leave hl S')⟩
  | exc e st' =>
    intro φ' H' cls d x S' rx
    obtain ⟨ψ, rfl⟩ : ∃ ψ, φ' = ⟨φ.l ++ ψ, φ.g⟩ := by
      obtain ⟨ψ, e⟩ := x.pre
      exact ⟨ψ, by cases φ'; simp only at e; rw [e, ← x.geq]⟩
    exact P φ H' cls d (ext_less x) (S.leave hl S') rx.less
end

/-- a def kept where no text of a value is being written -/
structure FnG (P : Program) (w : World) (K : PySem.W.Frag) (mg : Str → Option Value) (base : Heap) (CX : CXT) (k : Nat) (f : Addr) (fd : FuncData) (ps : List Str) (sp : Sp) : Prop where
  len : ∀ vs H Q E, sp vs H Q E → vs.length = ps.length
  run : ∀ (A : Around) (outer : List PySem.Env) (s : Shared) (H : Hp) (args : Args) (us : List Value) (vs : List V) (Q : VK) (E : XK), A.guards = some [] → Room k A → Env0 P w K mg base A outer s H → BindsTo s fd args (ps.zip us) → Vals vs us → sp vs H Q E →
    codeAny (model P w) A (.call (.ref f) args) (CR CX outer P w H s Q E) s
theorem fng_of {CX : CXT} {P : Program} {w : World} {K : PySem.W.Frag} {mg : Str → Option Value} {base : Heap} {k : Nat} {f : Addr} {name qual : Str} {params : Arguments} {body : List Stmt} {scope : Scope} {dV kV doc pm cdv ct oc : Value} {an od : Option Addr}
    {osl : Array (Option Value)} {N ps : List Str} {sp : Sp} (lk : K.lookup f = some ⟨oc, od, .func (PySem.W.fnOf name qual params body scope dV kV doc pm an cdv ct), osl⟩) (hcd : PySem.W.codeIn K cdv qual = true) (S : FnScope N ps scope)
    (len : ∀ vs H Q E, sp vs H Q E → vs.length = ps.length)
    (hbody : ∀ (A : Around) (outer : List PySem.Env) (s : Shared) (H : Hp) (vs : List V) (Q : VK) (E : XK), A.guards = some [] → Room k (A.deeper (envOfC qual scope s.heap.objs.size f cdv)) → sp vs H Q E →
      ∃ t, PSs (cxOf CX P w K mg base N qual scope f cdv A outer s H E) body t ∧ t { nx := fun _ H' => Q .non H', rt := Q } (L2.start N vs) H) :
    FnG P w K mg base CX (k + 1) f (PySem.W.fnOf name qual params body scope dV kV doc pm an cdv ct) ps sp := by
  refine ⟨len, fun A outer s H args us vs Q E hgd hr e0 hb r hsp => ?_⟩
  have hl := len _ _ _ _ hsp
  have KX : K.In s.heap := e0.mod.kin.keeps fun b o e => (e0.bs b o e).1
  have lim : s.heap.NoLimit := e0.mod.nolimit.keeps fun b o e => (e0.bs b o e).1
  have hkind : ∀ y ∈ ps.zip us, scope.names.lookup y.1 = some .local ∨ (scope.names.lookup y.1 = some .cell ∧ ((cellsFrom (s.heap.objs.size + 1) scope.names []).lookup y.1).isSome = true) := fun ⟨n, v⟩ hy => by
    rcases S.par n (List.of_mem_zip hy).1 with q | q
    · exact .inl q
    · exact .inr ⟨q, PySem.W.cellsFrom_some _ _ _ (.inl q)⟩
  refine codeAny_call_function hr.depth (KX _ _ lk) rfl S.co S.gen rfl (PySem.W.codeRec_of KX hcd) (hb _ _ _ _ ?_)
  refine wpAny_newFunctionEnv_cells S.kind hkind fun env he s1 x => ?_
  subst he
  refine ⟨lim.keeps x.toInCall.keep, codeAny_func ?_⟩
  obtain ⟨t, ht, hq⟩ := hbody A outer s H vs Q E hgd (hr.deeper _) hsp
  have I : Inv (cxOf CX P w K mg base N qual scope f cdv A outer s H E) [] (L2.start N vs) H s1 := inv_start S hr.hd e0 hl r x
  refine wpAny_mono (ht.run [] s1 (L2.start N vs) H _ I hq) (fun fl s' hs => ?_) fun e s' hs => hs
  have fin : ∀ {σ' : L2.St} {H' : Hp} {v : V} {u : Value}, Inv (cxOf CX P w K mg base N qual scope f cdv A outer s H E) [] σ' H' s' → RelV v u → Q v H' → CE outer P w H s Q u s' :=
    fun {σ' H' v u} J rv q => ⟨v, H', J.os, J.bare, J.base, J.hok, rv, q⟩
  cases fl with
  | ret u =>
    obtain ⟨v, σ', H', J, rv, q⟩ := hs
    exact fin J rv q
  | next =>
    obtain ⟨σ', H', J, q⟩ := hs
    exact fin (v := V.non) (u := Value.none) J rfl q
  | brk =>
    obtain ⟨_, _, _, q⟩ := hs
    exact False.elim q
  | cont =>
    obtain ⟨_, _, _, q⟩ := hs
    exact False.elim q
/-- a def's function: the base, the arguments, the store -/
abbrev Fn := Nat → List U → List U → Res U
def spE (G : Ge) (m : Nat) (F : Fn) : Sp := fun vs H Q E => vs.length = m ∧ ∃ φ st B b us, StOk G φ H B b st ∧ RVs G φ H us vs ∧ Post G E B b φ H (F b us st) fun u φ' H' _ => ∀ v, RV G φ' H' u v → Q v H'
section
variable {G : Ge} {W : WX} {X : Cx} {a c e : Expr} {es : List Expr} {fa fb fc : Ev U} {fs : Ev (List U)} {pos p apos : Pos} {x : Str}
variable {σ : L2.St} {H : Hp} {Q : VK} {φ : Ph} {B : Nat → Prop} {b : Nat} {st : List U}
variable {k m : Nat} {f C : Addr} {fd : FuncData} {ps : List Str} {F : Fn} {du : List U} {dvs : List V} {ds : List Value}
/-- how a call keeps what is new: as trees, or as it is -/
def callM (live : Bool) (F : Fn) (b : Nat) (us : List U) (st : List U) : Res U := if live = true then F b us st else leave st.length (F st.length us st)
def eCall (live : Bool) (F : Fn) (du : List U) (fs : Ev (List U)) : Ev U := fun b ρ st => (fs b ρ st).bind fun us st1 => callM live F b (us ++ du) st1
/-- the wish at a callee -/
theorem call_sp {live : Bool} {W : XW} {us : List U} {vs : List V} {K : U → Ph → Hp → List U → Prop} (S : StOk G φ H B b st) (r : RVs G φ H us vs) (hm : vs.length = m) (P : Post G W B b φ H (callM live F b us st) K)
    (hQ : ∀ w φ' H' st' v, K w φ' H' st' → RV G φ' H' w v → Q v H') : spE G m F vs H Q W := by
  unfold callM at P
  split at P
  · exact ⟨hm, φ, st, B, b, us, S, r, P.imp fun u φ' H' st' _ _ q v rv => hQ _ _ _ _ _ q rv⟩
  · exact ⟨hm, φ, st, _, st.length, us, S.enter, r, (Post.leave S rfl P).imp fun u φ' H' st' _ _ q v rv => let ⟨w, r2, k⟩ := q v rv; hQ _ _ _ _ _ k r2⟩
/-- a def's defaults stand everywhere -/
def DfOk (G : Ge) (du : List U) (dvs : List V) : Prop := ∀ φ H, RVs G φ H du dvs
end
end EV

set_option maxRecDepth 100000
/-! E4: calls with keywords, methods, instances, own operators. -/
namespace EV
open PySem PySem.Spec PyProof.Rows L2

/-- what the context says of the program -/
structure XG (X : Cx) (G : Ge) (k : Nat) : Prop where
  g : G = ⟨X.prog, X.w, X.K, X.mg, X.base, G.cls⟩
  calm : X.calm = true
  room : Room k X.A
  nd : X.N.Nodup
  gd : X.A.guards = some []
/-- where a callee may run -/
structure Sb (X : Cx) (n : Nat) (A : Around) : Prop extends Sub X n A where
  gd : A.guards = some []
/-- a def that may be called with n values and keywords ks -/
structure Cal (G : Ge) (k : Nat) (f : Addr) (n : Nat) (ks : List Str) (gu : List U → List U → List U) (F : Fn) : Prop where
  ex : ∃ fd ps g gV, FnG G.P G.w G.K G.mg G.base (L2.CX G.P G.w) k f fd ps (spE G ps.length F) ∧ KBn G.K fd ps n ks g gV ∧
    ∀ φ H us ws vs zs, RVs G φ H us vs → RVs G φ H ws zs → us.length = n → ws.length = ks.length → RVs G φ H (gu us ws) (gV vs zs) ∧ (gV vs zs).length = ps.length
  kp : PySem.W.keepIn G.K (.ref f) = true
section
variable {G : Ge} {W : WX} {X : Cx} {a c e : Expr} {es : List Expr} {fa fb fc : Ev U} {fs fk : Ev (List U)} {pos p apos : Pos} {x : Str}
variable {σ : L2.St} {H : Hp} {Q : VK} {φ : Ph} {B : Nat → Prop} {b : Nat} {st : List U} {pins : List (Addr × Obj)} {s : Shared}
variable {k n : Nat} {f C : Addr} {ks : List Str} {gu : List U → List U → List U} {F : Fn} {kws : List Keyword}

/-- the callee runs -/
theorem run_cal {A : Around} {live : Bool} {us ws : List U} {vs zs : List V} {vus vws : List Value} (hG : XG X G k) (tk : Takes X W) (ca : Cal G k f n ks gu F) (sb : Sb X k A) (I : Inv X pins σ H s) (S : StOk G φ H B b st)
    (r : RVs G φ H us vs) (rz : RVs G φ H ws zs) (hv : Vals vs vus) (hz : Vals zs vws) (ln : us.length = n) (lk : ws.length = ks.length)
    (P : Post G (fun c d H => W c d σ H) B b φ H (callM live F b (gu us ws) st) fun u φ' H' _ => ∀ v, RV G φ' H' u v → Q v H') :
    wpAny (model X.prog X.w) A (call (.ref f) vus (ks.zip vws)) (EP X pins σ Q) X.xe s := by
  obtain ⟨⟨fd, ps, g, gV, FO, KB, hg⟩, _⟩ := ca
  have eG := hG.g
  rw [eG] at FO KB
  obtain ⟨r2, l2⟩ := hg φ H us ws vs zs r rz ln lk
  have hsp : spE G ps.length F (gV vs zs) H Q (WE W σ) := call_sp S r2 l2 P fun w φ' H' st' v q rv => q v rv
  rw [eG] at hsp
  have e0 : Env0 X.prog X.w X.K X.mg X.base A X.stack s H := by
    have e := I.env0
    exact ⟨by rw [sb.fr]; exact e.frames, e.mod, e.bs, e.bsz, e.funs, e.frf, e.hok, e.bare⟩
  refine wpAny_call (codeAny_mono (FO.run A X.stack s H ⟨vus, ks.zip vws⟩ (g vus vws) (gV vs zs) Q (WE W σ) sb.gd sb.room e0
    (KB.to s vus vws I.kIn (by rw [← hv.length, ← r.len, ln]) (by rw [← hz.length, ← rz.len, lk])) (KB.rel hv hz) hsp) fun r s' hq => ?_)
  cases r with
  | error e => exact passAt tk σ pins H s e s' I hq
  | ok fl =>
    cases fl with
    | ret u => exact I.after hq
    | next => exact False.elim hq
    | brk => exact False.elim hq
    | cont => exact False.elim hq
theorem XG.sub (hG : XG X G k) : Sb X k X.A := ⟨⟨hG.room, rfl⟩, hG.gd⟩
theorem XG.sub1 (hG : XG X G (k + 1)) : Sb X k X.A.in1 := ⟨⟨hG.room.in1, rfl⟩, hG.gd⟩

/-- the arguments of a call, then the callee -/
theorem args_then {args : List Expr} {first : List Value} {fv : Value} {Qf : Value → Shared → Prop} {R : List U × List U → Ph → Hp → List U → Prop} (hk : PySem.W.keepIn X.K fv = true)
    (ha : PA X args (liftA G W fs)) (hkw : PK X kws (liftA G W fk)) (hnil : args = [] → fs = eNil) (hsplit : ∀ e rest, args = e :: rest → starEach (e :: rest) X.env = (false, eval e X.env) :: starEach rest X.env)
    (hall : (backToKw pos (keywordEach kws X.env)).all (·.1.isSome) = true) (hks : (backToKw pos (keywordEach kws X.env)).filterMap (·.1) = ks)
    (hpl : ((backTo pos (starEach args X.env)).any (·.1) || (backToKw pos (keywordEach kws X.env)).any (·.1.isNone)) = false) {ρ : En} (I : Inv X pins σ H s) (RR : StR G φ H ρ σ) (S : StOk G φ H B b st)
    (P : Post G (fun c d H => W c d σ H) B b φ H ((fs b ρ st).bind fun us st1 => (fk b ρ st1).bind fun ws st2 => .ok (us, ws) st2) R)
    (run : ∀ φ' H' st' us ws vs zs vus vws s', Ext φ H φ' H' → Inv X pins σ H' s' → StOk G φ' H' B b st' → RVs G φ' H' us vs → RVs G φ' H' ws zs → Vals vs vus → Vals zs vws → R (us, ws) φ' H' st' → wpAny (model X.prog X.w) X.A (call fv (first ++ vus) (ks.zip vws)) Qf X.xe s') :
    wpAny (model X.prog X.w) X.A (callWith pos fv first (backTo pos (starEach args X.env)) (backToKw pos (keywordEach kws X.env))) Qf X.xe s := by
  have h : liftA G W fs σ H fun vs H1 => ∃ φ1 st1 us, Ext φ H φ1 H1 ∧ StOk G φ1 H1 B b st1 ∧ StR G φ1 H1 ρ σ ∧ RVs G φ1 H1 us vs ∧
      Post G (fun c d H => W c d σ H) B b φ1 H1 ((fk b ρ st1).bind fun ws st2 => .ok (us, ws) st2) R :=
    ⟨φ, st, ρ, B, b, RR, S, P.bind.imp fun us φ1 H1 st1 x1 S1 q vs r => ⟨φ1, st1, us, x1, S1, RR.mono x1, r, q⟩⟩
  have h2 : ∀ {vs : List V} {vus : List Value} {H1 : Hp} {s1 : Shared}, Inv X pins σ H1 s1 → Vals vs vus → (∃ φ1 st1 us, Ext φ H φ1 H1 ∧ StOk G φ1 H1 B b st1 ∧ StR G φ1 H1 ρ σ ∧ RVs G φ1 H1 us vs ∧
      Post G (fun c d H => W c d σ H) B b φ1 H1 ((fk b ρ st1).bind fun ws st2 => .ok (us, ws) st2) R) →
      wpAny (model X.prog X.w) X.A (evalAll ((backToKw pos (keywordEach kws X.env)).map (·.2))) (fun kv s₂ => X.K.In s₂.heap ∧ wpAny (model X.prog X.w) X.A (call fv (first ++ vus) (((backToKw pos (keywordEach kws X.env)).filterMap (·.1)).zip kv)) Qf X.xe s₂) X.xe s1 := by
    intro vs vus H1 s1 I1 hv q
    obtain ⟨φ1, st1, us, x1, S1, R1, r, q⟩ := q
    refine thn (hkw.run pos pins s1 σ H1 (fun zs H2 => ∃ φ2 st2 ws, Ext φ H φ2 H2 ∧ StOk G φ2 H2 B b st2 ∧ RVs G φ2 H2 us vs ∧ RVs G φ2 H2 ws zs ∧ R (us, ws) φ2 H2 st2) I1
      ⟨φ1, st1, ρ, B, b, R1, S1, q.bind.imp fun ws φ2 H2 st2 x2 S2 q2 zs rz => ⟨φ2, st2, ws, x1.trans x2, S2, r.mono x2, rz, q2.okk S2⟩⟩) fun vws s2 ⟨zs, H2, I2, hz, φ2, st2, ws, x2, S2, r2, rz, q2⟩ => ?_
    rw [hks]
    exact ⟨I2.kIn, run φ2 H2 st2 us ws vs zs vus vws s2 x2 I2 S2 r2 rz hv hz q2⟩
  cases args with
  | nil =>
    refine PySem.W.callWith_KW0 (h₀ := X.base) I.ok.mod.kin hk hall ?_ hpl
    have e0 := hnil rfl
    subst e0
    exact h2 I .nil ⟨φ, st, [], .refl, S, RR, .nil, P.bind.okk S⟩
  | cons e rest =>
    exact PySem.W.callWith_KW (h₀ := X.base) I.ok.mod.kin hk hall (thn (ha.run pos pins s σ H _ I h) fun us s1 ⟨vs, H1, I1, hv, q⟩ => h2 I1 hv q) hpl (hsplit e rest rfl)

/-! ### f(..), C(..), o.m(..) -/
def eCal (live : Bool) (F : Fn) (gu : List U → List U → List U) (n m : Nat) (fs fk : Ev (List U)) : Ev U := fun b ρ st =>
  ((fs b ρ st).bind fun us st1 => (fk b ρ st1).bind fun ws st2 => .ok (us, ws) st2).bind fun p st' => if p.1.length = n ∧ p.2.length = m then callM live F b (gu p.1 p.2) st' else .stuck
theorem s_cal {args : List Expr} {live : Bool} (hG : XG X G k) (tk : Takes X W) (ca : Cal G k f n ks gu F) (hg : Gl X x) (hm : X.mg x = some (.ref f)) (hdb : (x == ("__debug__" : Str)) = false)
    (ha : PA X args (liftA G W fs)) (hkw : PK X kws (liftA G W fk)) (hnil : args = [] → fs = eNil) (hsplit : ∀ e rest, args = e :: rest → starEach (e :: rest) X.env = (false, eval e X.env) :: starEach rest X.env)
    (hall : (backToKw pos (keywordEach kws X.env)).all (·.1.isSome) = true) (hks : (backToKw pos (keywordEach kws X.env)).filterMap (·.1) = ks)
    (hpl : ((backTo pos (starEach args X.env)).any (·.1) || (backToKw pos (keywordEach kws X.env)).any (·.1.isNone)) = false) :
    PE X (.Call (.Name x p) args kws pos) (lift G W (eCal live F gu n ks.length fs fk)) := by
  refine ⟨fun pins s σ H Q I ⟨φ, st, ρ, B, b, R, S, P⟩ => ?_⟩
  refine wpAny_Call_Name_kw (ld_glob I hg hm ?_ hdb)
  have hk := ca.kp
  rw [hG.g] at hk
  refine args_then (first := []) hk ha hkw hnil hsplit hall hks hpl I R S P.bind fun φ' H' st' us ws vs zs vus vws s' x' I' S' r rz hv hz q => ?_
  split at q
  · rename_i l
    exact run_cal hG tk ca hG.sub I' S' r rz hv hz l.1 l.2 q
  · exact q.elim
/-- o.m(..): the class's def by the value's class -/
def insCls (u : U) (st : List U) : Option (Nat × List Str) := match (match u with | .ref n => st[n]? | u => some u) with
  | some (.ins c ns _) => some (c, ns)
  | _ => none
/-- a class's method -/
structure MCal (G : Ge) (k : Nat) (c : Nat) (m : Str) (n : Nat) (ks : List Str) (gu : List U → List U → List U) (F : Fn) : Prop where
  ex : ∀ C, G.cls[c]? = some C → ∃ f, Cls G.K C ∧ Meth G.K C m f ∧ Cal G k f (n + 1) ks gu F
abbrev Dsp := Nat → Option ((List U → List U → List U) × Fn)
def eMeth (live : Bool) (m : Str) (dsp : Dsp) (n l : Nat) (fa : Ev U) (fs fk : Ev (List U)) : Ev U := fun b ρ st => (fa b ρ st).bind fun x st1 => match insCls x st1 with
  | some (c, ns) => if ns.contains m = true then .stuck else match dsp c with
    | some (gu, F) => ((fs b ρ st1).bind fun us st1 => (fk b ρ st1).bind fun ws st2 => .ok (us, ws) st2).bind fun p st' => if p.1.length = n ∧ p.2.length = l then callM live F b (gu (x :: p.1) p.2) st' else .stuck
    | none => .stuck
  | none => .stuck
theorem lookup_zip_none {m : Str} : ∀ {ns : List Str} {xs : List V}, ns.contains m = false → (ns.zip xs).lookup m = none
  | [], _, _ => by simp
  | _ :: _, [], _ => by simp
  | n :: ns, x :: xs, h => by
    rw [List.contains_cons, Bool.or_eq_false_iff] at h
    rw [List.zip_cons_cons, List.lookup_cons, h.1]
    exact lookup_zip_none h.2
theorem ins_of {u : U} {v : V} {c : Nat} {ns : List Str} (S : StOk G φ H B b st) (r : RV G φ H u v) (e : insCls u st = some (c, ns)) : ∃ a C dx xs, v = .ref a ∧ G.cls[c]? = some C ∧ H a = some (.ins C dx (ns.zip xs)) := by
  unfold insCls at e
  split at e
  · rename_i c' ns' us eu
    cases e
    cases u with
    | ref n =>
      obtain ⟨a, rfl, _, _, C, dx, xs, hc, _, co, _⟩ := rv_ref S r eu
      exact ⟨a, C, dx, xs, rfl, hc, co⟩
    | ins c' ns' us' =>
      cases eu
      obtain ⟨a, C, dx, xs, e1, _, hc, _, e2, _⟩ := rt_ins (r.rt rfl)
      exact ⟨a, C, dx, xs, e1, hc, e2⟩
    | _ => cases eu
  · cases e
theorem s_meth {args : List Expr} {live : Bool} {m : Str} {dsp : Dsp} {pl : Sem Bool} (hG : XG X G k) (tk : Takes X W) (hd : ∀ c gu F, dsp c = some (gu, F) → MCal G k c m n ks gu F) (hfa : PE X a (lift G W fa))
    (ha : PA X args (liftA G W fs)) (hkw : PK X kws (liftA G W fk)) (hnil : args = [] → fs = eNil) (hsplit : ∀ e rest, args = e :: rest → starEach (e :: rest) X.env = (false, eval e X.env) :: starEach rest X.env)
    (hall : (backToKw pos (keywordEach kws X.env)).all (·.1.isSome) = true) (hks : (backToKw pos (keywordEach kws X.env)).filterMap (·.1) = ks)
    (hpl : ((backTo pos (starEach args X.env)).any (·.1) || (backToKw pos (keywordEach kws X.env)).any (·.1.isNone)) = false)
    (ht : eval (.Call (.Attribute a m apos) args kws pos) X.env = (do
      let ov ← eval a X.env
      standAt apos.atName
      let (f, first) ← holding [ov] (getMethod ov m pl)
      callWith pos f first (backTo pos (starEach args X.env)) (backToKw pos (keywordEach kws X.env)))) :
    PE X (.Call (.Attribute a m apos) args kws pos) (lift G W (eMeth live m dsp n ks.length fa fs fk)) := by
  refine ⟨fun pins s σ H Q I ⟨φ, st, ρ, B, b, R, S, P⟩ => ?_⟩
  have h1 : lift G W fa σ H fun v H1 => ∃ φ1 st1 u, StOk G φ1 H1 B b st1 ∧ StR G φ1 H1 ρ σ ∧ RV G φ1 H1 u v ∧ Post G (fun c d H => W c d σ H) B b φ1 H1 (match insCls u st1 with
      | some (c, ns) => if ns.contains m = true then .stuck else match dsp c with
        | some (gu, F) => ((fs b ρ st1).bind fun us st1 => (fk b ρ st1).bind fun ws st2 => .ok (us, ws) st2).bind fun p st' => if p.1.length = n ∧ p.2.length = ks.length then callM live F b (gu (u :: p.1) p.2) st' else .stuck
        | none => .stuck
      | none => .stuck) fun u φ' H' _ => ∀ v, RV G φ' H' u v → Q v H' :=
    ⟨φ, st, ρ, B, b, R, S, P.bind.imp fun u φ1 H1 st1 x1 S1 q v r => ⟨φ1, st1, u, S1, R.mono x1, r, q⟩⟩
  refine PySem.W.methodCall_KW (pl := pl) (thn (hfa.run pins s σ H _ I h1) fun vu s1 ⟨v, H1, I1, rx, φ1, st1, u, S1, R1, r, q⟩ => ?_) ht
  split at q
  · rename_i c ns ec
    split at q
    · exact q.elim
    · rename_i hns
      split at q
      · rename_i gu F ed
        obtain ⟨a', C, dx, xs, rfl, hc, co⟩ := ins_of S1 r ec
        obtain rfl : vu = Value.ref a' := rx
        obtain ⟨f, cl, me, ca⟩ := (hd c gu F ed).ex C hc
        have eG := hG.g
        rw [eG] at cl me
        refine getmeth_ok I1 co cl me (lookup_zip_none (by simpa using hns)) ?_
        refine args_then (first := [.ref a']) me.kp ha hkw hnil hsplit hall hks hpl I1 R1 S1 q.bind fun φ' H' st' us ws vs zs vus vws s' x' I' S' r' rz hv hz q' => ?_
        split at q'
        · rename_i l
          exact run_cal hG tk ca hG.sub I' S' (us := u :: us) (vs := .ref a' :: vs) (vus := .ref a' :: vus) (.cons (r.mono x') r') rz (.cons rfl hv) hz (by simp [l.1]) l.2 q'
        · exact q'.elim
      · exact q.elim
  · exact q.elim
theorem XG.K (h : XG X G k) : X.K = G.K := by rw [h.g]
theorem XG.mono {j : Nat} (h : XG X G k) (hj : j ≤ k) : XG X G j := ⟨h.g, h.calm, h.room.mono hj, h.nd, h.gd⟩
theorem XG.mg (h : XG X G k) : X.mg = G.mg := by rw [h.g]
end
end EV

set_option maxRecDepth 100000
/-! E5: instances made; own operators. -/
namespace EV
open PySem PySem.Spec PyProof.Rows L2
section
variable {G : Ge} {W : WX} {X : Cx} {a c e : Expr} {es : List Expr} {fa fb fc : Ev U} {fs fk : Ev (List U)} {pos p apos : Pos} {x : Str}
variable {σ : L2.St} {H : Hp} {Q : VK} {φ : Ph} {B : Nat → Prop} {b : Nat} {st : List U} {pins : List (Addr × Obj)} {s : Shared}
variable {k n : Nat} {f C : Addr} {ks : List Str} {gu : List U → List U → List U} {F : Fn} {kws : List Keyword}
/-- __init__ at a new instance -/
def mkBody (c : Nat) (F : Fn) (gu : List U → List U → List U) (us ws : List U) (b : Nat) (st : List U) : Res U :=
  (F b (gu (.ref st.length :: us) ws) (st ++ [.ins c [] []])).bind fun r st2 => match r with
    | .non => .ok (.ref st.length) st2
    | _ => .stuck
def mkRun (live : Bool) (c : Nat) (F : Fn) (gu : List U → List U → List U) (us ws : List U) (b : Nat) (st : List U) : Res U :=
  if live = true then mkBody c F gu us ws b st else leave st.length (mkBody c F gu us ws st.length st)
structure MkCal (G : Ge) (k : Nat) (c : Nat) (C : Addr) (n : Nat) (ks : List Str) (gu : List U → List U → List U) (F : Fn) : Prop where
  cls : G.cls[c]? = some C
  ex : ∃ f, Mk G.K C f ∧ Cal G k f (n + 1) ks gu F
theorem make_guards {A : Around} {C : Addr} {us : List Value} {kw : List (Str × Value)} : (A.under (.builtin "type.__call__" ⟨.ref C :: us, kw⟩)).guards = A.guards := by
  first | rfl | (show pushGuards _ A.guards = _; cases A.guards <;> simp [pushGuards, Code.guards, Code.isGuard, guardIds])
theorem run_mkc {c : Nat} {live : Bool} {us ws : List U} {vs zs : List V} {vus vws : List Value} (hG : XG X G (k + 1)) (tk : Takes X W) (mc : MkCal G k c C n ks gu F) (I : Inv X pins σ H s) (S : StOk G φ H B b st)
    (r : RVs G φ H us vs) (rz : RVs G φ H ws zs) (hv : Vals vs vus) (hz : Vals zs vws) (ln : us.length = n) (lk : ws.length = ks.length)
    (P : Post G (fun c d H => W c d σ H) B b φ H (mkRun live c F gu us ws b st) fun u φ' H' _ => ∀ v, RV G φ' H' u v → Q v H') :
    wpAny (model X.prog X.w) X.A (call (.ref C) vus (ks.zip vws)) (EP X pins σ Q) X.xe s := by
  obtain ⟨hcls, f, M, ⟨⟨fd, ps, g, gV, FO, KB, hg⟩, _⟩⟩ := mc
  have eG := hG.g
  have FO' := FO
  have KB' := KB
  have M' := M
  rw [eG] at FO' KB' M'
  -- the heap with the new instance
  have hx : H (s.heap.objs.size + 1) = none := I.hok.fresh (Nat.le_succ _)
  have hdx : H s.heap.objs.size = none := I.hok.fresh (Nat.le_refl _)
  have hne : s.heap.objs.size ≠ s.heap.objs.size + 1 := Nat.ne_of_lt (Nat.lt_succ_self _)
  have key : ∀ (B' : Nat → Prop) (b' : Nat) (K1 : U → Ph → Hp → List U → Prop), StOk G φ H B' b' st → Post G (fun c d H => W c d σ H) B' b' φ H (mkBody c F gu us ws b' st) K1 →
      (∀ u φ' H' st', K1 u φ' H' st' → ∀ v, RV G φ' H' u v → Q v H') →
      spE G ps.length F (gV (.ref (s.heap.objs.size + 1) :: vs) zs) (upd (upd H s.heap.objs.size (.own (s.heap.objs.size + 1))) (s.heap.objs.size + 1) (.ins C s.heap.objs.size [])) (fun v H2 => v = .non ∧ Q (.ref (s.heap.objs.size + 1)) H2) (WE W σ) := by
    intro B' b' K1 S1 P1 hK1
    have h1 : (upd H s.heap.objs.size (.own (s.heap.objs.size + 1))) (s.heap.objs.size + 1) = none := by rw [upd_ne (Ne.symm hne)]; exact hx
    have x1 : Ext φ H φ (upd H s.heap.objs.size (.own (s.heap.objs.size + 1))) := Ext.alloc S1 hdx
    have x2 : Ext φ (upd H s.heap.objs.size (.own (s.heap.objs.size + 1))) ⟨φ.l ++ [s.heap.objs.size + 1], φ.g⟩ (upd (upd H s.heap.objs.size (.own (s.heap.objs.size + 1))) (s.heap.objs.size + 1) (.ins C s.heap.objs.size [])) := Ext.live (S1.alloc hdx) h1
    have x := x1.trans x2
    have S2 := (S1.alloc (o := .own (s.heap.objs.size + 1)) hdx).live (o := .ins C s.heap.objs.size []) (u := .ins c [] []) h1 ⟨C, s.heap.objs.size, [], hcls, rfl, rfl, .nil⟩
    have rs : RV G ⟨φ.l ++ [s.heap.objs.size + 1], φ.g⟩ (upd (upd H s.heap.objs.size (.own (s.heap.objs.size + 1))) (s.heap.objs.size + 1) (.ins C s.heap.objs.size [])) (.ref st.length) (.ref (s.heap.objs.size + 1)) :=
      .inl ⟨_, _, rfl, by rw [← S1.len]; simp, rfl⟩
    obtain ⟨r2, l2⟩ := hg _ _ (.ref st.length :: us) ws (.ref (s.heap.objs.size + 1) :: vs) zs (.cons rs (r.mono x)) (rz.mono x) (by simp [ln]) lk
    refine ⟨l2, _, _, B', b', _, S2, r2, ?_⟩
    refine (Post.bind (Post.ext x P1)).imp fun u φ' H' st' x3 S3 q v rv => ?_
    cases u with
    | non => exact ⟨rv.non_, hK1 _ _ _ _ (q.okk S3) _ (rs.mono x3)⟩
    | _ => exact q.elim
  have hsp : spE G ps.length F (gV (.ref (s.heap.objs.size + 1) :: vs) zs) (upd (upd H s.heap.objs.size (.own (s.heap.objs.size + 1))) (s.heap.objs.size + 1) (.ins C s.heap.objs.size [])) (fun v H2 => v = .non ∧ Q (.ref (s.heap.objs.size + 1)) H2) (WE W σ) := by
    unfold mkRun at P
    split at P
    · exact key B b _ S P fun _ _ _ _ q => q
    · exact key _ _ _ S.enter (Post.leave S rfl P) fun u φ' H' st' q v rv => let ⟨w, r2, k⟩ := q v rv; k v r2
  rw [eG] at hsp
  have I2 := Inv.made (C := C) I
  have r1 : Vals (V.ref (s.heap.objs.size + 1) :: vs) (Value.ref (s.heap.objs.size + 1) :: vus) := .cons rfl hv
  have e1 : (Value.ref (s.heap.objs.size + 1) :: vus).length = n + 1 := by
    rw [List.length_cons, ← hv.length, ← r.len, ln]
  have e2 : vws.length = ks.length := by rw [← hz.length, ← rz.len, lk]
  refine wpAny_call (make_map (f := f) I.kIn M'.makes M'.init (beq_iff_eq.mp M'.fn) (codeAny_mono (FO'.run _ X.stack _ _ ⟨Value.ref (s.heap.objs.size + 1) :: vus, ks.zip vws⟩ (g (Value.ref (s.heap.objs.size + 1) :: vus) vws) _ _ (WE W σ) (make_guards.trans hG.gd) (hG.room.make C vus (ks.zip vws))
    (I2.env0.make C vus (ks.zip vws)) (KB'.to _ _ _ I2.kIn e1 e2) (KB'.rel r1 hz) hsp) fun r s' hq' => ?_))
  cases r with
  | error e => exact passAt tk σ pins _ _ e s' I2 hq'
  | ok fl =>
    cases fl with
    | ret u =>
      obtain ⟨v, H', I3, rv, ev, q3⟩ := I2.after hq'
      subst ev
      exact ⟨rv, ⟨V.ref (s.heap.objs.size + 1), H', I3, rfl, q3⟩⟩
    | next => exact False.elim hq'
    | brk => exact False.elim hq'
    | cont => exact False.elim hq'
def eMake (live : Bool) (c : Nat) (F : Fn) (gu : List U → List U → List U) (n m : Nat) (fs fk : Ev (List U)) : Ev U := fun b ρ st =>
  ((fs b ρ st).bind fun us st1 => (fk b ρ st1).bind fun ws st2 => .ok (us, ws) st2).bind fun p st' => if p.1.length = n ∧ p.2.length = m then mkRun live c F gu p.1 p.2 b st' else .stuck
theorem s_make {c : Nat} {args : List Expr} {live : Bool} (hG : XG X G (k + 1)) (tk : Takes X W) (mc : MkCal G k c C n ks gu F) (hg : Gl X x) (hm : X.mg x = some (.ref C)) (hdb : (x == ("__debug__" : Str)) = false)
    (ha : PA X args (liftA G W fs)) (hkw : PK X kws (liftA G W fk)) (hnil : args = [] → fs = eNil) (hsplit : ∀ e rest, args = e :: rest → starEach (e :: rest) X.env = (false, eval e X.env) :: starEach rest X.env)
    (hall : (backToKw pos (keywordEach kws X.env)).all (·.1.isSome) = true) (hks : (backToKw pos (keywordEach kws X.env)).filterMap (·.1) = ks)
    (hpl : ((backTo pos (starEach args X.env)).any (·.1) || (backToKw pos (keywordEach kws X.env)).any (·.1.isNone)) = false) :
    PE X (.Call (.Name x p) args kws pos) (lift G W (eMake live c F gu n ks.length fs fk)) := by
  refine ⟨fun pins s σ H Q I ⟨φ, st, ρ, B, b, R, S, P⟩ => ?_⟩
  refine wpAny_Call_Name_kw (ld_glob I hg hm ?_ hdb)
  have hk : PySem.W.keepIn X.K (.ref C) = true := by
    obtain ⟨_, f, M, _⟩ := mc
    rw [hG.g] at M
    exact M.kp
  refine args_then (first := []) hk ha hkw hnil hsplit hall hks hpl I R S P.bind fun φ' H' st' us ws vs zs vus vws s' x' I' S' r rz hv hz q => ?_
  split at q
  · rename_i l
    exact run_mkc hG tk mc I' S' r rz hv hz l.1 l.2 q
  · exact q.elim
/-! ### two-place operations that may call -/
abbrev PrW := Nat → U → U → List U → Res U
def OpW (G : Ge) (W : WX) (X : Cx) (f : Value → Value → Sem Value) (p : PrW) : Prop :=
  ∀ (pins : List (Addr × Obj)) (s : Shared) (σ : L2.St) (H : Hp) (Q : VK) (φ : Ph) (st : List U) (B : Nat → Prop) (b : Nat) (u w : U) (x y : V) (v1 v2 : Value), Inv X pins σ H s → RelV x v1 → RelV y v2 → StOk G φ H B b st → RV G φ H u x → RV G φ H w y →
    Post G (fun c d H => W c d σ H) B b φ H (p b u w st) (fun u φ' H' _ => ∀ v, RV G φ' H' u v → Q v H') → wpAny (model X.prog X.w) X.A (f v1 v2) (EP X pins σ Q) X.xe s
theorem OpW.of {f : Value → Value → Sem Value} {p : Pr2} (h : OpR X f (r2 G p)) : OpW G W X f fun b u w st => ofO (p b u w st) :=
  fun pins s σ H Q φ st B b u w x y v1 v2 I r1 r2 S ru rw_ P => h pins s σ H x y v1 v2 Q I r1 r2 ⟨φ, st, B, b, u, w, S, ru, rw_, P.ofO⟩
def eW (p : PrW) (fa fb : Ev U) : Ev U := fun b ρ st => (fa b ρ st).bind fun x st1 => (fb b ρ st1).bind fun y st2 => p b x y st2
def rW (G : Ge) (W : WX) (σ : L2.St) (p : PrW) : V → V → Hp → VK → Prop := fun x y H Q => ∃ φ st B b u w, StOk G φ H B b st ∧ RV G φ H u x ∧ RV G φ H w y ∧ Post G (fun c d H => W c d σ H) B b φ H (p b u w st) fun u φ' H' _ => ∀ v, RV G φ' H' u v → Q v H'
theorem s_eW {p : PrW} (h : lift G W (eW p fa fb) σ H Q) : lift G W fa σ H fun x H1 => lift G W fb σ H1 fun y H2 => rW G W σ p x y H2 Q := by
  obtain ⟨φ, st, ρ, B, b, R, S, P⟩ := h
  refine ⟨φ, st, ρ, B, b, R, S, P.bind.imp fun u φ1 H1 st1 x1 S1 q v r => ?_⟩
  exact ⟨φ1, st1, ρ, B, b, R.mono x1, S1, q.bind.imp fun w φ2 H2 st2 x2 S2 q2 y r2 => ⟨φ2, st2, B, b, u, w, S2, r.mono x2, r2, q2⟩⟩
theorem s_binW {op : Operator} {p : PrW} (ho : OpW G W X (binaryOp op) p) (ha : PE X a (lift G W fa)) (hb : PE X c (lift G W fb)) : PE X (.BinOp a op c pos) (lift G W (eW p fa fb)) := by
  refine ⟨fun pins s σ H Q I h => ?_⟩
  exact wpAny_BinOp (bin ha hb I (s_eW h) fun v u s2 x y H2 I2 rx ry ⟨φ, st, B, b, u1, w, S, r1, r2, q⟩ => ho pins s2 σ H2 Q φ st B b u1 w x y v u I2 rx ry S r1 r2 q)
theorem s_cmpW {op : CmpOp} {p : PrW} (ho : OpW G W X (compareOp op) p) (ha : PE X a (lift G W fa)) (hb : PE X c (lift G W fb)) (hm : behindInMarks op c = false) : PE X (.Compare a [op] [c] pos) (lift G W (eW p fa fb)) := by
  refine pe_cmp ⟨fun pins s σ H Q I h => ?_⟩ hm
  exact bin ha hb I (s_eW h) fun v u s2 x y H2 I2 rx ry ⟨φ, st, B, b, u1, w, S, r1, r2, q⟩ => ho pins s2 σ H2 Q φ st B b u1 w x y v u I2 rx ry S r1 r2 q
theorem s_tcmpW {op : CmpOp} {p : PrW} (ho : OpW G W X (compareOp op) p) (ha : PE X a (lift G W fa)) (hb : PE X c (lift G W fb)) (hm : behindInMarks op c = false) : PT X (.Compare a [op] [c] pos) (liftT G W (eTB (eW p fa fb))) := by
  refine PTi (pt_cmp (t := lift G W (eW p fa fb)) ⟨fun pins s σ H Q I h => bin ha hb I (s_eW h) fun v u s2 x y H2 I2 rx ry ⟨φ, st, B, b, u1, w, S, r1, r2, q⟩ => ho pins s2 σ H2 Q φ st B b u1 w x y v u I2 rx ry S r1 r2 q⟩ hm) fun σ H Q h => ?_
  obtain ⟨φ, st, ρ, B, b, R, S, P⟩ := h
  refine ⟨φ, st, ρ, B, b, R, S, P.bind.imp fun u φ' H' st' x' S' q v r => ?_⟩
  cases u with
  | bl k => exact ⟨k, r.bl_, q.okk S'⟩
  | _ => exact q.elim
/-- one of two: by the left value's class -/
def pOwn (own : Nat → Option PrW) (p : PrW) : PrW := fun b u w st => match insCls u st with
  | some (c, _) => (match own c with
    | some q => q b u w st
    | none => .stuck)
  | none => p b u w st
theorem OpW.own {f : Value → Value → Sem Value} {own : Nat → Option PrW} {p : PrW} (h : ∀ c q, own c = some q → OpW G W X f fun b u w st => match insCls u st with
      | some (c', _) => if c' = c then q b u w st else .stuck
      | none => .stuck) (hp : OpW G W X f p) : OpW G W X f (pOwn own p) := by
  intro pins s σ H Q φ st B b u w x y v1 v2 I r1 r2 S ru rw_ P
  unfold pOwn at P
  split at P
  · rename_i c ns ec
    split at P
    · rename_i q eq
      refine h c q eq pins s σ H Q φ st B b u w x y v1 v2 I r1 r2 S ru rw_ ?_
      show Post G _ B b φ H (match insCls u st with
        | some (c', _) => if c' = c then q b u w st else .stuck
        | none => .stuck) _
      rw [ec]
      simp only [if_pos]
      exact P
    · exact P.elim
  · exact hp pins s σ H Q φ st B b u w x y v1 v2 I r1 r2 S ru rw_ P
end
end EV

set_option maxRecDepth 100000
/-! E40: a lock is taken off. -/
namespace EV
open PySem PySem.Spec PyProof.Rows L2
section
variable {X : Cx} {pins : List (Addr × Obj)} {σ : L2.St} {H : Hp} {s : Shared} {e : Expr} {st : Stmt}
/-- what was no lock at the frame's entry may be unlocked -/
theorem Inv.unlock {d : Addr} {od : Obj} {u : HO} (I : Inv X pins σ H s) (h : H d = some (.frz od u)) (n0 : ∀ o u, X.H_0 d ≠ some (.frz o u)) : Inv X pins σ (upd H d u) s := by
  have ne : ∀ {b : Addr} {o : HO}, H b = some o → (∀ a c, o ≠ .frz a c) → upd H d u b = some o := fun {b o} q nf => by
    rw [upd_ne (fun z => by rw [z, h] at q; exact nf _ _ (Option.some.inj q).symm)]; exact q
  have nn : ∀ {b : Addr}, H b = none → upd H d u b = none := fun {b} q => by rw [upd_ne (fun z => by rw [z, h] at q; cases q)]; exact q
  have own : ∀ b c, H b = some (.own c) → upd H d u b = some (.own c) := fun b c q => ne q (fun _ _ z => by cases z)
  have tup : ∀ b xs, H b = some (.tup xs) → upd H d u b = some (.tup xs) := fun b c q => ne q (fun _ _ z => by cases z)
  refine { I with base := { I.base with free := fun b o e n hx => nn (I.base.free b o e n hx), tups := fun b xs q => tup b xs (I.base.tups b xs q), frzs := fun b o v q => ?_, tbls := fun b ps q => ?_ }, free := nn I.free, freeC := fun x c q => nn (I.freeC x c q), pin := fun p hp => ?_, hok := fun b o q => ?_ }
  · rw [upd_ne (show b ≠ d from fun z => n0 o v (z ▸ q))]
    exact I.base.frzs b o v q
  · obtain ⟨m, q2⟩ := I.base.tbls b ps q
    exact ⟨m, ne q2 (fun _ _ z => by cases z)⟩
  · obtain ⟨h1, h2, h3⟩ := I.pin p hp
    exact ⟨h1, nn h2, h3⟩
  · by_cases hb : b = d
    · subst hb
      rw [upd_same] at q; cases q
      have x : ObjOk X.prog X.w H s.heap b (.frz od u) := I.hok b _ h
      exact x.2.stay (fun c v _ r => r) (fun c r => own c _ r) fun c xs r => tup c xs r
    · rw [upd_ne hb] at q
      exact (I.hok b o q).stay (fun c v _ r => r) (fun c r => own c _ r) fun c xs r => tup c xs r
/-- .. at an end -/
def Unl (Hs : Hp) (K : Hp → Prop) (H' : Hp) : Prop := K H' ∨ ∃ d o u, H' d = some (.frz o u) ∧ (∀ o u, Hs d ≠ some (.frz o u)) ∧ K (upd H' d u)
theorem Unl.go {Hs : Hp} {s0 : Shared} {K : Hp → Prop} {σ' : L2.St} (I : Inv X pins σ Hs s0) (I2 : Inv X pins σ' H s) (h : Unl Hs K H) : ∃ H2, Inv X pins σ' H2 s ∧ K H2 := by
  rcases h with h | ⟨d, o, u, h1, h2, h3⟩
  · exact ⟨H, I2, h⟩
  · exact ⟨_, Inv.unlock I2 h1 (fun o u q => h2 o u (I.base.frzs d o u q)), h3⟩
theorem pe_unl {t : TE} (h : PE X e t) : PE X e (fun σ H Q => t σ H fun v H' => Unl H (Q v) H') :=
  ⟨fun pins s σ H Q I q => thn (h.run pins s σ H _ I q) fun v s1 ⟨x, H1, I1, r, q⟩ => let ⟨H2, I2, q2⟩ := Unl.go I I1 q; ⟨x, H2, I2, r, q2⟩⟩
def DUnl (Hs : Hp) (D : Ends) : Ends := { nx := fun σ H' => Unl Hs (D.nx σ) H', rt := fun v H' => Unl Hs (D.rt v) H', bk := fun σ H' => Unl Hs (D.bk σ) H', ct := fun σ H' => Unl Hs (D.ct σ) H' }
theorem ps_unl {t : TS} (h : PS X st t) : PS X st (fun D σ H => t (DUnl H D) σ H) :=
  ⟨fun pins s σ H D I q => thn (h.run pins s σ H _ I q) fun f s1 q => by
    cases f with
    | next => obtain ⟨σ', H', I', q⟩ := q; obtain ⟨H2, I2, q2⟩ := Unl.go I I' q; exact ⟨σ', H2, I2, q2⟩
    | brk => obtain ⟨σ', H', I', q⟩ := q; obtain ⟨H2, I2, q2⟩ := Unl.go I I' q; exact ⟨σ', H2, I2, q2⟩
    | cont => obtain ⟨σ', H', I', q⟩ := q; obtain ⟨H2, I2, q2⟩ := Unl.go I I' q; exact ⟨σ', H2, I2, q2⟩
    | ret u => obtain ⟨v, σ', H', I', r, q⟩ := q; obtain ⟨H2, I2, q2⟩ := Unl.go I I' q; exact ⟨v, σ', H2, I2, r, q2⟩⟩
end
/-! ### in the store -/
def lck : Option Nat → List U → List U
  | none, st => st
  | some n, st => match st[n]? with
    | some (.dct ks us) => st.set n (.lkd ks us)
    | _ => st
def unl : Option Nat → List U → Option (List U)
  | none, st => some st
  | some n, st => match st[n]? with
    | some (.lkd ks us) => some (st.set n (.dct ks us))
    | _ => none
def LkO (lk : Option Nat) (st : List U) : Prop := ∀ n, lk = some n → ∃ ks us, st[n]? = some (.dct ks us)
section
variable {G : Ge} {φ φ' : Ph} {H H' H1 H2 : Hp} {B : Nat → Prop} {b : Nat} {st st' st2 : List U} {lk : Option Nat}
theorem DO.isDict {ks : List KK} {xs : List V} {o : HO} (h : DO ks xs (some o)) : EV.isDict o = true := by
  rcases h.2 with ⟨_, _, e⟩ | ⟨_, _, _, e⟩ <;> (cases e; rfl)
/-- a dict that may change is locked -/
theorem lock_ref {n : Nat} {d : Addr} {ks : List KK} {us : List U} {o : HO} {od : Obj} (S : StOk G φ H B b st) (e : st[n]? = some (.dct ks us)) (ed : φ.l[n]? = some d) (h : H d = some o) : Ext φ H φ (upd H d (.frz od o)) ∧ StOk G φ (upd H d (.frz od o)) B b (lck (some n) st) := by
  obtain ⟨a, e1, m, co⟩ := S.at e
  rw [ed] at e1; cases e1
  obtain ⟨xs, hdo, r⟩ := co
  rw [h] at hdo
  refine ⟨Ext.set S m (fun od' o' z => by rw [h] at z; have := hdo.isDict; cases z; cases this), ?_⟩
  have : lck (some n) st = st.set n (.lkd ks us) := by simp only [lck, e]
  rw [this]
  exact S.set ed ⟨xs, od, o, rfl, hdo, r⟩ (.inr fun m hm => ⟨_, e, hm⟩)
/-- .. and unlocked: from where it was none, to here -/
theorem unlock_ref {st3 : List U} (x : Ext φ H φ' H') (S0 : StOk G φ H B b st) (k : LkO lk st) (S : StOk G φ' H' B b st2) (e : unl lk st2 = some st3) :
    ∃ H2, Ext φ H φ' H2 ∧ StOk G φ' H2 B b st3 ∧ Las φ' H' φ' H2 ∧ (H2 = H' ∨ ∃ d o u, d ∈ φ'.l ∧ H' d = some (.frz o u) ∧ (∀ o u, H d ≠ some (.frz o u)) ∧ H2 = upd H' d u) := by
  cases lk with
  | none => cases e; exact ⟨H', x, S, .refl, .inl rfl⟩
  | some n =>
    obtain ⟨ks0, us0, e0⟩ := k n rfl
    obtain ⟨d, ed0, m0, xs0, hd0, _⟩ := S0.at e0
    have nf : ∀ o u, H d ≠ some (.frz o u) := fun o u z => by rw [z] at hd0; have := hd0.isDict; cases this
    simp only [unl] at e
    split at e
    · rename_i ks us e2
      cases e
      obtain ⟨d2, ed, m, xs, od, o, eo, hdo, r⟩ := S.at e2
      rw [x.get ed0] at ed; cases ed
      have l : Las φ' H' φ' (upd H' d o) := Las.set m
      refine ⟨upd H' d o, ⟨x.toLas.trans l, x.geq, fun a ha => ?_, fun a od' o' z => ?_⟩, S.set (x.get ed0) ⟨xs, hdo, r⟩ (.inr fun m hm => ⟨_, e2, hm⟩), l, .inr ⟨d, od, o, m, eo, nf, rfl⟩⟩
      · rw [upd_ne (show a ≠ d from fun z => S0.lg m0 (z ▸ ha))]; exact x.gkp a ha
      · rw [upd_ne (show a ≠ d from fun q => nf _ _ (q ▸ z))]; exact x.fz a od' o' z
    · cases e
end
end EV

set_option maxRecDepth 100000
/-! E6: statements, loops. -/
namespace EV
open PySem PySem.Spec PyProof.Rows L2
open Classical

inductive Fl where
  | nx | rt (u : U) | bk | ct | ex (e : U)
abbrev Sv := Nat → En → List U → Res (Fl × En)
/-- an expression, then a statement; what it raises is the statement's end -/
def exS {α : Type} (fa : Ev α) (g : α → Sv) : Sv := fun b ρ st => match fa b ρ st with
  | .stuck => .stuck
  | .ok u st1 => g u b ρ st1
  | .exc e st1 => .ok (.ex e, ρ) st1
def FlK (G : Ge) (W : WX) (D : Ends) (p : Fl × En) (φ : Ph) (H : Hp) : Prop := match p.1 with
  | .nx => ∀ σ, StR G φ H p.2 σ → D.nx σ H
  | .rt u => ∀ v, RV G φ H u v → D.rt v H
  | .bk => ∀ σ, StR G φ H p.2 σ → D.bk σ H
  | .ct => ∀ σ, StR G φ H p.2 σ → D.ct σ H
  | .ex e => ∀ σ cls d, StR G φ H p.2 σ → RX G φ H e cls d → W cls d σ H
abbrev NoX : XW := fun _ _ _ => False
def PostS (G : Ge) (W : WX) (B : Nat → Prop) (b : Nat) (φ : Ph) (H : Hp) (r : Res (Fl × En)) (D : Ends) : Prop := Post G NoX B b φ H r fun p φ' H' _ => FlK G W D p φ' H'
def liftS (G : Ge) (W : WX) (f : Sv) : TS := fun D σ H => ∃ φ st ρ B b, StR G φ H ρ σ ∧ StOk G φ H B b st ∧ PostS G W B b φ H (f b ρ st) D
abbrev Tg := U → Nat → En → List U → Option (En × List U)
def liftG (G : Ge) (tg : Tg) : TG := fun v σ H Q => ∃ φ st ρ B b u, StR G φ H ρ σ ∧ StOk G φ H B b st ∧ RV G φ H u v ∧ PostO G B b φ H (tg u b ρ st) fun ρ' φ' H' _ => ∀ σ', StR G φ' H' ρ' σ' → Q σ' H'
theorem PGi {X : Cx} {e : Expr} {t t' : TG} (h : PG X e t) (i : ∀ v σ H Q, t' v σ H Q → t v σ H Q) : PG X e t' := ⟨fun pins s σ H v u Q I r q => h.run pins s σ H v u Q I r (i _ _ _ _ q)⟩
section
variable {G : Ge} {W : WX} {X : Cx} {a c e : Expr} {es : List Expr} {fa fb fc : Ev U} {fs fk : Ev (List U)} {pos p apos : Pos} {x : Str} {st1 st2 : Stmt} {sts body : List Stmt}
variable {σ : L2.St} {H : Hp} {Q : VK} {φ : Ph} {B : Nat → Prop} {b : Nat} {st : List U} {f g : Sv} {D D' : Ends}
theorem exS_post {α : Type} {fa : Ev α} {g : α → Sv} {ρ : En} (R : StR G φ H ρ σ) (P : PostS G W B b φ H (exS fa g b ρ st) D) :
    Post G (fun c d H => W c d σ H) B b φ H (fa b ρ st) fun u φ' H' st' => PostS G W B b φ' H' (g u b ρ st') D := by
  unfold PostS exS at P
  cases e : fa b ρ st with
  | stuck => rw [e] at P; exact P
  | ok u st' => rw [e] at P; exact fun φ' H' x S => Post.ext x P
  | exc ex st' => rw [e] at P; exact fun φ' H' cls d x S rx => P φ' H' x S σ cls d (R.mono x) rx
/-! ### blocks -/
def sNil : Sv := fun _ ρ st => .ok (.nx, ρ) st
def sSeq (f g : Sv) : Sv := fun b ρ st => (f b ρ st).bind fun p st1 => match p.1 with
  | .nx => g b p.2 st1
  | fl => .ok (fl, p.2) st1
theorem s_snil : PSs X [] (liftS G W sNil) := PSsi pss_nil fun D σ H ⟨φ, st, ρ, B, b, R, S, P⟩ => P φ H .refl S σ R
theorem s_seq (h1 : PS X st1 (liftS G W f)) (h2 : PSs X sts (liftS G W g)) : PSs X (st1 :: sts) (liftS G W (sSeq f g)) :=
  PSsi (pss_cons h1 h2) fun D σ H ⟨φ, st, ρ, B, b, R, S, P⟩ => by
    refine ⟨φ, st, ρ, B, b, R, S, (Post.bind P).imp fun p φ' H' st' x S' q => ?_⟩
    obtain ⟨fl, ρ'⟩ := p
    cases fl with
    | nx => exact fun σ' R' => ⟨φ', st', ρ', B, b, R', S', q⟩
    | rt u => exact q φ' H' .refl S'
    | bk => exact q φ' H' .refl S'
    | ct => exact q φ' H' .refl S'
    | ex e => exact q φ' H' .refl S'
/-! ### small statements -/
theorem s_pass : PS X (.Pass pos) (liftS G W sNil) := PSi ps_pass fun D σ H ⟨φ, st, ρ, B, b, R, S, P⟩ => P φ H .refl S σ R
def sBrk : Sv := fun _ ρ st => .ok (.bk, ρ) st
def sCnt : Sv := fun _ ρ st => .ok (.ct, ρ) st
theorem s_break : PS X (.Break pos) (liftS G W sBrk) := PSi ps_break fun D σ H ⟨φ, st, ρ, B, b, R, S, P⟩ => P φ H .refl S σ R
theorem s_continue : PS X (.Continue pos) (liftS G W sCnt) := PSi ps_continue fun D σ H ⟨φ, st, ρ, B, b, R, S, P⟩ => P φ H .refl S σ R
theorem s_doc {y : Str} {j : Nat} {pos' : Pos} : PS X (.Expr (.Constant (.str y) j pos) pos') (liftS G W sNil) := PSi ps_doc fun D σ H ⟨φ, st, ρ, B, b, R, S, P⟩ => P φ H .refl S σ R
/-- code that is never come to -/
def sStuck : Sv := fun _ _ _ => .stuck
theorem s_stuck : PS X st1 (liftS G W sStuck) := PSi ps_never fun D σ H ⟨φ, st, ρ, B, b, R, S, P⟩ => P
def sExpr (fa : Ev U) : Sv := exS fa fun _ => sNil
theorem s_expr (he : PE X e (lift G W fa)) (hs : swapsWith e none pos.line X.env = pure false) : PS X (.Expr e pos) (liftS G W (sExpr fa)) :=
  PSi (ps_expr he hs) fun D σ H ⟨φ, st, ρ, B, b, R, S, P⟩ => ⟨φ, st, ρ, B, b, R, S, (exS_post R P).imp fun u φ' H' st' x S' q v r => q φ' H' .refl S' σ (R.mono x)⟩
def sRet (fa : Ev U) : Sv := exS fa fun u _ ρ st => .ok (.rt u, ρ) st
theorem s_ret (he : PE X e (lift G W fa)) : PS X (.Return (some e) pos) (liftS G W (sRet fa)) :=
  PSi (ps_ret he) fun D σ H ⟨φ, st, ρ, B, b, R, S, P⟩ => ⟨φ, st, ρ, B, b, R, S, (exS_post R P).imp fun u φ' H' st' x S' q v r => q φ' H' .refl S' v r⟩
def sRetN : Sv := fun _ ρ st => .ok (.rt .non, ρ) st
theorem s_retN : PS X (.Return none pos) (liftS G W sRetN) := PSi ps_retN fun D σ H ⟨φ, st, ρ, B, b, R, S, P⟩ => P φ H .refl S .non rt_non.rv
def sIf (t : Ev Bool) (f g : Sv) : Sv := exS t fun k => if k = true then f else g
theorem s_if {t : Ev Bool} {b1 b2 : List Stmt} (ht : PT X c (liftT G W t)) (h1 : PSs X b1 (liftS G W f)) (h2 : PSs X b2 (liftS G W g)) : PS X (.If c b1 b2 pos) (liftS G W (sIf t f g)) :=
  PSi (ps_if ht h1 h2) fun D σ H ⟨φ, st, ρ, B, b, R, S, P⟩ => ⟨φ, st, ρ, B, b, R, S, (exS_post R P).imp fun k φ' H' st' x S' q => by
    cases k with
    | true => rw [if_pos rfl] at q ⊢; exact ⟨φ', st', ρ, B, b, R.mono x, S', q⟩
    | false => rw [if_neg (by decide)] at q ⊢; exact ⟨φ', st', ρ, B, b, R.mono x, S', q⟩⟩
/-! ### targets -/
def gVar (i : Nat) : Tg := fun u _ ρ st => if i < ρ.length then some (ρ.set i (some u), st) else none
theorem s_gname {i : Nat} (hN : X.N.Nodup) (hi : X.N[i]? = some x) (hx : Loc X.env.scope x) (hf : X.fn x = true ∨ X.env.scope.names.lookup x = some .local) : PG X (.Name x pos) (liftG G (gVar i)) :=
  PGi (pg_name hN hi hx hf) fun v σ H Q ⟨φ, st, ρ, B, b, u, R, S, r, P⟩ => by
    unfold gVar at P
    split at P
    · exact P φ H .refl S _ (R.set r i)
    · exact P.elim
/-- o[i] = u -/
abbrev Pr3 := Nat → U → U → U → List U → Option (List U)
def gSubE (p : Pr3) (fo fi : Ev U) : Tg := fun u b ρ st => match fo b ρ st with
  | .ok o st1 => (match fi b ρ st1 with
    | .ok i st2 => (p b o i u st2).map fun st3 => (ρ, st3)
    | _ => none)
  | _ => none
def rSet (G : Ge) (p : Pr3) : TSet := fun o i v H Q => ∃ φ st B b uo ui u, StOk G φ H B b st ∧ RV G φ H uo o ∧ RV G φ H ui i ∧ RV G φ H u v ∧ ∃ st', p b uo ui u st = some st' ∧ ∀ φ' H', Ext φ H φ' H' → StOk G φ' H' B b st' → Q H'
theorem s_gsub {q : Pr3} {fo fi : Ev U} (hs : PSet X (rSet G q)) (ho : PE X a (lift G W fo)) (hi : PE X c (lift G W fi))
    (ha : ∀ v, assign (.Subscript a c pos) X.env v = (do
      let ov ← holding [v] (eval a X.env)
      let iv ← holding [v, ov] (eval c X.env)
      standAt pos
      holding [v, ov, iv] (setItem ov iv v)
      release [v, ov, iv] [])) : PG X (.Subscript a c pos) (liftG G (gSubE q fo fi)) :=
  PGi (pg_sub ho hi hs ha) fun v σ H Q ⟨φ, st, ρ, B, b, u, R, S, r, P⟩ => by
    unfold gSubE at P
    refine ⟨φ, st, ρ, B, b, R, S, ?_⟩
    cases e1 : fo b ρ st with
    | stuck => rw [e1] at P; exact P.elim
    | exc _ _ => rw [e1] at P; exact P.elim
    | ok o s1 =>
      rw [e1] at P
      simp only at P
      intro φ1 H1 x1 S1 vo ro
      refine ⟨φ1, s1, ρ, B, b, R.mono x1, S1, ?_⟩
      cases e2 : fi b ρ s1 with
      | stuck => rw [e2] at P; exact P.elim
      | exc _ _ => rw [e2] at P; exact P.elim
      | ok i s2 =>
        rw [e2] at P
        simp only at P
        intro φ2 H2 x2 S2 vi ri
        cases e3 : q b o i u s2 with
        | none => rw [e3] at P; exact P.elim
        | some s3 =>
          rw [e3] at P
          exact ⟨φ2, s2, B, b, o, i, u, S2, ro.mono x2, ri, r.mono (x1.trans x2), s3, e3, fun φ3 H3 x3 S3 => P φ3 H3 ((x1.trans x2).trans x3) S3 σ (R.mono ((x1.trans x2).trans x3))⟩
/-- several targets -/
abbrev Tgs := List U → Nat → En → List U → Option (En × List U)
def liftGs (G : Ge) (tg : Tgs) : TGs := fun vs σ H Q => ∃ φ st ρ B b us, StR G φ H ρ σ ∧ StOk G φ H B b st ∧ RVs G φ H us vs ∧ PostO G B b φ H (tg us b ρ st) fun ρ' φ' H' _ => ∀ σ', StR G φ' H' ρ' σ' → Q σ' H'
theorem PGsi {X : Cx} {e : List Expr} {t t' : TGs} (h : PGs X e t) (i : ∀ v σ H Q, t' v σ H Q → t v σ H Q) : PGs X e t' := ⟨fun pins s σ H v u Q I r q => h.run pins s σ H v u Q I r (i _ _ _ _ q)⟩
def gsNil : Tgs := fun us _ ρ st => match us with
  | [] => some (ρ, st)
  | _ => none
def gsCons (t : Tg) (r : Tgs) : Tgs := fun us b ρ st => match us with
  | u :: us => (t u b ρ st).bind fun p => r us b p.1 p.2
  | [] => none
theorem s_gsnil : PGs X [] (liftGs G gsNil) := PGsi pgs_nil fun vs σ H Q ⟨φ, st, ρ, B, b, us, R, S, r, P⟩ => by
  cases r with
  | nil => exact ⟨rfl, P φ H .refl S σ R⟩
  | cons _ _ => exact P.elim
theorem PostO.ext {α : Type} {φ' : Ph} {H' : Hp} {r : Option (α × List U)} {K : α → Ph → Hp → List U → Prop} (x : Ext φ H φ' H') (h : PostO G B b φ H r K) : PostO G B b φ' H' r K := by
  cases r with
  | none => exact h
  | some p => exact fun φ2 H2 y S => h φ2 H2 (x.trans y) S
theorem s_gscons {t : Tg} {r : Tgs} (h1 : PG X e (liftG G t)) (h2 : PGs X es (liftGs G r)) (hs : (assignEach (e :: es) X.env).map (·.2) = assign e X.env :: (assignEach es X.env).map (·.2)) : PGs X (e :: es) (liftGs G (gsCons t r)) := PGsi (pgs_cons h1 h2 hs) fun vs σ H Q ⟨φ, st, ρ, B, b, us, R, S, rr, P⟩ => by
  cases rr with
  | nil => exact P.elim
  | cons h tl =>
    refine ⟨_, _, rfl, φ, st, ρ, B, b, _, R, S, h, ?_⟩
    simp only [gsCons] at P
    cases e1 : t _ b ρ st with
    | none => rw [e1] at P; exact P.elim
    | some p =>
      rw [e1] at P
      exact fun φ' H' x S' σ' R' => ⟨φ', p.2, p.1, B, b, _, R', S', RVs.mono x tl, PostO.ext x P⟩
/-- (a, b, ..) = a tuple, a list -/
def gTupE (n : Nat) (r : Tgs) : Tg := fun u b ρ st => match u with
  | .tup us => if us.length = n then r us b ρ st else none
  | .ft us => if us.length = n then r us b ρ st else none
  | .lst us => if us.length = n then r us b ρ st else none
  | .fl us => if us.length = n then r us b ρ st else none
  | .ref m => (match st[m]? with
    | some (.lst us) => if us.length = n then r us b ρ st else none
    | _ => none)
  | _ => none
theorem PG.or {t : Expr} {g g' : TG} (h : PG X t g) (h' : PG X t g') : PG X t (fun v σ H Q => g v σ H Q ∨ g' v σ H Q) := ⟨fun pins s σ H v u Q I r q => q.elim (h.run pins s σ H v u Q I r) (h'.run pins s σ H v u Q I r)⟩
theorem s_gtup {k : Nat} {r : Tgs} (hK : X.K = G.K) (hc : X.calm = true) (h : PGs X es (liftGs G r)) (hst : (assignEach es X.env).findIdx? (·.1) = none) (hln : (assignEach es X.env).length = es.length) : PG X (.Tuple es k pos) (liftG G (gTupE es.length r)) := PGi (PG.or (pg_tup hc h hln hst) (pg_unl hc h hln hst)) fun v σ H Q ⟨φ, st, ρ, B, b, u, R, S, rr, P⟩ => by
  cases u with
  | tup us =>
    obtain ⟨a, xs, rfl, _, h, r⟩ := rt_tup (rr.rt rfl)
    simp only [gTupE] at P
    split at P
    · rename_i l
      exact .inl ⟨a, xs, rfl, .of h, by rw [← l]; exact r.rvs.len.symm, φ, st, ρ, B, b, us, R, S, r.rvs, P⟩
    · exact P.elim
  | ft us =>
    obtain ⟨a, xs, rfl, h, r⟩ := rt_ft (X := X) hK (rr.rt rfl)
    simp only [gTupE] at P
    split at P
    · rename_i l
      exact .inl ⟨a, xs, rfl, h, by rw [← l]; exact r.rvs.len.symm, φ, st, ρ, B, b, us, R, S, r.rvs, P⟩
    · exact P.elim
  | lst us =>
    obtain ⟨a, xs, rfl, _, h, r⟩ := rt_lst (rr.rt rfl)
    simp only [gTupE] at P
    split at P
    · rename_i l
      exact .inr ⟨a, xs, rfl, .of h, by rw [← l]; exact r.rvs.len.symm, φ, st, ρ, B, b, us, R, S, r.rvs, P⟩
    · exact P.elim
  | fl us =>
    obtain ⟨a, xs, rfl, h, r⟩ := rt_fl (X := X) hK (rr.rt rfl)
    simp only [gTupE] at P
    split at P
    · rename_i l
      exact .inr ⟨a, xs, rfl, h, by rw [← l]; exact r.rvs.len.symm, φ, st, ρ, B, b, us, R, S, r.rvs, P⟩
    · exact P.elim
  | ref m =>
    simp only [gTupE] at P
    split at P
    · rename_i us eu
      obtain ⟨d, rfl, ed, _, xs, hd, r⟩ := rv_ref S rr eu
      split at P
      · rename_i l
        exact .inr ⟨d, xs, rfl, .of hd, by rw [← l]; exact r.len.symm, φ, st, ρ, B, b, us, R, S, r, P⟩
      · exact P.elim
    · exact P.elim
  | _ => exact P.elim
def sAsg (fa : Ev U) (tg : Tg) : Sv := exS fa fun u b ρ st => match tg u b ρ st with
  | some (ρ', st') => .ok (.nx, ρ') st'
  | none => .stuck
theorem s_asg {t : Expr} {tg : Tg} (he : PE X e (lift G W fa)) (hg : PG X t (liftG G tg)) (hs : swapsWithSole [t] e pos.line X.env = pure false) (hw : swappedStores [t] e X.env = pure none)
    (h1 : (assignEach [t] X.env).map (·.2) = [assign t X.env]) : PS X (.Assign [t] e pos) (liftS G W (sAsg fa tg)) :=
  PSi (ps_asg he hg hs hw h1) fun D σ H ⟨φ, st, ρ, B, b, R, S, P⟩ => ⟨φ, st, ρ, B, b, R, S, (exS_post R P).imp fun u φ' H' st' x S' q v r => by
    refine ⟨φ', st', ρ, B, b, u, R.mono x, S', r, ?_⟩
    cases e1 : tg u b ρ st' with
    | none => rw [e1] at q; exact q.elim
    | some p =>
      rw [e1] at q
      exact fun φ2 H2 x2 S2 σ' R' => q φ2 H2 x2 S2 σ' R'⟩
/-- x, y = e1, e2 -/
def sPar (i j : Nat) (fs : Ev (List U)) : Sv := exS fs fun us _ ρ st => match us with
  | [u, w] => .ok (.nx, (ρ.set i (some u)).set j (some w)) st
  | _ => .stuck
theorem s_par {i j : Nat} {y : Str} {px py pt : Pos} {kt k2 : Nat} {pt2 : Pos} (hc : X.calm = true) (hN : X.N.Nodup) (hi : X.N[i]? = some x) (hj : X.N[j]? = some y) (hij : i ≠ j)
    (hx : X.env.scope.names.lookup x = some .local) (hy : X.env.scope.names.lookup y = some .local) (ha : PA X [a, c] (liftA G W fs))
    (hw : swappedStores [.Tuple [.Name x px, .Name y py] kt pt] (.Tuple [a, c] k2 pt2) X.env = pure (some [x, y]))
    (hs : swapsWithSole [.Tuple [.Name x px, .Name y py] kt pt] (.Tuple [a, c] k2 pt2) pos.line X.env = pure false) :
    PS X (.Assign [.Tuple [.Name x px, .Name y py] kt pt] (.Tuple [a, c] k2 pt2) pos) (liftS G W (sPar i j fs)) :=
  PSi (ps_par hc hN hi hj hij hx hy ha hw hs) fun D σ H ⟨φ, st, ρ, B, b, R, S, P⟩ => ⟨φ, st, ρ, B, b, R, S, (exS_post R P).imp fun us φ' H' st' x S' q vs r => by
    cases r with
    | nil => exact q.elim
    | cons r1 r =>
      cases r with
      | nil => exact q.elim
      | cons r2 r =>
        cases r with
        | nil => exact ⟨_, _, rfl, q φ' H' .refl S' _ (((R.mono x).set r1 i).set r2 j)⟩
        | cons _ _ => exact q.elim⟩
/-! ### what a loop walks -/
structure IV where
  us : List U
  chk : List U → Prop
  lk : Option Nat
def ItOk (G : Ge) (B : Nat → Prop) (b : Nat) (φ : Ph) (H : Hp) (iv : IV) (J : It) : Prop :=
  ∀ φ' H' st', Las φ H φ' H' → (∀ a od o, H a = some (.frz od o) → H' a = some (.frz od o)) → StOk G φ' H' B b st' → iv.chk st' →
    (∀ i u, iv.us[i]? = some u → J.go i H' ∧ ∀ x H2, J.yld i H' x H2 → Ext φ' H' φ' H2 ∧ StOk G φ' H2 B b st' ∧ RV G φ' H2 u x) ∧ ∀ i, iv.us.length ≤ i → J.stop i H'
def liftI (G : Ge) (W : WX) (it : Ev IV) : TI := fun σ H R => ∃ φ st ρ B b, StR G φ H ρ σ ∧ StOk G φ H B b st ∧ Post G (fun c d H => W c d σ H) B b φ H (it b ρ st) fun iv φ' H' st' => ∀ J H2, Ext φ' H' φ' H2 → StOk G φ' H2 B b (lck iv.lk st') → ItOk G B b φ' H2 iv J → iv.us.length ≤ sizeLine → LkO iv.lk st' → R J H2
noncomputable def forL (chk : List U → Prop) (tg : Tg) (body : Sv) : List U → Sv
  | [], _, ρ, st => if chk st then .ok (.nx, ρ) st else .stuck
  | u :: us, b, ρ, st => if chk st then match tg u b ρ st with
    | none => .stuck
    | some (ρ1, st1) => (body b ρ1 st1).bind fun p st2 => match p.1 with
      | .nx => forL chk tg body us b p.2 st2
      | .ct => forL chk tg body us b p.2 st2
      | .bk => .ok (.nx, p.2) st2
      | .rt u => .ok (.rt u, p.2) st2
      | .ex e => .ok (.ex e, p.2) st2
    else .stuck
def unlR (lk : Option Nat) (r : Res (Fl × En)) : Res (Fl × En) := match lk with
  | none => r
  | some n => match r with
    | .ok (.ex _, _) _ => .stuck
    | .ok p st => (match unl (some n) st with
      | some st' => .ok p st'
      | none => .stuck)
    | _ => .stuck
noncomputable def sFor (it : Ev IV) (tg : Tg) (body : Sv) : Sv := exS it fun iv b ρ st => unlR iv.lk (forL iv.chk tg body iv.us b ρ (lck iv.lk st))
theorem post_unlR {lk : Option Nat} {r : Res (Fl × En)} {φ1 : Ph} {H1 H2 Hs : Hp} {st1 : List U} (hs : ∀ a, (∃ o u, Hs a = some (.frz o u)) → ∃ o u, H1 a = some (.frz o u)) (S1 : StOk G φ1 H1 B b st1) (x2 : Ext φ1 H1 φ1 H2) (k : LkO lk st1)
    (P : PostS G W B b φ1 H1 (unlR lk r) D) : PostS G W B b φ1 H2 r (DUnl Hs D) := by
  have key : ∀ (p : Fl × En) (st2 st3 : List U), (lk = none ∨ ∀ e, p.1 ≠ .ex e) → unl lk st2 = some st3 → PostS G W B b φ1 H1 (.ok p st3) D → PostS G W B b φ1 H2 (.ok p st2) (DUnl Hs D) := fun p st2 st3 hne eu P φ' H' x S => by
    obtain ⟨H3, x3, S3, l3, hd⟩ := unlock_ref (x2.trans x) S1 k S eu
    have q := P φ' H3 x3 S3
    have un : ∀ {K : Hp → Prop}, K H3 → Unl Hs K H' := fun {K} hk => by
      rcases hd with rfl | ⟨d, o, u, m, e1, nf, rfl⟩
      · exact .inl hk
      · exact .inr ⟨d, o, u, e1, fun o' u' z => by
          obtain ⟨o2, u2, z2⟩ := hs d ⟨o', u', z⟩
          exact nf _ _ z2, hk⟩
    obtain ⟨fl, ρ⟩ := p
    cases fl with
    | nx => exact fun σ R => un (q σ ⟨R.1, fun i u e => let ⟨v, a, r⟩ := R.2 i u e; ⟨v, a, r.mono' l3⟩⟩)
    | rt u => exact fun v r => un (q v (r.mono' l3))
    | bk => exact fun σ R => un (q σ ⟨R.1, fun i u e => let ⟨v, a, r⟩ := R.2 i u e; ⟨v, a, r.mono' l3⟩⟩)
    | ct => exact fun σ R => un (q σ ⟨R.1, fun i u e => let ⟨v, a, r⟩ := R.2 i u e; ⟨v, a, r.mono' l3⟩⟩)
    | ex e =>
      rcases hne with rfl | hne
      · cases eu
        exact P φ' H' (x2.trans x) S
      · exact absurd rfl (hne e)
  cases lk with
  | none =>
    cases r with
    | stuck => exact P
    | exc e st => exact fun φ' H' c d x S rx => P φ' H' c d (x2.trans x) S rx
    | ok p st => exact key p st st (.inl rfl) rfl P
  | some n =>
    cases r with
    | stuck => exact P
    | exc e st => exact P.elim
    | ok p st =>
      obtain ⟨fl, ρ⟩ := p
      have fin : (∀ e, fl ≠ .ex e) → PostS G W B b φ1 H1 (match unl (some n) st with
        | some st' => .ok (fl, ρ) st'
        | none => .stuck) D → PostS G W B b φ1 H2 (.ok (fl, ρ) st) (DUnl Hs D) := fun hne P => by
        cases eu : unl (some n) st with
        | none => rw [eu] at P; exact P.elim
        | some st3 => rw [eu] at P; exact key _ _ _ (.inr hne) eu P
      cases fl with
      | ex e => exact P.elim
      | nx => exact fin (fun _ z => by cases z) P
      | rt u => exact fin (fun _ z => by cases z) P
      | bk => exact fin (fun _ z => by cases z) P
      | ct => exact fin (fun _ z => by cases z) P
theorem s_for {t iter : Expr} {it : Ev IV} {tg : Tg} (hp : PassesOwn (model X.prog X.w) X.A X.env X.xe) (hc : X.calm = true) (hi : PI X t iter (liftI G W it)) (hg : PG X t (liftG G tg)) (hb : PSs X body (liftS G W f))
    (hs : ∀ x, foldedSetIterable iter X.env x = pure x) : PS X (.For t iter body [] pos) (liftS G W (sFor it tg f)) :=
  PSi (ps_unl (ps_for hp hc hi hg hb hs)) fun D σ H ⟨φ, st, ρ, B, b, R, S, P⟩ => by
    refine (show tFor (liftI G W it) (liftG G tg) (liftS G W f) (DUnl H D) σ H from ?_)
    refine ⟨φ, st, ρ, B, b, R, S, (exS_post R P).imp fun iv φ1 H1 st1 x1 S1 q J H2 x2 S2 ok _ lko => ?_⟩
    have q := post_unlR (Hs := H) (fun a ⟨o, u, z⟩ => ⟨o, u, x1.fz a o u z⟩) S1 x2 lko q
    generalize DUnl H D = D at q ⊢
    refine ⟨fun i m σ H => m = iv.us.length - i ∧ i ≤ iv.us.length ∧ ∃ φ' st' ρ', Ext φ1 H2 φ' H ∧ StR G φ' H ρ' σ ∧ StOk G φ' H B b st' ∧ PostS G W B b φ' H (forL iv.chk tg f (iv.us.drop i) b ρ' st') D,
      ⟨_, rfl, Nat.zero_le _, φ1, lck iv.lk st1, ρ, .refl, R.mono (x1.trans x2), S2, q⟩, ?_⟩
    rintro i m σ' H' ⟨rfl, hi', φ', st', ρ', x', R', S', q'⟩
    by_cases hlt : i < iv.us.length
    · rw [List.drop_eq_getElem_cons hlt] at q'
      simp only [forL] at q'
      split at q'
      · rename_i hchk
        obtain ⟨h1, h2⟩ := ok φ' H' st' x'.toLas x'.fz S' hchk
        obtain ⟨go, yld⟩ := h1 i _ (List.getElem?_eq_getElem hlt)
        refine .inr ⟨go, fun σ2 H2' => iv.us.length - (i + 1) = iv.us.length - (i + 1) ∧ i + 1 ≤ iv.us.length ∧ ∃ φ' st' ρ', Ext φ1 H2 φ' H2' ∧ StR G φ' H2' ρ' σ2 ∧ StOk G φ' H2' B b st' ∧ PostS G W B b φ' H2' (forL iv.chk tg f (iv.us.drop (i + 1)) b ρ' st') D,
          fun σ2 H2' h => ⟨iv.us.length - (i + 1), by omega, h⟩, fun v H3 hy => ?_⟩
        obtain ⟨x3, S3, r3⟩ := yld v H3 hy
        refine ⟨φ', st', ρ', B, b, _, R'.mono x3, S3, r3, ?_⟩
        cases e1 : tg iv.us[i] b ρ' st' with
        | none => rw [e1] at q'; exact q'.elim
        | some p =>
          rw [e1] at q'
          simp only at q'
          intro φ4 H4 x4 S4 σ4 R4
          refine ⟨φ4, p.2, p.1, B, b, R4, S4, (Post.bind (Post.ext (x3.trans x4) q')).imp fun pp φ5 H5 st5 x5 S5 q5 => ?_⟩
          obtain ⟨fl, ρ5⟩ := pp
          have X5 : Ext φ1 H2 φ5 H5 := ((x'.trans x3).trans x4).trans x5
          cases fl with
          | nx => exact fun σ5 R5 => ⟨rfl, hlt, φ5, st5, ρ5, X5, R5, S5, q5⟩
          | ct => exact fun σ5 R5 => ⟨rfl, hlt, φ5, st5, ρ5, X5, R5, S5, q5⟩
          | bk => exact q5 φ5 H5 .refl S5
          | rt u => exact q5 φ5 H5 .refl S5
          | ex e => exact q5 φ5 H5 .refl S5
      · exact q'.elim
    · have e : i = iv.us.length := by omega
      subst e
      rw [List.drop_length] at q'
      simp only [forL] at q'
      split at q'
      · rename_i hchk
        exact .inl ⟨(ok φ' H' st' x'.toLas x'.fz S' hchk).2 _ (Nat.le_refl _), q' φ' H' .refl S' σ' R'⟩
      · exact q'.elim
/-! ### while -/
def whileL (t : Ev Bool) (body : Sv) : Nat → Sv
  | 0, _, _, _ => .stuck
  | n + 1, b, ρ, st => exS t (fun k b ρ st => if k = true then (body b ρ st).bind fun p st2 => match p.1 with
      | .nx => whileL t body n b p.2 st2
      | .ct => whileL t body n b p.2 st2
      | .bk => .ok (.nx, p.2) st2
      | .rt u => .ok (.rt u, p.2) st2
      | .ex e => .ok (.ex e, p.2) st2
    else .ok (.nx, ρ) st) b ρ st
theorem s_while {t : Ev Bool} {n : Nat} (hp : PassesOwn (model X.prog X.w) X.A X.env X.xe) (ht : PT X c (liftT G W t)) (hb : PSs X body (liftS G W f)) : PS X (.While c body [] pos) (liftS G W (whileL t f n)) :=
  PSi (ps_while hp ht hb) fun D σ H ⟨φ, st, ρ, B, b, R, S, P⟩ => by
    refine ⟨fun m σ H => ∃ φ st ρ, StR G φ H ρ σ ∧ StOk G φ H B b st ∧ PostS G W B b φ H (whileL t f m b ρ st) D, ⟨n, φ, st, ρ, R, S, P⟩, ?_⟩
    rintro m σ1 H1 ⟨φ1, st1, ρ1, R1, S1, P1⟩
    cases m with
    | zero => exact P1.elim
    | succ m =>
      refine ⟨φ1, st1, ρ1, B, b, R1, S1, (exS_post R1 P1).imp fun k φ2 H2 st2 x2 S2 q => ?_⟩
      cases k with
      | false =>
        rw [if_neg (by decide)] at q ⊢
        exact q φ2 H2 .refl S2 σ1 (R1.mono x2)
      | true =>
        rw [if_pos rfl] at q ⊢
        refine ⟨fun σ' H' => ∃ φ st ρ, StR G φ H' ρ σ' ∧ StOk G φ H' B b st ∧ PostS G W B b φ H' (whileL t f m b ρ st) D, fun σ' H' h => ⟨m, Nat.lt_succ_self _, h⟩, ?_⟩
        refine ⟨φ2, st2, ρ1, B, b, R1.mono x2, S2, (Post.bind q).imp fun pp φ5 H5 st5 x5 S5 q5 => ?_⟩
        obtain ⟨fl, ρ5⟩ := pp
        cases fl with
        | nx => exact fun σ5 R5 => ⟨φ5, st5, ρ5, R5, S5, q5⟩
        | ct => exact fun σ5 R5 => ⟨φ5, st5, ρ5, R5, S5, q5⟩
        | bk => exact q5 φ5 H5 .refl S5
        | rt u => exact q5 φ5 H5 .refl S5
        | ex e => exact q5 φ5 H5 .refl S5
end
end EV

set_option maxRecDepth 100000
/-! E7: what is walked; comprehensions. -/
namespace EV
open PySem PySem.Spec PyProof.Rows L2
open Classical

def ofKey : Key → U
  | .inl i => .int i
  | .inr x => .str x
def ofKK : KK → U
  | .a k => ofKey k
  | .t ks => .tup (ks.map ofKey)
/-- the values that a value yields -/
def iterOf (u : U) (st : List U) : Option IV := match u with
  | .lst us => some ⟨us, fun _ => True, none⟩
  | .fl us => some ⟨us, fun _ => True, none⟩
  | .tup us => some ⟨us, fun _ => True, none⟩
  | .ft us => some ⟨us, fun _ => True, none⟩
  | .str x => if x.length ≤ sizeLine then some ⟨x.cps.toList.map fun c => .str ⟨#[c]⟩, fun _ => True, none⟩ else none
  | .dct ks _ => some ⟨ks.map ofKK, fun _ => True, none⟩
  | .ref n => match st[n]? with
    | some (.lst us) => some ⟨us, fun st' => st'[n]? = some (.lst us), none⟩
    | some (.dct ks us) => some ⟨ks.map ofKK, fun st' => st'[n]? = some (.lkd ks us), some n⟩
    | some (.lkd ks us) => some ⟨ks.map ofKK, fun st' => st'[n]? = some (.lkd ks us), none⟩
    | _ => none
  | _ => none
def itVal (fa : Ev U) : Ev IV := fun b ρ st => (fa b ρ st).bind fun u st1 => match iterOf u st1 with
  | some iv => .ok iv st1
  | none => .stuck
section
variable {G : Ge} {W : WX} {X : Cx} {a c e t : Expr} {es : List Expr} {fa fb fc : Ev U} {fs fk : Ev (List U)} {pos p apos : Pos} {x : Str}
variable {σ : L2.St} {H : Hp} {Q : VK} {φ : Ph} {B : Nat → Prop} {b : Nat} {st : List U}
theorem PIi {X : Cx} {t e : Expr} {r r' : TI} (h : PI X t e r) (i : ∀ σ H R, r' σ H R → r σ H R) : PI X t e r' := ⟨fun pins s σ H R I q => h.run pins s σ H R I (i _ _ _ q)⟩
theorem PIor {r r' : TI} (h : PI X t e r) (h' : PI X t e r') : PI X t e (fun σ H R => r σ H R ∨ r' σ H R) := ⟨fun pins s σ H R I q => q.elim (h.run pins s σ H R I) (h'.run pins s σ H R I)⟩
/-- what comes may be locked -/
theorem pe_lockA {t : TE} (h : PE X e t) : PE X e (fun σ H Q => t σ H fun x H' => Q x H' ∨ ∃ d u, H' d = some u ∧ Mut (some u) ∧ ∀ od, Q x (upd H' d (.frz od u))) := by
  refine ⟨fun pins s σ H Q I q => thn (h.run pins s σ H _ I q) fun v s1 ⟨x, H1, I1, r, q⟩ => ?_⟩
  rcases q with q | ⟨d, u, hd, mu, q⟩
  · exact ⟨x, H1, I1, r, q⟩
  · obtain ⟨od, I2⟩ := I1.lock hd mu
    exact ⟨x, _, I2, r, q od⟩
theorem itl_ok {K : PySem.W.Frag} {d : Addr} {iv : IV} (h : ∀ φ' H' st', Las φ H φ' H' → StOk G φ' H' B b st' → iv.chk st' → ∃ xs, SqL K H' d xs ∧ RVs G φ' H' iv.us xs ) : ItOk G B b φ H iv (Itl K d) := by
  intro φ' H' st' x _ S hc
  obtain ⟨xs, h1, h2⟩ := h φ' H' st' x S hc
  refine ⟨fun i u e => ?_, fun i hi => ⟨xs, h1, by rw [← h2.len]; exact hi⟩⟩
  obtain ⟨v, e1, r⟩ := pGet h2 e
  refine ⟨⟨xs, v, h1, e1⟩, fun y H2 hy => ?_⟩
  obtain ⟨rfl, hy⟩ := hy
  have e2 := hy xs h1
  rw [e1] at e2; cases e2
  exact ⟨.refl, S, r⟩
theorem itt_ok {K : PySem.W.Frag} {d : Addr} {iv : IV} (h : ∀ φ' H' st', Las φ H φ' H' → StOk G φ' H' B b st' → iv.chk st' → ∃ xs, SqT K H' d xs ∧ RVs G φ' H' iv.us xs) : ItOk G B b φ H iv (Itt K d) := by
  intro φ' H' st' x _ S hc
  obtain ⟨xs, h1, h2⟩ := h φ' H' st' x S hc
  refine ⟨fun i u e => ?_, fun i hi => ⟨xs, h1, by rw [← h2.len]; exact hi⟩⟩
  obtain ⟨v, e1, r⟩ := pGet h2 e
  refine ⟨⟨xs, v, h1, e1⟩, fun y H2 hy => ?_⟩
  obtain ⟨rfl, hy⟩ := hy
  have e2 := hy xs h1
  rw [e1] at e2; cases e2
  exact ⟨.refl, S, r⟩
theorem rd_las {φ' : Ph} {H' : Hp} {d : Addr} {o : HO} (x : Las φ H φ' H') (nd : d ∉ φ) (hd : isDict o = true) (r : Rd H d o) : Rd H' d o ∧ d ∉ φ' := by
  rcases r with r | ⟨od, r⟩
  · obtain ⟨⟨o', e, k⟩, n⟩ := x.keep _ _ r nd
    rcases k with rfl | ⟨_, od, rfl⟩
    · exact ⟨.inl e, n⟩
    · exact ⟨.inr ⟨od, e⟩, n⟩
  · obtain ⟨⟨o', e, k⟩, n⟩ := x.keep _ _ r nd
    cases k.same rfl
    exact ⟨.inr ⟨od, e⟩, n⟩
theorem frz_las {φ' : Ph} {H' : Hp} {d : Addr} {od : Obj} {o : HO} (x : Las φ H φ' H') (nd : d ∉ φ) (r : H d = some (.frz od o)) : H' d = some (.frz od o) ∧ d ∉ φ' := by
  obtain ⟨⟨o', e, k⟩, n⟩ := x.keep _ _ r nd
  cases k.same rfl
  exact ⟨e, n⟩
theorem rt_key {φ : Ph} {H : Hp} (k : Key) : RT G φ H (ofKey k) (kV k) := by
  cases k with
  | inl i => exact rt_int
  | inr x => exact rt_str
theorem rts_keys {φ : Ph} {H : Hp} : ∀ ks : List Key, RTs G φ H (ks.map ofKey) (ks.map kV)
  | [] => .of .nil
  | k :: ks => .of (.cons (rt_key k) (rts_keys ks).pr)
/-- the keys of a locked dict -/
theorem lkn {st : List U} : LkO none st := fun n e => by cases e
theorem itk_ok {lk : Option Nat} {d : Addr} {od : Obj} {kk : List Key} {xs : List V} (hd : H d = some (.frz od (.dK (kk.zip xs)))) (hl : kk.length = xs.length) (p : List U → Prop) : ItOk G B b φ H ⟨(kk.map KK.a).map ofKK, p, lk⟩ (Itk d od (kk.zip xs)) := by
  intro φ' H' st' x fzz S hcc
  have e := fzz d _ _ hd
  have hz : (kk.zip xs).length = kk.length := by rw [List.length_zip]; omega
  refine ⟨fun i u eu => ?_, fun i hi => ⟨e, by rw [hz]; simpa using hi⟩⟩
  have hi : i < kk.length := by have := (List.getElem?_eq_some_iff.mp eu).1; simpa using this
  refine ⟨⟨e, by rw [hz]; exact hi⟩, fun y H2 hy => ?_⟩
  obtain ⟨rfl, k, v, e1, rfl⟩ := hy
  refine ⟨.refl, S, ?_⟩
  rw [List.getElem?_zip_eq_some] at e1
  rw [List.map_map, List.getElem?_map, e1.1] at eu
  cases eu
  exact (rt_key k).rv
theorem itkt_ok {lk : Option Nat} {d : Addr} {od : Obj} {kk : List (List Key)} {xs : List V} (hd : H d = some (.frz od (.dT (kk.zip xs)))) (hl : kk.length = xs.length) (p : List U → Prop) : ItOk G B b φ H ⟨(kk.map KK.t).map ofKK, p, lk⟩ (Itkt d od (kk.zip xs)) := by
  intro φ' H' st' x fzz S hcc
  have e := fzz d _ _ hd
  have hz : (kk.zip xs).length = kk.length := by rw [List.length_zip]; omega
  refine ⟨fun i u eu => ?_, fun i hi => ⟨e, by rw [hz]; simpa using hi⟩⟩
  have hi : i < kk.length := by have := (List.getElem?_eq_some_iff.mp eu).1; simpa using this
  refine ⟨⟨e, by rw [hz]; exact hi⟩, fun y H2 hy => ?_⟩
  obtain ⟨rfl, k, v, q, e1, rfl, eq⟩ := hy
  refine ⟨.refl, S, ?_⟩
  rw [List.getElem?_zip_eq_some] at e1
  rw [List.map_map, List.getElem?_map, e1.1] at eu
  cases eu
  refine RT.rv ?_
  show RT G φ' H2 (.tup (k.map ofKey)) (.ref q)
  unfold RT
  exact ⟨q, _, rfl, S.tupNot eq, eq, rts_keys k⟩
theorem its_ok {lk : Option Nat} {z : Str} {p : List U → Prop} : ItOk G B b φ H ⟨z.cps.toList.map fun c => .str ⟨#[c]⟩, p, lk⟩ (Its z) := by
  intro φ' H' st' x fzz S hcc
  refine ⟨fun i u eu => ?_, fun i hi => by simpa [Its] using hi⟩
  have hi : i < z.cps.size := by have := (List.getElem?_eq_some_iff.mp eu).1; simpa using this
  refine ⟨hi, fun y H2 hy => ?_⟩
  obtain ⟨rfl, c, e1, rfl⟩ := hy
  refine ⟨.refl, S, ?_⟩
  rw [List.getElem?_map, Array.getElem?_toList, e1] at eu
  cases eu
  exact rt_str.rv
theorem las_lst {φ' : Ph} {H' : Hp} {d : Addr} {xs : List V} (x : Las φ H φ' H') (nd : d ∉ φ) (h : H d = some (.lst xs)) : H' d = some (.lst xs) := by
  obtain ⟨⟨o', e, k⟩, n⟩ := x.keep _ _ h nd
  cases k.same rfl
  exact e
theorem las_tup {φ' : Ph} {H' : Hp} {d : Addr} {xs : List V} (x : Las φ H φ' H') (nd : d ∉ φ) (h : H d = some (.tup xs)) : H' d = some (.tup xs) := by
  obtain ⟨⟨o', e, k⟩, n⟩ := x.keep _ _ h nd
  cases k.same rfl
  exact e
/-- what stands is no longer than a line -/
def LenOk (K : PySem.W.Frag) (x : V) (H : Hp) : Prop := ∀ d, x = .ref d → (∀ xs, SqL K H d xs → xs.length ≤ sizeLine) ∧ (∀ xs, SqT K H d xs → xs.length ≤ sizeLine) ∧ (∀ kvs, Rd H d (.dK kvs) → kvs.length ≤ sizeLine) ∧ ∀ kvs, Rd H d (.dT kvs) → kvs.length ≤ sizeLine
theorem Inv.lenOk {pins : List (Addr × Obj)} {s : Shared} {v : V} (I : Inv X pins σ H s) : LenOk X.K v H := fun d _ =>
  ⟨fun xs h => let ⟨_, _, _, z⟩ := I.list h; z, fun xs h => let ⟨_, _, _, z⟩ := I.tuple h; z, fun kvs h => (dk_rd I.hok h).1, fun kvs h => (dt_rd I.hok h).1⟩
theorem pe_len {t : TE} (h : PE X e t) : PE X e (fun σ H Q => t σ H fun x H' => LenOk X.K x H' → Q x H') :=
  ⟨fun pins s σ H Q I q => thn (h.run pins s σ H _ I q) fun v s1 ⟨x, H1, I1, r, q⟩ => ⟨x, H1, I1, r, q (Inv.lenOk I1)⟩⟩
theorem s_itVal (hK : X.K = G.K) (he : PE X e (lift G W fa)) : PI X t e (liftI G W (itVal fa)) := by
  have P1 := PIor (pi_list (tg := t) (pe_len he)) (PIor (pi_tup (tg := t) (pe_len he)) (PIor (pi_str (tg := t) he) (pi_keys (tg := t) (pe_lockA (pe_len he)))))
  refine PIi P1 fun σ H R ⟨φ, st, ρ, B, b, RR, S, P⟩ => ?_
  have P' := P.bind
  have go : ∀ {K : V → Hp → Prop}, (∀ u φ1 H1 st1, fa b ρ st = .ok u st1 → Ext φ H φ1 H1 → StOk G φ1 H1 B b st1 → ∀ v, RV G φ1 H1 u v → Post G (fun c d H => W c d σ H) B b φ1 H1 (match iterOf u st1 with
      | some iv => .ok iv st1
      | none => .stuck) (fun iv φ' H' st' => ∀ J H2, Ext φ' H' φ' H2 → StOk G φ' H2 B b (lck iv.lk st') → ItOk G B b φ' H2 iv J → iv.us.length ≤ sizeLine → LkO iv.lk st' → R J H2) → K v H1) → lift G W fa σ H K := fun h => by
    refine ⟨φ, st, ρ, B, b, RR, S, ?_⟩
    cases e1 : fa b ρ st with
    | stuck => rw [e1] at P'; exact P'
    | exc _ _ => rw [e1] at P'; exact P'
    | ok u st1 =>
      rw [e1] at P'
      exact fun φ1 H1 x1 S1 v rv => h u φ1 H1 st1 e1 x1 S1 v rv (P' φ1 H1 x1 S1)
  -- the case is told by the value
  have stuck : (∀ u st1, fa b ρ st = .ok u st1 → iterOf u st1 = none) → (lift G W fa σ H fun x H1 => LenOk X.K x H1 → ∃ a, x = .ref a ∧ (∃ xs, SqL X.K H1 a xs) ∧ R (Itl X.K a) H1) := fun h => go fun u φ1 H1 st1 e1 x1 S1 v rv q => by
    rw [h u st1 e1] at q; exact q.elim
  cases e1 : fa b ρ st with
  | stuck => exact .inl (stuck fun u st1 e => by rw [e1] at e; cases e)
  | exc _ _ => exact .inl (stuck fun u st1 e => by rw [e1] at e; cases e)
  | ok u0 st0 =>
    cases hu : u0 with
    | lst us =>
      refine .inl (go fun u φ1 H1 st1 e2 x1 S1 v rv q => ?_)
      rw [e1] at e2; cases e2
      subst hu
      obtain ⟨d, xs, rfl, nd, hd, r⟩ := rt_lst (rv.rt rfl)
      refine fun lo => ⟨d, rfl, ⟨xs, .of hd⟩, q φ1 H1 .refl S1 _ _ .refl S1 (itl_ok fun φ' H' st' x _ _ => ⟨xs, .of (las_lst x nd hd), r.rvs.mono' x⟩) (by have z := (lo d rfl).1 xs (.of hd); rw [← r.rvs.len] at z; exact z) lkn⟩
    | fl us =>
      refine .inl (go fun u φ1 H1 st1 e2 x1 S1 v rv q => ?_)
      rw [e1] at e2; cases e2
      subst hu
      have rt := rv.rt rfl
      obtain ⟨d, xs, rfl, hd, r⟩ := rt_fl (X := X) hK rt
      refine fun lo => ⟨d, rfl, ⟨xs, hd⟩, q φ1 H1 .refl S1 _ _ .refl S1 (itl_ok fun φ' H' st' x _ _ => ?_) (by have z := (lo d rfl).1 xs hd; rw [← r.rvs.len] at z; exact z) lkn⟩
      obtain ⟨d2, xs2, e3, hd2, r2⟩ := rt_fl (X := X) hK (RT.mono x.keep _ _ rt)
      cases e3
      exact ⟨xs2, hd2, r2.rvs⟩
    | tup us =>
      refine .inr (.inl (go fun u φ1 H1 st1 e2 x1 S1 v rv q => ?_))
      rw [e1] at e2; cases e2
      subst hu
      obtain ⟨d, xs, rfl, nd, hd, r⟩ := rt_tup (rv.rt rfl)
      refine fun lo => ⟨d, rfl, ⟨xs, .of hd⟩, q φ1 H1 .refl S1 _ _ .refl S1 (itt_ok fun φ' H' st' x _ _ => ⟨xs, .of (las_tup x nd hd), r.rvs.mono' x⟩) (by have z := (lo d rfl).2.1 xs (.of hd); rw [← r.rvs.len] at z; exact z) lkn⟩
    | ft us =>
      refine .inr (.inl (go fun u φ1 H1 st1 e2 x1 S1 v rv q => ?_))
      rw [e1] at e2; cases e2
      subst hu
      have rt := rv.rt rfl
      obtain ⟨d, xs, rfl, hd, r⟩ := rt_ft (X := X) hK rt
      refine fun lo => ⟨d, rfl, ⟨xs, hd⟩, q φ1 H1 .refl S1 _ _ .refl S1 (itt_ok fun φ' H' st' x _ _ => ?_) (by have z := (lo d rfl).2.1 xs hd; rw [← r.rvs.len] at z; exact z) lkn⟩
      obtain ⟨d2, xs2, e3, hd2, r2⟩ := rt_ft (X := X) hK (RT.mono x.keep _ _ rt)
      cases e3
      exact ⟨xs2, hd2, r2.rvs⟩
    | ref n =>
      cases e0 : st0[n]? with
      | none => exact .inl (stuck fun u st1 e => by rw [e1] at e; cases e; subst hu; simp only [iterOf, e0])
      | some w =>
        cases w with
        | lst us =>
          refine .inl (go fun u φ1 H1 st1 e2 x1 S1 v rv q => ?_)
          rw [e1] at e2; cases e2
          subst hu
          simp only [iterOf, e0] at q
          obtain ⟨d, rfl, ed, _, xs, hd, r⟩ := rv_ref S1 rv e0
          refine fun lo => ⟨d, rfl, ⟨xs, .of hd⟩, q φ1 H1 .refl S1 _ _ .refl S1 (itl_ok fun φ' H' st' x S' hc => ?_) (by have z := (lo d rfl).1 xs (.of hd); rw [← r.len] at z; exact z) lkn⟩
          obtain ⟨d2, e3, _, co⟩ := S'.at hc
          rw [x.get ed] at e3; cases e3
          obtain ⟨xs2, hd2, r2⟩ := co
          exact ⟨xs2, .of hd2, r2⟩
        | dct ks us =>
          refine .inr (.inr (.inr (go fun u φ1 H1 st1 e2 x1 S1 v rv q => ?_)))
          rw [e1] at e2; cases e2
          subst hu
          simp only [iterOf, e0] at q
          obtain ⟨d, rfl, ed, _, xs, ⟨hl, ho⟩, r⟩ := rv_ref S1 rv e0
          intro lo
          rcases ho with ⟨kk, rfl, ho⟩ | ⟨kk, rfl, hne, ho⟩
          · have hl' : kk.length = xs.length := by simpa using hl
            have lz : ((kk.map KK.a).map ofKK).length ≤ sizeLine := by have z := (lo d rfl).2.2.1 _ (.inl ho); rw [List.length_zip] at z; simp; omega
            refine .inr ⟨d, _, ho, trivial, fun od => ⟨d, od, rfl, .inl ⟨_, upd_same, ?_⟩⟩⟩
            obtain ⟨xx, SS⟩ := lock_ref (od := od) S1 e0 ed ho
            exact q φ1 H1 .refl S1 _ _ xx SS (itk_ok upd_same hl' _) lz (fun m e => by cases e; exact ⟨_, _, e0⟩)
          · have hl' : kk.length = xs.length := by simpa using hl
            have lz : ((kk.map KK.t).map ofKK).length ≤ sizeLine := by have z := (lo d rfl).2.2.2 _ (.inl ho); rw [List.length_zip] at z; simp; omega
            refine .inr ⟨d, _, ho, trivial, fun od => ⟨d, od, rfl, .inr ⟨_, upd_same, ?_⟩⟩⟩
            obtain ⟨xx, SS⟩ := lock_ref (od := od) S1 e0 ed ho
            exact q φ1 H1 .refl S1 _ _ xx SS (itkt_ok upd_same hl' _) lz (fun m e => by cases e; exact ⟨_, _, e0⟩)
        | lkd ks us =>
          refine .inr (.inr (.inr (go fun u φ1 H1 st1 e2 x1 S1 v rv q => ?_)))
          rw [e1] at e2; cases e2
          subst hu
          simp only [iterOf, e0] at q
          obtain ⟨d, rfl, ed, _, xs, od, o, eo, ⟨hl, ho⟩, r⟩ := rv_ref S1 rv e0
          intro lo
          rcases ho with ⟨kk, rfl, ho⟩ | ⟨kk, rfl, hne, ho⟩
          · cases ho
            have hl' : kk.length = xs.length := by simpa using hl
            have lz : ((kk.map KK.a).map ofKK).length ≤ sizeLine := by have z := (lo d rfl).2.2.1 _ (.inr ⟨od, eo⟩); rw [List.length_zip] at z; simp; omega
            exact .inl ⟨d, od, rfl, .inl ⟨_, eo, q φ1 H1 .refl S1 _ _ .refl S1 (itk_ok eo hl' _) lz lkn⟩⟩
          · cases ho
            have hl' : kk.length = xs.length := by simpa using hl
            have lz : ((kk.map KK.t).map ofKK).length ≤ sizeLine := by have z := (lo d rfl).2.2.2 _ (.inr ⟨od, eo⟩); rw [List.length_zip] at z; simp; omega
            exact .inl ⟨d, od, rfl, .inr ⟨_, eo, q φ1 H1 .refl S1 _ _ .refl S1 (itkt_ok eo hl' _) lz lkn⟩⟩
        | _ => exact .inl (stuck fun u st1 e => by rw [e1] at e; cases e; subst hu; simp only [iterOf, e0])
    | str z =>
      refine .inr (.inr (.inl (go fun u φ1 H1 st1 e2 x1 S1 v rv q => ?_)))
      rw [e1] at e2; cases e2
      subst hu
      simp only [iterOf] at q
      split at q
      · rename_i iv eiv
        split at eiv
        · rename_i hz
          cases eiv
          cases rv.str_
          exact ⟨z, rfl, q φ1 H1 .refl S1 _ _ .refl S1 its_ok (by simpa [PySem.Str.length] using hz) lkn⟩
        · cases eiv
      · exact q.elim
    | dct ks us =>
      refine .inr (.inr (.inr (go fun u φ1 H1 st1 e2 x1 S1 v rv q => ?_)))
      rw [e1] at e2; cases e2
      subst hu
      obtain ⟨d, xs, o, rfl, nd, ⟨hl, ho⟩, hr, r⟩ := rt_dct (rv.rt rfl)
      intro lo
      rcases ho with ⟨kk, rfl, ho⟩ | ⟨kk, rfl, hne, ho⟩
      · cases ho
        have hl' : kk.length = xs.length := by simpa using hl
        have lz : ((kk.map KK.a).map ofKK).length ≤ sizeLine := by have z := (lo d rfl).2.2.1 _ hr; rw [List.length_zip] at z; simp; omega
        rcases hr with hr | ⟨od, hr⟩
        · refine .inr ⟨d, _, hr, trivial, fun od => ⟨d, od, rfl, .inl ⟨_, upd_same, q φ1 H1 .refl S1 _ _ (Ext.lock hr rfl nd) (S1.lock hr rfl nd) (itk_ok upd_same hl' _) lz lkn⟩⟩⟩
        · exact .inl ⟨d, od, rfl, .inl ⟨_, hr, q φ1 H1 .refl S1 _ _ .refl S1 (itk_ok hr hl' _) lz lkn⟩⟩
      · cases ho
        have hl' : kk.length = xs.length := by simpa using hl
        have lz : ((kk.map KK.t).map ofKK).length ≤ sizeLine := by have z := (lo d rfl).2.2.2 _ hr; rw [List.length_zip] at z; simp; omega
        rcases hr with hr | ⟨od, hr⟩
        · refine .inr ⟨d, _, hr, trivial, fun od => ⟨d, od, rfl, .inr ⟨_, upd_same, q φ1 H1 .refl S1 _ _ (Ext.lock hr rfl nd) (S1.lock hr rfl nd) (itkt_ok upd_same hl' _) lz lkn⟩⟩⟩
        · exact .inl ⟨d, od, rfl, .inr ⟨_, hr, q φ1 H1 .refl S1 _ _ .refl S1 (itkt_ok hr hl' _) lz lkn⟩⟩
    | _ => exact .inl (stuck fun u st1 e => by rw [e1] at e; cases e; subst hu; rfl)
end
end EV

set_option maxRecDepth 100000
/-! E8: comprehensions. -/
namespace EV
open PySem PySem.Spec PyProof.Rows L2
open Classical

/-- a target of names -/
inductive TgS where
  | nm (i : Nat) | tp (l : List TgS)
mutual
def TgS.names : TgS → List Nat
  | .nm i => [i]
  | .tp l => TgS.namesL l
def TgS.namesL : List TgS → List Nat
  | [] => []
  | t :: r => t.names ++ TgS.namesL r
end
mutual
def tgU : TgS → U → En → Option En
  | .nm i, u, ρ => if i < ρ.length then some (ρ.set i (some u)) else none
  | .tp l, u, ρ => match u with
    | .tup us => tgUs l us ρ
    | .ft us => tgUs l us ρ
    | _ => none
def tgUs : List TgS → List U → En → Option En
  | [], us, ρ => match us with
    | [] => some ρ
    | _ => none
  | t :: r, us, ρ => match us with
    | u :: us => (tgU t u ρ).bind fun ρ1 => tgUs r us ρ1
    | [] => none
end
mutual
def tgT (K : PySem.W.Frag) : TgS → TG
  | .nm i => gName i
  | .tp l => gTup K l.length (tgTs K l)
def tgTs (K : PySem.W.Frag) : List TgS → TGs
  | [] => gNil
  | t :: r => gCons (tgT K t) (tgTs K r)
end
section
variable {G : Ge} {W : WX} {X : Cx} {a c e t : Expr} {es : List Expr} {fa fb fc : Ev U} {fs fk : Ev (List U)} {pos p apos : Pos} {x : Str}
variable {σ : L2.St} {H : Hp} {Q : VK} {φ : Ph} {B : Nat → Prop} {b : Nat} {st : List U}
mutual
theorem tgT_ok {K : PySem.W.Frag} (hK : K = G.K) : ∀ (s : TgS) (u : U) (v : V) (ρ ρ' : En) (σ : L2.St), StR G φ H ρ σ → RV G φ H u v → tgU s u ρ = some ρ' →
    ∃ σ', StR G φ H ρ' σ' ∧ (∀ j, j ∉ s.names → σ'[j]? = σ[j]?) ∧ σ'.length = σ.length ∧ ∀ Q : L2.St → Hp → Prop, Q σ' H → tgT K s v σ H Q
  | .nm i, u, v, ρ, ρ', σ, R, r, e => by
    unfold tgU at e
    split at e
    · cases e
      refine ⟨σ.set i (some v), R.set r i, fun j hj => ?_, by simp, fun Q q => by unfold tgT; exact q⟩
      exact List.getElem?_set_ne (by intro z; exact hj (by unfold TgS.names; simp [z]))
    · cases e
  | .tp l, u, v, ρ, ρ', σ, R, r, e => by
    unfold tgU at e
    cases u with
    | tup us =>
      simp only at e
      obtain ⟨d, xs, rfl, _, hd, rs⟩ := rt_tup (r.rt rfl)
      obtain ⟨σ', R', h1, h2, h3, h4⟩ := tgTs_ok hK l us xs ρ ρ' σ R rs.rvs e
      exact ⟨σ', R', fun j hj => h1 j (by unfold TgS.names at hj; exact hj), h2, fun Q q => by unfold tgT; exact ⟨d, xs, rfl, .of hd, by rw [← rs.rvs.len, h4], h3 Q q⟩⟩
    | ft us =>
      simp only at e
      have rt := r.rt rfl
      unfold RT at rt
      obtain ⟨d, xs, rfl, hd, rs⟩ := rt
      obtain ⟨σ', R', h1, h2, h3, h4⟩ := tgTs_ok hK l us xs ρ ρ' σ R rs.rvs e
      exact ⟨σ', R', fun j hj => h1 j (by unfold TgS.names at hj; exact hj), h2, fun Q q => by unfold tgT; exact ⟨d, xs, rfl, by rw [hK]; exact .inr hd, by rw [← rs.rvs.len, h4], h3 Q q⟩⟩
    | _ => cases e
theorem tgTs_ok {K : PySem.W.Frag} (hK : K = G.K) : ∀ (s : List TgS) (us : List U) (vs : List V) (ρ ρ' : En) (σ : L2.St), StR G φ H ρ σ → RVs G φ H us vs → tgUs s us ρ = some ρ' →
    ∃ σ', StR G φ H ρ' σ' ∧ (∀ j, j ∉ TgS.namesL s → σ'[j]? = σ[j]?) ∧ σ'.length = σ.length ∧ (∀ Q : L2.St → Hp → Prop, Q σ' H → tgTs K s vs σ H Q) ∧ us.length = s.length
  | [], us, vs, ρ, ρ', σ, R, r, e => by
    unfold tgUs at e
    cases r with
    | nil => cases e; exact ⟨σ, R, fun _ _ => rfl, rfl, fun Q q => by unfold tgTs; exact ⟨rfl, q⟩, rfl⟩
    | cons _ _ => cases e
  | t :: s, us, vs, ρ, ρ', σ, R, r, e => by
    unfold tgUs at e
    cases r with
    | nil => cases e
    | cons h tl =>
      simp only at e
      cases e1 : tgU t _ ρ with
      | none => rw [e1] at e; cases e
      | some ρ1 =>
        rw [e1] at e
        obtain ⟨σ1, R1, h1, h2, h3⟩ := tgT_ok hK t _ _ ρ ρ1 σ R h e1
        obtain ⟨σ2, R2, k1, k2, k3, k4⟩ := tgTs_ok hK s _ _ ρ1 ρ' σ1 R1 tl e
        refine ⟨σ2, R2, fun j hj => ?_, k2.trans h2, fun Q q => by unfold tgTs; exact ⟨_, _, rfl, h3 _ (k3 Q q)⟩, by simp [k4]⟩
        unfold TgS.namesL at hj
        rw [List.mem_append, not_or] at hj
        exact (k1 j hj.2).trans (h1 j hj.1)
end
theorem wipe_get {σ : L2.St} : ∀ {vs : List Nat} {j : Nat}, (wipe σ vs)[j]? = if j ∈ vs then (if j < σ.length then some none else none) else σ[j]?
  | [], j => by simp [wipe]
  | v :: vs, j => by
    unfold wipe
    by_cases hj : v = j
    · subst hj
      by_cases hl : v < σ.length
      · rw [List.getElem?_set_self (by rw [wipe_length]; exact hl)]; simp [hl]
      · rw [List.getElem?_eq_none (by rw [List.length_set, wipe_length]; omega)]; simp [hl]
    · rw [List.getElem?_set_ne hj, wipe_get (vs := vs)]
      simp only [List.mem_cons, show (j = v) = False from by simp [Ne.symm hj], false_or]
theorem wipe_eq {σ σ' : L2.St} {vs : List Nat} (h : ∀ j, j ∉ vs → σ'[j]? = σ[j]?) (l : σ'.length = σ.length) : wipe σ' vs = wipe σ vs := by
  apply List.ext_getElem?
  intro j
  rw [wipe_get, wipe_get, l]
  by_cases hj : j ∈ vs
  · simp [hj]
  · simp [hj, h j hj]
theorem wipe_idem {σ : L2.St} {vs : List Nat} : wipe (wipe σ vs) vs = wipe σ vs := wipe_eq (fun j hj => by rw [wipe_get, if_neg hj]) (wipe_length σ vs)
def wipeE (ρ : En) : List Nat → En
  | [] => ρ
  | v :: vs => (wipeE ρ vs).set v none
theorem StR.wipe {ρ : En} (R : StR G φ H ρ σ) : ∀ vs : List Nat, StR G φ H (wipeE ρ vs) (L2.wipe σ vs)
  | [] => R
  | v :: vs => (StR.wipe R vs).unset v
def noX {α : Type} : Res α → Res α
  | .exc _ _ => .stuck
  | r => r
noncomputable def lcL (chk : List U → Prop) (s : TgS) (t : Ev Bool) (elt : Ev U) : List U → List U → Nat → En → List U → Res (List U)
  | [], acc, _, _, st => if chk st then .ok acc st else .stuck
  | u :: us, acc, b, ρ, st => if chk st then match tgU s u ρ with
    | none => .stuck
    | some ρ1 => (t b ρ1 st).bind fun k st1 => if k = true then (elt b ρ1 st1).bind fun y st2 => lcL chk s t elt us (acc ++ [y]) b ρ st2 else lcL chk s t elt us acc b ρ st1
    else .stuck
noncomputable def eLc (live : Bool) (own : List Nat) (it : Ev IV) (s : TgS) (t : Ev Bool) (elt : Ev U) : Ev U := fun b ρ st => (it b ρ st).bind fun iv st1 =>
  (noX (lcL iv.chk s t elt iv.us [] b (wipeE ρ own) (lck iv.lk st1))).bind fun us st2 => match unl iv.lk st2 with
    | some st3 => ofO (mk live .lst us st3)
    | none => .stuck
/-- a ghost D has been made at (φ1, H2) -/
structure GRel (φ1 : Ph) (H2 : Hp) (D : Addr) (φ' : Ph) (H' : Hp) : Prop where
  pre : ∃ ψ, φ'.l = φ1.l ++ ψ
  keep : ∀ a o, H2 a = some o → a ∉ φ1 → (∃ o', H' a = some o' ∧ Kp o o') ∧ a ∉ φ'
  geq : φ'.g = D :: φ1.g
  gk : ∀ a, a ∈ φ1.g → H' a = H2 a
  fz : ∀ a od o, H2 a = some (.frz od o) → H' a = some (.frz od o)
theorem GRel.las {φ1 φ' : Ph} {H2 H' : Hp} {D : Addr} (g : GRel φ1 H2 D φ' H') : Las φ1 H2 φ' H' := ⟨g.pre, g.keep⟩
theorem GRel.ext {φ1 φ' φ3 : Ph} {H2 H' H3 : Hp} {D : Addr} (g : GRel φ1 H2 D φ' H') (x : Ext φ' H' φ3 H3) : GRel φ1 H2 D φ3 H3 :=
  ⟨(g.las.trans x.toLas).pre, (g.las.trans x.toLas).keep, x.geq.trans g.geq, fun a m => (x.gkp a (by rw [g.geq]; exact List.mem_cons_of_mem _ m)).trans (g.gk a m), fun a od o e => x.fz a od o (g.fz a od o e)⟩
theorem GRel.upd {φ1 φ' : Ph} {H2 H' : Hp} {D : Addr} {o : HO} (g : GRel φ1 H2 D φ' H') (hD : H2 D = none) (S : StOk G φ1 H2 B b st) : GRel φ1 H2 D φ' (upd H' D o) :=
  ⟨g.pre, fun a u e n => ⟨by rw [upd_ne (ne_of_none e hD)]; exact (g.keep a u e n).1, (g.keep a u e n).2⟩, g.geq, fun a m => by
    obtain ⟨u, e, _⟩ := S.gh a m
    rw [upd_ne (ne_of_none e hD)]; exact g.gk a m, fun a od o e => by rw [upd_ne (ne_of_none e hD)]; exact g.fz a od o e⟩
theorem GRel.start {φ1 : Ph} {H2 : Hp} {D : Addr} {o : HO} (hD : H2 D = none) (S : StOk G φ1 H2 B b st) : GRel φ1 H2 D ⟨φ1.l, D :: φ1.g⟩ (L2.upd H2 D o) :=
  ⟨⟨[], by simp⟩, fun a u e n => (Las.push hD).keep a u e n, rfl, fun a m => by
    obtain ⟨u, e, _⟩ := S.gh a m
    rw [upd_ne (ne_of_none e hD)], fun a od o e => by rw [upd_ne (ne_of_none e hD)]; exact e⟩
theorem GRel.mem {φ1 φ' : Ph} {H2 H' : Hp} {D : Addr} (g : GRel φ1 H2 D φ' H') : D ∈ φ'.g := by rw [g.geq]; exact List.mem_cons_self ..
theorem GRel.ph {φ1 φ' : Ph} {H2 H' : Hp} {D : Addr} (g : GRel φ1 H2 D φ' H') : ∃ ψ, φ' = ⟨φ1.l ++ ψ, D :: φ1.g⟩ := by
  obtain ⟨ψ, e⟩ := g.pre
  exact ⟨ψ, by cases φ'; simp only at e; rw [e, ← g.geq]⟩
theorem GRel.of {φ1 φ' : Ph} {H1 H2 H' : Hp} {D : Addr} (x : Ext φ1 H1 φ1 H2) (g : GRel φ1 H2 D φ' H') : GRel φ1 H1 D φ' H' :=
  ⟨g.pre, fun a o e n => by
    obtain ⟨⟨o', e', k⟩, n'⟩ := x.keep a o e n
    obtain ⟨⟨o2, e2, k2⟩, n2⟩ := g.keep a o' e' n'
    exact ⟨⟨o2, e2, k.trans k2⟩, n2⟩, g.geq, fun a m => (g.gk a m).trans (x.gkp a m), fun a od o e => g.fz a od o (x.fz a od o e)⟩
theorem none_back {φ1 : Ph} {H1 H2 : Hp} {D : Addr} (x : Ext φ1 H1 φ1 H2) (S2 : StOk G φ1 H2 B b st) (h : H2 D = none) : H1 D = none := by
  cases e : H1 D with
  | none => rfl
  | some o =>
    by_cases m : D ∈ φ1
    · obtain ⟨o2, e2⟩ := S2.any m; rw [h] at e2; cases e2
    · obtain ⟨⟨o2, e2, _⟩, _⟩ := x.keep D o e m; rw [h] at e2; cases e2
/-- unlocked, while a ghost stands -/
theorem unlock_g {φ1 φ' : Ph} {H1 H2 H' : Hp} {D : Addr} {lk : Option Nat} {st1 stf st3 : List U} (x2 : Ext φ1 H1 φ1 H2) (g : GRel φ1 H2 D φ' H') (S1 : StOk G φ1 H1 B b st1) (k : LkO lk st1) (S : StOk G φ' H' B b stf) (e : unl lk stf = some st3) :
    ∃ H3, GRel φ1 H1 D φ' H3 ∧ StOk G φ' H3 B b st3 ∧ Las φ' H' φ' H3 ∧ H3 D = H' D ∧ (H3 = H' ∨ ∃ d o u, H' d = some (.frz o u) ∧ (∀ o u, H1 d ≠ some (.frz o u)) ∧ H3 = upd H' d u) := by
  have g1 := GRel.of x2 g
  cases lk with
  | none => cases e; exact ⟨H', g1, S, .refl, rfl, .inl rfl⟩
  | some n =>
    obtain ⟨ks0, us0, e0⟩ := k n rfl
    obtain ⟨d, ed0, m0, xs0, hd0, _⟩ := S1.at e0
    have nf : ∀ o u, H1 d ≠ some (.frz o u) := fun o u z => by rw [z] at hd0; have := hd0.isDict; cases this
    simp only [unl] at e
    split at e
    · rename_i ks us e2
      cases e
      obtain ⟨d2, ed, m, xs, od, o, eo, hdo, r⟩ := S.at e2
      rw [g.las.get ed0] at ed; cases ed
      have l : Las φ' H' φ' (upd H' d o) := Las.set m
      have nD : D ≠ d := fun z => S.lg m (z ▸ g.mem)
      refine ⟨upd H' d o, ⟨g1.pre, fun a o' z n' => ?_, g1.geq, fun a ha => ?_, fun a od' o' z => ?_⟩, S.set (g.las.get ed0) ⟨xs, hdo, r⟩ (.inr fun m hm => ⟨_, e2, hm⟩), l, by rw [upd_ne nD], .inr ⟨d, od, o, eo, nf, rfl⟩⟩
      · rw [upd_ne (show a ≠ d from fun q => n' (.inl (q ▸ m0)))]; exact g1.keep a o' z n'
      · rw [upd_ne (show a ≠ d from fun z => S1.lg m0 (z ▸ ha))]; exact g1.gk a ha
      · rw [upd_ne (show a ≠ d from fun q => nf _ _ (q ▸ z))]; exact g1.fz a od' o' z
    · cases e
/-- the made object is handed on -/
theorem mk_ghost {φ1 φ' : Ph} {H1 H2 H' : Hp} {D : Addr} {live : Bool} {head : List U → U} {o : List V → HO} {us : List U} {vs : List V} {K : U → Ph → Hp → List U → Prop} (hh : HeadOk G head o us.length) (x2 : Ext φ1 H1 φ1 H2) (hD : H2 D = none)
    (g : GRel φ1 H2 D φ' H') (S : StOk G φ' H' B b st) (hv : H' D = some (o vs)) (r : RVs G φ' H' us vs) (P : PostO G B b φ1 H1 (mk live head us st) K) :
    ∃ φ3 u st3, RV G φ3 H' u (.ref D) ∧ K u φ3 H' st3 := by
  obtain ⟨ψ, rfl⟩ := g.ph
  have kp : ∀ a u, H1 a = some u → a ∉ φ1 → (∃ o', H' a = some o' ∧ Kp u o') ∧ a ∉ (⟨φ1.l ++ ψ, D :: φ1.g⟩ : Ph) := fun a u e n => by
    obtain ⟨⟨o', e', k⟩, n'⟩ := x2.keep a u e n
    obtain ⟨⟨o2, e2, k2⟩, n2⟩ := g.keep a o' e' n'
    exact ⟨⟨o2, e2, k.trans k2⟩, n2⟩
  have gk : ∀ a, a ∈ φ1.g → H' a = H1 a := fun a m => (g.gk a m).trans (x2.gkp a m)
  have fz : ∀ a od o, H1 a = some (.frz od o) → H' a = some (.frz od o) := fun a od o e => g.fz a od o (x2.fz a od o e)
  unfold mk at P
  split at P
  · have S' := S.live' (u := head us) (by rw [hv]; exact hh.live rfl r)
    have x : Ext φ1 H1 ⟨φ1.l ++ ψ ++ [D], φ1.g⟩ H' := ⟨⟨⟨ψ ++ [D], by simp⟩, fun a u e n => ⟨(kp a u e n).1, by
      have n2 := (kp a u e n).2
      refine Ph.not ?_ (Ph.ng (φ := φ1) n)
      simp only [List.mem_append, List.mem_singleton, not_or]
      have h1 := Ph.nl n2
      have h2 := Ph.ng n2
      simp only [List.mem_append, not_or] at h1
      exact ⟨h1, fun z => h2 (by rw [z]; exact List.mem_cons_self ..)⟩⟩⟩, rfl, gk, fz⟩
    refine ⟨_, _, _, .inl ⟨st.length, D, rfl, ?_, rfl⟩, P _ _ x S'⟩
    have ln := S.len
    simp only at ln
    rw [← ln]; simp
  · split at P
    · rename_i n
      obtain ⟨S', nD⟩ := S.pop
      have x : Ext φ1 H1 ⟨φ1.l ++ ψ, φ1.g⟩ H' := ⟨⟨⟨ψ, rfl⟩, fun a u e n => ⟨(kp a u e n).1, Ph.not (Ph.nl (φ := ⟨φ1.l ++ ψ, D :: φ1.g⟩) (kp a u e n).2) (Ph.ng (φ := φ1) n)⟩⟩, rfl, gk, fz⟩
      exact ⟨_, _, _, .inr (hh.tree rfl ((r.mono' Las.pop).rts n) nD hv), P _ _ x S'⟩
    · exact P.elim
theorem Res.bind_ok {α β : Type} {r : Res α} {f : α → List U → Res β} {y : β} {st : List U} (h : r.bind f = .ok y st) : ∃ x st1, r = .ok x st1 ∧ f x st1 = .ok y st := by
  cases r with
  | stuck => cases h
  | exc _ _ => cases h
  | ok x st1 => exact ⟨x, st1, rfl, h⟩
abbrev W0 : WX := fun _ _ _ _ => False
theorem takes0 {X : Cx} (E : X.xe = fun _ _ => False) : Takes X W0 := fun u s' ⟨a, B, sI, pins, σ, H, cls, d, e, I, nb, up, sky, na, os, ag, w⟩ => w.elim
theorem PSi' {X : Cx} {e : Stmt} {t t' : TS} (h : PS X e t) (i : ∀ D σ H, t' D σ H → t D σ H) : PS X e t' := ⟨fun pins s σ H D I q => h.run pins s σ H D I (i _ _ _ q)⟩
theorem lc_imp {own : List (Str × Nat)} {it : Ev IV} {s : TgS} {tt : Ev Bool} {live : Bool} {K : PySem.W.Frag} (hK : K = G.K) (hsn : ∀ j, j ∈ s.names → j ∈ own.map (·.2)) (h : lift G W (eLc live (own.map (·.2)) it s tt fa) σ H Q) :
    tLc (liftI G W it) (tgT K s) (liftT G W0 tt) (lift G W0 fa) (own.map (·.2)) σ H fun v H' => Unl H (Q v) H' := by
  obtain ⟨φ, st, ρ, B, b, R, S, P⟩ := h
  refine (show liftI G W it σ H _ from ⟨φ, st, ρ, B, b, R, S, ?_⟩)
  have P' := P.bind
  cases e0 : it b ρ st with
  | stuck => rw [e0] at P'; exact P'
  | exc _ _ => rw [e0] at P'; exact P'
  | ok iv st1 =>
  rw [e0] at P'
  intro φ1 H1 x1 S1 J H2 x2 S2 io hlen lko D hD
  have q := P' φ1 H1 x1 S1
  simp only at q
  -- the whole walk's result
  cases eL : lcL iv.chk s tt fa iv.us [] b (wipeE ρ (own.map (·.2))) (lck iv.lk st1) with
  | stuck => rw [eL] at q; exact q.elim
  | exc _ _ => rw [eL] at q; exact q.elim
  | ok usf stf =>
  rw [eL] at q
  have q : Post G (fun c d H => W c d σ H) B b φ1 H1 (match unl iv.lk stf with
    | some st3 => ofO (mk live .lst usf st3)
    | none => .stuck) fun u φ' H' _ => ∀ v, RV G φ' H' u v → Q v H' := q
  cases eu : unl iv.lk stf with
  | none => rw [eu] at q; exact q.elim
  | some stu =>
  rw [eu] at q
  have qq : PostO G B b φ1 H1 (mk live .lst usf stu) fun u φ' H' _ => ∀ v, RV G φ' H' u v → Q v H' := Post.ofO q
  refine ⟨fun i m H => m = iv.us.length - i ∧ i ≤ iv.us.length ∧ ∃ φ' st' acc vs, GRel φ1 H2 D φ' H ∧ StOk G φ' H B b st' ∧ H D = some (.lst vs) ∧ RVs G φ' H acc vs ∧ acc.length ≤ i ∧ lcL iv.chk s tt fa (iv.us.drop i) acc b (wipeE ρ (own.map (·.2))) st' = .ok usf stf,
    ⟨_, rfl, Nat.zero_le _, ⟨φ1.l, D :: φ1.g⟩, lck iv.lk st1, [], [], GRel.start hD S2, S2.push hD (fun _ z => by cases z), upd_same, .nil, Nat.zero_le _, eL⟩, ?_⟩
  rintro i m H' ⟨rfl, hi', φ', st', acc, vs, g, S', hDv, racc, hacc, el⟩
  have RW : StR G φ' H' (wipeE ρ (own.map (·.2))) (wipe σ (own.map (·.2))) := by
    have z := ((R.mono (x1.trans x2)).wipe (own.map (·.2)))
    exact ⟨z.1, fun i u e => let ⟨v, a, r⟩ := z.2 i u e; ⟨v, a, r.mono' g.las⟩⟩
  by_cases hlt : i < iv.us.length
  · rw [List.drop_eq_getElem_cons hlt] at el
    simp only [lcL] at el
    split at el
    · rename_i hchk
      obtain ⟨h1, _⟩ := io φ' H' st' g.las g.fz S' hchk
      obtain ⟨go, yld⟩ := h1 i _ (List.getElem?_eq_getElem hlt)
      refine .inr ⟨go, fun H'' => iv.us.length - (i + 1) = iv.us.length - (i + 1) ∧ i + 1 ≤ iv.us.length ∧ ∃ φ' st' acc vs, GRel φ1 H2 D φ' H'' ∧ StOk G φ' H'' B b st' ∧ H'' D = some (.lst vs) ∧ RVs G φ' H'' acc vs ∧ acc.length ≤ i + 1 ∧ lcL iv.chk s tt fa (iv.us.drop (i + 1)) acc b (wipeE ρ (own.map (·.2))) st' = .ok usf stf,
        fun H'' h => ⟨iv.us.length - (i + 1), by omega, h⟩, fun v H3 hy => ?_⟩
      obtain ⟨x3, S3, r3⟩ := yld v H3 hy
      cases e1 : tgU s iv.us[i] (wipeE ρ (own.map (·.2))) with
      | none => rw [e1] at el; cases el
      | some ρ1 =>
      rw [e1] at el
      simp only at el
      obtain ⟨σ1, R1, hout, hl1, hT⟩ := tgT_ok hK s _ _ _ _ _ (RW.mono x3) r3 e1
      refine hT _ ⟨?_, ?_⟩
      · rw [wipe_eq (fun j hj => hout j fun z => hj (hsn j z)) hl1, wipe_idem]
      obtain ⟨kk, st4, et, el⟩ := Res.bind_ok el
      refine ⟨φ', st', ρ1, B, b, R1, S3, ?_⟩
      rw [et]
      intro φ4 H4 x4 S4
      have g4 := (g.ext x3).ext x4
      have hD4 : H4 D = some (.lst vs) := by rw [x4.gkp D (g.ext x3).mem, x3.gkp D g.mem]; exact hDv
      have racc4 := (racc.mono x3).mono x4
      cases kk with
      | true =>
        rw [if_pos rfl] at el
        refine Eq.mpr (if_pos rfl) ?_
        obtain ⟨y, st5, ee, el⟩ := Res.bind_ok el
        refine ⟨φ4, st4, ρ1, B, b, R1.mono x4, S4, ?_⟩
        rw [ee]
        intro φ5 H5 x5 S5 vy ry
        have g5 := g4.ext x5
        have hD5 : H5 D = some (.lst vs) := by rw [x5.gkp D g4.mem]; exact hD4
        have racc5 := racc4.mono x5
        refine ⟨vs, hD5, by rw [← racc.len]; omega, rfl, hlt, φ5, st5, acc ++ [y], vs ++ [vy], g5.upd hD S2, S5.ghost g5.mem (fun _ z => by cases z), upd_same, ?_, by simp; omega, el⟩
        exact pApp (racc5.mono' (Las.ghost g5.mem)) (.cons (ry.mono' (Las.ghost g5.mem)) .nil)
      | false =>
        rw [if_neg (by decide)] at el
        refine Eq.mpr (if_neg (by decide)) ?_
        exact ⟨rfl, hlt, φ4, st4, acc, vs, g4, S4, hD4, racc4, by omega, el⟩
    · cases el
  · have e : i = iv.us.length := by omega
    subst e
    rw [List.drop_length] at el
    simp only [lcL] at el
    split at el
    · rename_i hchk
      injection el with h1 h2
      subst h1; subst h2
      obtain ⟨H3, g3, S3, l3, e3, hU⟩ := unlock_g x2 g S1 lko S' eu
      obtain ⟨φ3, u, st3, r, k⟩ := mk_ghost head_lst .refl (none_back x2 S2 hD) g3 S3 (e3.trans hDv) (racc.mono' l3) qq
      have kk := k _ r
      refine .inl ⟨(io φ' H' st' g.las g.fz S' hchk).2 _ (Nat.le_refl _), ?_⟩
      rcases hU with rfl | ⟨d, o, u, h1, h2, rfl⟩
      · exact .inl kk
      · exact .inr ⟨d, o, u, h1, fun o u z => h2 o u (x1.fz _ _ _ z), kk⟩
    · cases el
theorem s_lc {elt tg iter : Expr} {ifs : List Expr} {scope : Scope} {own : List (Str × Nat)} {it : Ev IV} {s : TgS} {tt : Ev Bool} {live : Bool} (hK : X.K = G.K) (hc : X.calm = true) (hN : X.N.Nodup) (hi : PI X tg iter (liftI G W it)) (ok : BlkOk X.N X.env.scope scope own)
    (hsn : ∀ j, j ∈ s.names → j ∈ own.map (·.2))
    (hg : ∀ (s' : Shared) (H : Hp) (C : Addr) (cl : List (Str × Addr)) (fp : List Addr), PG (X.blk s' H scope (compEnvC scope cl C X.env) fp) tg (tgT X.K s)) (ht : ∀ (s : Shared) (H : Hp) (C : Addr) (cl : List (Str × Addr)) (fp : List Addr), PTs (X.blk s H scope (compEnvC scope cl C X.env) fp) ifs (liftT G W0 tt))
    (he : ∀ (s : Shared) (H : Hp) (C : Addr) (cl : List (Str × Addr)) (fp : List Addr), PE (X.blk s H scope (compEnvC scope cl C X.env) fp) elt (lift G W0 fa)) (hs : ∀ x, foldedSetIterable iter X.env x = pure x) :
    PE X (.ListComp elt [⟨tg, iter, ifs, 0⟩] scope pos) (lift G W (eLc live (own.map (·.2)) it s tt fa)) := by
  exact PEi (pe_unl (pe_lc hc hN hi ok hg ht he hs)) fun σ H Q h => lc_imp hK hsn h
theorem s_setLc {i : Nat} {y : Str} {py spos : Pos} {elt tg iter : Expr} {ifs : List Expr} {scope : Scope} {own : List (Str × Nat)} {it : Ev IV} {s : TgS} {tt : Ev Bool} {live : Bool} (hK : X.K = G.K) (hc : X.calm = true) (hN : X.N.Nodup) (hy : X.N[i]? = some y) (hyl : X.env.scope.names.lookup y = some .local)
    (hsw : swapsWith (.ListComp elt [⟨tg, iter, ifs, 0⟩] scope pos) (some (.Name y py)) spos.line X.env = pure true) (hi : PI X tg iter (liftI G W it)) (ok : BlkOk X.N X.env.scope scope own)
    (hsn : ∀ j, j ∈ s.names → j ∈ own.map (·.2))
    (hg : ∀ (s' : Shared) (H : Hp) (C : Addr) (cl : List (Str × Addr)) (fp : List Addr), PG (X.blk s' H scope (compEnvC scope cl C X.env) fp) tg (tgT X.K s)) (ht : ∀ (s : Shared) (H : Hp) (C : Addr) (cl : List (Str × Addr)) (fp : List Addr), PTs (X.blk s H scope (compEnvC scope cl C X.env) fp) ifs (liftT G W0 tt))
    (he : ∀ (s : Shared) (H : Hp) (C : Addr) (cl : List (Str × Addr)) (fp : List Addr), PE (X.blk s H scope (compEnvC scope cl C X.env) fp) elt (lift G W0 fa)) (hs : ∀ x, foldedSetIterable iter X.env x = pure x) :
    PS X (.Assign [.Name y py] (.ListComp elt [⟨tg, iter, ifs, 0⟩] scope pos) spos) (tAsg (lift G W (eLc live (own.map (·.2)) it s tt fa)) (gName i)) :=
  PSi' (ps_unl (ps_setLc hc hN hy hyl hsw hi ok hg ht he hs)) fun D σ H h => lc_imp hK hsn h
end
end EV

set_option maxRecDepth 100000
/-! E9: ranges, items, enumerate; dict comprehensions. -/
namespace EV
open PySem PySem.Spec PyProof.Rows L2
open Classical
section
variable {G : Ge} {W : WX} {X : Cx} {a c e t : Expr} {es : List Expr} {fa fb fc : Ev U} {fs fk : Ev (List U)} {pos p apos : Pos} {x : Str}
variable {σ : L2.St} {H : Hp} {Q : VK} {φ : Ph} {B : Nat → Prop} {b : Nat} {st : List U}
/-! ### ranges -/
def rngU (lo : Int) (n : Nat) : List U := (List.range n).map fun i => .int (lo + (i : Nat))
def itRng1 (fs : Ev (List U)) : Ev IV := fun b ρ st => (fs b ρ st).bind fun us st1 => match us with
  | [.int j] => if -16777216 ≤ j ∧ j ≤ 16777216 then .ok ⟨rngU 0 j.toNat, fun _ => True, none⟩ st1 else .stuck
  | _ => .stuck
def itRng2 (fs : Ev (List U)) : Ev IV := fun b ρ st => (fs b ρ st).bind fun us st1 => match us with
  | [.int i, .int j] => if -16777216 ≤ i ∧ i ≤ 16777216 ∧ -16777216 ≤ j ∧ j ≤ 16777216 ∧ j - i ≤ 16777216 then .ok ⟨rngU i (j - i).toNat, fun _ => True, none⟩ st1 else .stuck
  | _ => .stuck
theorem itr_ok {lk : Option Nat} {lo : Int} {n : Nat} {p : List U → Prop} : ItOk G B b φ H ⟨rngU lo n, p, lk⟩ (Itr lo n) := by
  intro φ' H' st' x fzz S hcc
  refine ⟨fun i u eu => ?_, fun i hi => by simpa [rngU, Itr] using hi⟩
  have hi : i < n := by have := (List.getElem?_eq_some_iff.mp eu).1; simpa [rngU] using this
  refine ⟨hi, fun y H2 hy => ?_⟩
  obtain ⟨rfl, rfl⟩ := hy
  refine ⟨.refl, S, ?_⟩
  have e : u = .int (lo + (i : Nat)) := by
    unfold rngU at eu
    rw [List.getElem?_map, List.getElem?_range hi] at eu
    exact (Option.some.inj eu).symm
  rw [e]
  exact rt_int.rv
theorem s_rng1 {np : Pos} (hg : Gl X "range") (hm : X.mg "range" = none) (ha : PA X [a] (liftA G W fs)) (hs : starEach [a] X.env = [(false, eval a X.env)]) : PI X t (.Call (.Name "range" np) [a] [] pos) (liftI G W (itRng1 fs)) :=
  PIi (pi_range1 hg hm ha hs) fun σ H R ⟨φ, st, ρ, B, b, RR, S, P⟩ => by
    refine ⟨φ, st, ρ, B, b, RR, S, P.bind.imp fun us φ1 H1 st1 x1 S1 q vs r => ?_⟩
    split at q
    · rename_i j
      split at q
      · rename_i hj
        cases r with
        | cons h r =>
          cases r
          cases h.int_
          exact ⟨j, rfl, by omega, by omega, q φ1 H1 .refl S1 _ _ .refl S1 itr_ok (by simp only [rngU, List.length_map, List.length_range, sizeLine_eq]; omega) lkn⟩
      · exact q.elim
    · exact q.elim
theorem s_rng2 {np : Pos} (hg : Gl X "range") (hm : X.mg "range" = none) (ha : PA X [a, c] (liftA G W fs)) (hs : starEach [a, c] X.env = [(false, eval a X.env), (false, eval c X.env)]) (hs2 : starEach [c] X.env = [(false, eval c X.env)]) : PI X t (.Call (.Name "range" np) [a, c] [] pos) (liftI G W (itRng2 fs)) :=
  PIi (pi_range2 hg hm ha hs hs2) fun σ H R ⟨φ, st, ρ, B, b, RR, S, P⟩ => by
    refine ⟨φ, st, ρ, B, b, RR, S, P.bind.imp fun us φ1 H1 st1 x1 S1 q vs r => ?_⟩
    split at q
    · rename_i i j
      split at q
      · rename_i hj
        cases r with
        | cons h r =>
          cases r with
          | cons h2 r =>
            cases r
            cases h.int_
            cases h2.int_
            · exact ⟨i, j, rfl, ⟨by omega, by omega, by omega, by omega⟩, q φ1 H1 .refl S1 _ _ .refl S1 itr_ok (by simp only [rngU, List.length_map, List.length_range, sizeLine_eq]; omega) lkn⟩
      · exact q.elim
    · exact q.elim
/-! ### d.items() -/
def simpleK (ks : List KK) : Bool := ks.all fun k => match k with | .a _ => true | .t _ => false
def itemsOf (u : U) (st : List U) : Option IV := match u with
  | .dct ks us => if simpleK ks = true then some ⟨List.zipWith (fun k u => U.tup [ofKK k, u]) ks us, fun _ => True, none⟩ else none
  | .ref n => match st[n]? with
    | some (.dct ks us) => if simpleK ks = true ∧ noref us = true then some ⟨List.zipWith (fun k u => U.tup [ofKK k, u]) ks us, fun st' => st'[n]? = some (.lkd ks us), some n⟩ else none
    | some (.lkd ks us) => if simpleK ks = true ∧ noref us = true then some ⟨List.zipWith (fun k u => U.tup [ofKK k, u]) ks us, fun st' => st'[n]? = some (.lkd ks us), none⟩ else none
    | _ => none
  | _ => none
def itItems (fa : Ev U) : Ev IV := fun b ρ st => (fa b ρ st).bind fun u st1 => match itemsOf u st1 with
  | some iv => .ok iv st1
  | none => .stuck
theorem iti_ok {lk : Option Nat} {d : Addr} {od : Obj} {kk : List Key} {us : List U} {xs : List V} (hd : H d = some (.frz od (.dK (kk.zip xs)))) (hl : kk.length = xs.length) (r : RTs G φ H us xs) (p : List U → Prop) :
    ItOk G B b φ H ⟨List.zipWith (fun k u => U.tup [ofKK k, u]) (kk.map KK.a) us, p, lk⟩ (Iti d od (kk.zip xs)) := by
  intro φ' H' st' x fzz S hcc
  have e := fzz d _ _ hd
  have hz : (kk.zip xs).length = kk.length := by rw [List.length_zip]; omega
  have hu : us.length = kk.length := by rw [r.rvs.len, hl]
  refine ⟨fun i u eu => ?_, fun i hi => ⟨e, by rw [hz]; simp at hi; omega⟩⟩
  have hi : i < kk.length := by have := (List.getElem?_eq_some_iff.mp eu).1; simp at this; omega
  refine ⟨⟨e, by rw [hz]; exact hi⟩, fun y H2 hy => ?_⟩
  obtain ⟨T, k, v, e1, rfl, hT, rfl⟩ := hy
  rw [List.getElem?_zip_eq_some] at e1
  obtain ⟨w, ew, rw_⟩ := pGet2 r.pr e1.2
  have xa : Ext φ' H' φ' (upd H' T (.tup [kV k, v])) := Ext.alloc S hT
  refine ⟨xa, S.alloc hT, ?_⟩
  have e2 : u = .tup [ofKey k, w] := by
    rw [List.getElem?_zipWith, List.getElem?_map, e1.1, ew] at eu
    exact (Option.some.inj eu).symm
  rw [e2]
  refine RT.rv ?_
  unfold RT
  exact ⟨T, _, rfl, S.fresh hT, upd_same, .of (.cons (rt_key k) (.cons (RT.mono xa.keep _ _ (RT.mono x.keep _ _ rw_)) .nil))⟩
theorem kk_a : ∀ {ks : List KK}, ks.all (fun k => match k with | .a _ => true | .t _ => false) = true → ∃ kk : List Key, ks = kk.map KK.a
  | [], _ => ⟨[], rfl⟩
  | .a k :: r, h => by
    rw [List.all_cons, Bool.and_eq_true] at h
    obtain ⟨kk, e⟩ := kk_a h.2
    exact ⟨k :: kk, by rw [e]; rfl⟩
  | .t k :: r, h => by simp at h
theorem DO.ka {kk : List Key} {xs : List V} {o : Option HO} (h : DO (kk.map KK.a) xs o) : kk.length = xs.length ∧ o = some (.dK (kk.zip xs)) := by
  obtain ⟨hl, h⟩ := h
  have hl' : kk.length = xs.length := by simpa using hl
  rcases h with ⟨k2, e, ho⟩ | ⟨k2, e, hne, ho⟩
  · have : kk = k2 := List.map_inj_right (fun a b z => by injection z) |>.mp e
    subst this; exact ⟨hl', ho⟩
  · cases kk with
    | nil => cases k2 with
      | nil => exact absurd rfl hne
      | cons _ _ => cases e
    | cons _ _ => cases k2 with
      | nil => exact absurd rfl hne
      | cons _ _ => simp at e
theorem s_items {elts : List Expr} {kk : Nat} {tpos : Pos} (he : PE X e (lift G W fa)) (hbase : attributeBase e "items" X.env (eval e X.env) = eval e X.env) (hline : (apos.endLine == pos.line) = true) :
    PI X (.Tuple elts kk tpos) (.Call (.Attribute e "items" apos) [] [] pos) (liftI G W (itItems fa)) :=
  PIi (pi_items (pe_lockA (pe_len he)) hbase hline) fun σ H R ⟨φ, st, ρ, B, b, RR, S, P⟩ => by
    refine ⟨φ, st, ρ, B, b, RR, S, P.bind.imp fun u φ1 H1 st1 x1 S1 q v rv lo => ?_⟩
    have lz : ∀ {kk : List Key} {us : List U} {xs : List V} {d : Addr}, v = .ref d → kk.length = xs.length → us.length = xs.length → Rd H1 d (.dK (kk.zip xs)) → (List.zipWith (fun k u => U.tup [ofKK k, u]) (kk.map KK.a) us).length ≤ sizeLine := fun {kk us xs d} e h1 h2 h3 => by
      have z := (lo d e).2.2.1 _ h3
      rw [List.length_zip] at z
      simp; omega
    cases e : itemsOf u st1 with
    | none => rw [e] at q; exact q.elim
    | some iv =>
    rw [e] at q
    cases u with
    | dct ks us =>
      simp only [itemsOf] at e
      split at e
      · rename_i hk
        cases e
        obtain ⟨kk, rfl⟩ := kk_a hk
        obtain ⟨d, xs, o, rfl, nd, ho, hr, r⟩ := rt_dct (rv.rt rfl)
        obtain ⟨hl, ho⟩ := DO.ka ho
        cases ho
        have lz := lz rfl hl r.rvs.len hr
        rcases hr with hr | ⟨od, hr⟩
        · refine .inr ⟨d, _, hr, trivial, fun od => ⟨d, od, _, rfl, upd_same, q φ1 H1 .refl S1 _ _ (Ext.lock hr rfl nd) (S1.lock hr rfl nd) (iti_ok upd_same hl (RTs.mono (Ext.lock hr rfl nd).keep _ _ r) _) lz lkn⟩⟩
        · exact .inl ⟨d, od, _, rfl, hr, q φ1 H1 .refl S1 _ _ .refl S1 (iti_ok hr hl r _) lz lkn⟩
      · cases e
    | ref n =>
      simp only [itemsOf] at e
      split at e
      · rename_i ks us e0
        split at e
        · rename_i hk
          cases e
          obtain ⟨kk, rfl⟩ := kk_a hk.1
          obtain ⟨d, rfl, ed, _, xs, ho, r⟩ := rv_ref S1 rv e0
          obtain ⟨hl, ho⟩ := DO.ka ho
          have lz := lz rfl hl r.len (.inl ho)
          refine .inr ⟨d, _, ho, trivial, fun od => ?_⟩
          obtain ⟨xx, SS⟩ := lock_ref (od := od) S1 e0 ed ho
          exact ⟨d, od, _, rfl, upd_same, q φ1 H1 .refl S1 _ _ xx SS (iti_ok upd_same hl ((r.mono xx).rts hk.2) _) lz (fun m e => by cases e; exact ⟨_, _, e0⟩)⟩
        · cases e
      · rename_i ks us e0
        split at e
        · rename_i hk
          cases e
          obtain ⟨kk, rfl⟩ := kk_a hk.1
          obtain ⟨d, rfl, ed, _, xs, od, o, eo, ho, r⟩ := rv_ref S1 rv e0
          obtain ⟨hl, ho⟩ := DO.ka ho
          cases ho
          have lz := lz rfl hl r.len (.inr ⟨od, eo⟩)
          exact .inl ⟨d, od, _, rfl, eo, q φ1 H1 .refl S1 _ _ .refl S1 (iti_ok eo hl (r.rts hk.2) _) lz lkn⟩
        · cases e
      · cases e
    | _ => cases e
/-! ### enumerate, zip of lists -/
def lstOf (u : U) (st : List U) : Option (List U × (List U → Prop)) := match u with
  | .lst us => some (us, fun _ => True)
  | .fl us => some (us, fun _ => True)
  | .ref n => match st[n]? with
    | some (.lst us) => some (us, fun st' => st'[n]? = some (.lst us))
    | _ => none
  | _ => none
/-- a list that lasts -/
theorem lst_las {u : U} {v : V} {us : List U} {chk : List U → Prop} (hK : X.K = G.K) (S : StOk G φ H B b st) (r : RV G φ H u v) (e : lstOf u st = some (us, chk)) : ∃ d, v = .ref d ∧ (∃ xs, SqL X.K H d xs ∧ RVs G φ H us xs) ∧
    ∀ φ' H' st', Las φ H φ' H' → StOk G φ' H' B b st' → chk st' → ∃ xs, SqL X.K H' d xs ∧ RVs G φ' H' us xs := by
  cases u with
  | lst us' =>
    cases e
    obtain ⟨d, xs, rfl, nd, hd, r⟩ := rt_lst (r.rt rfl)
    exact ⟨d, rfl, ⟨xs, .of hd, r.rvs⟩, fun φ' H' st' x _ _ => ⟨xs, .of (las_lst x nd hd), r.rvs.mono' x⟩⟩
  | fl us' =>
    cases e
    have rt := r.rt rfl
    obtain ⟨d, xs, rfl, hd, r⟩ := rt_fl (X := X) hK rt
    refine ⟨d, rfl, ⟨xs, hd, r.rvs⟩, fun φ' H' st' x _ _ => ?_⟩
    obtain ⟨d2, xs2, e3, hd2, r2⟩ := rt_fl (X := X) hK (RT.mono x.keep _ _ rt)
    cases e3
    exact ⟨xs2, hd2, r2.rvs⟩
  | ref n =>
    simp only [lstOf] at e
    split at e
    · rename_i us' eu
      cases e
      obtain ⟨d, rfl, ed, _, xs, hd, r⟩ := rv_ref S r eu
      refine ⟨d, rfl, ⟨xs, .of hd, r⟩, fun φ' H' st' x S' hc => ?_⟩
      obtain ⟨d2, e3, _, co⟩ := S'.at hc
      rw [x.get ed] at e3; cases e3
      obtain ⟨xs2, hd2, r2⟩ := co
      exact ⟨xs2, .of hd2, r2⟩
    · cases e
  | _ => cases e
def itEnum (fs : Ev (List U)) : Ev IV := fun b ρ st => (fs b ρ st).bind fun us st1 => match us with
  | [u] => (match lstOf u st1 with
    | some (us, chk) => if noref us = true ∧ us.length ≤ sizeLine then .ok ⟨us.zipIdx.map fun p => .tup [.int (p.2 : Nat), p.1], chk, none⟩ st1 else .stuck
    | none => .stuck)
  | _ => .stuck
theorem s_enum {np tpos : Pos} {elts : List Expr} {kk : Nat} (hK : X.K = G.K) (hg : Gl X "enumerate") (hm : X.mg "enumerate" = none) (ha : PA X [e] (liftA G W fs)) (hs : starEach [e] X.env = [(false, eval e X.env)]) :
    PI X (.Tuple elts kk tpos) (.Call (.Name "enumerate" np) [e] [] pos) (liftI G W (itEnum fs)) :=
  PIi (pi_enum hg hm ha hs) fun σ H R ⟨φ, st, ρ, B, b, RR, S, P⟩ => by
    refine ⟨φ, st, ρ, B, b, RR, S, P.bind.imp fun us φ1 H1 st1 x1 S1 q vs r => ?_⟩
    split at q
    · rename_i u
      cases r with
      | cons h r =>
        cases r
        split at q
        · rename_i us chk el
          split at q
          · rename_i hn
            obtain ⟨d, rfl, ⟨xs, hx, rx⟩, las⟩ := lst_las (X := X) hK S1 h el
            refine ⟨d, xs, rfl, hx, q φ1 H1 .refl S1 _ _ .refl S1 (fun φ' H' st' x fzz S' hc => ?_) (by simpa using hn.2) lkn⟩
            obtain ⟨xs2, hx2, r2⟩ := las φ' H' st' x S' hc
            refine ⟨fun i w ew => ?_, fun i hi => ⟨xs2, hx2, by rw [← r2.len]; simpa using hi⟩⟩
            have hi : i < us.length := by have := (List.getElem?_eq_some_iff.mp ew).1; simpa using this
            obtain ⟨v, ev, rv⟩ := pGet r2 (List.getElem?_eq_getElem hi)
            refine ⟨⟨xs2, v, hx2, ev⟩, fun y H2 hy => ?_⟩
            obtain ⟨T, v2, rfl, hT, rfl, hv2⟩ := hy
            have e2 := hv2 xs2 hx2
            rw [ev] at e2; cases e2
            have xa : Ext φ' H' φ' (upd H' T (.tup [.int (i : Nat), v])) := Ext.alloc S' hT
            refine ⟨xa, S'.alloc hT, ?_⟩
            have e3 : w = .tup [.int (i : Nat), us[i]] := by
              rw [List.getElem?_map, List.getElem?_zipIdx, List.getElem?_eq_getElem hi] at ew
              simpa using (Option.some.inj ew).symm
            rw [e3]
            refine RT.rv ?_
            unfold RT
            have nr : us[i].isRef = false := by
              have := List.all_eq_true.mp hn.1 us[i] (List.getElem_mem hi)
              simpa using this
            exact ⟨T, _, rfl, S'.fresh hT, upd_same, .of (.cons rt_int (.cons (RT.mono xa.keep _ _ (rv.rt nr)) .nil))⟩
          · exact q.elim
        · exact q.elim
    · exact q.elim
/-! ### dict comprehensions -/
def toKey : U → Option Key
  | .int i => some (.inl i)
  | .str x => some (.inr x)
  | _ => none
theorem toKey_ok {u : U} {k : Key} {v : V} (h : toKey u = some k) (r : RV G φ H u v) : v = kV k := by
  cases u with
  | int i => cases h; exact r.int_
  | str z => cases h; exact r.str_
  | _ => cases h
noncomputable def kput (kk : List Key) (us : List U) (k : Key) (u : U) : List Key × List U := if k ∈ kk then (kk, List.zipWith (fun k' w => if k' = k then u else w) kk us) else (kk ++ [k], us ++ [u])
theorem putK_zip {kk : List Key} {xs : List V} {k : Key} {z : V} (hl : kk.length = xs.length) : putK (kk.zip xs) k z = if k ∈ kk then kk.zip (List.zipWith (fun k' w => if k' = k then z else w) kk xs) else (kk ++ [k]).zip (xs ++ [z]) := by
  have hany : ((kk.zip xs).any fun kv => decide (kv.1 = k)) = decide (k ∈ kk) := by
    induction kk generalizing xs with
    | nil => simp
    | cons a kk ih =>
      cases xs with
      | nil => simp at hl
      | cons x xs =>
        rw [List.zip_cons_cons, List.any_cons, ih (by simpa using hl)]
        simp [eq_comm]
  unfold putK
  rw [hany]
  by_cases hk : k ∈ kk
  · simp only [hk, decide_true, if_true]
    clear hany hk
    induction kk generalizing xs with
    | nil => simp
    | cons a kk ih =>
      cases xs with
      | nil => simp at hl
      | cons x xs =>
        rw [List.zip_cons_cons, List.map_cons, ih (by simpa using hl)]
        by_cases e : a = k <;> simp [e]
  · simp only [hk, decide_false, if_false]
    rw [List.zip_append hl]
    simp
theorem rvs_zipWith {kk : List Key} {k : Key} {u : U} {z : V} (r : RV G φ H u z) : ∀ {us : List U} {xs : List V}, RVs G φ H us xs → RVs G φ H (List.zipWith (fun k' w => if k' = k then u else w) kk us) (List.zipWith (fun k' w => if k' = k then z else w) kk xs) := by
  induction kk with
  | nil => intro us xs h; simpa using .nil
  | cons a kk ih =>
    intro us xs h
    cases h with
    | nil => simpa using .nil
    | cons h t =>
      simp only [List.zipWith_cons_cons]
      refine .cons ?_ (ih t)
      split <;> assumption
theorem kput_ok {kk : List Key} {us : List U} {xs : List V} {k : Key} {u : U} {z : V} (hl : kk.length = xs.length) (r : RVs G φ H us xs) (ru : RV G φ H u z) :
    ∃ xs', putK (kk.zip xs) k z = (kput kk us k u).1.zip xs' ∧ (kput kk us k u).1.length = xs'.length ∧ RVs G φ H (kput kk us k u).2 xs' := by
  rw [putK_zip hl]
  unfold kput
  by_cases hk : k ∈ kk
  · simp only [hk, if_true]
    exact ⟨_, rfl, by simp; omega, rvs_zipWith ru r⟩
  · simp only [hk, if_false]
    exact ⟨_, rfl, by simp [hl], pApp r (.cons ru .nil)⟩
theorem kput_len {kk : List Key} {us : List U} {k : Key} {u : U} (hl : us.length = kk.length) : (kput kk us k u).2.length = (kput kk us k u).1.length ∧ (kput kk us k u).1.length ≤ kk.length + 1 := by
  unfold kput
  split <;> simp <;> omega
theorem head_dct {kk : List Key} : HeadOk G (.dct (kk.map KK.a)) (fun vs => .dK (kk.zip vs)) kk.length :=
  ⟨fun {φ H us vs a} hl r n e => by
    unfold RT
    exact ⟨a, vs, _, rfl, n, ⟨by rw [List.length_map, ← hl]; exact r.rvs.len, .inl ⟨kk, rfl, rfl⟩⟩, .inl e, r⟩, fun {φ H us vs} hl r => ⟨vs, ⟨by rw [List.length_map, ← hl]; exact r.len, .inl ⟨kk, rfl, rfl⟩⟩, r⟩⟩
noncomputable def dcL (chk : List U → Prop) (s : TgS) (t : Ev Bool) (fk fv : Ev U) : List U → List Key × List U → Nat → En → List U → Res (List Key × List U)
  | [], acc, _, _, st => if chk st then .ok acc st else .stuck
  | u :: us, acc, b, ρ, st => if chk st then match tgU s u ρ with
    | none => .stuck
    | some ρ1 => (t b ρ1 st).bind fun k st1 => if k = true then (fk b ρ1 st1).bind fun y st2 => (fv b ρ1 st2).bind fun z st3 => match toKey y with
        | some kk => dcL chk s t fk fv us (kput acc.1 acc.2 kk z) b ρ st3
        | none => .stuck
      else dcL chk s t fk fv us acc b ρ st1
    else .stuck
noncomputable def eDc (live : Bool) (own : List Nat) (it : Ev IV) (s : TgS) (t : Ev Bool) (fk fv : Ev U) : Ev U := fun b ρ st => (it b ρ st).bind fun iv st1 =>
  (noX (dcL iv.chk s t fk fv iv.us ([], []) b (wipeE ρ own) (lck iv.lk st1))).bind fun p st2 => match unl iv.lk st2 with
    | some st3 => ofO (mk live (.dct (p.1.map KK.a)) p.2 st3)
    | none => .stuck
theorem dc_imp {own : List (Str × Nat)} {it : Ev IV} {s : TgS} {tt : Ev Bool} {live : Bool} {K : PySem.W.Frag} (hK : K = G.K) (hsn : ∀ j, j ∈ s.names → j ∈ own.map (·.2)) (h : lift G W (eDc live (own.map (·.2)) it s tt fa fb) σ H Q) :
    tDc (liftI G W it) (tgT K s) (liftT G W0 tt) (lift G W0 fa) (lift G W0 fb) (own.map (·.2)) σ H fun v H' => Unl H (Q v) H' := by
  obtain ⟨φ, st, ρ, B, b, R, S, P⟩ := h
  refine (show liftI G W it σ H _ from ⟨φ, st, ρ, B, b, R, S, ?_⟩)
  have P' := P.bind
  cases e0 : it b ρ st with
  | stuck => rw [e0] at P'; exact P'
  | exc _ _ => rw [e0] at P'; exact P'
  | ok iv st1 =>
  rw [e0] at P'
  intro φ1 H1 x1 S1 J H2 x2 S2 io hlen lko D hD
  have q := P' φ1 H1 x1 S1
  simp only at q
  cases eL : dcL iv.chk s tt fa fb iv.us ([], []) b (wipeE ρ (own.map (·.2))) (lck iv.lk st1) with
  | stuck => rw [eL] at q; exact q.elim
  | exc _ _ => rw [eL] at q; exact q.elim
  | ok pf stf =>
  rw [eL] at q
  have q : Post G (fun c d H => W c d σ H) B b φ1 H1 (match unl iv.lk stf with
    | some st3 => ofO (mk live (.dct (pf.1.map KK.a)) pf.2 st3)
    | none => .stuck) fun u φ' H' _ => ∀ v, RV G φ' H' u v → Q v H' := q
  cases eu : unl iv.lk stf with
  | none => rw [eu] at q; exact q.elim
  | some stu =>
  rw [eu] at q
  have qq : PostO G B b φ1 H1 (mk live (.dct (pf.1.map KK.a)) pf.2 stu) fun u φ' H' _ => ∀ v, RV G φ' H' u v → Q v H' := Post.ofO q
  refine ⟨fun i m H => m = iv.us.length - i ∧ i ≤ iv.us.length ∧ ∃ φ' st' acc vs, GRel φ1 H2 D φ' H ∧ StOk G φ' H B b st' ∧ H D = some (.dK (acc.1.zip vs)) ∧ acc.1.length = vs.length ∧ RVs G φ' H acc.2 vs ∧ acc.1.length ≤ i ∧ dcL iv.chk s tt fa fb (iv.us.drop i) acc b (wipeE ρ (own.map (·.2))) st' = .ok pf stf,
    ⟨_, rfl, Nat.zero_le _, ⟨φ1.l, D :: φ1.g⟩, lck iv.lk st1, ([], []), [], GRel.start hD S2, S2.push hD (fun _ z => by cases z), upd_same, rfl, .nil, Nat.zero_le _, eL⟩, ?_⟩
  rintro i m H' ⟨rfl, hi', φ', st', acc, vs, g, S', hDv, hav, racc, hacc, el⟩
  have RW : StR G φ' H' (wipeE ρ (own.map (·.2))) (wipe σ (own.map (·.2))) := by
    have z := ((R.mono (x1.trans x2)).wipe (own.map (·.2)))
    exact ⟨z.1, fun i u e => let ⟨v, a, r⟩ := z.2 i u e; ⟨v, a, r.mono' g.las⟩⟩
  by_cases hlt : i < iv.us.length
  · rw [List.drop_eq_getElem_cons hlt] at el
    simp only [dcL] at el
    split at el
    · rename_i hchk
      obtain ⟨h1, _⟩ := io φ' H' st' g.las g.fz S' hchk
      obtain ⟨go, yld⟩ := h1 i _ (List.getElem?_eq_getElem hlt)
      refine .inr ⟨go, fun H'' => iv.us.length - (i + 1) = iv.us.length - (i + 1) ∧ i + 1 ≤ iv.us.length ∧ ∃ φ' st' acc vs, GRel φ1 H2 D φ' H'' ∧ StOk G φ' H'' B b st' ∧ H'' D = some (.dK (acc.1.zip vs)) ∧ acc.1.length = vs.length ∧ RVs G φ' H'' acc.2 vs ∧ acc.1.length ≤ i + 1 ∧ dcL iv.chk s tt fa fb (iv.us.drop (i + 1)) acc b (wipeE ρ (own.map (·.2))) st' = .ok pf stf,
        fun H'' h => ⟨iv.us.length - (i + 1), by omega, h⟩, fun v H3 hy => ?_⟩
      obtain ⟨x3, S3, r3⟩ := yld v H3 hy
      cases e1 : tgU s iv.us[i] (wipeE ρ (own.map (·.2))) with
      | none => rw [e1] at el; cases el
      | some ρ1 =>
      rw [e1] at el
      simp only at el
      obtain ⟨σ1, R1, hout, hl1, hT⟩ := tgT_ok hK s _ _ _ _ _ (RW.mono x3) r3 e1
      refine hT _ ⟨?_, ?_⟩
      · rw [wipe_eq (fun j hj => hout j fun z => hj (hsn j z)) hl1, wipe_idem]
      obtain ⟨kk, st4, et, el⟩ := Res.bind_ok el
      refine ⟨φ', st', ρ1, B, b, R1, S3, ?_⟩
      rw [et]
      intro φ4 H4 x4 S4
      have g4 := (g.ext x3).ext x4
      have hD4 : H4 D = some (.dK (acc.1.zip vs)) := by rw [x4.gkp D (g.ext x3).mem, x3.gkp D g.mem]; exact hDv
      have racc4 := (racc.mono x3).mono x4
      cases kk with
      | true =>
        rw [if_pos rfl] at el
        refine Eq.mpr (if_pos rfl) ?_
        obtain ⟨y, st5, ee, el⟩ := Res.bind_ok el
        refine ⟨φ4, st4, ρ1, B, b, R1.mono x4, S4, ?_⟩
        rw [ee]
        intro φ5 H5 x5 S5 vy ry
        obtain ⟨z, st6, ez, el⟩ := Res.bind_ok el
        refine ⟨φ5, st5, ρ1, B, b, (R1.mono x4).mono x5, S5, ?_⟩
        rw [ez]
        intro φ6 H6 x6 S6 vz rz
        cases ek : toKey y with
        | none => rw [ek] at el; cases el
        | some k =>
        rw [ek] at el
        simp only at el
        have g6 := (g4.ext x5).ext x6
        have hD6 : H6 D = some (.dK (acc.1.zip vs)) := by rw [x6.gkp D (g4.ext x5).mem, x5.gkp D g4.mem]; exact hD4
        have racc6 := (racc4.mono x5).mono x6
        obtain ⟨xs', e7, l7, r7⟩ := kput_ok (k := k) hav racc6 rz
        have hal : acc.2.length = acc.1.length := by rw [racc6.len, hav]
        refine ⟨acc.1.zip vs, k, toKey_ok ek ry, hD6, by rw [List.length_zip]; omega, rfl, hlt, φ6, st6, kput acc.1 acc.2 k z, xs', g6.upd hD S2, S6.ghost g6.mem (fun _ z => by cases z), by rw [e7]; exact upd_same, l7, r7.mono' (Las.ghost g6.mem), ?_, el⟩
        have := (kput_len (k := k) (u := z) hal).2
        omega
      | false =>
        rw [if_neg (by decide)] at el
        refine Eq.mpr (if_neg (by decide)) ?_
        exact ⟨rfl, hlt, φ4, st4, acc, vs, g4, S4, hD4, hav, racc4, by omega, el⟩
    · cases el
  · have e : i = iv.us.length := by omega
    subst e
    rw [List.drop_length] at el
    simp only [dcL] at el
    split at el
    · rename_i hchk
      injection el with h1 h2
      subst h1; subst h2
      have hal : acc.2.length = acc.1.length := by rw [racc.len, hav]
      have hd : HeadOk G (.dct (acc.1.map KK.a)) (fun vs => .dK (acc.1.zip vs)) acc.2.length := by rw [hal]; exact head_dct
      obtain ⟨H3, g3, S3, l3, e3, hU⟩ := unlock_g x2 g S1 lko S' eu
      obtain ⟨φ3, u, st3, r, k⟩ := mk_ghost hd .refl (none_back x2 S2 hD) g3 S3 (e3.trans hDv) (racc.mono' l3) qq
      have kk := k _ r
      refine .inl ⟨(io φ' H' st' g.las g.fz S' hchk).2 _ (Nat.le_refl _), ?_⟩
      rcases hU with rfl | ⟨d, o, u, h1, h2, rfl⟩
      · exact .inl kk
      · exact .inr ⟨d, o, u, h1, fun o u z => h2 o u (x1.fz _ _ _ z), kk⟩
    · cases el
theorem s_dc {kx vx tg iter : Expr} {ifs : List Expr} {scope : Scope} {own : List (Str × Nat)} {it : Ev IV} {s : TgS} {tt : Ev Bool} {live : Bool} (hK : X.K = G.K) (hc : X.calm = true) (hN : X.N.Nodup) (hi : PI X tg iter (liftI G W it)) (ok : BlkOk X.N X.env.scope scope own)
    (hsn : ∀ j, j ∈ s.names → j ∈ own.map (·.2))
    (hg : ∀ (s' : Shared) (H : Hp) (C : Addr) (cl : List (Str × Addr)) (fp : List Addr), PG (X.blk s' H scope (compEnvC scope cl C X.env) fp) tg (tgT X.K s)) (ht : ∀ (s : Shared) (H : Hp) (C : Addr) (cl : List (Str × Addr)) (fp : List Addr), PTs (X.blk s H scope (compEnvC scope cl C X.env) fp) ifs (liftT G W0 tt))
    (hk : ∀ (s : Shared) (H : Hp) (C : Addr) (cl : List (Str × Addr)) (fp : List Addr), PE (X.blk s H scope (compEnvC scope cl C X.env) fp) kx (lift G W0 fa))
    (he : ∀ (s : Shared) (H : Hp) (C : Addr) (cl : List (Str × Addr)) (fp : List Addr), PE (X.blk s H scope (compEnvC scope cl C X.env) fp) vx (lift G W0 fb)) (hs : ∀ x, foldedSetIterable iter X.env x = pure x) :
    PE X (.DictComp kx vx [⟨tg, iter, ifs, 0⟩] scope pos) (lift G W (eDc live (own.map (·.2)) it s tt fa fb)) := by
  exact PEi (pe_unl (pe_dc hc hN hi ok hg ht hk he hs)) fun σ H Q h => dc_imp hK hsn h
end
end EV

set_option maxRecDepth 100000
/-! E10: built-ins that may call; the program's functions; the core language and its evaluator. -/
namespace EV
open PySem PySem.Spec PyProof.Rows L2
open Classical
abbrev PrAW := Nat → List U → List U → Res U
def CallW (G : Ge) (W : WX) (X : Cx) (f : Value) (p : PrAW) : Prop :=
  ∀ (pins : List (Addr × Obj)) (s : Shared) (σ : L2.St) (H : Hp) (Q : VK) (φ : Ph) (st : List U) (B : Nat → Prop) (b : Nat) (us : List U) (vs : List V) (vus : List Value), Inv X pins σ H s → Vals vs vus → StOk G φ H B b st → RVs G φ H us vs →
    Post G (fun c d H => W c d σ H) B b φ H (p b us st) (fun u φ' H' _ => ∀ v, RV G φ' H' u v → Q v H') → wpAny (model X.prog X.w) X.A (call f vus) (EP X pins σ Q) X.xe s
abbrev PrMW := Nat → U → List U → List U → Res U
abbrev PrIW := PrW
def IxW (G : Ge) (W : WX) (X : Cx) (p : PrW) : Prop :=
  ∀ (value slice : Expr) (pins : List (Addr × Obj)) (s : Shared) (σ : L2.St) (H : Hp) (Q : VK) (φ : Ph) (st : List U) (B : Nat → Prop) (b : Nat) (u w : U) (x y : V) (v1 v2 : Value), Inv X pins σ H s → RelV x v1 → RelV y v2 → StOk G φ H B b st → RV G φ H u x → RV G φ H w y →
    Post G (fun c d H => W c d σ H) B b φ H (p b u w st) (fun u φ' H' _ => ∀ v, RV G φ' H' u v → Q v H') → subscripted slice false v1 v2 = operate [v1, v2] (getItem v1 v2) →
    subscripted slice true v1 v2 = runValue (.builtin "lifetime.subscript" ⟨[v1, v2], []⟩) → wpAny (model X.prog X.w) X.A (subscriptTail value slice v1 v2) (EP X pins σ Q) X.xe s
section
variable {G : Ge} {W : WX} {X : Cx} {a c e t : Expr} {es : List Expr} {fa fb fc : Ev U} {fs fk : Ev (List U)} {pos p apos : Pos} {x : Str}
variable {σ : L2.St} {H : Hp} {Q : VK} {φ : Ph} {B : Nat → Prop} {b : Nat} {st : List U}
theorem CallW.of {f : Value} {p : PrA} (h : CallR X f (rA G p)) : CallW G W X f fun b us st => ofO (p b us st) :=
  fun pins s σ H Q φ st B b us vs vus I rv S r P => h pins s σ H vs vus Q I rv ⟨φ, st, B, b, us, S, r, P.ofO⟩
theorem IxW.of {p : Pr2} (h : IxR X (r2 G p)) : IxW G W X fun b u w st => ofO (p b u w st) :=
  fun value slice pins s σ H Q φ st B b u w x y v1 v2 I r1 r2 S ru rw_ P hs _ => h value slice pins s σ H x y v1 v2 Q I r1 r2 ⟨φ, st, B, b, u, w, S, ru, rw_, P.ofO⟩ hs
def eAW (p : PrAW) (fs : Ev (List U)) : Ev U := fun b ρ st => (fs b ρ st).bind fun xs st1 => p b xs st1
theorem s_eAW {p : PrAW} (h : lift G W (eAW p fs) σ H Q) : liftA G W fs σ H fun vs H1 => ∃ φ st B b us, StOk G φ H1 B b st ∧ RVs G φ H1 us vs ∧ Post G (fun c d H => W c d σ H) B b φ H1 (p b us st) fun u φ' H' _ => ∀ v, RV G φ' H' u v → Q v H' := by
  obtain ⟨φ, st, ρ, B, b, R, S, P⟩ := h
  exact ⟨φ, st, ρ, B, b, R, S, P.bind.imp fun us φ1 H1 st1 x1 S1 q vs r => ⟨φ1, st1, B, b, us, S1, r, q⟩⟩
theorem s_callBW {id : String} {p : PrAW} {np : Pos} (hc : CallW G W X (.builtin id) p) (hg : Gl X x) (hm : X.mg x = none) (hv : bootBuiltins x = some (.builtin id)) (ha : PA X (e :: es) (liftA G W fs)) (hn : x ≠ "__name__") (hdb : (x == ("__debug__" : Str)) = false)
    (he : starEach (e :: es) X.env = (false, eval e X.env) :: starEach es X.env) (hpl : (backTo pos (starEach es X.env)).any (·.1) = false) : PE X (.Call (.Name x np) (e :: es) [] pos) (lift G W (eAW p fs)) := by
  refine ⟨fun pins s σ H Q I h => ?_⟩
  refine wpAny_Call_Name_kw (ld_blt I hg hm hv ?_ hn hdb)
  exact PyProof.Rows.callWith_builtin1 (thn (ha.run pos pins s σ H _ I (s_eAW h)) fun us s1 ⟨vs, H1, I1, r1, φ, st, B, b, uu, S, r, q⟩ => hc pins s1 σ H1 Q φ st B b uu vs us I1 r1 S r q) he hpl
theorem s_callTyW {id : String} {p : PrAW} {np : Pos} (hc : CallW G W X (.type id) p) (hg : Gl X x) (hm : X.mg x = none) (hv : bootBuiltins x = some (.type id)) (ha : PA X (e :: es) (liftA G W fs)) (hn : x ≠ "__name__") (hdb : (x == ("__debug__" : Str)) = false)
    (he : starEach (e :: es) X.env = (false, eval e X.env) :: starEach es X.env) (hpl : (backTo pos (starEach es X.env)).any (·.1) = false) : PE X (.Call (.Name x np) (e :: es) [] pos) (lift G W (eAW p fs)) := by
  refine ⟨fun pins s σ H Q I h => ?_⟩
  refine wpAny_Call_Name_kw (ld_blt I hg hm hv ?_ hn hdb)
  exact PyProof.Rows.callWith_type1 (thn (ha.run pos pins s σ H _ I (s_eAW h)) fun us s1 ⟨vs, H1, I1, r1, φ, st, B, b, uu, S, r, q⟩ => hc pins s1 σ H1 Q φ st B b uu vs us I1 r1 S r q) he hpl
theorem s_callTyW0 {id : String} {p : PrAW} {np : Pos} (hc : CallW G W X (.type id) p) (hg : Gl X x) (hm : X.mg x = none) (hv : bootBuiltins x = some (.type id)) (hn : x ≠ "__name__") (hdb : (x == ("__debug__" : Str)) = false) :
    PE X (.Call (.Name x np) [] [] pos) (lift G W (eAW p eNil)) := by
  refine ⟨fun pins s σ H Q I ⟨φ, st, ρ, B, b, R, S, P⟩ => ?_⟩
  refine wpAny_Call_Name_kw (ld_blt I hg hm hv ?_ hn hdb)
  exact PyProof.Rows.callWith_type0 (hc pins s σ H Q φ st B b [] [] [] I .nil S .nil (P.bind.okk S))
theorem s_ixW {p : PrW} (hr : IxW G W X p) (ha : PE X a (lift G W fa)) (hb : PE X c (lift G W fb)) (hs : PlainIx c) (hs2 : ∀ v1 v2, subscripted c true v1 v2 = runValue (.builtin "lifetime.subscript" ⟨[v1, v2], []⟩)) : PE X (.Subscript a c pos) (lift G W (eW p fa fb)) := by
  refine ⟨fun pins s σ H Q I h => ?_⟩
  exact Subscript_ (bin ha hb I (s_eW h) fun v u s2 x y H2 I2 rx ry ⟨φ, st, B, b, u1, w, S, r1, r2, q⟩ => hr a c pins s2 σ H2 Q φ st B b u1 w x y v u I2 rx ry S r1 r2 q (hs _ _) (hs2 _ _))
/-- a op1 b op2 c -/
def eChain (p q : PrW) (fa fb fc : Ev U) : Ev U := fun b ρ st => (fa b ρ st).bind fun x st1 => (fb b ρ st1).bind fun y st2 => (p b x y st2).bind fun z st3 => match z with
  | .bl false => .ok (.bl false) st3
  | .bl true => (fc b ρ st3).bind fun w st4 => q b y w st4
  | _ => .stuck
end
inductive K0 where
  | non | bl (b : Bool) | int (i : Int) | str (x : Str)
def K0.u : K0 → U
  | .non => .non | .bl b => .bl b | .int i => .int i | .str x => .str x
/-- how a callee's parameters are filled: from the written values (positional, then keywords), or by a default -/
abbrev Perm := List (Sum Nat K0)
def Perm.fill (p : Perm) (us ws : List U) : List U := p.map fun s => match s with
  | .inl j => ((us ++ ws)[j]?).getD .non
  | .inr k => k.u
end EV

set_option maxRecDepth 100000
/-! E16: what the built-in operations do. -/
namespace EV
open PySem PySem.Spec PyProof.Rows L2
open Classical
section
variable {G : Ge} {X : Cx} {φ : Ph} {H : Hp} {B : Nat → Prop} {b : Nat} {st : List U}
theorem OpRi {f : Value → Value → Sem Value} {r r' : R2} (h : OpR X f r) (i : ∀ x y H Q, r' x y H Q → r x y H Q) : OpR X f r' := fun pins s σ H x y v u Q I r1 r2 q => h pins s σ H x y v u Q I r1 r2 (i _ _ _ _ q)
theorem CallRi {f : Value} {r r' : List V → Hp → VK → Prop} (h : CallR X f r) (i : ∀ xs H Q, r' xs H Q → r xs H Q) : CallR X f r' := fun pins s σ H xs us Q I rr q => h pins s σ H xs us Q I rr (i _ _ _ q)
theorem MtRi {id : String} {r r' : V → List V → Hp → VK → Prop} (h : MtR X id r) (i : ∀ x xs H Q, r' x xs H Q → r x xs H Q) : MtR X id r' := fun pins s σ H x xs v us Q I r1 r2 q => h pins s σ H x xs v us Q I r1 r2 (i _ _ _ _ q)
/-- a list that may be joined -/
def lstX (u : U) (st : List U) : Option (List U) := match u with
  | .lst us => some us
  | .ref n => match st[n]? with
    | some (.lst us) => some us
    | _ => none
  | _ => none
theorem lstX_ok {u : U} {v : V} {us : List U} (S : StOk G φ H B b st) (r : RV G φ H u v) (e : lstX u st = some us) : ∃ d xs, v = .ref d ∧ H d = some (.lst xs) ∧ RVs G φ H us xs := by
  cases u with
  | lst us' =>
    cases e
    obtain ⟨d, xs, rfl, nd, hd, r⟩ := rt_lst (r.rt rfl)
    exact ⟨d, xs, rfl, hd, r.rvs⟩
  | ref n =>
    simp only [lstX] at e
    split at e
    · rename_i us' eu
      cases e
      obtain ⟨d, rfl, ed, _, xs, hd, r⟩ := rv_ref S r eu
      exact ⟨d, xs, rfl, hd, r⟩
    · cases e
  | _ => cases e
/-! ### arithmetic -/
noncomputable def pAdd : Pr2 := fun _ u w st => match u, w with
  | .int i, .int j => some (.int (i + j), st)
  | .str i, .str j => if i.length + j.length ≤ sizeLine then some (.str (i ++ j), st) else none
  | u, w => match lstX u st, lstX w st with
    | some us, some ws => if us.length + ws.length ≤ sizeLine then mk false .lst (us ++ ws) st else none
    | _, _ => none
theorem oAdd : OpR X (binaryOp .Add) (r2 G pAdd) :=
  OpRi (op_add.or (op_add_str.or op_cat)) fun x y H Q ⟨φ, st, B, b, u, w, S, ru, rw_, P⟩ => by
    have lists : ∀ us ws, lstX u st = some us → lstX w st = some ws → PostO G B b φ H (if us.length + ws.length ≤ sizeLine then mk false .lst (us ++ ws) st else none) (fun u φ' H' _ => ∀ v, RV G φ' H' u v → Q v H') → rCat x y H Q := fun us ws e1 e2 P => by
      split at P
      · rename_i hl
        obtain ⟨d1, xs, rfl, h1, r1⟩ := lstX_ok S ru e1
        obtain ⟨d2, zs, rfl, h2, r2⟩ := lstX_ok S rw_ e2
        exact ⟨d1, d2, xs, zs, rfl, rfl, h1, h2, by rw [← r1.len, ← r2.len]; exact hl, fun p hp => mk_fin head_lst S (pApp r1 r2) P p hp⟩
      · exact P.elim
    unfold pAdd at P
    split at P
    · cases ru.int_; cases rw_.int_
      exact .inl ⟨_, _, rfl, rfl, P φ H .refl S _ rt_int.rv⟩
    · cases ru.str_; cases rw_.str_
      split at P
      · rename_i hl
        exact .inr (.inl ⟨_, _, rfl, rfl, hl, P φ H .refl S _ rt_str.rv⟩)
      · exact P.elim
    · split at P
      · rename_i us ws e1 e2
        exact .inr (.inr (lists us ws e1 e2 P))
      · exact P.elim
/-- ints in, under a condition -/
noncomputable def pInt (C : Int → Int → Prop) (g : Int → Int → U) : Pr2 := fun _ u w st => match u, w with
  | .int i, .int j => if C i j then some (g i j, st) else none
  | _, _ => none
theorem oInt {f : Value → Value → Sem Value} {C : Int → Int → Prop} {g : Int → Int → U} {gv : Int → Int → V} (h : OpR X f (rI C gv)) (hg : ∀ φ H i j, RT G φ H (g i j) (gv i j)) : OpR X f (r2 G (pInt C g)) :=
  OpRi h fun x y H Q ⟨φ, st, B, b, u, w, S, ru, rw_, P⟩ => by
    unfold pInt at P
    split at P
    · cases ru.int_; cases rw_.int_
      split at P
      · rename_i hc
        exact ⟨_, _, rfl, rfl, hc, P φ H .refl S _ (hg φ H _ _).rv⟩
      · exact P.elim
    · exact P.elim
theorem rI_of {g : Int → Int → V} {f : Value → Value → Sem Value} (h : OpR X f (rI0 g)) : OpR X f (rI (fun _ _ => True) g) := OpRi h fun x y H Q ⟨i, j, e1, e2, _, q⟩ => ⟨i, j, e1, e2, q⟩
noncomputable def pMul : Pr2 := fun b u w st => match u, w with
  | .int i, .int j => if CMul i j then some (.int (i * j), st) else none
  | u, .int k => match lstX u st with
    | some us => if -(2 ^ 63) ≤ k ∧ k < 2 ^ 63 ∧ us.length * k.toNat ≤ sizeLine then mk false .lst (List.replicate k.toNat us).flatten st else none
    | none => none
  | _, _ => none
theorem p_rep {us : List U} {xs : List V} (r : RVs G φ H us xs) : ∀ n : Nat, RVs G φ H (List.replicate n us).flatten (List.replicate n xs).flatten
  | 0 => .nil
  | n + 1 => by rw [List.replicate_succ, List.replicate_succ, List.flatten_cons, List.flatten_cons]; exact pApp r (p_rep r n)
theorem oMul : OpR X (binaryOp .Mult) (r2 G pMul) :=
  OpRi (op_mul.or op_rep) fun x y H Q ⟨φ, st, B, b, u, w, S, ru, rw_, P⟩ => by
    unfold pMul at P
    split at P
    · cases ru.int_; cases rw_.int_
      split at P
      · rename_i hc
        exact .inl ⟨_, _, rfl, rfl, hc, P φ H .refl S _ rt_int.rv⟩
      · exact P.elim
    · cases rw_.int_
      split at P
      · rename_i us e1
        split at P
        · rename_i hc
          obtain ⟨d1, xs, rfl, h1, r1⟩ := lstX_ok S ru e1
          exact .inr ⟨d1, _, xs, rfl, rfl, h1, hc.1, hc.2.1, by rw [← r1.len]; exact hc.2.2, fun p hp => mk_fin head_lst S (p_rep r1 _) P p hp⟩
        · exact P.elim
      · exact P.elim
    · exact P.elim
noncomputable def pBin : Operator → Pr2
  | .Add => pAdd
  | .Sub => pInt (fun _ _ => True) fun i j => .int (i - j)
  | .Mult => pMul
  | .FloorDiv => pInt CDiv fun i j => .int (i / j)
  | .Mod => pInt (fun _ j => 0 < j) fun i j => .int (i % j)
  | .Pow => pInt CPow fun i j => .int (i ^ j.toNat)
  | .LShift => pInt CPow fun i j => .int (i * 2 ^ j.toNat)
  | .RShift => pInt (fun _ j => 0 ≤ j) fun i j => .int (i / 2 ^ j.toNat)
  | .BitOr => pInt (fun _ _ => True) fun i j => .int (Builtin.bitOr i j)
  | .BitAnd => pInt (fun _ _ => True) fun i j => .int (Builtin.bitAnd i j)
  | .BitXor => pInt (fun _ _ => True) fun i j => .int (Builtin.bitXor i j)
  | _ => fun _ _ _ _ => none
theorem oNone {f : Value → Value → Sem Value} : OpR X f (r2 G fun _ _ _ _ => none) := fun pins s σ H x y v u Q I r1 r2 ⟨φ, st, B, b, u', w, S, ru, rw_, P⟩ => P.elim
theorem oBin (op : Operator) : OpR X (binaryOp op) (r2 G (pBin op)) := by
  cases op with
  | Add => exact oAdd
  | Sub => exact oInt (rI_of op_sub) fun _ _ _ _ => rt_int
  | Mult => exact oMul
  | FloorDiv => exact oInt op_fdiv fun _ _ _ _ => rt_int
  | Mod => exact oInt op_mod fun _ _ _ _ => rt_int
  | Pow => exact oInt op_pow fun _ _ _ _ => rt_int
  | LShift => exact oInt op_shl fun _ _ _ _ => rt_int
  | RShift => exact oInt op_shr fun _ _ _ _ => rt_int
  | BitOr => exact oInt (rI_of op_or) fun _ _ _ _ => rt_int
  | BitAnd => exact oInt (rI_of op_and) fun _ _ _ _ => rt_int
  | BitXor => exact oInt (rI_of op_xor) fun _ _ _ _ => rt_int
  | _ => exact oNone
/-! ### ==: data -/
mutual
def pd : U → Option PyData
  | .non => some .none
  | .bl c => some (.bool c)
  | .int i => some (.int i)
  | .str x => some (.str x)
  | .lst us => (pds us).map .list
  | .fl us => (pds us).map .list
  | .tup us => (pds us).map .tuple
  | .ft us => (pds us).map .tuple
  | _ => none
def pds : List U → Option (List PyData)
  | [] => some []
  | u :: us => (pd u).bind fun d => (pds us).map fun ds => d :: ds
end
mutual
theorem pd_ok (hK : X.K = G.K) : ∀ (u : U) (v : V) (d : PyData), RT G φ H u v → pd u = some d → Dp X.K H v d
  | .non, v, d, r, e => by unfold pd at e; cases e; cases rt_non' r; exact .non
  | .bl c, v, d, r, e => by unfold pd at e; cases e; cases r.bl_; exact .bl _
  | .int i, v, d, r, e => by unfold pd at e; cases e; cases rt_int' r; exact .int _
  | .str x, v, d, r, e => by unfold pd at e; cases e; cases rt_str' r; exact .str _
  | .lst us, v, d, r, e => by
    unfold pd at e
    obtain ⟨ds, e1, rfl⟩ := Option.map_eq_some_iff.mp e
    obtain ⟨a, xs, rfl, _, h, rs⟩ := rt_lst r
    exact .lst (.of h) (pds_ok hK us xs ds rs e1)
  | .fl us, v, d, r, e => by
    unfold pd at e
    obtain ⟨ds, e1, rfl⟩ := Option.map_eq_some_iff.mp e
    obtain ⟨a, xs, rfl, h, rs⟩ := rt_fl (X := X) hK r
    exact .lst h (pds_ok hK us xs ds rs e1)
  | .tup us, v, d, r, e => by
    unfold pd at e
    obtain ⟨ds, e1, rfl⟩ := Option.map_eq_some_iff.mp e
    obtain ⟨a, xs, rfl, _, h, rs⟩ := rt_tup r
    exact .tup (.of h) (pds_ok hK us xs ds rs e1)
  | .ft us, v, d, r, e => by
    unfold pd at e
    obtain ⟨ds, e1, rfl⟩ := Option.map_eq_some_iff.mp e
    obtain ⟨a, xs, rfl, h, rs⟩ := rt_ft (X := X) hK r
    exact .tup h (pds_ok hK us xs ds rs e1)
  | .dct _ _, v, d, r, e => by unfold pd at e; cases e
  | .ins _ _ _, v, d, r, e => by unfold pd at e; cases e
  | .ref _, v, d, r, e => by unfold pd at e; cases e
  | .ty _, v, d, r, e => by unfold pd at e; cases e
  | .lkd _ _, v, d, r, e => by unfold pd at e; cases e
  | .cl _, v, d, r, e => by unfold pd at e; cases e
theorem pds_ok (hK : X.K = G.K) : ∀ (us : List U) (vs : List V) (ds : List PyData), RTs G φ H us vs → pds us = some ds → DpAll X.K H vs ds
  | [], vs, ds, r, e => by unfold pds at e; cases e; cases r.pr; exact .nil
  | u :: us, vs, ds, r, e => by
    unfold pds at e
    obtain ⟨d, e1, e2⟩ := Option.bind_eq_some_iff.mp e
    obtain ⟨ds', e3, rfl⟩ := Option.map_eq_some_iff.mp e2
    cases r.pr with
    | cons h t => exact .cons (pd_ok hK u _ d h e1) (pds_ok hK us _ ds' (.of t) e3)
end
/-- a value, a live list's content among them, as data -/
def pdAt (u : U) (st : List U) : Option PyData := match u with
  | .ref n => (match st[n]? with
    | some (.lst us) => (pds us).map .list
    | _ => none)
  | u => pd u
theorem pds_rvs (hK : X.K = G.K) : ∀ {us : List U} {vs : List V} {ds : List PyData}, RVs G φ H us vs → pds us = some ds → DpAll X.K H vs ds
  | [], vs, ds, r, e => by unfold pds at e; cases e; cases r; exact .nil
  | u :: us, vs, ds, r, e => by
    unfold pds at e
    obtain ⟨d, e1, e2⟩ := Option.bind_eq_some_iff.mp e
    obtain ⟨ds', e3, rfl⟩ := Option.map_eq_some_iff.mp e2
    cases r with
    | cons h t =>
      refine .cons (pd_ok hK u _ d (h.rt ?_) e1) (pds_rvs hK t e3)
      cases u <;> first | rfl | (unfold pd at e1; cases e1)
theorem pdAt_ok (hK : X.K = G.K) {u : U} {v : V} {d : PyData} (S : StOk G φ H B b st) (r : RV G φ H u v) (e : pdAt u st = some d) : Dp X.K H v d := by
  cases u with
  | ref n =>
    simp only [pdAt] at e
    split at e
    · rename_i us eu
      obtain ⟨ds, e1, rfl⟩ := Option.map_eq_some_iff.mp e
      obtain ⟨p, rfl, ed, _, xs, hd, r⟩ := rv_ref S r eu
      exact .lst (.of hd) (pds_rvs hK r e1)
    · cases e
  | _ => exact pd_ok hK _ v d (r.rt rfl) e
/-- dicts of data, keys ints and texts -/
def kks (ks : List KK) : Option (List Key) := ks.mapM fun k => match k with
  | .a k => some k
  | .t _ => none
def dctAt (u : U) (st : List U) : Option (List KK × List U) := match u with
  | .dct ks us => some (ks, us)
  | .ref n => (match st[n]? with
    | some (.dct ks us) => some (ks, us)
    | some (.lkd ks us) => some (ks, us)
    | _ => none)
  | _ => none
theorem dctAt_ok {u : U} {v : V} {ks : List KK} {us : List U} (S : StOk G φ H B b st) (r : RV G φ H u v) (e : dctAt u st = some (ks, us)) : ∃ d xs o, v = .ref d ∧ Rd H d o ∧ DO ks xs (some o) ∧ RVs G φ H us xs := by
  cases u with
  | dct ks' us' =>
    cases e
    obtain ⟨d, xs, o, rfl, _, h, hr, r⟩ := rt_dct (r.rt rfl)
    exact ⟨d, xs, o, rfl, hr, h, r.rvs⟩
  | ref n =>
    simp only [dctAt] at e
    split at e
    · rename_i ks' us' eu
      cases e
      obtain ⟨d, rfl, ed, _, xs, hd, r⟩ := rv_ref S r eu
      obtain ⟨o, eo⟩ := hd.any
      rw [eo] at hd
      exact ⟨d, xs, o, rfl, .inl eo, hd, r⟩
    · rename_i ks' us' eu
      cases e
      obtain ⟨d, rfl, ed, _, xs, od, o, eo, hd, r⟩ := rv_ref S r eu
      exact ⟨d, xs, o, rfl, .inr ⟨od, eo⟩, hd, r⟩
    · cases e
  | _ => cases e
theorem kks_ok : ∀ {ks : List KK} {kk : List Key}, kks ks = some kk → ks = kk.map KK.a
  | [], kk, h => by simp [kks] at h; subst h; rfl
  | .a k :: ks, kk, h => by
    unfold kks at h
    rw [List.mapM_cons] at h
    obtain ⟨k', e1, e2⟩ := Option.bind_eq_some_iff.mp h
    obtain ⟨r, e3, e4⟩ := Option.bind_eq_some_iff.mp e2
    cases e1; cases e4
    rw [kks_ok (ks := ks) (kk := r) e3]; rfl
  | .t _ :: ks, kk, h => by
    unfold kks at h
    rw [List.mapM_cons] at h
    obtain ⟨k', e1, e2⟩ := Option.bind_eq_some_iff.mp h
    cases e1
end
end EV

set_option maxRecDepth 100000
/-! E17: comparisons, membership, subscripts. -/
namespace EV
open PySem PySem.Spec PyProof.Rows L2
open Classical
/-- what a dict holds -/
noncomputable def kget (ks : List Key) (us : List U) (k : Key) : Option U := ((ks.zip us).find? fun p => decide (p.1 = k)).map (·.2)
noncomputable def hitsU (ls : List Key) (ws : List U) : List Key → List U → Option Bool
  | [], [] => some true
  | k :: ks, u :: us => (match kget ls ws k with
    | none => some false
    | some w => match pd u, pd w with
      | some d, some e => if SeqAt.shaped d = true ∧ SeqAt.shaped e = true then (hitsU ls ws ks us).map fun b => PyData.eqv d e && b else none
      | _, _ => none)
  | _, _ => none
section
variable {G : Ge} {X : Cx} {φ : Ph} {H : Hp} {B : Nat → Prop} {b : Nat} {st : List U}
theorem kget_ok {k : Key} : ∀ {ks : List Key} {us : List U} {xs : List V}, RVs G φ H us xs → (kget ks us k = none → valV (ks.zip xs) k = none) ∧ ∀ w, kget ks us k = some w → ∃ v, valV (ks.zip xs) k = some v ∧ RV G φ H w v
  | [], us, xs, r => by simp [kget, valV]
  | a :: ks, _, _, .nil => by simp [kget, valV]
  | a :: ks, u :: us, v :: xs, .cons h t => by
    obtain ⟨i1, i2⟩ := kget_ok (ks := ks) (k := k) t
    unfold kget valV at *
    rw [List.zip_cons_cons, List.zip_cons_cons, List.find?_cons, List.find?_cons]
    by_cases e : a = k
    · rw [decide_eq_true e]
      exact ⟨fun z => by simp at z, fun w z => by simp at z; subst z; exact ⟨v, rfl, h⟩⟩
    · rw [decide_eq_false e]
      exact ⟨i1, i2⟩
theorem kget_none {k : Key} {ks : List Key} {us : List U} {xs : List V} (r : RVs G φ H us xs) (e : kget ks us k = none) : valV (ks.zip xs) k = none := (kget_ok r).1 e
theorem kget_some {k : Key} {ks : List Key} {us : List U} {xs : List V} {w : U} (r : RVs G φ H us xs) (e : kget ks us k = some w) : ∃ v, valV (ks.zip xs) k = some v ∧ RV G φ H w v := (kget_ok r).2 w e
theorem hits_ok {pins : List (Addr × Obj)} {σ : L2.St} {s : Shared} {ls : List Key} {ws : List U} {zs : List V} {vb : List (Key × Value)} (hK : X.K = G.K) (I : Inv X pins σ H s) (hu : X.A.in1.units + 64 < cLine) (rw_ : RVs G φ H ws zs) (kb : KV (ls.zip zs) vb) :
    ∀ {kk : List Key} {us : List U} {xs : List V} {va : List (Key × Value)} {c : Bool}, kk.length = xs.length → RVs G φ H us xs → KV (kk.zip xs) va → hitsU ls ws kk us = some c → PySem.W.KeqHits X.A.in1 s vb va c
  | [], [], _, va, c, _, r, ka, h => by
    cases r
    cases ka
    unfold hitsU at h
    cases h
    exact .nil
  | [], _ :: _, _, va, c, hl, r, ka, h => by unfold hitsU at h; cases h
  | _ :: _, [], _, va, c, hl, r, ka, h => by unfold hitsU at h; cases h
  | k :: kk, u :: us, _, va, c, hl, .cons hr tr, ka, h => by
    rw [List.zip_cons_cons] at ka
    cases ka with
    | @cons _ q _ va' hq tq =>
    obtain ⟨k', qv⟩ := q
    obtain ⟨ek, rq⟩ := hq
    simp only at ek rq
    subst ek
    unfold hitsU at h
    split at h
    · rename_i eg
      cases h
      refine .miss ?_
      have := kb.val k
      rw [kget_none rw_ eg] at this
      exact RelO.none_of this
    · rename_i w eg
      split at h
      · rename_i d e ed ee
        split at h
        · rename_i hs
          obtain ⟨c', e1, rfl⟩ := Option.map_eq_some_iff.mp h
          obtain ⟨z, ez, rz⟩ := kget_some rw_ eg
          have hv := kb.val k
          rw [ez] at hv
          obtain ⟨y, ey, ry⟩ := RelO.some_of hv
          have nu : u.isRef = false := by cases u <;> first | rfl | (unfold pd at ed; cases ed)
          have nw : w.isRef = false := by cases w <;> first | rfl | (unfold pd at ee; cases ee)
          obtain ⟨as, r1⟩ := Dp.reads I d _ _ (pd_ok hK u _ d (hr.rt nu) ed) rq
          obtain ⟨bs, r2⟩ := Dp.reads I e _ _ (pd_ok hK w _ e (rz.rt nw) ee) ry
          exact .hit ey (PySem.W.keq_at r1 r2 hs.1 hs.2 hu) (hits_ok hK I hu rw_ kb (by simpa using hl) tr tq e1)
        · cases h
      · cases h
/-- == of two dicts -/
noncomputable def dEq (u w : U) (st : List U) : Option Bool := match dctAt u st, dctAt w st with
  | some (ks, us), some (ls, ws) => (match kks ks, kks ls with
    | some kk, some ll => if kk.length = ll.length then hitsU ll ws kk us else some false
    | _, _ => none)
  | _, _ => none
noncomputable def pEqD (neg : Bool) : Pr2 := fun _ u w st => match dEq u w st with
  | some c => some (.bl (c != neg), st)
  | none => match pdAt u st, pdAt w st with
    | some d, some e => if SeqAt.shaped d = true ∧ SeqAt.shaped e = true then some (.bl (PyData.eqv d e != neg), st) else none
    | _, _ => none
noncomputable def pEq (neg : Bool) : Pr2 := fun b u w st => match u, w with
  | .str i, .str j => some (.bl (decide (i = j) != neg), st)
  | u, w => pEqD neg b u w st
theorem oEqD (hK : X.K = G.K) (hu : X.A.in1.units + 64 < cLine) {u w : U} {c : Bool} {x y : V} {v1 v2 : Value} {pins : List (Addr × Obj)} {σ : L2.St} {s : Shared} (neg : Bool) (I : Inv X pins σ H s) (S : StOk G φ H B b st) (ru : RV G φ H u x) (rw_ : RV G φ H w y) (r1 : RelV x v1) (r2 : RelV y v2) (e : dEq u w st = some c) {Q : Value → Shared → Prop} (q : Q (.bool (c != neg)) s) :
    wpAny (model X.prog X.w) X.A (compareOp (if neg = true then .NotEq else .Eq) v1 v2) Q X.xe s := by
  unfold dEq at e
  split at e
  · rename_i ks us ls ws e1 e2
    split at e
    · rename_i kk ll k1 k2
      obtain ⟨da, xs, oa, rfl, hra, doa, rus⟩ := dctAt_ok S ru e1
      obtain ⟨db, zs, ob, rfl, hrb, dob, rws⟩ := dctAt_ok S rw_ e2
      rw [kks_ok k1] at doa
      rw [kks_ok k2] at dob
      obtain ⟨la, ea⟩ := DO.ka doa
      obtain ⟨lb, eb⟩ := DO.ka dob
      cases ea; cases eb
      obtain rfl : v1 = Value.ref da := r1
      obtain rfl : v2 = Value.ref db := r2
      obtain ⟨_, sa, va, ra, dda⟩ := dk_rd I.hok hra
      obtain ⟨_, sb, vb, rb, ddb⟩ := dk_rd I.hok hrb
      have h1 : va.length = kk.length := by rw [← ra.length, List.length_zip]; omega
      have h2 : vb.length = ll.length := by rw [← rb.length, List.length_zip]; omega
      have hu0 : X.A.units < cLine := by have : X.A.in1.units = X.A.units + 1 := rfl; omega
      have key : ∃ r, (va.length = vb.length → PySem.W.KeqHits X.A.in1 s vb va r) ∧ (va.length == vb.length && r) = c := by
        split at e
        · rename_i hl
          exact ⟨c, fun _ => hits_ok hK I hu rws rb la rus ra e, by rw [h1, h2, hl]; simp⟩
        · rename_i hl
          cases e
          exact ⟨false, fun z => absurd (h1 ▸ h2 ▸ z) hl, by simp⟩
      obtain ⟨r, hits, hr⟩ := key
      cases neg with
      | false =>
        refine PySem.W.keq_eq sa sb dda ddb hu0 hits ?_
        rw [hr]
        simpa using q
      | true =>
        refine PySem.W.keq_ne sa sb dda ddb hu0 hits ?_
        rw [hr]
        simpa using q
    · cases e
  · cases e
theorem oEq (hK : X.K = G.K) (hu : X.A.in1.units + 64 < cLine) (neg : Bool) : OpR X (compareOp (if neg = true then .NotEq else .Eq)) (r2 G (pEq neg)) := by
  intro pins s σ H x y v u Q I r1 r2 ⟨φ, st, B, b, uu, w, S, ru, rw_, P⟩
  unfold pEq at P
  split at P
  · rename_i i j
    cases ru.str_; cases rw_.str_
    have q := P φ H .refl S _ rt_bl.rv
    have e : decide (V.str i = V.str j) = decide (i = j) := by rw [Bool.eq_iff_iff]; simp
    cases neg with
    | false => exact op_eq pins s σ H _ _ v u Q I r1 r2 ⟨rfl, by rw [e]; simpa using q⟩
    | true => exact op_ne pins s σ H _ _ v u Q I r1 r2 ⟨rfl, by rw [e]; simpa using q⟩
  unfold pEqD at P
  split at P
  · rename_i c ec
    exact oEqD hK hu neg I S ru rw_ r1 r2 ec ⟨.bl _, H, I, rfl, P φ H .refl S _ rt_bl.rv⟩
  · split at P
    · rename_i d e ed ee
      split at P
      · rename_i hs
        have hu1 : X.A.units + 64 < cLine := by have : X.A.in1.units = X.A.units + 1 := rfl; omega
        cases neg with
        | false => exact op_eqD hu1 pins s σ H x y v u Q I r1 r2 ⟨d, e, pdAt_ok hK S ru ed, pdAt_ok hK S rw_ ee, hs.1, hs.2, by simpa using P φ H .refl S _ rt_bl.rv⟩
        | true => exact op_neD hu1 pins s σ H x y v u Q I r1 r2 ⟨d, e, pdAt_ok hK S ru ed, pdAt_ok hK S rw_ ee, hs.1, hs.2, by simpa using P φ H .refl S _ rt_bl.rv⟩
      · exact P.elim
    · exact P.elim
/-! ### is None -/
def isNon : U → Bool
  | .non => true
  | _ => false
noncomputable def pIs (neg : Bool) : Pr2 := fun _ u w st => match w with
  | .non => some (.bl (isNon u != neg), st)
  | _ => none
theorem non_iff {u : U} {x : V} (r : RV G φ H u x) : decide (x = .non) = isNon u := by
  rcases r with ⟨n, a, rfl, _, rfl⟩ | r
  · rfl
  · cases u with
    | non => cases rt_non' r; rfl
    | bl c => cases r.bl_; rfl
    | int i => cases rt_int' r; rfl
    | str i => cases rt_str' r; rfl
    | ref n => exact absurd r.nref (by simp [U.isRef])
    | ty T => unfold RT at r; subst r; rfl
    | lkd _ _ => unfold RT at r; exact r.elim
    | cl c => unfold RT at r; obtain ⟨C, _, rfl⟩ := r; rfl
    | tup us => obtain ⟨a, _, rfl, _⟩ := rt_tup r; rfl
    | lst us => obtain ⟨a, _, rfl, _⟩ := rt_lst r; rfl
    | dct ks us => obtain ⟨a, _, _, rfl, _⟩ := rt_dct r; rfl
    | ins c ns us => obtain ⟨a, _, _, _, rfl, _⟩ := rt_ins r; rfl
    | fl us => unfold RT at r; obtain ⟨a, _, rfl, _⟩ := r; rfl
    | ft us => unfold RT at r; obtain ⟨a, _, rfl, _⟩ := r; rfl
theorem oIs : OpR X (compareOp .Is) (r2 G (pIs false)) := OpRi op_isN fun x y H Q ⟨φ, st, B, b, u, w, S, ru, rw_, P⟩ => by
  unfold pIs at P
  split at P
  · refine ⟨rw_.non_, ?_⟩
    rw [non_iff ru]
    simpa using P φ H .refl S _ rt_bl.rv
  · exact P.elim
theorem oIsNot : OpR X (compareOp .IsNot) (r2 G (pIs true)) := OpRi op_notN fun x y H Q ⟨φ, st, B, b, u, w, S, ru, rw_, P⟩ => by
  unfold pIs at P
  split at P
  · refine ⟨rw_.non_, ?_⟩
    rw [non_iff ru]
    simpa using P φ H .refl S _ rt_bl.rv
  · exact P.elim
/-! ### in: texts, lists of data, dicts' keys -/
/-- a key of a dict -/
def toKK : U → Option KK
  | .int i => some (.a (.inl i))
  | .str x => some (.a (.inr x))
  | .tup us => (us.mapM toKey).map .t
  | _ => none
noncomputable def kkget (ks : List KK) (us : List U) (k : KK) : Option U := ((ks.zip us).find? fun p => decide (p.1 = k)).map (·.2)
theorem kkget_a {k : Key} : ∀ {kk : List Key} {us : List U}, kkget (kk.map KK.a) us (.a k) = kget kk us k
  | [], us => by simp [kkget, kget]
  | a :: kk, [] => by simp [kkget, kget]
  | a :: kk, u :: us => by
    have ih := kkget_a (k := k) (kk := kk) (us := us)
    unfold kkget kget at *
    rw [List.map_cons, List.zip_cons_cons, List.zip_cons_cons, List.find?_cons, List.find?_cons]
    by_cases e : a = k
    · simp [e]
    · have : ¬ (KK.a a = KK.a k) := fun z => e (by injection z)
      simp only [e, this, decide_false]
      exact ih
theorem tkeys : ∀ {us : List U} {ks : List Key} {xs : List V}, us.mapM toKey = some ks → RTs G φ H us xs → xs = ks.map kV
  | [], ks, xs, h, r => by simp at h; subst h; cases r.pr; rfl
  | u :: us, ks, xs, h, r => by
    rw [List.mapM_cons] at h
    obtain ⟨k, e1, e2⟩ := Option.bind_eq_some_iff.mp h
    obtain ⟨ks', e3, e4⟩ := Option.bind_eq_some_iff.mp e2
    cases e4
    cases r.pr with
    | cons hh t =>
      rw [toKey_ok e1 hh.rv, tkeys e3 (.of t)]; rfl
theorem kkget_t {k : List Key} : ∀ {kk : List (List Key)} {us : List U} {xs : List V}, RVs G φ H us xs → (kkget (kk.map KK.t) us (.t k) = none → valV (kk.zip xs) k = none) ∧ ∀ w, kkget (kk.map KK.t) us (.t k) = some w → ∃ v, valV (kk.zip xs) k = some v ∧ RV G φ H w v
  | [], us, xs, r => by simp [kkget, valV]
  | a :: ks, _, _, .nil => by simp [kkget, valV]
  | a :: ks, u :: us, v :: xs, .cons h t => by
    obtain ⟨i1, i2⟩ := kkget_t (kk := ks) (k := k) t
    unfold kkget valV at *
    rw [List.map_cons, List.zip_cons_cons, List.zip_cons_cons, List.find?_cons, List.find?_cons]
    by_cases e : a = k
    · rw [decide_eq_true (show KK.t a = KK.t k by rw [e]), decide_eq_true e]
      exact ⟨fun z => by simp at z, fun w z => by simp at z; subst z; exact ⟨v, rfl, h⟩⟩
    · have : ¬ (KK.t a = KK.t k) := fun z => e (by injection z)
      rw [decide_eq_false this, decide_eq_false e]
      exact ⟨i1, i2⟩
/-- what a dict holds at a key, as HandS has it -/
theorem dget_ok {u w : U} {v y : V} {ks : List KK} {us : List U} {k : KK} (S : StOk G φ H B b st) (ru : RV G φ H u v) (rk : RV G φ H w y) (e : dctAt u st = some (ks, us)) (ek : toKK w = some k) (hm : (∃ kk : List Key, ks = kk.map KK.a) → ∃ k', k = .a k') (hm2 : ∀ k', k = .a k' → ∃ kk : List Key, ks = kk.map KK.a) :
    ∃ d o, v = .ref d ∧ DGet H d y o ∧ (kkget ks us k = none → o = none) ∧ ∀ z, kkget ks us k = some z → ∃ x, o = some x ∧ RV G φ H z x := by
  obtain ⟨d, xs, ob, rfl, hr, ⟨hl, ho⟩, r⟩ := dctAt_ok S ru e
  rcases ho with ⟨kk, rfl, ho⟩ | ⟨kk, rfl, hne, ho⟩
  · cases ho
    obtain ⟨k', rfl⟩ := hm ⟨kk, rfl⟩
    have ey : y = kV k' := by
      cases w with
      | int i => cases ek; exact rk.int_
      | str z => cases ek; exact rk.str_
      | tup us => simp [toKK] at ek
      | _ => cases ek
    rw [kkget_a]
    exact ⟨d, valV (kk.zip xs) k', rfl, .inl ⟨_, k', hr, ey, rfl⟩, fun z => kget_none r z, fun z ez => kget_some r ez⟩
  · cases ho
    cases k with
    | a k' =>
      obtain ⟨kk2, e2⟩ := hm2 k' rfl
      cases kk with
      | nil => exact absurd rfl hne
      | cons _ _ => cases kk2 <;> simp at e2
    | t k' =>
      cases w with
      | tup ws =>
        obtain ⟨k2, e3, e4⟩ := Option.map_eq_some_iff.mp ek
        cases e4
        obtain ⟨p, ps, rfl, _, hp, rp⟩ := rt_tup (rk.rt rfl)
        rw [tkeys e3 rp] at hp
        exact ⟨d, valV (kk.zip xs) k', rfl, .inr ⟨_, k', p, hr, rfl, hp, rfl⟩, fun z => (kkget_t r).1 z, fun z ez => (kkget_t r).2 z ez⟩
      | int _ => cases ek
      | str _ => cases ek
      | _ => cases ek
/-- the keys' kind fits -/
def kindOk (ks : List KK) (k : KK) : Bool := match k with
  | .a _ => ks.all fun x => match x with | .a _ => true | .t _ => false
  | .t _ => !ks.isEmpty && ks.all fun x => match x with | .a _ => false | .t _ => true
theorem kind1 {ks : List KK} {k : KK} (h : kindOk ks k = true) (e : ∃ kk : List Key, ks = kk.map KK.a) : ∃ k', k = .a k' := by
  cases k with
  | a k => exact ⟨k, rfl⟩
  | t k =>
    obtain ⟨kk, rfl⟩ := e
    unfold kindOk at h
    cases kk with
    | nil => simp at h
    | cons _ _ => simp at h
theorem kind2 {ks : List KK} {k : KK} (h : kindOk ks k = true) (k' : Key) (e : k = .a k') : ∃ kk : List Key, ks = kk.map KK.a := by
  subst e
  exact kk_a h
end
end EV

set_option maxRecDepth 100000
/-! E18: ordering, membership, subscripts, slices, stores. -/
namespace EV
open PySem PySem.Spec PyProof.Rows L2
section
variable {G : Ge} {X : Cx} {φ : Ph} {H : Hp} {B : Nat → Prop} {b : Nat} {st : List U}
/-! ### ordering -/
def pCmpI (f : Int → Int → Bool) (g : Str → Str → Bool) : Pr2 := fun _ u w st => match u, w with
  | .int i, .int j => some (.bl (f i j), st)
  | .str i, .str j => some (.bl (g i j), st)
  | _, _ => none
theorem oCmpI {op : CmpOp} {f : Int → Int → Bool} {g : Str → Str → Bool} (h : OpR X (compareOp op) (rI0 fun i j => .bl (f i j)))
    (h2 : OpR X (compareOp op) (fun x y H Q => ∃ i j, x = .str i ∧ y = .str j ∧ Q (.bl (g i j)) H)) : OpR X (compareOp op) (r2 G (pCmpI f g)) :=
  OpRi (h.or h2) fun x y H Q ⟨φ, st, B, b, u, w, S, ru, rw_, P⟩ => by
    unfold pCmpI at P
    split at P
    · cases ru.int_; cases rw_.int_
      exact .inl ⟨_, _, rfl, rfl, P φ H .refl S _ rt_bl.rv⟩
    · cases ru.str_; cases rw_.str_
      exact .inr ⟨_, _, rfl, rfl, P φ H .refl S _ rt_bl.rv⟩
    · exact P.elim
def cLt : Pr2 := pCmpI (fun i j => decide (i < j)) fun i j => decide (i.cps.toList < j.cps.toList)
def cLe : Pr2 := pCmpI (fun i j => decide (i ≤ j)) fun i j => !decide (j.cps.toList < i.cps.toList)
def cGt : Pr2 := pCmpI (fun i j => decide (j < i)) fun i j => decide (j.cps.toList < i.cps.toList)
def cGe : Pr2 := pCmpI (fun i j => decide (j ≤ i)) fun i j => !decide (i.cps.toList < j.cps.toList)
theorem oLt : OpR X (compareOp .Lt) (r2 G cLt) := oCmpI op_lt op_lt_str
theorem oLe : OpR X (compareOp .LtE) (r2 G cLe) := oCmpI op_le op_le_str
theorem oGt : OpR X (compareOp .Gt) (r2 G cGt) := oCmpI op_gt op_gt_str
theorem oGe : OpR X (compareOp .GtE) (r2 G cGe) := oCmpI op_ge op_ge_str
/-! ### lists, tuples: content -/
def sqAt (u : U) (st : List U) : Option (List U) := match u with
  | .lst us => some us | .fl us => some us | .tup us => some us | .ft us => some us
  | .ref n => (match st[n]? with
    | some (.lst us) => some us
    | _ => none)
  | _ => none
theorem sqAt_ok (hK : X.K = G.K) {u : U} {v : V} {us : List U} (S : StOk G φ H B b st) (r : RV G φ H u v) (e : sqAt u st = some us) : ∃ d xs, v = .ref d ∧ (SqL X.K H d xs ∨ SqT X.K H d xs) ∧ RVs G φ H us xs := by
  cases u with
  | lst us' => cases e; obtain ⟨d, xs, rfl, _, h, r⟩ := rt_lst (r.rt rfl); exact ⟨d, xs, rfl, .inl (.of h), r.rvs⟩
  | fl us' => cases e; obtain ⟨d, xs, rfl, h, r⟩ := rt_fl (X := X) hK (r.rt rfl); exact ⟨d, xs, rfl, .inl h, r.rvs⟩
  | tup us' => cases e; obtain ⟨d, xs, rfl, _, h, r⟩ := rt_tup (r.rt rfl); exact ⟨d, xs, rfl, .inr (.of h), r.rvs⟩
  | ft us' => cases e; obtain ⟨d, xs, rfl, h, r⟩ := rt_ft (X := X) hK (r.rt rfl); exact ⟨d, xs, rfl, .inr h, r.rvs⟩
  | ref n =>
    simp only [sqAt] at e
    split at e
    · rename_i us' eu
      cases e
      obtain ⟨d, rfl, ed, _, xs, hd, r⟩ := rv_ref S r eu
      exact ⟨d, xs, rfl, .inl (.of hd), r⟩
    · cases e
  | _ => cases e
def lsAt (u : U) (st : List U) : Option (List U) := match u with
  | .lst us => some us | .fl us => some us
  | .ref n => (match st[n]? with
    | some (.lst us) => some us
    | _ => none)
  | _ => none
theorem lsAt_ok (hK : X.K = G.K) {u : U} {v : V} {us : List U} (S : StOk G φ H B b st) (r : RV G φ H u v) (e : lsAt u st = some us) : ∃ d xs, v = .ref d ∧ SqL X.K H d xs ∧ RVs G φ H us xs := by
  cases u with
  | lst us' => cases e; obtain ⟨d, xs, rfl, _, h, r⟩ := rt_lst (r.rt rfl); exact ⟨d, xs, rfl, .of h, r.rvs⟩
  | fl us' => cases e; obtain ⟨d, xs, rfl, h, r⟩ := rt_fl (X := X) hK (r.rt rfl); exact ⟨d, xs, rfl, h, r.rvs⟩
  | ref n =>
    simp only [lsAt] at e
    split at e
    · rename_i us' eu
      cases e
      obtain ⟨d, rfl, ed, _, xs, hd, r⟩ := rv_ref S r eu
      exact ⟨d, xs, rfl, .of hd, r⟩
    · cases e
  | _ => cases e
def tpAt (u : U) : Option (List U) := match u with
  | .tup us => some us | .ft us => some us
  | _ => none
theorem tpAt_ok (hK : X.K = G.K) {u : U} {v : V} {us : List U} (r : RV G φ H u v) (e : tpAt u = some us) : ∃ d xs, v = .ref d ∧ SqT X.K H d xs ∧ RTs G φ H us xs := by
  cases u with
  | tup us' => cases e; obtain ⟨d, xs, rfl, _, h, r⟩ := rt_tup (r.rt rfl); exact ⟨d, xs, rfl, .of h, r⟩
  | ft us' => cases e; obtain ⟨d, xs, rfl, h, r⟩ := rt_ft (X := X) hK (r.rt rfl); exact ⟨d, xs, rfl, h, r⟩
  | _ => cases e
theorem atI_ok {us : List U} {xs : List V} {i : Int} {u : U} (r : RVs G φ H us xs) (e : atI us i = some u) : ∃ v, atI xs i = some v ∧ RV G φ H u v := by
  unfold atI at e ⊢
  rw [r.len] at e
  cases ej : ixN xs.length i with
  | none => rw [ej] at e; cases e
  | some j => rw [ej] at e; exact pGet r e
/-! ### subscripts -/
noncomputable def pIx : Pr2 := fun _ u w st => match u, w with
  | .str z, .int i => if z.length ≤ sizeLine then (atI z.cps.toList i).map fun c => (.str ⟨#[c]⟩, st) else none
  | u, w => match dctAt u st with
    | some (ks, us) => (match toKK w with
      | some k => if kindOk ks k = true then (kkget ks us k).map fun z => (z, st) else none
      | none => none)
    | none => match sqAt u st, w with
      | some us, .int i => (atI us i).map fun z => (z, st)
      | _, _ => none
theorem ix_dict (hu : X.A.units + 1 < cLine) : IxR X fun x y H Q => ∃ d z, x = .ref d ∧ DGet H d y (some z) ∧ Q z H := by
  intro value slice pins s σ H x y v u Q I rx ry ⟨d, z, e, g, q⟩ hs
  subst e
  obtain rfl : v = Value.ref d := rx
  have ty : s.TypeIs (.ref d) "dict" := by
    rcases g with ⟨kvs, k, r, _⟩ | ⟨kvs, k, b, r, _⟩
    · exact (isD_at I (.inl ⟨_, r⟩)).1
    · exact (isD_at I (.inr ⟨_, r⟩)).1
  exact tail_any ty PySem.F.slot_dict_getitem.lookup (d_getItem hu I g ry fun w' s' I' rw' => ⟨z, H, I', rw', q⟩) hs
theorem oIx (hK : X.K = G.K) (hu : X.A.units + 1 < cLine) : IxR X (r2 G pIx) := by
  intro value slice pins s σ H x y v u Q I rx ry ⟨φ, st, B, b, uu, w, S, ru, rw_, P⟩ hs
  unfold pIx at P
  split at P
  · cases ru.str_; cases rw_.int_
    split at P
    · rename_i hz
      cases e : atI (α := Nat) _ _ with
      | none => rw [e] at P; exact P.elim
      | some c => rw [e] at P; exact ix_str value slice pins s σ H _ _ v u Q I rx ry ⟨_, _, c, rfl, rfl, hz, e, P φ H .refl S _ rt_str.rv⟩ hs
    · exact P.elim
  · split at P
    · rename_i ks us ed
      split at P
      · rename_i k ek
        split at P
        · rename_i hk
          obtain ⟨d, o, rfl, g, g1, g2⟩ := dget_ok S ru rw_ ed ek (kind1 hk) (kind2 hk)
          cases ez : kkget ks us k with
          | none => rw [ez] at P; exact P.elim
          | some z =>
            rw [ez] at P
            obtain ⟨x, rfl, rz⟩ := g2 z ez
            exact ix_dict hu value slice pins s σ H _ _ v u Q I rx ry ⟨d, x, rfl, g, P φ H .refl S _ rz⟩ hs
        · exact P.elim
      · exact P.elim
    · split at P
      · rename_i us i eu _
        cases rw_.int_
        obtain ⟨d, xs, rfl, h, r⟩ := sqAt_ok hK S ru eu
        cases ez : atI us i with
        | none => rw [ez] at P; exact P.elim
        | some z =>
          rw [ez] at P
          obtain ⟨y, ey, ry'⟩ := atI_ok r ez
          rcases h with h | h
          · exact ix_list value slice pins s σ H _ _ v u Q I rx ry ⟨d, xs, i, y, rfl, rfl, h, ey, P φ H .refl S _ ry'⟩ hs
          · exact ix_tup value slice pins s σ H _ _ v u Q I rx ry ⟨d, xs, i, y, rfl, rfl, h, ey, P φ H .refl S _ ry'⟩ hs
      · exact P.elim
/-! ### slices -/
def cutU (us : List U) (lo hi : Option Int) : List U := (us.drop (HT.sIx us.length 0 lo)).take (HT.sIx us.length us.length hi - HT.sIx us.length 0 lo)
theorem cut_ok {us : List U} {xs : List V} {lo hi : Option Int} (r : RVs G φ H us xs) : RVs G φ H (cutU us lo hi) (cutV xs lo hi) := by
  unfold cutU cutV
  rw [r.len]
  exact pTake _ (pDrop _ r)
noncomputable def pSl (live : Bool) : PrSl := fun u lo hi st => match u with
  | .str z => if z.length ≤ sizeLine then some (.str (cutS z lo hi), st) else none
  | u => match lsAt u st with
    | some us => mk live .lst (cutU us lo hi) st
    | none => match tpAt u with
      | some us => if noref us = true ∧ ¬ (HT.sIx us.length 0 lo = 0 ∧ HT.sIx us.length us.length hi = us.length) then some (.tup (cutU us lo hi), st) else none
      | none => none
theorem noref_cut {us : List U} {lo hi : Option Int} (h : noref us = true) : noref (cutU us lo hi) = true := by
  unfold noref at *
  rw [List.all_eq_true] at *
  exact fun u m => h u (List.mem_of_mem_drop (List.mem_of_mem_take m))
theorem rt_newTup {us : List U} {vs : List V} (S : StOk G φ H B b st) (r : RVs G φ H us vs) (n : noref us = true) {p : Addr} (hp : H p = none) : Ext φ H φ (upd H p (.tup vs)) ∧ StOk G φ (upd H p (.tup vs)) B b st ∧ RV G φ (upd H p (.tup vs)) (.tup us) (.ref p) := by
  have x2 : Ext φ H φ (upd H p (.tup vs)) := Ext.alloc S hp
  refine ⟨x2, S.alloc hp, RT.rv ?_⟩
  unfold RT
  exact ⟨p, vs, rfl, S.fresh hp, upd_same, RTs.mono x2.keep _ _ (r.rts n)⟩
theorem oSl (hK : X.K = G.K) (live : Bool) : SlR X (rSl G (pSl live)) := by
  intro pins s σ H x v vl vu lo hi sl Q I rx hs pl pu ⟨φ, st, B, b, u, S, ru, P⟩
  unfold pSl at P
  split at P
  · cases ru.str_
    split at P
    · rename_i hz
      exact sl_str pins s σ H _ v vl vu lo hi sl Q I rx hs pl pu ⟨_, rfl, hz, P φ H .refl S _ rt_str.rv⟩
    · exact P.elim
  · split at P
    · rename_i us eu
      obtain ⟨d, xs, rfl, h, r⟩ := lsAt_ok hK S ru eu
      exact sl_list pins s σ H _ v vl vu lo hi sl Q I rx hs pl pu ⟨d, xs, rfl, h, fun p hp => mk_fin head_lst S (cut_ok r) P p hp⟩
    · rename_i en
      split at P
      · rename_i us eu
        split at P
        · rename_i hc
          obtain ⟨d, xs, rfl, ht, r⟩ := tpAt_ok hK ru eu
          refine sl_tup pins s σ H _ v vl vu lo hi sl Q I rx hs pl pu ⟨d, xs, rfl, ht, by rw [← r.rvs.len]; exact hc.2, fun p hp => ?_⟩
          obtain ⟨x2, S2, r2⟩ := rt_newTup S (cut_ok (lo := lo) (hi := hi) r.rvs) (noref_cut hc.1) hp
          exact P φ _ x2 S2 _ r2
        · exact P.elim
      · exact P.elim
end
end EV

set_option maxRecDepth 100000
/-! E19: stores, membership, isinstance, len, lists and dicts made. -/
namespace EV
open PySem PySem.Spec PyProof.Rows L2
section
variable {G : Ge} {X : Cx} {φ : Ph} {H : Hp} {B : Nat → Prop} {b : Nat} {st : List U}
/-! ### o[i] = v -/
noncomputable def pSetI : Pr3 := fun b uo ui u st => match uo with
  | .ref n => if b ≤ n ∨ u.isRef = false then (match st[n]? with
    | some (.lst us) => (match ui with
      | .int i => (ixN us.length i).map fun j => st.set n (.lst (us.set j u))
      | _ => none)
    | some (.dct ks us) => (match kks ks, toKey ui with
      | some kk, some k => if ks.length < sizeLine then some (st.set n (.dct ((kput kk us k u).1.map KK.a) (kput kk us k u).2)) else none
      | _, _ => none)
    | _ => none) else none
  | _ => none
theorem mem_set_ref {us : List U} {j m : Nat} {u : U} (h : U.ref m ∈ us.set j u) (n : u.isRef = false) : U.ref m ∈ us := by
  rcases List.mem_or_eq_of_mem_set h with h | h
  · exact h
  · subst h; cases n
theorem mem_kput_ref {kk : List Key} {us : List U} {k : Key} {m : Nat} {u : U} (h : U.ref m ∈ (kput kk us k u).2) (n : u.isRef = false) : U.ref m ∈ us := by
  unfold kput at h
  split at h
  · have key : ∀ {kk : List Key} {us : List U}, U.ref m ∈ List.zipWith (fun k' w => if k' = k then u else w) kk us → U.ref m ∈ us := by
      intro kk
      induction kk with
      | nil => intro us h; simp at h
      | cons a kk ih =>
        intro us h
        cases us with
        | nil => simp at h
        | cons w us =>
          rw [List.zipWith_cons_cons] at h
          rcases List.mem_cons.mp h with h | h
          · split at h
            · subst h; cases n
            · exact h ▸ List.mem_cons_self ..
          · exact List.mem_cons_of_mem _ (ih h)
    exact key h
  · rcases List.mem_append.mp h with h | h
    · exact h
    · simp at h; subst h; cases n
theorem oSet (hu : X.A.units + 1 < cLine) : PSet X (rSet G pSetI) := by
  intro pins s σ H o i v ov iv u Q I ro ri rv ⟨φ, st, B, b, uo, ui, uu, S, ruo, rui, ruu, st', P, q⟩
  unfold pSetI at P
  split at P
  · rename_i n
    split at P
    · rename_i hw
      split at P
      · rename_i us eu
        obtain ⟨d, rfl, ed, ml, xs, hd, r⟩ := rv_ref S ruo eu
        split at P
        · rename_i i'
          cases rui.int_
          obtain ⟨j, ej, rfl⟩ := Option.map_eq_some_iff.mp P
          refine set_list pins s σ H _ _ v ov iv u Q I ro ri rv ⟨d, xs, i', j, rfl, rfl, hd, by rw [← r.len]; exact ej, ?_⟩
          exact q φ _ (Ext.set S (List.mem_of_getElem? ed) fun _ _ z => (by rw [hd] at z; cases z)) (S.set ed ⟨_, rfl, pSet ruu j r⟩ (hw.imp id fun hn m hm => ⟨_, eu, mem_set_ref hm hn⟩))
        · cases P
      · rename_i ks us eu
        obtain ⟨d, rfl, ed, ml, xs, hd, r⟩ := rv_ref S ruo eu
        split at P
        · rename_i kk k ek et
          split at P
          · rename_i hl
            cases P
            rw [kks_ok ek] at hd hl
            obtain ⟨hl', ho⟩ := hd.ka
            obtain rfl : i = kV k := toKey_ok et rui
            have hlen : (kk.zip xs).length < sizeLine := by rw [List.length_zip]; rw [List.length_map] at hl; omega
            obtain ⟨xs', e7, l7, r7⟩ := kput_ok (k := k) hl' r ruu
            refine set_dict hu pins s σ H _ _ v ov iv u Q I ro ri rv ⟨d, _, rfl, .inl ⟨_, k, ho, rfl, hlen, rfl⟩, ?_⟩
            exact q φ _ (Ext.set S (List.mem_of_getElem? ed) fun _ _ z => (by rw [ho] at z; cases z)) (S.set ed ⟨xs', ⟨by rw [List.length_map]; exact l7, .inl ⟨_, rfl, by rw [e7]⟩⟩, r7⟩ (hw.imp id fun hn m hm => ⟨_, eu, mem_kput_ref hm hn⟩))
          · cases P
        · cases P
      · cases P
    · cases P
  · cases P
/-! ### isinstance -/
/-- a type: a built-in one, an own one -/
abbrev Kd := String ⊕ Nat
def kdV (G : Ge) : Kd → Option Value
  | .inl T => some (.type T)
  | .inr c => (G.cls[c]?).map .ref
theorem kdV_c {G : Ge} {c : Nat} {C : Addr} (h : G.cls[c]? = some C) : kdV G (.inr c) = some (.ref C) := by
  show (G.cls[c]?).map Value.ref = _
  rw [h]; rfl
def kdU : U → Option Kd
  | .ty T => some (.inl T)
  | .cl c => some (.inr c)
  | _ => none
def tyOfU (u : U) (st : List U) : Option Kd := match u with
  | .non => some (.inl "NoneType") | .bl _ => some (.inl "bool") | .int _ => some (.inl "int") | .str _ => some (.inl "str")
  | .lst _ => some (.inl "list") | .fl _ => some (.inl "list") | .tup _ => some (.inl "tuple") | .ft _ => some (.inl "tuple")
  | .dct ks _ => (match kks ks with
    | some _ => some (.inl "dict")
    | none => none)
  | .ins c _ _ => some (.inr c)
  | .ref n => (match st[n]? with
    | some (.lst _) => some (.inl "list")
    | some (.dct _ _) => some (.inl "dict")
    | some (.lkd ks _) => (match kks ks with
      | some _ => some (.inl "dict")
      | none => none)
    | some (.ins c _ _) => some (.inr c)
    | _ => none)
  | _ => none
/-- what an own class must be for isinstance -/
def IsiC (K : PySem.W.Frag) (C : Addr) : Prop := Cls K C ∧ PySem.W.findIn K (.ref C) "__class__" = some (some (.builtin "object.__class__")) ∧ PySem.W.specialIn K (.builtin "object.__class__") "__get__" = some (some (.builtin "getset_descriptor.__get__")) ∧
    PySem.W.takesIn K (.builtin "object.__class__") = some true ∧ PySem.W.mroIn K C (.type "object") = some true
structure IsiOk (G : Ge) (tab : List ((Kd × Kd) × Bool)) : Prop where
  cl : ∀ (c : Nat) (C : Addr), G.cls[c]? = some C → IsiC G.K C
  tab : ∀ t c r tv cv, tab.lookup (t, c) = some r → kdV G t = some tv → kdV G c = some cv → PySem.W.kitOne G.K tv cv = some r
theorem tyOfU_ok {tab : List ((Kd × Kd) × Bool)} (hK : X.K = G.K) (ok : IsiOk G tab) {u : U} {v : V} {t : Kd} (S : StOk G φ H B b st) (r : RV G φ H u v) (e : tyOfU u st = some t) : ∃ tv, kdV G t = some tv ∧ TyX X.K H v tv := by
  have ins : ∀ c C d dx fs, G.cls[c]? = some C → H d = some (.ins C dx fs) → ∃ tv, kdV G (.inr c) = some tv ∧ TyX X.K H (.ref d) tv := fun c C d dx fs hc hd => by
    obtain ⟨h1, h2, h3, h4, h5⟩ := ok.cl c C hc
    rw [← hK] at h1 h2 h3 h4 h5
    exact ⟨.ref C, kdV_c hc, .base (.ins hd h1 h2 h3 h4 h5)⟩
  cases u with
  | non => cases e; cases r.non_; exact ⟨_, rfl, .base .non⟩
  | bl _ => cases e; cases r.bl_; exact ⟨_, rfl, .base (.bl _)⟩
  | int _ => cases e; cases r.int_; exact ⟨_, rfl, .base (.int _)⟩
  | str _ => cases e; cases r.str_; exact ⟨_, rfl, .base (.str _)⟩
  | lst us => cases e; obtain ⟨d, xs, rfl, _, h, _⟩ := rt_lst (r.rt rfl); exact ⟨_, rfl, .base (.lst h)⟩
  | tup us => cases e; obtain ⟨d, xs, rfl, _, h, _⟩ := rt_tup (r.rt rfl); exact ⟨_, rfl, .base (.tup h)⟩
  | fl us =>
    cases e
    obtain ⟨d, xs, rfl, h, _⟩ := rt_fl (X := X) hK (r.rt rfl)
    rcases h with (h | ⟨o, h⟩) | ⟨o, _, _, h, hc, _⟩
    · exact ⟨_, rfl, .base (.lst h)⟩
    · exact ⟨_, rfl, .base (.frz h)⟩
    · exact ⟨_, rfl, .kList h hc⟩
  | ft us =>
    cases e
    obtain ⟨d, xs, rfl, h, _⟩ := rt_ft (X := X) hK (r.rt rfl)
    rcases h with (h | ⟨o, h⟩) | ⟨o, _, _, h, hc, _⟩
    · exact ⟨_, rfl, .base (.tup h)⟩
    · exact ⟨_, rfl, .fTuple h⟩
    · exact ⟨_, rfl, .kTuple h hc⟩
  | dct ks us =>
    simp only [tyOfU] at e
    split at e
    · rename_i kk ek
      cases e
      obtain ⟨d, xs, o, rfl, _, ho, hr, _⟩ := rt_dct (r.rt rfl)
      rw [kks_ok ek] at ho
      obtain ⟨_, e2⟩ := ho.ka
      cases e2
      rcases hr with hr | ⟨od, hr⟩
      · exact ⟨_, rfl, .base (.dK hr)⟩
      · exact ⟨_, rfl, .fDict hr⟩
    · cases e
  | ins c ns us =>
    cases e
    obtain ⟨d, C, dx, xs, rfl, _, hc, _, hd, _⟩ := rt_ins (r.rt rfl)
    exact ins c C d dx _ hc hd
  | ref n =>
    simp only [tyOfU] at e
    split at e
    · rename_i us eu
      cases e
      obtain ⟨d, rfl, _, _, xs, hd, _⟩ := rv_ref S r eu
      exact ⟨_, rfl, .base (.lst hd)⟩
    · rename_i ks us eu
      cases e
      obtain ⟨d, rfl, _, _, xs, ⟨_, hd⟩, _⟩ := rv_ref S r eu
      rcases hd with ⟨_, _, hd⟩ | ⟨_, _, _, hd⟩
      · exact ⟨_, rfl, .base (.dK hd)⟩
      · exact ⟨_, rfl, .base (.dT hd)⟩
    · rename_i ks us eu
      split at e
      · rename_i kk ek
        cases e
        obtain ⟨d, rfl, _, _, xs, od, o, eo, hd, _⟩ := rv_ref S r eu
        rw [kks_ok ek] at hd
        obtain ⟨_, e2⟩ := hd.ka
        cases e2
        exact ⟨_, rfl, .fDict eo⟩
      · cases e
    · rename_i c ns us eu
      cases e
      obtain ⟨d, rfl, _, _, C, dx, xs, hc, _, hd, _⟩ := rv_ref S r eu
      exact ins c C d dx _ hc hd
    · cases e
  | _ => cases e
theorem kdU_ok {u : U} {v : V} {t : Kd} (r : RV G φ H u v) (e : kdU u = some t) : ∃ cv, kdV G t = some cv ∧ ClsV v cv := by
  cases u with
  | ty T => cases e; have h := r.rt rfl; unfold RT at h; subst h; exact ⟨_, rfl, .ty _⟩
  | cl c => cases e; have h := r.rt rfl; unfold RT at h; obtain ⟨C, hc, rfl⟩ := h; exact ⟨.ref C, kdV_c hc, .own _⟩
  | _ => cases e
def pIsi (tab : List ((Kd × Kd) × Bool)) : PrA := fun _ us st => match us with
  | [u, .tup cs] => (match tyOfU u st, cs.mapM kdU with
    | some t, some ks => (ks.mapM fun k => tab.lookup (t, k)).map fun bs => (.bl (bs.any id), st)
    | _, _ => none)
  | [u, c] => (match tyOfU u st, kdU c with
    | some t, some k => (tab.lookup (t, k)).map fun r => (.bl r, st)
    | _, _ => none)
  | _ => none
theorem pair1 {F : U → V → Prop} {a : U} {vs : List V} (h : Paired F [a] vs) : ∃ x, vs = [x] ∧ F a x := by
  cases h with
  | cons h1 t => cases t; exact ⟨_, rfl, h1⟩
theorem pair2 {F : U → V → Prop} {a c : U} {vs : List V} (h : Paired F [a, c] vs) : ∃ x y, vs = [x, y] ∧ F a x ∧ F c y := by
  cases h with
  | cons h1 t => obtain ⟨y, rfl, h2⟩ := pair1 t; exact ⟨_, _, rfl, h1, h2⟩
theorem pair3 {F : U → V → Prop} {a c d : U} {vs : List V} (h : Paired F [a, c, d] vs) : ∃ x y z, vs = [x, y, z] ∧ F a x ∧ F c y ∧ F d z := by
  cases h with
  | cons h1 t => obtain ⟨y, z, rfl, h2, h3⟩ := pair2 t; exact ⟨_, _, _, rfl, h1, h2, h3⟩
theorem kds_ok : ∀ {us : List U} {vs : List V} {ts : List Kd}, RTs G φ H us vs → us.mapM kdU = some ts → ∃ cvs, Paired ClsV vs cvs ∧ Paired (fun t cv => kdV G t = some cv) ts cvs
  | [], vs, ts, r, e => by simp at e; subst e; cases r.pr; exact ⟨[], .nil, .nil⟩
  | u :: us, _, ts, r, e => by
    rw [List.mapM_cons] at e
    obtain ⟨t, e1, e2⟩ := Option.bind_eq_some_iff.mp e
    obtain ⟨ts', e3, e4⟩ := Option.bind_eq_some_iff.mp e2
    cases e4
    cases r.pr with
    | cons h tl =>
      obtain ⟨cv, h1, h2⟩ := kdU_ok h.rv e1
      obtain ⟨cvs, h3, h4⟩ := kds_ok (.of tl) e3
      exact ⟨_, .cons h2 h3, .cons h1 h4⟩
theorem kit_any {tab : List ((Kd × Kd) × Bool)} (ok : IsiOk G tab) {t : Kd} {tv : Value} (ht : kdV G t = some tv) : ∀ {ts : List Kd} {cvs : List Value} {bs : List Bool}, Paired (fun t cv => kdV G t = some cv) ts cvs → (ts.mapM fun k => tab.lookup (t, k)) = some bs → PySem.W.kitAny G.K tv cvs = some (bs.any id)
  | [], _, bs, .nil, e => by simp at e; subst e; rfl
  | c :: ts, _, bs, .cons h tl, e => by
    rw [List.mapM_cons] at e
    obtain ⟨r, e1, e2⟩ := Option.bind_eq_some_iff.mp e
    obtain ⟨rs, e3, e4⟩ := Option.bind_eq_some_iff.mp e2
    cases e4
    unfold PySem.W.kitAny
    rw [ok.tab t c r tv _ e1 ht h]
    cases r with
    | true => rfl
    | false => rw [List.any_cons]; exact kit_any ok ht tl e3
theorem oIsi {tab : List ((Kd × Kd) × Bool)} (hK : X.K = G.K) (ok : IsiOk G tab) : CallR X (.builtin "isinstance") (rA G (pIsi tab)) := by
  intro pins s σ H xs us Q I rv ⟨φ, st, B, b, uu, S, r, P⟩
  unfold pIsi at P
  split at P
  · rename_i u cs
    obtain ⟨x, y, rfl, r1, r2⟩ := pair2 r
    split at P
    · rename_i t ks et ek
      cases e : ks.mapM fun k => tab.lookup (t, k) with
      | none => rw [e] at P; exact P.elim
      | some bs =>
        rw [e] at P
        obtain ⟨tv, h1, h2⟩ := tyOfU_ok (X := X) hK ok S r1 et
        obtain ⟨p, zs, rfl, _, hp, rz⟩ := rt_tup (r2.rt rfl)
        obtain ⟨cvs, h3, h4⟩ := kds_ok rz ek
        exact call_isiT pins s σ H _ us Q I rv ⟨x, p, zs, tv, cvs, _, rfl, hp, h3, h2, by rw [hK]; exact kit_any ok h1 h4 e, P φ H .refl S _ rt_bl.rv⟩
    · exact P.elim
  · rename_i u c _
    obtain ⟨x, y, rfl, r1, r2⟩ := pair2 r
    split at P
    · rename_i t k et ek
      cases e : tab.lookup (t, k) with
      | none => rw [e] at P; exact P.elim
      | some rr =>
        rw [e] at P
        obtain ⟨tv, h1, h2⟩ := tyOfU_ok (X := X) hK ok S r1 et
        obtain ⟨cv, h3, h4⟩ := kdU_ok r2 ek
        exact call_isi pins s σ H _ us Q I rv ⟨x, y, tv, cv, rr, rfl, h4, h2, by rw [hK]; exact ok.tab t k rr tv cv e h1 h3, P φ H .refl S _ rt_bl.rv⟩
    · exact P.elim
  · exact P.elim
end
end EV

set_option maxRecDepth 100000
set_option maxHeartbeats 1000000
/-! E20: list(d.items()), list(d.values()), sum(d.values()). -/
namespace EV
open PySem PySem.Spec PyProof.Rows L2
section
variable {G : Ge} {W : WX} {X : Cx} {φ : Ph} {H H' : Hp} {B : Nat → Prop} {b : Nat} {st : List U} {e : Expr} {fa : Ev U} {p apos cpos pos : Pos}
/-- more objects have come -/
theorem Las.more (k : ∀ b o, H b = some o → H' b = some o) : Las φ H φ H' := ⟨⟨[], by simp⟩, fun a o e n => ⟨⟨o, k a o e, .inl rfl⟩, n⟩⟩
theorem Ext.more (S : StOk G φ H B b st) (k : ∀ b o, H b = some o → H' b = some o) : Ext φ H φ H' := ⟨Las.more k, rfl, fun a m => by obtain ⟨o, e, _⟩ := S.gh a m; rw [e, k a o e], fun a od o e => k a _ e⟩
theorem StOk.more (S : StOk G φ H B b st) (k : ∀ b o, H b = some o → H' b = some o) : StOk G φ H' B b st := ⟨S.len, S.nd, fun n u a e1 e2 => by
  have q := S.ok n u a e1 e2
  obtain ⟨x, ex⟩ := q.any
  rw [k a x ex, ← ex]
  exact q.mono' (Las.more k), fun a m => by
  obtain ⟨o, e, nt⟩ := S.gh a m
  exact ⟨o, k a o e, nt⟩, S.le, S.top, S.wf⟩
theorem Ext.moreLive {p : Addr} (S : StOk G φ H B b st) (k : ∀ b o, H b = some o → H' b = some o) (hp : H p = none) : Ext φ H ⟨φ.l ++ [p], φ.g⟩ H' :=
  ⟨⟨⟨[p], rfl⟩, fun a o e n => ⟨⟨o, k a o e, .inl rfl⟩, Ph.not (by
    simp only [List.mem_append, List.mem_singleton, not_or]; exact ⟨Ph.nl n, ne_of_none e hp⟩) (Ph.ng (φ := φ) n)⟩⟩, rfl, fun a m => by obtain ⟨o, e, _⟩ := S.gh a m; rw [e, k a o e], fun a od o e => k a _ e⟩
theorem StOk.moreLive {p : Addr} {o : HO} {u : U} (S : StOk G φ H B b st) (k : ∀ b o, H b = some o → H' b = some o) (hp : H p = none) (ho : H' p = some o) (c : CO G ⟨φ.l ++ [p], φ.g⟩ H' u (some o)) : StOk G ⟨φ.l ++ [p], φ.g⟩ H' B b (st ++ [u]) := by
  have nf := S.fresh hp
  refine ⟨by simp [S.len], ?_, fun n w a e1 e2 => ?_, fun a m => ?_, by have := S.le; simp; omega, S.top, fun c hc n w hn e m hm => ?_⟩
  · obtain ⟨n1, n2, n3⟩ := List.nodup_append.mp S.nd
    refine List.nodup_append.mpr ⟨List.nodup_append.mpr ⟨n1, by simp, fun x hx y hy => ?_⟩, n2, fun x hx y hy => ?_⟩
    · simp at hy; subst hy; exact fun z => Ph.nl nf (z ▸ hx)
    · rcases List.mem_append.mp hx with hx | hx
      · exact n3 x hx y hy
      · simp at hx; subst hx; exact fun z => Ph.ng nf (z ▸ hy)
  · by_cases hn : n < st.length
    · rw [List.getElem?_append_left hn] at e1
      rw [List.getElem?_append_left (by rw [S.len]; exact hn)] at e2
      have q := S.ok n w a e1 e2
      obtain ⟨x, ex⟩ := q.any
      rw [k a x ex, ← ex]
      exact q.mono (Ext.moreLive S k hp)
    · have e : n = st.length := by
        have := (List.getElem?_eq_some_iff.mp e1).1
        simp at this; omega
      subst e
      rw [← S.len] at e2
      simp at e1 e2
      subst e1; subst e2
      rw [ho]
      exact c
  · obtain ⟨o, e, nt⟩ := S.gh a m
    exact ⟨o, k a o e, nt⟩
  · have := S.top c hc
    have := S.le
    rw [List.getElem?_append_left (by omega)] at e
    exact S.wf c hc n w hn e m hm
theorem mk_more {live : Bool} {head : List U → U} {o : List V → HO} {us : List U} {vs : List V} {p : Addr} {K : U → Ph → Hp → List U → Prop} (h : HeadOk G head o us.length)
    (S : StOk G φ H B b st) (k : ∀ b o, H b = some o → H' b = some o) (hp : H p = none) (ho : H' p = some (o vs)) (r : ∀ φ', (φ' = φ ∨ φ' = ⟨φ.l ++ [p], φ.g⟩) → RVs G φ' H' us vs) (P : PostO G B b φ H (mk live head us st) K) :
    ∃ φ' u st', RV G φ' H' u (.ref p) ∧ K u φ' H' st' := by
  unfold mk at P
  split at P
  · have x : Ext φ H ⟨φ.l ++ [p], φ.g⟩ H' := Ext.moreLive S k hp
    have S' := S.moreLive k hp ho (h.live rfl (r _ (.inr rfl)))
    exact ⟨_, _, _, .inl ⟨st.length, p, rfl, by rw [← S.len]; simp, rfl⟩, P _ _ x S'⟩
  · split at P
    · rename_i n
      have x : Ext φ H φ H' := Ext.more S k
      exact ⟨_, _, _, .inr (h.tree rfl ((r _ (.inl rfl)).rts n) (S.fresh hp) ho), P _ _ x (S.more k)⟩
    · exact P.elim
theorem las_two {p : Addr} (S : StOk G φ H B b st) (k : ∀ b o, H b = some o → H' b = some o) (hp : H p = none) : ∀ φ', (φ' = φ ∨ φ' = ⟨φ.l ++ [p], φ.g⟩) → Las φ H φ' H' := fun φ' hφ => by
  rcases hφ with rfl | rfl
  · exact Las.more k
  · exact (Ext.moreLive S k hp).toLas
theorem nas_two {p : Addr} {ts : List Addr} (S : StOk G φ H B b st) (hp : H p = none) (k3 : ∀ t ∈ ts, H t = none) (k4 : p ∉ ts) : ∀ φ', (φ' = φ ∨ φ' = ⟨φ.l ++ [p], φ.g⟩) → ∀ t ∈ ts, t ∉ φ' := fun φ' hφ t m => by
  have h1 := S.fresh (k3 t m)
  rcases hφ with rfl | rfl
  · exact h1
  · refine Ph.not ?_ (Ph.ng (φ := φ) h1)
    simp only [List.mem_append, List.mem_singleton, not_or]
    exact ⟨Ph.nl (φ := φ) h1, fun z => k4 (z ▸ m)⟩
/-! ### list(d.items()) -/
def eLItems (live : Bool) (fa : Ev U) : Ev U := fun b ρ st => (fa b ρ st).bind fun u st1 => match dctAt u st1 with
  | some (ks, us) => (match kks ks with
    | some _ => if noref us = true then ofO (mk live .lst (List.zipWith (fun k u => U.tup [ofKK k, u]) ks us) st1) else .stuck
    | none => .stuck)
  | none => .stuck
theorem items_rvs : ∀ {kk : List Key} {us : List U} {xs : List V} {ts : List Addr}, Paired (fun (t : Addr) (q : Key × V) => H' t = some (.tup [kV q.1, q.2])) ts (kk.zip xs) → kk.length = xs.length → (∀ t ∈ ts, t ∉ φ) → RTs G φ H' us xs →
    RVs G φ H' (List.zipWith (fun k u => U.tup [ofKK k, u]) (kk.map KK.a) us) (ts.map V.ref)
  | [], us, xs, ts, p, hl, n, r => by
    cases xs with
    | nil => cases p; exact .nil
    | cons _ _ => cases hl
  | k :: kk, us, xs, ts, p, hl, n, r => by
    cases xs with
    | nil => cases hl
    | cons x xs =>
      rw [List.zip_cons_cons] at p
      cases p with
      | cons h t =>
        cases us with
        | nil => cases r.pr
        | cons u us =>
          cases r.pr with
          | cons hu tu =>
            rw [List.map_cons, List.map_cons, List.zipWith_cons_cons]
            refine .cons (RT.rv ?_) (items_rvs t (by simpa using hl) (fun t m => n t (List.mem_cons_of_mem _ m)) (.of tu))
            unfold RT
            exact ⟨_, _, rfl, n _ (List.mem_cons_self ..), h, .of (.cons (rt_key k) (.cons hu .nil))⟩
theorem s_listItems {live : Bool} (hc : X.calm = true) (he : PE X e (lift G W fa)) (hg : Gl X "list") (hm : X.mg "list" = none) (hbase : attributeBase e "items" X.env (eval e X.env) = eval e X.env) (hline : (apos.endLine == cpos.line) = true)
    (hs : starEach [.Call (.Attribute e "items" apos) [] [] cpos] X.env = (false, eval (.Call (.Attribute e "items" apos) [] [] cpos) X.env) :: starEach [] X.env) :
    PE X (.Call (.Name "list" p) [.Call (.Attribute e "items" apos) [] [] cpos] [] pos) (lift G W (eLItems live fa)) := by
  refine ⟨fun pins s σ H Q I ⟨φ, st, ρ, B, b, R, S, P⟩ => ?_⟩
  refine wpAny_Call_Name_kw (ld_blt I hg hm (u := .type "list") (by first | rfl | decide +kernel) ?_ (by decide) (by decide))
  refine PyProof.Rows.callWith_type1 ?_ hs rfl
  rw [hs]
  show wpAny _ _ (spliced ((false, eval (.Call (.Attribute e "items" apos) [] [] cpos) X.env) :: backTo pos (starEach [] X.env))) _ _ s
  refine Calls.spliced_cons ?_
  refine wpAny_Call_method (T := "dict") (id := "dict.items") hbase rfl hline F.plainAttrs_dict F.slot_dict_items F.type_dict_items (thn (he.run pins s σ H (fun v H1 => ∃ (φ : Ph) (st1 : List U) (kk : List Key) (us : List U) (xs : List V) (d : Addr), v = .ref d ∧ Rd H1 d (.dK (kk.zip xs)) ∧ kk.length = xs.length ∧ StOk G φ H1 B b st1 ∧ RTs G φ H1 us xs ∧
    PostO G B b φ H1 (mk live .lst (List.zipWith (fun k u => U.tup [ofKK k, u]) (kk.map KK.a) us) st1) fun u φ' H' _ => ∀ v, RV G φ' H' u v → Q v H') I ⟨φ, st, ρ, B, b, R, S, P.bind.imp fun u φ1 H1 st1 x1 S1 q v r => ?_⟩) fun u s1 ⟨x, H1, I1, rx, φ, st1, kk, us, xs, d, ex, hd, hl, S1, rus, q⟩ => ?_)
  · split at q
    · rename_i ks us ed
      split at q
      · rename_i kk ek
        split at q
        · rename_i nr
          obtain ⟨d, xs, o, rfl, hr, ho, rr⟩ := dctAt_ok S1 r ed
          rw [kks_ok ek] at ho q
          obtain ⟨hl, eo⟩ := ho.ka
          cases eo
          exact ⟨φ1, st1, kk, us, xs, d, rfl, hr, hl, S1, rr.rts nr, q.ofO⟩
        · exact q.elim
      · exact q.elim
    · exact q.elim
  subst ex
  obtain rfl : u = Value.ref d := rx
  obtain ⟨hz, hs0, vs, kv, hdo⟩ := dk_rd I1.hok hd
  obtain ⟨ep, hat⟩ := hdo.dictAt
  have lk : (kk.zip xs).length = vs.length := Paired.length kv
  have I2 : Inv X pins σ H1 { s1 with heap := s1.heap.push { cls := .type "dict_items", data := .fields #[.ref d] } } := I1.kept (t' := s1.toks) fun b ob q => Heap.get?_push_of_some _ q
  refine ⟨hdo.typeIs, hdo.mapOf.noDict, ?_⟩
  show wpAny _ _ (callWith cpos (.builtin "dict.items") [.ref d] [] []) _ X.xe s1
  refine method_meetsIn F.slot_dict_items F.entry_dict_items rfl (PySem.evalArgs_none ⟨rfl, hdo.typeIs, F.args_dict_items_1 _, _, meets_dict_items (mixKind X.prog X.w) d hs0, ⟨vs, hdo⟩, ?_⟩)
  refine Calls.spliced_nil ?_
  refine PySem.W.kdx_call (knd := mixKind X.prog X.w) (kvs := vs) (ep := ep) (I1.ok.hd hc) ⟨_, Heap.get?_push_size _ rfl, rfl, rfl⟩ (hat.push _) (by omega) fun h' tk acc c as hk hS hl2 hG hacc => ?_
  obtain ⟨H', k1, k2, k3, k4, k5, k6, J⟩ := LiI.items_laid (tk := tk) I2 hz kv hk hS hl2 hG hacc
  obtain ⟨φ', u, st', rv, q⟩ := mk_more (o := HO.lst) head_lst S1 k1 k2 k5 (fun φ' hφ => items_rvs k6 hl (nas_two S1 k2 k3 k4 φ' hφ) (RTs.mono (las_two S1 k1 k2 φ' hφ).keep _ _ rus)) q
  exact ⟨.ref _, H', J, rfl, q _ rv⟩
/-! ### list(d.values()), sum(d.values()) -/
def valsAt (u : U) (st : List U) : Option (List U) := match dctAt u st with
  | some (ks, us) => (match kks ks with
    | some _ => some us
    | none => none)
  | none => none
def eLVals (live : Bool) (fa : Ev U) : Ev U := fun b ρ st => (fa b ρ st).bind fun u st1 => match valsAt u st1 with
  | some us => ofO (mk live .lst us st1)
  | none => .stuck
theorem valsAt_ok {u : U} {v : V} {us : List U} (S : StOk G φ H B b st) (r : RV G φ H u v) (e : valsAt u st = some us) : ∃ (kk : List Key) (xs : List V) (d : Addr), v = .ref d ∧ Rd H d (.dK (kk.zip xs)) ∧ kk.length = xs.length ∧ RVs G φ H us xs := by
  unfold valsAt at e
  split at e
  · rename_i ks us' ed
    split at e
    · rename_i kk ek
      cases e
      obtain ⟨d, xs, o, rfl, hr, ho, rr⟩ := dctAt_ok S r ed
      rw [kks_ok ek] at ho
      obtain ⟨hl, eo⟩ := ho.ka
      cases eo
      exact ⟨kk, xs, d, rfl, hr, hl, rr⟩
    · cases e
  · cases e
theorem vals_of_kv : ∀ {kk : List Key} {xs : List V} {vs : List (Key × Value)}, kk.length = xs.length → KV (kk.zip xs) vs → Vals xs (vs.map (·.2))
  | [], xs, vs, hl, h => by
    cases xs with
    | nil => cases h; exact .nil
    | cons _ _ => cases hl
  | k :: kk, xs, vs, hl, h => by
    cases xs with
    | nil => cases hl
    | cons x xs =>
      rw [List.zip_cons_cons] at h
      cases h with
      | cons h t => exact .cons h.2 (vals_of_kv (by simpa using hl) t)
theorem s_listVals {live : Bool} (hc : X.calm = true) (he : PE X e (lift G W fa)) (hg : Gl X "list") (hm : X.mg "list" = none) (hbase : attributeBase e "values" X.env (eval e X.env) = eval e X.env) (hline : (apos.endLine == cpos.line) = true)
    (hs : starEach [.Call (.Attribute e "values" apos) [] [] cpos] X.env = (false, eval (.Call (.Attribute e "values" apos) [] [] cpos) X.env) :: starEach [] X.env) :
    PE X (.Call (.Name "list" p) [.Call (.Attribute e "values" apos) [] [] cpos] [] pos) (lift G W (eLVals live fa)) := by
  refine ⟨fun pins s σ H Q I ⟨φ, st, ρ, B, b, R, S, P⟩ => ?_⟩
  refine wpAny_Call_Name_kw (ld_blt I hg hm (u := .type "list") (by first | rfl | decide +kernel) ?_ (by decide) (by decide))
  refine PyProof.Rows.callWith_type1 ?_ hs rfl
  rw [hs]
  show wpAny _ _ (spliced ((false, eval (.Call (.Attribute e "values" apos) [] [] cpos) X.env) :: backTo pos (starEach [] X.env))) _ _ s
  refine Calls.spliced_cons ?_
  refine wpAny_Call_method (T := "dict") (id := "dict.values") hbase rfl hline F.plainAttrs_dict F.slot_dict_values F.type_dict_values (thn (he.run pins s σ H (fun v H1 => ∃ (φ : Ph) (st1 : List U) (kk : List Key) (us : List U) (xs : List V) (d : Addr), v = .ref d ∧ Rd H1 d (.dK (kk.zip xs)) ∧ kk.length = xs.length ∧ StOk G φ H1 B b st1 ∧ RVs G φ H1 us xs ∧
    PostO G B b φ H1 (mk live .lst us st1) fun u φ' H' _ => ∀ v, RV G φ' H' u v → Q v H') I ⟨φ, st, ρ, B, b, R, S, P.bind.imp fun u φ1 H1 st1 x1 S1 q v r => ?_⟩) fun u s1 ⟨x, H1, I1, rx, φ, st1, kk, us, xs, d, ex, hd, hl, S1, rus, q⟩ => ?_)
  · split at q
    · rename_i us ed
      obtain ⟨kk, xs, d, rfl, hr, hl, rr⟩ := valsAt_ok S1 r ed
      exact ⟨φ1, st1, kk, us, xs, d, rfl, hr, hl, S1, rr, q.ofO⟩
    · exact q.elim
  subst ex
  obtain rfl : u = Value.ref d := rx
  obtain ⟨hz, hs0, vs, kv, hdo⟩ := dk_rd I1.hok hd
  obtain ⟨ep, hat⟩ := hdo.dictAt
  have lk : (kk.zip xs).length = vs.length := Paired.length kv
  have hzl : (kk.zip xs).length = xs.length := by rw [List.length_zip]; omega
  have I2 : Inv X pins σ H1 { s1 with heap := s1.heap.push { cls := .type "dict_values", data := .fields #[.ref d] } } := I1.kept (t' := s1.toks) fun b ob q => Heap.get?_push_of_some _ q
  refine ⟨hdo.typeIs, hdo.mapOf.noDict, ?_⟩
  show wpAny _ _ (callWith cpos (.builtin "dict.values") [.ref d] [] []) _ X.xe s1
  refine method_meetsIn F.slot_dict_values F.entry_dict_values rfl (PySem.evalArgs_none ⟨rfl, hdo.typeIs, F.args_dict_values_1 _, _, meets_dict_values (mixKind X.prog X.w) d hs0, ⟨vs, hdo⟩, ?_⟩)
  refine Calls.spliced_nil ?_
  refine PySem.W.kdl_call (PySem.W.kdl_values (r := s1.heap.objs.size) (knd := mixKind X.prog X.w) (kvs := vs) (ep := ep)) (I1.ok.hd hc) ⟨⟨_, Heap.get?_push_size _ rfl, rfl, rfl⟩, hat.push _⟩ (by omega) fun h' tk acc c hk hS hacc => ?_
  have hva : acc.toList = vs.map (·.2) := PySem.W.kdl_vals_eq acc.toList (by rw [Array.length_toList]; exact hacc.1) fun j v e => hacc.2 j v (by rw [← Array.getElem?_toList]; exact e)
  have hv : Vals xs acc.toList := by rw [hva]; exact vals_of_kv hl kv
  refine ⟨.ref _, upd H1 _ (.lst xs), I2.laid hk (Nat.le_refl _) (show ObjOk X.prog X.w _ _ _ (.lst xs) from ⟨by omega, acc.toList, c, hv, by rw [Array.toArray_toList]; exact hS⟩), rfl, ?_⟩
  exact mk_fin head_lst S1 rus q _ (I2.hok.fresh (Nat.le_refl _))
def eSumV (fa : Ev U) : Ev U := fun b ρ st => (fa b ρ st).bind fun u st1 => match valsAt u st1 with
  | some us => (match us.mapM U.int? with
    | some ns => .ok (.int ns.sum) st1
    | none => .stuck)
  | none => .stuck
theorem ints_ok : ∀ {us : List U} {xs : List V} {ns : List Int}, RVs G φ H us xs → us.mapM U.int? = some ns → xs = ns.map V.int
  | [], _, ns, .nil, e => by simp at e; subst e; rfl
  | u :: us, _, ns, .cons h t, e => by
    rw [List.mapM_cons] at e
    obtain ⟨i, e1, e2⟩ := Option.bind_eq_some_iff.mp e
    obtain ⟨is, e3, e4⟩ := Option.bind_eq_some_iff.mp e2
    cases e4
    cases u with
    | int j => cases e1; rw [h.int_, ints_ok t e3]; rfl
    | _ => cases e1
theorem pre_sum : ∀ ns : List Int, preSum (fun i => ns.getD i 0) ns.length = ns.sum
  | [] => rfl
  | n :: ns => by
    rw [List.length_cons, PySem.W.kdu_shift, List.sum_cons]
    show n + preSum (fun i => ns.getD i 0) ns.length = _
    rw [pre_sum ns]
theorem s_sumVals (hc : X.calm = true) (he : PE X e (lift G W fa)) (hg : Gl X "sum") (hm : X.mg "sum" = none) (hbase : attributeBase e "values" X.env (eval e X.env) = eval e X.env) (hline : (apos.endLine == cpos.line) = true)
    (hs : starEach [.Call (.Attribute e "values" apos) [] [] cpos] X.env = [(false, eval (.Call (.Attribute e "values" apos) [] [] cpos) X.env)]) :
    PE X (.Call (.Name "sum" p) [.Call (.Attribute e "values" apos) [] [] cpos] [] pos) (lift G W (eSumV fa)) := by
  refine ⟨fun pins s σ H Q I ⟨φ, st, ρ, B, b, R, S, P⟩ => ?_⟩
  refine wpAny_Call_Name_kw (ld_blt I hg hm (u := .builtin "sum") (by first | rfl | decide +kernel) ?_ (by decide) (by decide))
  rw [hs]
  refine PySem.callWith_builtin1 (wpAny_Call_method0_late hbase hline (thn (he.run pins s σ H (fun v H1 => ∃ (kk : List Key) (ns : List Int) (d : Addr), v = .ref d ∧ Rd H1 d (.dK (kk.zip (ns.map V.int))) ∧ kk.length = (ns.map V.int).length ∧ Q (.int ns.sum) H1) I ⟨φ, st, ρ, B, b, R, S, P.bind.imp fun u φ1 H1 st1 x1 S1 q v r => ?_⟩) fun v s1 ⟨x, H1, I1, r1, kk, ns, a, ex, ha, hl, q⟩ => ?_))
  · split at q
    · rename_i us ed
      split at q
      · rename_i ns en
        obtain ⟨kk, xs, d, rfl, hr, hl, rr⟩ := valsAt_ok S1 r ed
        rw [ints_ok rr en] at hr hl
        exact ⟨kk, ns, d, rfl, hr, hl, q.okk S1 _ rt_int.rv⟩
      · exact q.elim
    · exact q.elim
  subst ex
  obtain rfl : v = Value.ref a := r1
  obtain ⟨_, hsys, vs, rel, dof⟩ := dk_rd I1.hok ha
  obtain ⟨ep, dat⟩ := dof.dictAt
  have dat' := dat
  obtain ⟨ob, es, ho, ex, hdat, hko, hpr, hnd⟩ := dat'
  refine ⟨"dict", "dict.values", F.plainAttrs_dict, F.slot_dict_values, F.type_dict_values, ⟨ob, ho, ex.1⟩, fun b e => ?_, Calls.callWith_builtin rfl (PySem.evalArgs_none ?_)⟩
  · cases e
    exact ⟨ob, ho, ex.2.1⟩
  refine call_meetsIn F.slot_dict_values ⟨ob, ho, ex.1⟩ F.entry_dict_values (F.args_dict_values_1 _) (meets_dict_values (mixKind X.prog X.w) a hsys) ⟨⟨vs, dof⟩, ?_⟩
  have k1 : ∀ b u, s1.heap.get? b = some u → (s1.heap.push { cls := .type "dict_values", data := .fields #[.ref a] }).get? b = some u := fun b u e => Heap.get?_push_of_some _ e
  have hva : Vals (ns.map V.int) (vs.map (·.2)) := vals_of_kv hl rel
  have hval : ∀ (i : Nat) (v : Value), (∃ k, vs[i]? = some (k, v)) → ∃ t, v = Value.int (ns.getD i 0) t := fun i v ⟨k, hk⟩ => by
    have e1 : (vs.map (·.2))[i]? = some v := by rw [List.getElem?_map, hk] <;> rfl
    obtain ⟨z, e2, rz⟩ := pGet2 hva e1
    rw [List.getElem?_map] at e2
    obtain ⟨j, hj, e3⟩ := Option.map_eq_some_iff.mp e2
    subst e3
    obtain ⟨t, e4⟩ := rz
    refine ⟨t, ?_⟩
    rw [e4, List.getD_eq_getElem?_getD, hj] <;> rfl
  have hlen : vs.length = ns.length := by have := hva.length; simp at this; exact this.symm
  refine call_sum_walkAnyS ?_
  obtain ⟨oI, St, hit, Wk, stt⟩ := (PySem.W.kdl_values (r := s1.heap.objs.size) (prog := X.prog) (w := X.w) (knd := mixKind X.prog X.w) (kvs := vs) (ep := ep)).iter X.A.in1 { s1 with heap := s1.heap.push { cls := .type "dict_values", data := .fields #[.ref a] } } (I.ok.hd hc) ⟨⟨_, Heap.get?_push_size _ rfl, rfl, rfl⟩, dat.push _⟩
  refine hit _ _ ⟨(s1.heap.push { cls := .type "dict_values", data := .fields #[.ref a] }).objs.size, _, _, _, vs.length, _, _, fun i => ns.getD i 0, rfl, Wk.toS, stt, fun b hb => ?_, hval, fun s' t' hm => ?_⟩
  · show b < ((s1.heap.push _).push oI).objs.size
    rw [Heap.size_push, Heap.size_push]
    have hlt : a < s1.heap.objs.size := Heap.lt_size ho
    rcases List.mem_cons.mp hb with e | hb
    · rw [e, Heap.size_push]; exact Nat.lt_succ_self _
    · have e := List.mem_singleton.mp hb
      rw [e]; exact Nat.lt_succ_of_lt (Nat.lt_succ_of_lt hlt)
  · have hk : ∀ b o, s1.heap.get? b = some o → s'.heap.get? b = some o := fun b o e =>
      hm.heap b o (fun hI => absurd (Heap.lt_size e) (by rw [List.mem_singleton.mp hI, Heap.size_push]; exact Nat.not_lt.mpr (Nat.le_succ _))) (Heap.get?_push_of_some _ (k1 _ _ e))
    rw [Moved.eq_with hm]
    refine ⟨.int _, H1, I1.kept (t' := s'.toks) hk, ⟨_, rfl⟩, ?_⟩
    have := pre_sum ns
    rw [← hlen] at this
    rw [this]
    exact q
end
end EV

set_option maxRecDepth 100000
/-! E21: texts of values; the built-in functions. -/
namespace EV
open PySem PySem.Spec PyProof.Rows L2
section
variable {G : Ge} {W : WX} {X : Cx} {φ : Ph} {H H' : Hp} {B : Nat → Prop} {b : Nat} {st : List U} {pins : List (Addr × Obj)} {σ : L2.St} {s : Shared}
/-! ### a value as data, dicts among it -/
def keyD : Key → PyData
  | .inl i => .int i
  | .inr x => .str x
def pq : Nat → List U → U → Option PyData
  | 0, _, _ => none
  | k + 1, st, u => match u with
    | .non => some .none
    | .bl c => some (.bool c)
    | .int i => some (.int i)
    | .str x => some (.str x)
    | u => match lsAt u st with
      | some us => (us.mapM (pq k st)).map .list
      | none => match tpAt u with
        | some us => (us.mapM (pq k st)).map .tuple
        | none => match dctAt u st with
          | some (ks, us) => (match kks ks with
            | some kk => (us.mapM (pq k st)).map fun ds => .dict ((kk.map keyD).zip ds)
            | none => none)
          | none => none
mutual
/-- no list in it -/
def noLst : PyData → Bool
  | .none | .bool _ | .int _ | .str _ => true
  | .list _ => false
  | .tuple xs => noLsts xs
  | .dict kvs => noLstKv kvs
def noLsts : List PyData → Bool
  | [] => true
  | x :: xs => noLst x && noLsts xs
def noLstKv : List (PyData × PyData) → Bool
  | [] => true
  | (_, v) :: r => noLst v && noLstKv r
end
theorem noLstKv_eq : ∀ {ks ds : List PyData}, ks.length = ds.length → noLstKv (ks.zip ds) = noLsts ds
  | [], [], _ => by simp [noLstKv, noLsts]
  | _ :: _, _ :: _, h => by
    rw [List.zip_cons_cons]
    unfold noLstKv noLsts
    rw [noLstKv_eq (by simpa using h)]
  | [], _ :: _, h => by cases h
  | _ :: _, [], h => by cases h
/-- what is read, and that it is not the table of modules -/
def RdD (h : Heap) (u : Value) (d : PyData) : Prop := ∃ as, Reads h u d as ∧ (noLst d = true → sysModules ∉ as)
theorem rd_all {f : U → Option PyData} (hf : ∀ u v vv d, RV G φ H u v → RelV v vv → f u = some d → RdD s.heap vv d) : ∀ {us : List U} {xs : List V} {vs : List Value} {ds : List PyData}, RVs G φ H us xs → Vals xs vs → us.mapM f = some ds →
    ∃ as, ReadsAll s.heap vs ds as ∧ (noLsts ds = true → sysModules ∉ as)
  | [], _, _, ds, .nil, .nil, e => by simp at e; subst e; exact ⟨[], .nil, fun _ m => by cases m⟩
  | u :: us, _, _, ds, .cons h t, .cons r rt, e => by
    rw [List.mapM_cons] at e
    obtain ⟨d, e1, e2⟩ := Option.bind_eq_some_iff.mp e
    obtain ⟨ds', e3, e4⟩ := Option.bind_eq_some_iff.mp e2
    cases e4
    obtain ⟨as, h1, h2⟩ := hf u _ _ d h r e1
    obtain ⟨bs, h3, h4⟩ := rd_all hf t rt e3
    refine ⟨_, .cons h1 h3, fun n => ?_⟩
    unfold noLsts at n
    rw [Bool.and_eq_true] at n
    exact fun m => (List.mem_append.mp m).elim (h2 n.1) (h4 n.2)
theorem mapM_len {α β : Type} {f : α → Option β} : ∀ {us : List α} {ds : List β}, us.mapM f = some ds → ds.length = us.length
  | [], ds, e => by simp at e; subst e; rfl
  | u :: us, ds, e => by
    rw [List.mapM_cons] at e
    obtain ⟨d, e1, e2⟩ := Option.bind_eq_some_iff.mp e
    obtain ⟨ds', e3, e4⟩ := Option.bind_eq_some_iff.mp e2
    cases e4
    simp [mapM_len e3]
theorem keys_read {h : Heap} {P : Program} {w : World} : ∀ {es : List DictEntry} {kk : List Key} {xs : List V} {vs : List (Key × Value)}, kk.length = xs.length → KV (kk.zip xs) vs → Pairs (mixKind P w) es vs → ReadsAll h (es.map (·.key)) (kk.map keyD) [] ∧ Vals xs (es.map (·.val))
  | [], [], xs, vs, hl, kv, p => by
    cases xs with
    | nil => exact ⟨.nil, .nil⟩
    | cons _ _ => cases hl
  | e :: es, k :: kk, xs, vs, hl, kv, p => by
    cases xs with
    | nil => cases hl
    | cons x xs =>
      rw [List.zip_cons_cons] at kv
      cases kv with
      | cons hkv tkv =>
        cases p with
        | cons h1 h2 h3 =>
          obtain ⟨i1, i2⟩ := keys_read (h := h) (kk := kk) (by simpa using hl) tkv h3
          refine ⟨?_, .cons (by show RelV x e.val; rw [h2]; exact hkv.2) i2⟩
          rw [← hkv.1] at h1
          have hk := relV_key (show keyIs k e.key = true from h1)
          have r1 : Reads h e.key (keyD k) [] := by
            cases k with
            | inl i => obtain ⟨t, q⟩ := hk; rw [q]; exact .int _ _
            | inr i => obtain ⟨t, q⟩ := hk; rw [q]; exact .str _ _
          exact .cons r1 i1
  | [], _ :: _, xs, vs, hl, kv, p => by
    cases p
    cases xs with
    | nil => cases hl
    | cons _ _ => cases kv
  | _ :: _, [], xs, vs, hl, kv, p => by
    cases xs with
    | nil => cases kv; cases p
    | cons _ _ => cases hl
theorem pq_ok (hK : X.K = G.K) (I : Inv X pins σ H s) (S : StOk G φ H B b st) : ∀ (k : Nat) (u : U) (v : V) (vv : Value) (d : PyData), RV G φ H u v → RelV v vv → pq k st u = some d → RdD s.heap vv d
  | 0, _, _, _, _, _, _, e => by cases e
  | k + 1, u, v, vv, d, r, rv, e => by
    have gen : (match lsAt u st with
      | some us => (us.mapM (pq k st)).map PyData.list
      | none => match tpAt u with
        | some us => (us.mapM (pq k st)).map PyData.tuple
        | none => match dctAt u st with
          | some (ks, us) => (match kks ks with
            | some kk => (us.mapM (pq k st)).map fun ds => PyData.dict ((kk.map keyD).zip ds)
            | none => none)
          | none => none) = some d → RdD s.heap vv d := fun e => by
      split at e
      · rename_i us eu
        obtain ⟨ds, e1, rfl⟩ := Option.map_eq_some_iff.mp e
        obtain ⟨a, xs, rfl, h, rx⟩ := lsAt_ok (X := X) hK S r eu
        cases rv
        obtain ⟨its, rl, ⟨o, n, ho, hc, _, hd⟩, _⟩ := I.list h
        obtain ⟨as, hr, _⟩ := rd_all (fun u v vv d => pq_ok hK I S k u v vv d) rx rl e1
        exact ⟨_, Reads.list ho hc hd hr, fun n => by simp [noLst] at n⟩
      · split at e
        · rename_i us eu
          obtain ⟨ds, e1, rfl⟩ := Option.map_eq_some_iff.mp e
          obtain ⟨a, xs, rfl, h, rx⟩ := tpAt_ok (X := X) hK r eu
          cases rv
          obtain ⟨its, rl, ⟨o, ho, hc, n, hd⟩, _⟩ := I.tuple h
          obtain ⟨as, hr, hn⟩ := rd_all (fun u v vv d => pq_ok hK I S k u v vv d) rx.rvs rl e1
          exact ⟨_, Reads.tuple ho hc hd hr, fun n => hn (by unfold noLst at n; exact n)⟩
        · split at e
          · rename_i ks us eu
            split at e
            · rename_i kk ek
              obtain ⟨ds, e1, rfl⟩ := Option.map_eq_some_iff.mp e
              obtain ⟨a, xs, o, rfl, hr, ho, rx⟩ := dctAt_ok S r eu
              rw [kks_ok ek] at ho
              obtain ⟨hl, eo⟩ := ho.ka
              cases eo
              obtain rfl : vv = Value.ref a := rv
              obtain ⟨_, hs, vs, kv, ob, es, ep, h1, h2, h3, h4, h5, h6⟩ := dk_rd I.hok hr
              obtain ⟨q1, q2⟩ := keys_read (h := s.heap) hl kv h5
              obtain ⟨as, hr, hn⟩ := rd_all (fun u v vv d => pq_ok hK I S k u v vv d) rx q2 e1
              have lds : (kk.map keyD).length = ds.length := by rw [List.length_map, mapM_len e1, rx.len, hl]
              refine ⟨_, Reads.dict h1 h2.1 h3 (as := []) (bs := as) (by rw [List.map_fst_zip (by omega)]; exact q1) (by rw [List.map_snd_zip (by omega)]; exact hr), fun n => ?_⟩
              unfold noLst at n
              rw [noLstKv_eq lds] at n
              intro m
              rcases List.mem_cons.mp m with m | m
              · rw [← m] at hs; simp at hs
              · exact hn n (by simpa using m)
            · cases e
          · cases e
    cases u with
    | non => cases e; cases r.non_; cases rv; exact ⟨_, .none, fun _ m => by cases m⟩
    | bl c => cases e; cases r.bl_; cases rv; exact ⟨_, .bool _, fun _ m => by cases m⟩
    | int i => cases e; cases r.int_; obtain ⟨t, rfl⟩ := rv; exact ⟨_, .int _ _, fun _ m => by cases m⟩
    | str x => cases e; cases r.str_; obtain ⟨t, rfl⟩ := rv; exact ⟨_, .str _ _, fun _ m => by cases m⟩
    | _ => exact gen e
/-- a text of a value -/
def showU (st : List U) (u : U) : Option Str := match pq 9 st u with
  | some d => if d.showable = true ∧ (d.hasDict = false ∨ noLst d = true) ∧ d.shown.length ≤ sizeLine ∧ d.depth ≤ 60 then some d.shown else none
  | none => none
def pRepr : PrA := fun _ us st => match us with
  | [u] => (showU st u).map fun z => (.str z, st)
  | _ => none
theorem oRepr (hK : X.K = G.K) (hgd : X.A.guards = some []) (hu : X.A.units + 64 < cLine) : CallR X (.builtin "repr") (rA G pRepr) := by
  intro pins s σ H xs us Q I rv ⟨φ, st, B, b, uu, S, r, P⟩
  unfold pRepr at P
  split at P
  · rename_i u
    obtain ⟨x, rfl, r1⟩ := pair1 r
    obtain ⟨vv, rfl, rx⟩ := vals1 rv
    cases e : showU st u with
    | none => rw [e] at P; exact P.elim
    | some z =>
      rw [e] at P
      unfold showU at e
      split at e
      · rename_i d ed
        split at e
        · rename_i hc
          cases e
          obtain ⟨h1, h2, h3, h4⟩ := hc
          obtain ⟨as, hr, hn⟩ := pq_ok hK I S 9 u x vv d r1 rx ed
          have fin : ∀ u (h' : Heap) tk, (∀ b o, s.heap.get? b = some o → h'.get? b = some o) → EP X pins σ Q (.str d.shown u) { s with heap := h', toks := tk } := fun u h' tk hk => ⟨.str _, H, I.kept hk, ⟨_, rfl⟩, P φ H .refl S _ rt_str.rv⟩
          have hz := h3
          cases d with
          | none => cases hr; exact PySem.P.repr_of_none (fin _ _ _ fun _ _ q => q)
          | bool c => cases hr; exact PySem.P.repr_of_bool (fin _ _ _ fun _ _ q => q)
          | int i => cases hr; exact PySem.P.repr_of_int (by simpa [PyData.showable] using h1) (fin _ _ _ fun _ _ q => q)
          | str y => cases hr; exact PySem.P.repr_of_str (fin _ _ _ fun _ _ q => q) (by simpa [PyData.shown] using hz)
          | list xs =>
            cases rx' : vv with
            | ref a => subst rx'; exact repr_of_reads' hr h1 (fun z => hn (h2.resolve_left (by rw [z]; decide))) hgd (by omega) (fun _ _ q => q) (fun h' u tk hk => fin u h' tk hk) hz
            | _ => subst rx'; cases hr
          | tuple xs =>
            cases rx' : vv with
            | ref a => subst rx'; exact repr_of_reads' hr h1 (fun z => hn (h2.resolve_left (by rw [z]; decide))) hgd (by omega) (fun _ _ q => q) (fun h' u tk hk => fin u h' tk hk) hz
            | _ => subst rx'; cases hr
          | dict xs =>
            cases rx' : vv with
            | ref a => subst rx'; exact repr_of_reads' hr h1 (fun z => hn (h2.resolve_left (by rw [z]; decide))) hgd (by omega) (fun _ _ q => q) (fun h' u tk hk => fin u h' tk hk) hz
            | _ => subst rx'; cases hr
        · cases e
      · cases e
  · exact P.elim
end
end EV

set_option maxRecDepth 100000
/-! E22: the built-in functions and types that are called. -/
namespace EV
open PySem PySem.Spec PyProof.Rows L2
/-- texts in their order -/
def leS (a c : Str) : Bool := !decide (c.cps.toList < a.cps.toList)
def sortStr (xs : List Str) : List Str := xs.mergeSort leS
theorem leS_trans (a b c : Str) (h1 : leS a b = true) (h2 : leS b c = true) : leS a c = true := by
  unfold leS at *
  simp only [Bool.not_eq_true', decide_eq_false_iff_not, List.not_lt] at *
  exact List.le_trans h1 h2
theorem leS_total (a b : Str) : (leS a b || leS b a) = true := by
  unfold leS
  simp only [Bool.or_eq_true, Bool.not_eq_true', decide_eq_false_iff_not, List.not_lt]
  exact List.le_total _ _
theorem leS_anti (a b : Str) (h1 : leS a b = true) (h2 : leS b a = true) : a = b := by
  unfold leS at *
  simp only [Bool.not_eq_true', decide_eq_false_iff_not, List.not_lt] at *
  have := List.le_antisymm h1 h2
  cases a; cases b
  simp at this
  rw [this]
theorem sortedS_pw : ∀ (l : List Str), sortedS l = true → l.Pairwise (fun a b => leS a b = true)
  | [], _ => .nil
  | x :: r, h => by
    have key : ∀ (p : Str) (l : List Str), risingS p l = true → (p :: l).Pairwise (fun a b => leS a b = true) := by
      intro p l
      induction l generalizing p with
      | nil => intro _; simp
      | cons y l ih =>
        intro h
        unfold risingS at h
        rw [Bool.and_eq_true] at h
        have h2 := ih y h.2
        have h1 : leS p y = true := by unfold leS; rw [← ltCps_eq]; exact h.1
        refine List.pairwise_cons.mpr ⟨fun z m => ?_, h2⟩
        rcases List.mem_cons.mp m with e | m
        · rw [e]; exact h1
        · exact leS_trans p y z h1 ((List.pairwise_cons.mp h2).1 z m)
    exact key x r h
theorem sortStr_uniq {ys xs : List Str} (p : ys.Perm xs) (h : sortedS ys = true) : ys = sortStr xs :=
  List.Perm.eq_of_pairwise (fun a b _ _ => leS_anti a b) (sortedS_pw ys h) (List.pairwise_mergeSort leS_trans (fun a b => leS_total a b) xs) (p.trans (List.mergeSort_perm xs leS).symm)
def sortInt (xs : List Int) : List Int := xs.mergeSort fun a b => decide (a ≤ b)
theorem sortInt_uniq {ys xs : List Int} (p : ys.Perm xs) (h : ys.Pairwise (· ≤ ·)) : ys = sortInt xs :=
  List.Perm.eq_of_pairwise (le := fun a b => decide (a ≤ b) = true) (fun a b _ _ h1 h2 => by simp at h1 h2; omega) (h.imp fun h => by simpa using h)
    (List.pairwise_mergeSort (fun a b c h1 h2 => by simp at *; omega) (fun a b => by simp; omega) xs) (p.trans (List.mergeSort_perm xs _).symm)
section
variable {G : Ge} {W : WX} {X : Cx} {φ : Ph} {H H' : Hp} {B : Nat → Prop} {b : Nat} {st : List U}
def U.str? : U → Option Str
  | .str x => some x
  | _ => none
theorem strs_ok : ∀ {us : List U} {xs : List V} {ns : List Str}, RVs G φ H us xs → us.mapM U.str? = some ns → xs = ns.map V.str
  | [], _, ns, .nil, e => by simp at e; subst e; rfl
  | u :: us, _, ns, .cons h t, e => by
    rw [List.mapM_cons] at e
    obtain ⟨i, e1, e2⟩ := Option.bind_eq_some_iff.mp e
    obtain ⟨is, e3, e4⟩ := Option.bind_eq_some_iff.mp e2
    cases e4
    cases u with
    | str j => cases e1; rw [h.str_, strs_ok t e3]; rfl
    | _ => cases e1
theorem bls_ok : ∀ {us : List U} {xs : List V} {ns : List Bool}, RVs G φ H us xs → us.mapM U.bool? = some ns → xs = ns.map V.bl
  | [], _, ns, .nil, e => by simp at e; subst e; rfl
  | u :: us, _, ns, .cons h t, e => by
    rw [List.mapM_cons] at e
    obtain ⟨i, e1, e2⟩ := Option.bind_eq_some_iff.mp e
    obtain ⟨is, e3, e4⟩ := Option.bind_eq_some_iff.mp e2
    cases e4
    cases u with
    | bl j => cases e1; rw [h.bl_, bls_ok t e3]; rfl
    | _ => cases e1
theorem rvs_strs : ∀ {ns : List Str}, RVs G φ H (ns.map U.str) (ns.map V.str)
  | [] => .nil
  | _ :: _ => .cons rt_str.rv rvs_strs
theorem rvs_ints : ∀ {ns : List Int}, RVs G φ H (ns.map U.int) (ns.map V.int)
  | [] => .nil
  | _ :: _ => .cons rt_int.rv rvs_ints
/-! ### all, any, sum, len, max, min, abs, divmod -/
def pAll (f : List Bool → Bool) : PrA := fun _ us st => match us with
  | [u] => (match lsAt u st with
    | some ws => (ws.mapM U.bool?).map fun bs => (.bl (f bs), st)
    | none => none)
  | _ => none
theorem oAllG {id : String} {f : List Bool → Bool} (hK : X.K = G.K) (h : CallR X (.builtin id) fun vs H Q => ∃ (a : Addr) (bs : List Bool), vs = [V.ref a] ∧ SqL X.K H a (bs.map V.bl) ∧ Q (.bl (f bs)) H) : CallR X (.builtin id) (rA G (pAll f)) :=
  CallRi h fun xs H Q ⟨φ, st, B, b, uu, S, r, P⟩ => by
    unfold pAll at P
    split at P
    · rename_i u
      obtain ⟨x, rfl, r1⟩ := pair1 r
      split at P
      · rename_i ws ew
        obtain ⟨d, xs, rfl, hs, rw_⟩ := lsAt_ok hK S r1 ew
        cases e : ws.mapM U.bool? with
        | none => rw [e] at P; exact P.elim
        | some bs =>
          rw [e] at P
          rw [bls_ok rw_ e] at hs
          exact ⟨d, bs, rfl, hs, P φ H .refl S _ rt_bl.rv⟩
      · exact P.elim
    · exact P.elim
def pSum : PrA := fun _ us st => match us with
  | [u] => (match lsAt u st with
    | some ws => (ws.mapM U.int?).map fun bs => (.int bs.sum, st)
    | none => none)
  | _ => none
theorem oSum (hK : X.K = G.K) (hc : X.calm = true) : CallR X (.builtin "sum") (rA G pSum) :=
  CallRi (cr_sum hc) fun xs H Q ⟨φ, st, B, b, uu, S, r, P⟩ => by
    unfold pSum at P
    split at P
    · rename_i u
      obtain ⟨x, rfl, r1⟩ := pair1 r
      split at P
      · rename_i ws ew
        obtain ⟨d, xs, rfl, hs, rw_⟩ := lsAt_ok hK S r1 ew
        cases e : ws.mapM U.int? with
        | none => rw [e] at P; exact P.elim
        | some bs =>
          rw [e] at P
          rw [ints_ok rw_ e] at hs
          exact ⟨d, bs, rfl, hs, P φ H .refl S _ rt_int.rv⟩
      · exact P.elim
    · exact P.elim
def pLen : PrA := fun _ us st => match us with
  | [.str z] => if z.length ≤ sizeLine then some (.int z.length, st) else none
  | [u] => (match sqAt u st with
    | some ws => some (.int ws.length, st)
    | none => (match dctAt u st with
      | some (ks, _) => (match kks ks with
        | some kk => some (.int kk.length, st)
        | none => none)
      | none => none))
  | _ => none
theorem call_lenR : CallR X (.builtin "len") fun xs H Q => ∃ a kvs, xs = [V.ref a] ∧ Rd H a (.dK kvs) ∧ Q (.int (kvs.length : Nat)) H := by
  intro pins s σ H xs us Q I r ⟨a, kvs, e, hr, q⟩
  subst e
  obtain ⟨u, rfl, rx⟩ := vals1 r
  obtain rfl : u = Value.ref a := rx
  exact d_len I hr fun t s' I' => ⟨.int _, H, I', ⟨_, rfl⟩, q⟩
theorem oLen (hK : X.K = G.K) : CallR X (.builtin "len") (rA G pLen) := by
  refine CallRi (CallR.or call_len call_lenR) fun xs H Q ⟨φ, st, B, b, uu, S, r, P⟩ => ?_
  unfold pLen at P
  split at P
  · rename_i z
    obtain ⟨x, rfl, r1⟩ := pair1 r
    cases r1.str_
    split at P
    · rename_i hz
      exact .inl ⟨_, _, rfl, ⟨hz, rfl⟩, P φ H .refl S _ rt_int.rv⟩
    · exact P.elim
  · rename_i u _
    obtain ⟨x, rfl, r1⟩ := pair1 r
    split at P
    · rename_i ws ew
      obtain ⟨d, xs, rfl, hs, rw_⟩ := sqAt_ok hK S r1 ew
      refine .inl ⟨_, ws.length, rfl, ?_, P φ H .refl S _ rt_int.rv⟩
      rw [rw_.len]
      rcases hs with hs | hs
      · exact .inl ⟨xs, hs, rfl⟩
      · exact .inr ⟨xs, hs, rfl⟩
    · split at P
      · rename_i ks us' ed
        split at P
        · rename_i kk ek
          obtain ⟨d, xs, o, rfl, hr, ho, rr⟩ := dctAt_ok S r1 ed
          rw [kks_ok ek] at ho
          obtain ⟨hl, eo⟩ := ho.ka
          cases eo
          refine .inr ⟨d, _, rfl, hr, ?_⟩
          rw [List.length_zip, ← hl, Nat.min_self]
          exact P φ H .refl S _ rt_int.rv
        · exact P.elim
      · exact P.elim
  · exact P.elim
/-- ints in, one value out -/
def p2i (f : Int → Int → Int) : PrA := fun _ us st => match us with
  | [.int i, .int j] => some (.int (f i j), st)
  | _ => none
theorem o2i {f : Int → Int → Int} {v : Value} (h : CallR X v fun xs H Q => ∃ i j, xs = [.int i, .int j] ∧ Q (.int (f i j)) H) : CallR X v (rA G (p2i f)) :=
  CallRi h fun xs H Q ⟨φ, st, B, b, uu, S, r, P⟩ => by
    unfold p2i at P
    split at P
    · obtain ⟨x, y, rfl, r1, r2⟩ := pair2 r
      cases r1.int_; cases r2.int_
      exact ⟨_, _, rfl, P φ H .refl S _ rt_int.rv⟩
    · exact P.elim
def pAbs : PrA := fun _ us st => match us with
  | [.int i] => some (.int (if i < 0 then -i else i), st)
  | _ => none
theorem oAbs : CallR X (.builtin "abs") (rA G pAbs) :=
  CallRi call_abs fun xs H Q ⟨φ, st, B, b, uu, S, r, P⟩ => by
    unfold pAbs at P
    split at P
    · obtain ⟨x, rfl, r1⟩ := pair1 r
      cases r1.int_
      exact ⟨_, rfl, P φ H .refl S _ rt_int.rv⟩
    · exact P.elim
def pInt1 : PrA := fun _ us st => match us with
  | [.int i] => some (.int i, st)
  | [.bl k] => some (.int (if k then 1 else 0), st)
  | _ => none
theorem oInt1 : CallR X (.type "int") (rA G pInt1) :=
  CallRi call_int1 fun xs H Q ⟨φ, st, B, b, uu, S, r, P⟩ => by
    unfold pInt1 at P
    split at P
    · obtain ⟨x, rfl, r1⟩ := pair1 r
      cases r1.int_
      exact .inl ⟨_, rfl, P φ H .refl S _ rt_int.rv⟩
    · obtain ⟨x, rfl, r1⟩ := pair1 r
      cases r1.bl_
      exact .inr ⟨_, rfl, P φ H .refl S _ rt_int.rv⟩
    · exact P.elim
def pDivmod : PrA := fun _ us st => match us with
  | [.int i, .int j] => if 0 < j ∧ j < 1073741824 then some (.tup [.int (i / j), .int (i % j)], st) else none
  | _ => none
theorem oDivmod : CallR X (.builtin "divmod") (rA G pDivmod) :=
  CallRi call_divmod fun xs H Q ⟨φ, st, B, b, uu, S, r, P⟩ => by
    unfold pDivmod at P
    split at P
    · obtain ⟨x, y, rfl, r1, r2⟩ := pair2 r
      cases r1.int_; cases r2.int_
      split at P
      · rename_i hc
        refine ⟨_, _, rfl, hc, fun p hp => ?_⟩
        obtain ⟨x2, S2, r2⟩ := rt_newTup (us := [.int _, .int _]) S (.cons rt_int.rv (.cons rt_int.rv .nil)) rfl hp
        exact P φ _ x2 S2 _ r2
      · exact P.elim
    · exact P.elim
/-! ### sorted -/
def keyS : Key → Option Str
  | .inr x => some x
  | .inl _ => none
def pSorted (live : Bool) : PrA := fun _ us st => match us with
  | [u] => (match lsAt u st with
    | some ws => (match ws.mapM U.str? with
      | some xs => if xs.length < 64 then mk live .lst ((sortStr xs).map .str) st else none
      | none => (match ws.mapM U.int? with
        | some is => mk live .lst ((sortInt is).map .int) st
        | none => none))
    | none => (match dctAt u st with
      | some (ks, _) => (match kks ks with
        | some kk => (match kk.mapM keyS with
          | some xs => if xs.length < 64 then mk live .lst ((sortStr xs).map .str) st else none
          | none => none)
        | none => none)
      | none => none))
  | _ => none
theorem keyS_ok : ∀ {kk : List Key} {xs : List Str}, kk.mapM keyS = some xs → kk = xs.map Sum.inr
  | [], xs, e => by simp at e; subst e; rfl
  | k :: kk, xs, e => by
    rw [List.mapM_cons] at e
    obtain ⟨i, e1, e2⟩ := Option.bind_eq_some_iff.mp e
    obtain ⟨is, e3, e4⟩ := Option.bind_eq_some_iff.mp e2
    cases e4
    cases k with
    | inr j => cases e1; rw [keyS_ok e3]; rfl
    | inl _ => cases e1
theorem oSorted (hK : X.K = G.K) (hc : X.calm = true) (live : Bool) : CallR X (.builtin "sorted") (rA G (pSorted live)) := by
  refine CallRi (CallR.or cr_sortedS (CallR.or cr_sortedI (call_sortedD hc))) fun xs H Q ⟨φ, st, B, b, uu, S, r, P⟩ => ?_
  unfold pSorted at P
  split at P
  · rename_i u
    obtain ⟨x, rfl, r1⟩ := pair1 r
    split at P
    · rename_i ws ew
      obtain ⟨d, zs, rfl, hs, rw_⟩ := lsAt_ok hK S r1 ew
      split at P
      · rename_i xs ex
        split at P
        · rename_i h64
          rw [strs_ok rw_ ex] at hs
          refine .inl ⟨d, xs, rfl, hs, h64, fun ys p hp hsd hn => ?_⟩
          rw [sortStr_uniq hp hsd]
          exact mk_fin head_lst S rvs_strs P p hn
        · exact P.elim
      · split at P
        · rename_i is ei
          rw [ints_ok rw_ ei] at hs
          refine .inr (.inl ⟨d, is, rfl, hs, fun ys p hp hsd hn => ?_⟩)
          rw [sortInt_uniq hp hsd]
          exact mk_fin head_lst S rvs_ints P p hn
        · exact P.elim
    · split at P
      · rename_i ks us' ed
        split at P
        · rename_i kk ek
          split at P
          · rename_i xs ex
            split at P
            · rename_i h64
              obtain ⟨d, zs, o, rfl, hr, ho, rr⟩ := dctAt_ok S r1 ed
              rw [kks_ok ek] at ho
              obtain ⟨hl, eo⟩ := ho.ka
              cases eo
              refine .inr (.inr ⟨d, _, xs, rfl, hr, by rw [List.map_fst_zip (by omega)]; exact keyS_ok ex, h64, fun ys p hp hsd hn => ?_⟩)
              rw [sortStr_uniq hp hsd]
              exact mk_fin head_lst S rvs_strs P p hn
            · exact P.elim
          · exact P.elim
        · exact P.elim
      · exact P.elim
  · exact P.elim
end
end EV

set_option maxRecDepth 100000
/-! E23: list(x), dict(x); methods of dicts and lists; in. -/
namespace EV
open PySem PySem.Spec PyProof.Rows L2
section
variable {G : Ge} {W : WX} {X : Cx} {φ : Ph} {H H' : Hp} {B : Nat → Prop} {b : Nat} {st : List U}
/-! ### list(x) -/
theorem call_listDR (hc : X.calm = true) : CallR X (.type "list") fun xs H Q => ∃ p kvs, xs = [.ref p] ∧ Rd H p (.dK kvs) ∧ ∀ q, H q = none → Q (.ref q) (upd H q (.lst (kvs.map fun kv => kV kv.1))) := by
  intro pins s σ H xs us Q I r h
  obtain ⟨p, kvs, e, hk, q⟩ := h
  subst e
  obtain ⟨u, eu, rx⟩ := vals1 r
  subst eu
  obtain rfl : u = Value.ref p := rx
  obtain ⟨z, lo, vs, rk, hd⟩ := dk_rd I.hok hk
  obtain ⟨ep, hat⟩ := hd.dictAt
  have hl : kvs.length = vs.length := Paired.length rk
  refine PySem.W.kdl_call (PySem.W.kdl_dict (knd := mixKind X.prog X.w) (kvs := vs) (ep := ep) lo) (I.ok.hd hc) hat (by rw [← hl]; exact z) fun h' tk acc' c' hkeep hS hacc => ?_
  have hv : Vals (kvs.map fun kv => kV kv.1) acc'.toList := by
    have key : ∀ {kvs : List (Key × V)} {vs : List (Key × Value)} {ac : List Value}, KV kvs vs → ac.length = vs.length → (∀ (j : Nat) (v : Value), ac[j]? = some v → ∃ (k : Key) (x : Value), vs[j]? = some (k, x) ∧ (mixKind X.prog X.w).is k v = true) → Vals (kvs.map fun kv => kV kv.1) ac := by
      intro kvs
      induction kvs with
      | nil => intro vs ac r l _; cases r; cases ac with
        | nil => exact .nil
        | cons _ _ => cases l
      | cons kv kvs ih =>
        intro vs ac r l hh
        cases r with
        | cons h t =>
          cases ac with
          | nil => cases l
          | cons a ac =>
            obtain ⟨k, x, e1, e2⟩ := hh 0 a rfl
            have e1 := Option.some.inj e1
            have ek : kv.1 = k := by rw [h.1, e1]
            refine .cons (by show RelV (kV kv.1) a; rw [ek]; exact relV_key (show keyIs k a = true from e2)) (ih t (by simpa using l) fun j v ej => hh (j + 1) v (by simpa using ej))
    exact key rk (by rw [Array.length_toList]; exact hacc.1) fun j v e => hacc.2 j v (by rw [← Array.getElem?_toList]; exact e)
  refine ⟨.ref s.heap.objs.size, upd H s.heap.objs.size (.lst (kvs.map fun kv => kV kv.1)), I.laid hkeep (Nat.le_refl _) (show ObjOk X.prog X.w _ _ _ (.lst (kvs.map fun kv => kV kv.1)) from ⟨?_, acc'.toList, c', hv, ?_⟩), rfl, q _ (I.hok.fresh (Nat.le_refl _))⟩
  · rw [List.length_map]; exact z
  · rw [Array.toArray_toList]; exact hS
theorem rvs_keys : ∀ {kk : List Key}, RVs G φ H (kk.map ofKey) (kk.map kV)
  | [] => .nil
  | k :: _ => .cons (rt_key k).rv rvs_keys
def pListOf (live : Bool) : PrA := fun _ us st => match us with
  | [u] => (match sqAt u st with
    | some ws => mk live .lst ws st
    | none => (match dctAt u st with
      | some (ks, _) => (match kks ks with
        | some kk => mk live .lst (kk.map ofKey) st
        | none => none)
      | none => none))
  | _ => none
theorem oListOf (hK : X.K = G.K) (hc : X.calm = true) (live : Bool) : CallR X (.type "list") (rA G (pListOf live)) := by
  refine CallRi (CallR.or call_list_of (call_listDR hc)) fun xs H Q ⟨φ, st, B, b, uu, S, r, P⟩ => ?_
  unfold pListOf at P
  split at P
  · rename_i u
    obtain ⟨x, rfl, r1⟩ := pair1 r
    split at P
    · rename_i ws ew
      obtain ⟨d, zs, rfl, hs, rw_⟩ := sqAt_ok hK S r1 ew
      exact .inl ⟨d, zs, rfl, hs, fun l hl => mk_fin head_lst S rw_ P l hl⟩
    · split at P
      · rename_i ks us' ed
        split at P
        · rename_i kk ek
          obtain ⟨d, zs, o, rfl, hr, ho, rr⟩ := dctAt_ok S r1 ed
          rw [kks_ok ek] at ho
          obtain ⟨hl, eo⟩ := ho.ka
          cases eo
          refine .inr ⟨d, _, rfl, hr, fun l hn => ?_⟩
          have e : ((kk.zip zs).map fun kv => kV kv.1) = kk.map kV := by
            rw [show (fun kv : Key × V => kV kv.1) = kV ∘ Prod.fst from rfl, ← List.map_map, List.map_fst_zip (by omega)]
          rw [e]
          exact mk_fin head_lst S rvs_keys P l hn
        · exact P.elim
      · exact P.elim
  · exact P.elim
/-! ### dict(x) -/
def toPair (u : U) : Option (Key × U) := match tpAt u with
  | some [k, w] => (toKey k).map fun k => (k, w)
  | _ => none
noncomputable def mergeU (acc : List Key × List U) (ps : List (Key × U)) : List Key × List U := ps.foldl (fun a p => kput a.1 a.2 p.1 p.2) acc
noncomputable def pDictOf (live : Bool) : PrA := fun _ us st => match us with
  | [u] => (match dctAt u st with
    | some (ks, ws) => (match kks ks with
      | some kk => mk live (.dct (kk.map KK.a)) ws st
      | none => none)
    | none => (match lsAt u st with
      | some ws => (match ws.mapM toPair with
        | some ps => mk live (.dct ((mergeU ([], []) ps).1.map KK.a)) (mergeU ([], []) ps).2 st
        | none => none)
      | none => none))
  | _ => none
theorem call_copyR : CallR X (.type "dict") fun xs H Q => ∃ a kvs, xs = [.ref a] ∧ Rd H a (.dK kvs) ∧ ∀ p, H p = none → Q (.ref p) (upd H p (.dK kvs)) := by
  intro pins s σ H xs us Q I r ⟨a, kvs, e, hr, q⟩
  subst e
  obtain ⟨u, rfl, rx⟩ := vals1 r
  obtain rfl : u = Value.ref a := rx
  exact d_copyOf I hr fun p s' hp I' => ⟨.ref p, _, I', rfl, q p hp⟩
theorem merge_ok : ∀ {ps : List (Key × U)} {kvs : List (Key × V)} {acc : List Key × List U} {xs : List V}, acc.1.length = xs.length → RVs G φ H acc.2 xs → Paired (fun (p : Key × U) (kv : Key × V) => p.1 = kv.1 ∧ RV G φ H p.2 kv.2) ps kvs →
    ∃ xs', mergeK (acc.1.zip xs) kvs = (mergeU acc ps).1.zip xs' ∧ (mergeU acc ps).1.length = xs'.length ∧ RVs G φ H (mergeU acc ps).2 xs'
  | [], _, acc, xs, hl, r, .nil => ⟨xs, rfl, hl, r⟩
  | p :: ps, _, acc, xs, hl, r, .cons h t => by
    obtain ⟨xs', e, l, r'⟩ := kput_ok (k := p.1) hl r h.2
    obtain ⟨xs2, e2, l2, r2⟩ := merge_ok (acc := kput acc.1 acc.2 p.1 p.2) l r' t
    refine ⟨xs2, ?_, l2, r2⟩
    refine Eq.trans ?_ e2
    unfold mergeK
    rw [List.foldl_cons, ← h.1, e]
theorem pairs_ok (hK : X.K = G.K) : ∀ {ws : List U} {ps : List (Key × U)} {xs : List V}, RVs G φ H ws xs → ws.mapM toPair = some ps → ∃ (as : List Addr) (kvs : List (Key × V)), xs = as.map V.ref ∧ Paired (fun p kv => SqT X.K H p [kV kv.1, kv.2]) as kvs ∧ Paired (fun (p : Key × U) (kv : Key × V) => p.1 = kv.1 ∧ RV G φ H p.2 kv.2) ps kvs
  | [], ps, _, .nil, e => by simp at e; subst e; exact ⟨[], [], rfl, .nil, .nil⟩
  | w :: ws, ps, _, .cons h t, e => by
    rw [List.mapM_cons] at e
    obtain ⟨p, e1, e2⟩ := Option.bind_eq_some_iff.mp e
    obtain ⟨ps', e3, e4⟩ := Option.bind_eq_some_iff.mp e2
    cases e4
    obtain ⟨as, kvs, rfl, i1, i2⟩ := pairs_ok hK t e3
    unfold toPair at e1
    split at e1
    · rename_i k w' et
      obtain ⟨k', ek, rfl⟩ := Option.map_eq_some_iff.mp e1
      obtain ⟨d, xs, rfl, hd, rx⟩ := tpAt_ok (X := X) hK h et
      obtain ⟨y, z, rfl, ry, rz⟩ := pair2 rx.rvs
      rw [toKey_ok ek ry] at hd
      exact ⟨d :: as, (k', z) :: kvs, rfl, .cons hd i1, .cons ⟨rfl, rz⟩ i2⟩
    · cases e1
theorem oDictOf (hK : X.K = G.K) (hc : X.calm = true) (live : Bool) : CallR X (.type "dict") (rA G (pDictOf live)) := by
  refine CallRi (CallR.or call_copyR (call_dictP hc)) fun xs H Q ⟨φ, st, B, b, uu, S, r, P⟩ => ?_
  unfold pDictOf at P
  split at P
  · rename_i u
    obtain ⟨x, rfl, r1⟩ := pair1 r
    split at P
    · rename_i ks ws ed
      split at P
      · rename_i kk ek
        obtain ⟨d, zs, o, rfl, hr, ho, rr⟩ := dctAt_ok S r1 ed
        rw [kks_ok ek] at ho
        obtain ⟨hl, eo⟩ := ho.ka
        cases eo
        refine .inl ⟨d, _, rfl, hr, fun p hp => mk_fin (o := fun vs => HO.dK (kk.zip vs)) ?_ S rr P p hp⟩
        have := rr.len
        rw [this, ← hl]
        exact head_dct
      · exact P.elim
    · split at P
      · rename_i ws ew
        split at P
        · rename_i ps ep
          obtain ⟨d, zs, rfl, hs, rw_⟩ := lsAt_ok hK S r1 ew
          obtain ⟨as, kvs, rfl, i1, i2⟩ := pairs_ok hK rw_ ep
          obtain ⟨xs', e1, l1, r2⟩ := merge_ok (acc := ([], [])) (xs := []) rfl .nil i2
          refine .inr ⟨d, as, kvs, rfl, hs, i1, fun p hp => ?_⟩
          rw [show mergeK [] kvs = _ from e1]
          refine mk_fin (o := fun vs => HO.dK ((mergeU ([], []) ps).1.zip vs)) ?_ S r2 P p hp
          have := r2.len
          rw [this, ← l1]
          exact head_dct
        · exact P.elim
      · exact P.elim
  · exact P.elim
/-! ### methods -/
noncomputable def pGetD : PrM := fun _ u us st => match dctAt u st with
  | some (ks, ws) => (match us with
    | [w] => (match toKK w with
      | some k => if kindOk ks k = true then some ((kkget ks ws k).getD .non, st) else none
      | none => none)
    | [w, d] => (match toKK w with
      | some k => if kindOk ks k = true then some ((kkget ks ws k).getD d, st) else none
      | none => none)
    | _ => none)
  | none => none
theorem oGetD (hu : X.A.units + 1 < cLine) : MtR X "dict.get" (rM G pGetD) := by
  intro pins s σ H x xs v us Q I rx rxs ⟨φ, st, B, b, u, uu, S, ru, ruu, P⟩
  unfold pGetD at P
  split at P
  · rename_i ks ws ed
    split at P
    · rename_i w
      split at P
      · rename_i k ek
        split at P
        · rename_i hk
          obtain ⟨y, rfl, ry⟩ := pair1 ruu
          obtain ⟨yv, rfl, ryv⟩ := vals1 rxs
          obtain ⟨d, o, rfl, g, g1, g2⟩ := dget_ok S ru ry ed ek (kind1 hk) (kind2 hk)
          obtain rfl : v = Value.ref d := rx
          refine d_get1 hu I g ryv fun w' s' I' rw' => ⟨o.getD .non, H, I', rw', ?_⟩
          have q := P φ H .refl S
          cases ez : kkget ks ws k with
          | none => rw [ez] at q; rw [g1 ez]; exact q _ (RT.rv rt_non)
          | some z =>
            rw [ez] at q
            obtain ⟨z', ez', rz⟩ := g2 z ez
            rw [ez']
            exact q _ rz
        · exact P.elim
      · exact P.elim
    · rename_i w dd
      split at P
      · rename_i k ek
        split at P
        · rename_i hk
          obtain ⟨y, y2, rfl, ry, ry2⟩ := pair2 ruu
          obtain ⟨yv, yv2, rfl, ryv, ryv2⟩ := vals2 rxs
          obtain ⟨d, o, rfl, g, g1, g2⟩ := dget_ok S ru ry ed ek (kind1 hk) (kind2 hk)
          obtain rfl : v = Value.ref d := rx
          refine d_get2 hu I g ryv ryv2 fun w' s' I' rw' => ⟨o.getD y2, H, I', rw', ?_⟩
          have q := P φ H .refl S
          cases ez : kkget ks ws k with
          | none => rw [ez] at q; rw [g1 ez]; exact q _ ry2
          | some z =>
            rw [ez] at q
            obtain ⟨z', ez', rz⟩ := g2 z ez
            rw [ez']
            exact q _ rz
        · exact P.elim
      · exact P.elim
    · exact P.elim
  · exact P.elim
/-- a live dict -/
def lvD (u : U) (st : List U) : Option (Nat × List Key × List U) := match u with
  | .ref n => (match st[n]? with
    | some (.dct ks us) => (kks ks).map fun kk => (n, kk, us)
    | _ => none)
  | _ => none
theorem lvD_ok {u : U} {v : V} {n : Nat} {kk : List Key} {us : List U} (S : StOk G φ H B b st) (r : RV G φ H u v) (e : lvD u st = some (n, kk, us)) :
    ∃ d xs, v = .ref d ∧ u = .ref n ∧ st[n]? = some (.dct (kk.map KK.a) us) ∧ φ.l[n]? = some d ∧ H d = some (.dK (kk.zip xs)) ∧ kk.length = xs.length ∧ RVs G φ H us xs := by
  unfold lvD at e
  split at e
  · rename_i m
    split at e
    · rename_i ks us' eu
      obtain ⟨kk', ek, e2⟩ := Option.map_eq_some_iff.mp e
      cases e2
      obtain ⟨d, rfl, ed, ml, xs, hd, rr⟩ := rv_ref S r eu
      rw [kks_ok ek] at hd eu
      obtain ⟨hl, eo⟩ := hd.ka
      exact ⟨d, xs, rfl, rfl, eu, ed, eo, hl, rr⟩
    · cases e
  · cases e
/-- the entries without a key -/
noncomputable def dropU (kk : List Key) (us : List U) (k : Key) : List Key × List U := (((kk.zip us).filter fun p => decide (p.1 ≠ k)).map (·.1), ((kk.zip us).filter fun p => decide (p.1 ≠ k)).map (·.2))
theorem drop_ok {k : Key} : ∀ {kk : List Key} {us : List U} {xs : List V}, kk.length = xs.length → RVs G φ H us xs →
    ∃ xs', dropK (kk.zip xs) k = (dropU kk us k).1.zip xs' ∧ (dropU kk us k).1.length = xs'.length ∧ RVs G φ H (dropU kk us k).2 xs'
  | [], _, [], _, .nil => ⟨[], rfl, rfl, .nil⟩
  | a :: kk, _, _, hl, .cons (a := u) h t => by
    obtain ⟨xs', e, l, r⟩ := drop_ok (k := k) (kk := kk) (by simpa using hl) t
    unfold dropK dropU at *
    rw [List.zip_cons_cons, List.zip_cons_cons, List.filter_cons, List.filter_cons]
    by_cases hk : a = k
    · simp only [hk, ne_eq, not_true, decide_false, Bool.false_eq_true, if_false]
      exact ⟨xs', e, l, r⟩
    · simp only [ne_eq, hk, not_false_eq_true, decide_true, if_true, List.map_cons]
      refine ⟨_ :: xs', ?_, by simpa using l, .cons h r⟩
      rw [List.zip_cons_cons]
      exact congrArg _ e
theorem dropU_mem {kk : List Key} {us : List U} {k : Key} {u : U} (h : u ∈ (dropU kk us k).2) : u ∈ us := by
  unfold dropU at h
  obtain ⟨p, hp, rfl⟩ := List.mem_map.mp h
  exact (List.of_mem_zip (List.mem_filter.mp hp).1).2
noncomputable def pPopD : PrM := fun _ u us st => match lvD u st with
  | some (n, kk, ws) => (match us with
    | [w, d] => (match toKey w with
      | some k => (match kget kk ws k with
        | some z => some (z, st.set n (.dct ((dropU kk ws k).1.map KK.a) (dropU kk ws k).2))
        | none => some (d, st))
      | none => none)
    | [w] => (match toKey w with
      | some k => (match kget kk ws k with
        | some z => some (z, st.set n (.dct ((dropU kk ws k).1.map KK.a) (dropU kk ws k).2))
        | none => none)
      | none => none)
    | _ => none)
  | none => none
theorem pop_set {n : Nat} {d : Addr} {kk : List Key} {ws : List U} {xs : List V} {k : Key} (S : StOk G φ H B b st) (e1 : st[n]? = some (.dct (kk.map KK.a) ws)) (e2 : φ.l[n]? = some d) (hl : kk.length = xs.length) (r : RVs G φ H ws xs) (ho : H d = some (.dK (kk.zip xs))) :
    Ext φ H φ (upd H d (.dK (dropK (kk.zip xs) k))) ∧ StOk G φ (upd H d (.dK (dropK (kk.zip xs) k))) B b (st.set n (.dct ((dropU kk ws k).1.map KK.a) (dropU kk ws k).2)) := by
  obtain ⟨xs', e, l, r'⟩ := drop_ok (k := k) hl r
  refine ⟨Ext.set S (List.mem_of_getElem? e2) (fun _ _ z => by rw [ho] at z; cases z), S.set e2 ⟨xs', ⟨by rw [List.length_map]; exact l, .inl ⟨_, rfl, by rw [e]⟩⟩, r'⟩ (.inr fun m hm => ⟨_, e1, dropU_mem hm⟩)⟩
theorem oPopD : MtR X "dict.pop" (rM G pPopD) := by
  intro pins s σ H x xs v us Q I rx rxs ⟨φ, st, B, b, u, uu, S, ru, ruu, P⟩
  unfold pPopD at P
  split at P
  · rename_i n kk ws ed
    obtain ⟨d, zs, rfl, rfl, eu, ea, hd, hl, rr⟩ := lvD_ok S ru ed
    obtain rfl : v = Value.ref d := rx
    split at P
    · rename_i w dd
      obtain ⟨y, y2, rfl, ry, ry2⟩ := pair2 ruu
      obtain ⟨yv, yv2, rfl, ryv, ryv2⟩ := vals2 rxs
      split at P
      · rename_i k ek
        rw [toKey_ok ek ry] at ryv
        split at P
        · rename_i z ez
          obtain ⟨z', ez', rz⟩ := kget_some rr ez
          refine d_pop I hd ryv ez' (.inr ⟨_, rfl⟩) fun w' s' I' rw' => ⟨z', _, I', rw', ?_⟩
          obtain ⟨x2, S2⟩ := pop_set (k := k) S eu ea hl rr hd
          exact P φ _ x2 S2 _ (rz.mono x2)
        · rename_i ez
          exact d_popD I hd ryv (kget_none rr ez) fun s' I' => ⟨y2, H, I', ryv2, P φ H .refl S _ ry2⟩
      · exact P.elim
    · rename_i w
      obtain ⟨y, rfl, ry⟩ := pair1 ruu
      obtain ⟨yv, rfl, ryv⟩ := vals1 rxs
      split at P
      · rename_i k ek
        rw [toKey_ok ek ry] at ryv
        split at P
        · rename_i z ez
          obtain ⟨z', ez', rz⟩ := kget_some rr ez
          refine d_pop I hd ryv ez' (.inl rfl) fun w' s' I' rw' => ⟨z', _, I', rw', ?_⟩
          obtain ⟨x2, S2⟩ := pop_set (k := k) S eu ea hl rr hd
          exact P φ _ x2 S2 _ (rz.mono x2)
        · exact P.elim
      · exact P.elim
    · exact P.elim
  · exact P.elim
def pClear : PrM := fun _ u us st => match lvD u st, us with
  | some (n, _, _), [] => some (.non, st.set n (.dct [] []))
  | _, _ => none
theorem oClear : MtR X "dict.clear" (rM G pClear) := by
  intro pins s σ H x xs v us Q I rx rxs ⟨φ, st, B, b, u, uu, S, ru, ruu, P⟩
  unfold pClear at P
  split at P
  · rename_i n kk ws ed
    obtain ⟨d, zs, rfl, rfl, eu, ea, hd, hl, rr⟩ := lvD_ok S ru ed
    cases ruu
    refine mtd_clear pins s σ H _ _ v us Q I rx rxs ⟨d, _, rfl, rfl, hd, ?_⟩
    refine P φ _ (Ext.set S (List.mem_of_getElem? ea) fun _ _ z => (by rw [hd] at z; cases z)) (S.set (u := .dct [] []) ea ⟨[], ⟨rfl, .inl ⟨[], rfl, rfl⟩⟩, .nil⟩ (.inr fun m hm => by cases hm)) .non rt_non.rv
  · exact P.elim
def pAppend : PrM := fun b u us st => match u, us with
  | .ref n, [w] => (match st[n]? with
    | some (.lst ws) => if ws.length < sizeLine ∧ (b ≤ n ∨ w.isRef = false) then some (.non, st.set n (.lst (ws ++ [w]))) else none
    | _ => none)
  | _, _ => none
theorem oAppend : MtR X "list.append" (rM G pAppend) := by
  intro pins s σ H x xs v us Q I rx rxs ⟨φ, st, B, b, u, uu, S, ru, ruu, P⟩
  unfold pAppend at P
  split at P
  · rename_i n w
    obtain ⟨y, rfl, ry⟩ := pair1 ruu
    split at P
    · rename_i ws ew
      split at P
      · rename_i hc
        obtain ⟨d, rfl, ed, ml, zs, hd, r⟩ := rv_ref S ru ew
        refine mt_append pins s σ H _ _ v us Q I rx rxs ⟨d, zs, y, rfl, rfl, hd, by rw [← r.len]; exact hc.1, ?_⟩
        refine P φ _ (Ext.set S (List.mem_of_getElem? ed) fun _ _ z => (by rw [hd] at z; cases z)) (S.set ed ⟨_, rfl, pApp r (.cons ry .nil)⟩ (hc.2.imp id fun hn m hm => ⟨_, ew, ?_⟩)) _ rt_non.rv
        rcases List.mem_append.mp hm with h | h
        · exact h
        · simp at h; subst h; cases hn
      · exact P.elim
    · exact P.elim
  · exact P.elim
noncomputable def pBm (m : Str) (T : String) : PrM :=
  if m = "get" ∧ T = "dict" then pGetD else if m = "pop" ∧ T = "dict" then pPopD else if m = "clear" ∧ T = "dict" then pClear else if m = "append" ∧ T = "list" then pAppend else fun _ _ _ _ => none
def bmTs (m : Str) : List String := if m == "get" || m == "pop" || m == "clear" then ["dict"] else if m == "append" then ["list"] else []
theorem oBm (hu : X.A.units + 1 < cLine) (m : Str) : ∀ T ∈ bmTs m, ∃ id, PlainAttrs T ∧ Slot T m id ∧ typeOf (.builtin id) = pure (.type "method_descriptor") ∧ MtR X id (rM G (pBm m T)) := by
  intro T hT
  unfold bmTs at hT
  split at hT
  · rename_i hm
    obtain rfl : T = "dict" := by simpa using hT
    simp only [Bool.or_eq_true, beq_iff_eq] at hm
    rcases hm with (rfl | rfl) | rfl
    · refine ⟨"dict.get", F.plainAttrs_dict, F.slot_dict_get, F.type_dict_get, ?_⟩
      rw [show pBm (Str.ofString "get") "dict" = pGetD from by unfold pBm; rw [if_pos ⟨rfl, rfl⟩]]
      exact oGetD hu
    · refine ⟨"dict.pop", F.plainAttrs_dict, F.slot_dict_pop, F.type_dict_pop, ?_⟩
      rw [show pBm (Str.ofString "pop") "dict" = pPopD from by unfold pBm; rw [if_neg (by decide), if_pos ⟨rfl, rfl⟩]]
      exact oPopD
    · refine ⟨"dict.clear", F.plainAttrs_dict, F.slot_dict_clear, F.type_dict_clear, ?_⟩
      rw [show pBm (Str.ofString "clear") "dict" = pClear from by unfold pBm; rw [if_neg (by decide), if_neg (by decide), if_pos ⟨rfl, rfl⟩]]
      exact oClear
  · split at hT
    · rename_i _ hm
      obtain rfl : T = "list" := by simpa using hT
      obtain rfl := beq_iff_eq.mp hm
      refine ⟨"list.append", F.plainAttrs_list, F.slot_list_append, F.type_list_append, ?_⟩
      rw [show pBm (Str.ofString "append") "list" = pAppend from by unfold pBm; rw [if_neg (by decide), if_neg (by decide), if_neg (by decide), if_pos ⟨rfl, rfl⟩]]
      exact oAppend
    · cases hT
end
end EV

set_option maxRecDepth 100000
/-! E24: own operators. -/
namespace EV
open PySem PySem.Spec PyProof.Rows L2
section
open PySem.W
variable {prog : Program} {w : World} {M : Model} {A : Around} {E : Value → Shared → Prop} {s : Shared} {K : Frag} {x C L f : Addr} {h₀ : Heap} {m : Str → Option Value} {ox : Obj} {od : Option Obj} {nm T : String}
/-- a op x, a of a built-in type that has no such slot, x an own instance with the reflected method -/
theorem rbinT {op : Operator} {a : Value} {fo ro : Option Value} {f0 : Addr} {Q : Value → Shared → Prop} (F : Fr h₀ L s.heap m) (X₀ : K.In h₀) (I : InstAt s.heap x ox C od) (ha : typeOf a = pure (.type T)) (hc : selfFirst K C = true)
    (hs : findIn K (.ref C) (PySem.dunder op.info.2) = some (some (.ref f0))) (hr : findIn K (.ref C) (dunderR op.info.2) = some (some (.ref f))) (hf : isFn K (.ref f) = true)
    (h1 : findIn K (.type T) (PySem.dunder op.info.2) = some fo) (h2 : findIn K (.type T) (dunderR op.info.2) = some ro) (hl : ((fo.isSome && !isSeqSlot fo) || (ro.isSome && !isSeqSlot ro)) = false)
    (h : wpAny (model prog w) A (call (.ref f) [.ref x, a]) (PySem.W.CmpBack Q) E s) : wpAny (model prog w) A (binaryOp op a (.ref x)) Q E s := by
  have X := X₀.keeps F.keep
  obtain ⟨cd, rest, hcd, hm⟩ := ksp_first hc
  rcases hi : op.info with ⟨sym, nm'⟩
  rw [hi] at hs hr h1 h2
  dsimp only at hs hr h1 h2
  have one := ksp_try X I hr hf h
  obtain ⟨hh, g, d, tt, os⟩ := s
  have L1 : Looks (model prog w) hh (typeOf (.ref x)) (.ref C) := I.type
  have L2 : Looks (model prog w) hh (typeOf a) (.type T) := Looks.of_pure ha
  have L3 : Looks (model prog w) hh (fillsNumberSlot (.ref C) nm') true := fills_K X hcd hm hs
  have L4 : Looks (model prog w) hh (fillsNumberSlot (.type T) nm') ((fo.isSome && !isSeqSlot fo) || (ro.isSome && !isSeqSlot ro)) := ksp_fillsT X h1 h2
  rw [hl] at L4
  have hne : (Value.type T == Value.ref C) = false := Bool.eq_false_iff.mpr fun q => by cases beq_iff_eq.mp q
  simp only [binaryOp, hi]
  refine wpAny_holding (wpAny_bind ?_)
  unfold binaryOp1
  refine wpAny_bind (L2.at (wpAny_bind (L1.at (wpAny_bind (L4.at ?_)))))
  simp only [hne, Bool.false_eq_true, if_false]
  ksp_lk
  refine wpAny_mono one (fun r s' hr' => ?_) fun _ _ e => e
  obtain ⟨v, rfl, hq⟩ := hr'
  ksp_lk
  exact hq
end

def p1 : Perm := [.inl 0]
def p2 : Perm := [.inl 0, .inl 1]
section
variable {G : Ge} {W : WX} {X : Cx} {φ : Ph} {H : Hp} {B : Nat → Prop} {b : Nat} {st : List U} {pins : List (Addr × Obj)} {σ : L2.St} {s : Shared} {Q : VK} {k c : Nat} {F : Fn}
/-- an own method found by the class -/
structure OwnM (G : Ge) (k c : Nat) (nm : Str) (p : Perm) (F : Fn) : Prop where
  ex : ∀ C, G.cls[c]? = some C → ∃ f, PySem.W.findIn G.K (.ref C) nm = some (some (.ref f)) ∧ PySem.W.isFn G.K (.ref f) = true ∧ PySem.W.fnIn G.K f = true ∧ Cal G k f p.length [] p.fill F
theorem cal2 {A : Around} {f : Addr} {u w : U} {x y : V} {v1 v2 : Value} (hG : XG X G k) (tk : Takes X W) (ca : Cal G k f p2.length [] p2.fill F) (sb : Sb X k A) (I : Inv X pins σ H s) (S : StOk G φ H B b st)
    (ru : RV G φ H u x) (rw_ : RV G φ H w y) (r1 : RelV x v1) (r2 : RelV y v2) (P : Post G (fun c d H => W c d σ H) B b φ H (callM false F b [u, w] st) fun u φ' H' _ => ∀ v, RV G φ' H' u v → Q v H') :
    wpAny (model X.prog X.w) A (call (.ref f) [v1, v2]) (EP X pins σ Q) X.xe s :=
  run_cal (us := [u, w]) (ws := []) hG tk ca sb I S (.cons ru (.cons rw_ .nil)) .nil (.cons r1 (.cons r2 .nil)) .nil rfl rfl P
theorem cal1 {A : Around} {f : Addr} {u : U} {x : V} {v1 : Value} (hG : XG X G k) (tk : Takes X W) (ca : Cal G k f p1.length [] p1.fill F) (sb : Sb X k A) (I : Inv X pins σ H s) (S : StOk G φ H B b st)
    (ru : RV G φ H u x) (r1 : RelV x v1) (P : Post G (fun c d H => W c d σ H) B b φ H (callM false F b [u] st) fun u φ' H' _ => ∀ v, RV G φ' H' u v → Q v H') :
    wpAny (model X.prog X.w) A (call (.ref f) [v1]) (EP X pins σ Q) X.xe s :=
  run_cal (us := [u]) (ws := []) hG tk ca sb I S (.cons ru .nil) .nil (.cons r1 .nil) .nil rfl rfl P
theorem back {A : Around} {t : Sem Value} (h : wpAny (model X.prog X.w) A t (EP X pins σ Q) X.xe s) : wpAny (model X.prog X.w) A t (PySem.W.CmpBack (EP X pins σ Q)) X.xe s :=
  wpAny_mono h (fun w s' z => by obtain ⟨z', H', I', rz, qz⟩ := z; exact SlX.cmpback rz ⟨z', H', I', rz, qz⟩) fun _ _ x => x
/-- where an own instance stands -/
theorem ins_at {u : U} {v : V} {ns : List Str} (hG : XG X G k) (I : Inv X pins σ H s) (S : StOk G φ H B b st) (r : RV G φ H u v) (e : insCls u st = some (c, ns)) :
    ∃ a C ox od, v = .ref a ∧ G.cls[c]? = some C ∧ PySem.W.InstAt s.heap a ox C od := by
  obtain ⟨a, C, dx, xs, rfl, hc, hd⟩ := ins_of S r e
  obtain ⟨mA, O, _⟩ := ins_get I.hok hd
  obtain ⟨od, J, _⟩ := O.look
  exact ⟨a, C, _, _, rfl, hc, J⟩
/-- a op b, both of one own class -/
theorem own_bin {op : Operator} (hG : XG X G (k + 1)) (tk : Takes X W) (hm : OwnM G k c (PySem.dunder op.info.2) p2 F) (hf : ∀ C, G.cls[c]? = some C → PySem.W.selfFirst G.K C = true) :
    OpW G W X (binaryOp op) fun b u w st => match insCls u st, insCls w st with
      | some (c1, _), some (c2, _) => if c1 = c ∧ c2 = c then callM false F b [u, w] st else .stuck
      | _, _ => .stuck := by
  intro pins s σ H Q φ st B b u w x y v1 v2 I r1 r2 S ru rw_ P
  simp only at P
  split at P
  · rename_i c1 n1 c2 n2 e1 e2
    split at P
    · rename_i hc
      obtain ⟨rfl, rfl⟩ := hc
      obtain ⟨a, C, ox, od, rfl, hc1, J⟩ := ins_at hG I S ru e1
      obtain ⟨a2, C2, ox2, od2, rfl, hc2, J2⟩ := ins_at hG I S rw_ e2
      rw [hc1] at hc2; cases hc2
      obtain ⟨f, h1, h2, _, ca⟩ := hm.ex C hc1
      have h3 := hf C hc1
      rw [← hG.K] at h1 h2 h3
      have r1' := r1
      have r2' := r2
      obtain rfl : v1 = Value.ref a := r1
      obtain rfl : v2 = Value.ref a2 := r2
      obtain ⟨m, hF⟩ := I.fr
      exact PySem.W.binop_K hF I.ok.mod.kin J J2.type h3 h1 h2 (back (cal2 (hG.mono (Nat.le_succ k)) tk ca (hG.mono (Nat.le_succ k)).sub I S ru rw_ r1' r2' P))
    · exact P.elim
  · exact P.elim
/-- what a built-in type's slots say of an operator -/
structure BinT (G : Ge) (c : Nat) (nm : String) (T : String) : Prop where
  ex : ∀ C, G.cls[c]? = some C → PySem.W.selfFirst G.K C = true ∧ PySem.W.subIn G.K (.type T) (.ref C) = some false ∧ (∃ rc, PySem.W.findIn G.K (.ref C) (dunderR nm) = some rc ∧ (rc = none ∨ ∃ g : Addr, rc = some (.ref g))) ∧
    ∃ fo ro, PySem.W.findIn G.K (.type T) (PySem.dunder nm) = some fo ∧ PySem.W.findIn G.K (.type T) (dunderR nm) = some ro ∧ ((fo.isSome && !isSeqSlot fo) || (ro.isSome && !isSeqSlot ro)) = false
/-- a op b, b a text -/
theorem own_binS {op : Operator} (hG : XG X G (k + 1)) (tk : Takes X W) (hm : OwnM G k c (PySem.dunder op.info.2) p2 F) (hb : BinT G c op.info.2 "str") :
    OpW G W X (binaryOp op) fun b u w st => match insCls u st, w with
      | some (c1, _), .str _ => if c1 = c then callM false F b [u, w] st else .stuck
      | _, _ => .stuck := by
  intro pins s σ H Q φ st B b u w x y v1 v2 I r1 r2 S ru rw_ P
  simp only at P
  split at P
  · rename_i c1 n1 z e1
    split at P
    · rename_i hc
      subst hc
      obtain ⟨a, C, ox, od, rfl, hc1, J⟩ := ins_at hG I S ru e1
      obtain ⟨f, h1, h2, _, ca⟩ := hm.ex C hc1
      obtain ⟨h3, h4, ⟨rc, h5, h6⟩, fo, ro, h7, h8, _⟩ := hb.ex C hc1
      rw [← hG.K] at h1 h2 h3 h4 h5 h7 h8
      have r1' := r1
      have r2' := r2
      obtain rfl : v1 = Value.ref a := r1
      cases rw_.str_
      obtain ⟨t, rfl⟩ := r2
      obtain ⟨m, hF⟩ := I.fr
      exact PySem.W.ksp_binT hF I.ok.mod.kin J rfl h3 h1 h2 h5 h6 h7 h8 h4 (back (cal2 (hG.mono (Nat.le_succ k)) tk ca (hG.mono (Nat.le_succ k)).sub I S ru rw_ r1' r2' P))
    · exact P.elim
  · exact P.elim
/-- a op b, a a text, b's class has the reflected method -/
theorem own_rbinS {op : Operator} {F0 : Fn} (hG : XG X G (k + 1)) (tk : Takes X W) (hm0 : OwnM G k c (PySem.dunder op.info.2) p2 F0) (hm : OwnM G k c (dunderR op.info.2) p2 F) (hb : BinT G c op.info.2 "str") :
    OpW G W X (binaryOp op) fun b u w st => match u, insCls w st with
      | .str _, some (c1, _) => if c1 = c then callM false F b [w, u] st else .stuck
      | _, _ => .stuck := by
  intro pins s σ H Q φ st B b u w x y v1 v2 I r1 r2 S ru rw_ P
  simp only at P
  split at P
  · rename_i z c1 n1 e1
    split at P
    · rename_i hc
      subst hc
      obtain ⟨a, C, ox, od, rfl, hc1, J⟩ := ins_at hG I S rw_ e1
      obtain ⟨f0, g1, _⟩ := hm0.ex C hc1
      obtain ⟨f, h1, h2, _, ca⟩ := hm.ex C hc1
      obtain ⟨h3, h4, ⟨rc, h5, h6⟩, fo, ro, h7, h8, h9⟩ := hb.ex C hc1
      rw [← hG.K] at h1 h2 h3 h7 h8 g1
      have r1' := r1
      have r2' := r2
      obtain rfl : v2 = Value.ref a := r2
      cases ru.str_
      obtain ⟨t, rfl⟩ := r1
      obtain ⟨m, hF⟩ := I.fr
      exact rbinT hF I.ok.mod.kin J rfl h3 g1 h1 h2 h7 h8 h9 (back (cal2 (hG.mono (Nat.le_succ k)) tk ca (hG.mono (Nat.le_succ k)).sub I S rw_ ru r2' r1' P))
    · exact P.elim
  · exact P.elim
/-- a op b, a comparison, both of one own class -/
theorem own_cmp {op : CmpOp} (hop : ∀ a b, compareOp op a b = richCompare op a b) (hG : XG X G (k + 1)) (tk : Takes X W) (hm : OwnM G k c (cmpInfo op).2.1 p2 F) :
    OpW G W X (compareOp op) fun b u w st => match insCls u st, insCls w st with
      | some (c1, _), some (c2, _) => if c1 = c ∧ c2 = c then callM false F b [u, w] st else .stuck
      | _, _ => .stuck := by
  intro pins s σ H Q φ st B b u w x y v1 v2 I r1 r2 S ru rw_ P
  simp only at P
  split at P
  · rename_i c1 n1 c2 n2 e1 e2
    split at P
    · rename_i hc
      obtain ⟨rfl, rfl⟩ := hc
      obtain ⟨a, C, ox, od, rfl, hc1, J⟩ := ins_at hG I S ru e1
      obtain ⟨a2, C2, ox2, od2, rfl, hc2, J2⟩ := ins_at hG I S rw_ e2
      rw [hc1] at hc2; cases hc2
      obtain ⟨f, h1, h2, _, ca⟩ := hm.ex C hc1
      rw [← hG.K] at h1 h2
      have r1' := r1
      have r2' := r2
      obtain rfl : v1 = Value.ref a := r1
      obtain rfl : v2 = Value.ref a2 := r2
      obtain ⟨m, hF⟩ := I.fr
      rw [hop]
      exact PySem.W.cmp_K (op := op) (tb := .ref C) hG.room.units0 hF I.ok.mod.kin J J2.type (by unfold PySem.W.notFirst; simp) h1 h2 (back (cal2 (hG.mono (Nat.le_succ k)) tk ca (hG.mono (Nat.le_succ k)).sub I S ru rw_ r1' r2' P))
    · exact P.elim
  · exact P.elim
/-- x[i], an own one -/
theorem own_ix (hG : XG X G (k + 1)) (tk : Takes X W) (hm : OwnM G k c "__getitem__" p2 F) :
    IxW G W X fun b u w st => match insCls u st with
      | some (c1, _) => if c1 = c then callM false F b [u, w] st else .stuck
      | _ => .stuck := by
  intro value slice pins s σ H Q φ st B b u w x y v1 v2 I r1 r2 S ru rw_ P hs hs2
  simp only at P
  split at P
  · rename_i c1 n1 e1
    split at P
    · rename_i hc
      subst hc
      obtain ⟨a, C, ox, od, rfl, hc1, J⟩ := ins_at hG I S ru e1
      obtain ⟨f, h1, h2, h3, ca⟩ := hm.ex C hc1
      rw [← hG.K] at h1 h2 h3
      have r1' := r1
      obtain rfl : v1 = Value.ref a := r1
      obtain ⟨m, hF⟩ := I.fr
      exact PySem.W.sub_K hF I.ok.mod.kin J h1 h3 h2 (cal2 (hG.mono (Nat.le_succ k)) tk ca hG.sub1 I S ru rw_ r1' r2 P) hs2
    · exact P.elim
  · exact P.elim
/-- repr(x), an own one -/
theorem own_repr (hG : XG X G (k + 1)) (tk : Takes X W) (hm : OwnM G k c "__repr__" p1 F) :
    CallW G W X (.builtin "repr") fun b us st => match us with
      | [u] => (match insCls u st with
        | some (c1, _) => if c1 = c then (callM false F b [u] st).bind fun z st1 => (match z with
          | .str y => .ok (.str y) st1
          | _ => .stuck) else .stuck
        | _ => .stuck)
      | _ => .stuck := by
  intro pins s σ H Q φ st B b us vs vus I rv S r P
  simp only at P
  split at P
  · rename_i u
    obtain ⟨x, rfl, ru⟩ := pair1 r
    obtain ⟨v1, rfl, r1⟩ := vals1 rv
    split at P
    · rename_i c1 n1 e1
      split at P
      · rename_i hc
        subst hc
        obtain ⟨a, C, ox, od, rfl, hc1, J⟩ := ins_at hG I S ru e1
        obtain ⟨f, h1, h2, _, ca⟩ := hm.ex C hc1
        rw [← hG.K] at h1 h2
        have r1' := r1
        obtain rfl : v1 = Value.ref a := r1
        obtain ⟨m, hF⟩ := I.fr
        refine PySem.W.repr_K hG.room.in1.units0 hF I.ok.mod.kin J h1 h2 ?_
        refine wpAny_mono (cal1 (Q := fun v H' => ∃ y, v = .str y ∧ Q (.str y) H') (hG.mono (Nat.le_succ k)) tk ca hG.sub1 I S ru r1' (P.bind.imp fun u φ' H' st' x' S' q v rv => ?_)) (fun w s' hw => ?_) fun _ _ e => e
        · cases u with
          | str y => exact ⟨y, rv.str_, q.okk S' _ rt_str.rv⟩
          | _ => exact q.elim
        · obtain ⟨v, H', I', rw', y, rfl, q⟩ := hw
          obtain ⟨t, rfl⟩ := rw'
          exact ⟨.str y, H', I', ⟨t, rfl⟩, q⟩
      · exact P.elim
    · exact P.elim
  · exact P.elim
end
end EV

set_option maxRecDepth 100000
/-! E25: != by an own ==; a tuple's in. -/
namespace EV
open PySem PySem.Spec PyProof.Rows L2
section
open PySem.W
variable {prog : Program} {w : World} {M : Model} {A : Around} {E : Value → Shared → Prop} {s : Shared} {K : Frag} {x C L f : Addr} {ox : Obj} {od : Option Obj}
theorem ifBound_B {T : String} {name : Str} {id : String} {args : List Value} {Q : Option Value → Shared → Prop} (S : PySem.Slot T name id) (X : K.In s.heap) (I : InstAt s.heap x ox C od) (hs : findIn K (.ref C) name = some (some (.builtin id)))
    (h : wpAny M A (call (.builtin id) (.ref x :: args)) (fun v => Q (some v)) E s) : wpAny M A (callSpecialIfBound? (.ref x) name args) Q E s := by
  simp only [callSpecialIfBound?, bindSpecialIfBound?]
  refine wpAny_holding (wpAny_bind (wpAny_bind (wpAny_bind (I.type.here ((looks_findIn X hs).here ?_)))))
  simp only [S.bind]
  refine wpAny_bind (wpAny_askSetting (wpAny_ite ?_))
  have fin : wpAny M A (call (.builtin id) ([.ref x] ++ args) >>= fun v => pure (some v)) Q E s := wpAny_bind (wpAny_mono h (fun v s' h' => wpAny_pure h') fun _ _ h' => h')
  split
  · exact wpAny_bind (wpAny_pure (wpAny_pure fin))
  · exact wpAny_tryCatch (wpAny_bind (wpAny_pure (wpAny_pure fin)))
theorem ne_K {b : Value} {Q : Value → Shared → Prop} (hu : A.units + 1 < cLine) (X : K.In s.heap) (I : InstAt s.heap x ox C od) (hb : Looks (model prog w) s.heap (typeOf b) (.ref C)) (hne : findIn K (.ref C) "__ne__" = some (some (.builtin "object.__ne__")))
    (ho : subIn K (.ref C) (.type "object") = some true) (heq : findIn K (.ref C) "__eq__" = some (some (.ref f))) (hf : isFn K (.ref f) = true)
    (h : wpAny (model prog w) A.in1 (call (.ref f) [.ref x, b]) (fun v s' => ∃ c, v = .bool c ∧ Q (.bool (!c)) s') E s) : wpAny (model prog w) A (compareOp .NotEq (.ref x) b) Q E s := by
  have body : wpAny (model prog w) A.in1 (Builtin.«object.__ne__» ⟨[.ref x, b], []⟩) (fun fin s' => ∃ v, fin = .done (.ret v) ∧ (∃ c, v = .bool c ∧ Q (.bool c) s')) E s := by
    unfold Builtin.«object.__ne__»
    refine wpAny_bind (m := slotArgs _ _ _) (wpAny_pure ?_)
    refine wpAny_bind (wpAny_cRoomFor (by show A.units + 1 < cLine; exact hu) ?_)
    refine wpAny_bind (m := callSpecialIfBound? (.ref x) (Str.ofString "__eq__") [b]) (ifBound_K X I heq hf (wpAny_mono h (fun v s' hv => ?_) fun _ _ e => e))
    obtain ⟨c, rfl, hq⟩ := hv
    refine wpAny_bind (m := truthy (.bool c)) (wpAny_truthy_bool ?_)
    exact wpAny_pure ⟨_, rfl, _, rfl, hq⟩
  have one : wpAny (model prog w) A (tryCompare (.ref x) "__ne__" b) (fun r s' => ∃ v, r = some v ∧ Q v s') E s := by
    unfold tryCompare
    refine wpAny_bind (ifBound_B F.slot_object_ne X I hne ?_)
    refine wpAny_call (codeAny_call_builtin F.slot_object_ne.plain F.cmpEntry_ne ?_)
    refine PySem.W.check_slot F.cmpKind_ne F.cmpSplit_ne (I.type.andThen (looks_subIn X ho)) (F.cmpArgs_ne _ _) (wpAny_mono body (fun fin s' hh => ?_) fun _ _ z => z)
    obtain ⟨v, rfl, c, rfl, hq⟩ := hh
    exact wpAny_pure ⟨_, rfl, hq⟩
  show wpAny _ _ (richCompare .NotEq (.ref x) b) _ _ _
  unfold richCompare
  simp only [oneThing_ref]
  refine wpAny_holding (wpAny_bind (wpAny_cRoomFor (by omega) ?_))
  refine wpAny_bind (I.type.here (wpAny_bind (hb.here ?_)))
  rw [if_neg (by simp)]
  refine wpAny_bind (wpAny_pure ?_)
  simp only [Bool.false_eq_true, if_false]
  refine wpAny_bind (wpAny_mono one (fun r s' z => ?_) fun _ _ e => e)
  obtain ⟨v, rfl, hq⟩ := z
  exact wpAny_pure hq
end
end EV

set_option maxRecDepth 100000
/-! E41: an own instance, looked for in a tuple. -/
namespace EV
open PySem PySem.Spec PyProof.Rows L2
open AutoSeq1 (wpAny_loadPart')
open MeetsSeq MeetsSeq2 MeetsSeq3 SeqRoads2 GQ
section
variable {prog : Program} {w : World} {A : Around} {R : Result → Shared → Prop}
theorem tuple_inG (l : Addr) (items : Array Value) (n : Nat) (dd : Option Addr) (sl : Array (Option Value)) (x : Value) (I : List Value → Shared → Prop)
    (turn : ∀ y rest s, I (y :: rest) s → wpAny (model prog w) A.in1 (eqBool y x) (fun r s' => if r = true then R (.ok (.ret (.bool true))) s' else I rest s') (fun e s' => R (.error e) s') s)
    (fin : ∀ s, I [] s → R (.ok (.ret (.bool false))) s) {s : Shared} (hl : s.heap.get? l = some { cls := .type "tuple", dict := dd, data := .seq items n, slots := sl }) (h : I items.toList s) :
    wpAny (model prog w) A.in1 (Builtin.«tuple.__contains__» ⟨[.ref l, x], []⟩) (FinOf prog w A R) (fun e s' => R (.error e) s') s := by
  have h0 := h
  obtain ⟨hp, g, d, tk, os⟩ := s
  wp_walk using wpAny_loadPart' hl, wpAny_forIn_array _ (fun rest b s' => b.1 = none ∧ I rest s') _
  case turn =>
    rintro y rest b s' ⟨hb, hI⟩
    refine wpAny_bind (wpAny_mono (turn y rest s' hI) (fun r s2 q => ?_) fun _ _ x => x)
    cases r with
    | true =>
      simp only [if_true] at q
      wp_walk
      exact q
    | false =>
      simp only [Bool.false_eq_true, if_false] at q
      wp_walk
      exact ⟨rfl, q⟩
  case fin =>
    rintro ⟨b1, b2⟩ s' ⟨hb, hI⟩
    simp only at hb
    subst hb
    have hR := fin s' hI
    wp_walk
    exact hR
  case h => exact ⟨rfl, h0⟩
end
section
variable {prog : Program} {w : World} {A : Around} {E : Value → Shared → Prop} {s : Shared}
theorem in_tupG {l : Addr} {items : Array Value} {x : Value} {Q : Value → Shared → Prop} (I : List Value → Shared → Prop) (hl : s.heap.IsTuple l items)
    (turn : ∀ y rest s, I (y :: rest) s → wpAny (model prog w) A.in1 (eqBool y x) (fun r s' => if r = true then Q (.bool true) s' else I rest s') E s)
    (fin : ∀ s, I [] s → Q (.bool false) s) (h : I items.toList s) : wpAny (model prog w) A (compareOp .In x (.ref l)) Q E s := by
  obtain ⟨⟨cls, dd, data, sl⟩, ho, hc, n, hd⟩ := id hl
  simp only at hc hd
  subst hc hd
  show wpAny _ A (do return .bool (← contains (.ref l) x)) Q E s
  refine wpAny_bind (wpAny_contains_slot ⟨_, ho, rfl⟩ F.slot_tuple_contains (call_here F.slot_tuple_contains ⟨_, ho, rfl⟩ F.entry_tuple_contains (F.args_tuple_contains_2 _ _) ?_))
  refine tuple_inG (R := wants (fun r s' => wpAny (model prog w) A (truthy r) (fun b s' => wpAny (model prog w) A (pure (Value.bool b)) Q E s') E s') E) l items n dd sl x I (fun y rest s hI => wpAny_mono (turn y rest s hI) (fun r s' q => ?_) fun _ _ z => z) (fun s' q => ?_) ho h
  · cases r with
    | true => exact wpAny_truthy_bool (wpAny_pure q)
    | false => exact q
  · exact wpAny_truthy_bool (wpAny_pure (fin s' q))
end
section
open PySem.W
variable {prog : Program} {w : World} {M : Model} {A : Around} {E : Value → Shared → Prop} {s : Shared} {K : Frag} {x C f : Addr} {od : Option Obj} {ox : Obj}
/-- y == x, y a built-in that knows nothing of x, x an own instance -/
theorem rc_item {y : Value} {T id : String} {Q : Value → Shared → Prop} (hu : A.units < cLine) (X : K.In s.heap) (I : InstAt s.heap x ox C od) (hT : s.TypeIs y T) (hsub : subIn K (.ref C) (.type T) = some false) (slot : PySem.Slot T (cmpInfo .Eq).2.1 id)
    (dec : ∀ Q' : Value → Shared → Prop, Q' .notImplemented s → wpAny (model prog w) A (call (.builtin id) [y, .ref x]) Q' E s) (hs : findIn K (.ref C) "__eq__" = some (some (.ref f))) (hf : isFn K (.ref f) = true)
    (h : wpAny (model prog w) A (call (.ref f) [.ref x, y]) (PySem.W.CmpBack Q) E s) : wpAny (model prog w) A (richCompare .Eq y (.ref x)) Q E s := by
  rcases hi : cmpInfo CmpOp.Eq with ⟨sym, f1, r1⟩
  have hr : r1 = ("__eq__" : Str) := by have : (cmpInfo CmpOp.Eq).2.2 = ("__eq__" : Str) := rfl
                                        rw [hi] at this; exact this
  rw [hi] at slot
  have one : wpAny (model prog w) A (tryCompare (.ref x) "__eq__" y) (fun r s' => ∃ v, r = some v ∧ Q v s') E s := by
    unfold tryCompare
    refine wpAny_bind (ifBound_K X I hs hf (wpAny_mono h (fun v s' hv => ?_) fun _ _ e => e))
    cases v <;> first | exact hv.elim | exact wpAny_pure ⟨_, rfl, hv⟩
  simp only [richCompare, hi, hT.oneThing_none]
  refine wpAny_holding (wpAny_bind (wpAny_cRoomFor hu ?_))
  refine wpAny_bind (wpAny_typeOf hT (wpAny_bind (I.type.here ?_)))
  split
  · refine wpAny_bind ((looks_subIn X hsub).here ?_)
    simp only [Bool.false_eq_true, if_false, Bool.not_false, if_true]
    refine wpAny_bind (m := tryCompare y _ (.ref x)) (wpAny_tryCompare_declines hT slot (dec _ ⟨rfl, ?_⟩))
    subst hr
    refine wpAny_bind (wpAny_mono one (fun r s' z => ?_) fun _ _ e => e)
    obtain ⟨v, rfl, hq⟩ := z
    exact wpAny_pure hq
  · rename_i q
    exact absurd (by simp) q
theorem int_dec (b : Int) (u : Tok) (l C dx : Addr) :
    Meets (Builtin.«int.__eq__» ⟨[.int b u, .ref l], []⟩) (fun _ R s => s.heap.get? l = some (instObj C dx) ∧ R (.ok (.ret .notImplemented)) s) :=
  .of_wp fun prog w A R s h => by obtain ⟨hp, g, d, tk, os⟩ := s; obtain ⟨hl, h⟩ := h; unfold instObj at hl; wp_walk using wpAny_loadPart' hl, wpAny_load hl; exact ⟨_, rfl, h⟩
theorem str_dec (b : Str) (u : Tok) (l C dx : Addr) :
    Meets (Builtin.«str.__eq__» ⟨[.str b u, .ref l], []⟩) (fun _ R s => s.heap.get? l = some (instObj C dx) ∧ R (.ok (.ret .notImplemented)) s) :=
  .of_wp fun prog w A R s h => by obtain ⟨hp, g, d, tk, os⟩ := s; obtain ⟨hl, h⟩ := h; unfold instObj at hl; wp_walk using wpAny_loadPart' hl, wpAny_load hl; exact ⟨_, rfl, h⟩
theorem dict_dec {d : Addr} {Q : Value → Shared → Prop} (X : K.In s.heap) (I : InstAt s.heap x ox C od) (hT : s.TypeIs (.ref d) "dict") (hsub : subIn K (.ref C) (.type "dict") = some false) (h : Q .notImplemented s) :
    wpAny (model prog w) A (call (.builtin "dict.__eq__") [.ref d, .ref x]) Q E s := by
  refine call_here F.slot_dict_eq hT F.entry_dict_eq (F.args_dict_eq_2 _ _) ?_
  show wpAny _ _ (Builtin.Dict.dictSlotArgs "__eq__" ⟨[.ref d, .ref x], []⟩ >>= _) _ _ s
  refine wpAny_bind ?_
  unfold Builtin.Dict.dictSlotArgs
  refine wpAny_bind (wpAny_notOrdered_dict hT ?_)
  show wpAny _ _ (pure (Value.ref d, Value.ref x)) _ _ s
  refine wpAny_pure ?_
  refine wpAny_bind (m := isInstance (.ref x) (.type "dict")) (wpAny_bind (I.type.here ((looks_subIn X hsub).here ?_)))
  simp only [Bool.not_false, if_true]
  exact wpAny_bind (wpAny_rule (wpAny_pure h))
end
section
variable {G : Ge} {W : WX} {X : Cx} {φ : Ph} {H : Hp} {B : Nat → Prop} {b : Nat} {st : List U} {k c : Nat} {f0 : Fn} {pins : List (Addr × Obj)} {σ : L2.St} {s : Shared}
/-- an item of which a built-in's == knows nothing of an own instance -/
def okIn : U → Bool
  | .non => true | .int _ => true | .str _ => true
  | .dct ks _ => (kks ks).isSome
  | _ => false
def inTs : List String := ["NoneType", "int", "str", "dict"]
theorem eq_item {nm : List Str} {u w : U} {x y : V} {v1 v2 : Value} {Q : VK} (hG : XG X G (k + 1)) (tk : Takes X W) (hm : OwnM G k c "__eq__" p2 f0) (hs : ∀ C, G.cls[c]? = some C → ∀ T ∈ inTs, PySem.W.subIn G.K (.ref C) (.type T) = some false)
    (I : Inv X pins σ H s) (S : StOk G φ H B b st) (ru : RV G φ H u x) (rw_ : RV G φ H w y) (r1 : RelV x v1) (r2 : RelV y v2) (e : insCls u st = some (c, nm)) (hw : okIn w = true)
    (P : Post G (fun c d H => W c d σ H) B b φ H (callM false f0 b [u, w] st) fun u φ' H' _ => ∀ v, RV G φ' H' u v → ∃ c, v = .bl c ∧ Q (.bl c) H') :
    wpAny (model X.prog X.w) X.A.in1 (eqBool v2 v1) (fun r s' => ∃ H', Inv X pins σ H' s' ∧ Q (.bl r) H') X.xe s := by
  obtain ⟨a, C, dx, xs, rfl, hc, hd⟩ := ins_of S ru e
  obtain ⟨mA, O, _⟩ := ins_get I.hok hd
  obtain ⟨od, J, _⟩ := O.look
  obtain ⟨f, h1, h2, _, ca⟩ := hm.ex C hc
  have h3 := hs C hc
  rw [← hG.K] at h1 h2 h3
  have r1' := r1
  have r2' := r2
  obtain rfl : v1 = Value.ref a := r1
  have hu : X.A.in1.units < cLine := hG.sub1.room.units0
  have KI := I.kIn
  have main := cal2 (Q := fun v H' => ∃ c, v = .bl c ∧ Q (.bl c) H') (hG.mono (Nat.le_succ k)) tk ca hG.sub1 I S ru rw_ r1' r2' P
  have fin : ∀ {v2 : Value}, (v2 == Value.ref a) = false → wpAny (model X.prog X.w) X.A.in1 (richCompare .Eq v2 (.ref a)) (EP X pins σ fun v H' => ∃ c, v = .bl c ∧ Q (.bl c) H') X.xe s → wpAny (model X.prog X.w) X.A.in1 (eqBool v2 (.ref a)) (fun r s' => ∃ H', Inv X pins σ H' s' ∧ Q (.bl r) H') X.xe s := fun {v2} hne h => by
    unfold eqBool
    refine wpAny_holding ?_
    refine wpAny_ite_split (fun hab => absurd hab (by rw [hne]; decide)) (fun _ => ?_)
    split
    · rename_i q; cases (Prod.mk.inj q).2
    · refine wpAny_bind (wpAny_mono h (fun v s' hv => ?_) fun _ _ x => x)
      obtain ⟨z, H', I', rz, c, rfl, q⟩ := hv
      cases rz
      exact wpAny_truthy_bool ⟨H', I', q⟩
  cases w with
  | non =>
    cases rw_.non_
    obtain rfl : v2 = Value.none := r2
    refine fin rfl (rc_item hu KI J (show s.TypeIs .none "NoneType" from rfl) (h3 _ (by decide)) PySem.F.slot_NoneType_eq (fun Q' hq => ?_) h1 h2 (back main))
    exact call_gives PySem.F.slot_NoneType_eq rfl F.entry_NoneType_eq (F.args_NoneType_eq_2 _ _) (PySem.SeqAt.NoneType___eq___none_ref_0 a) hq
  | int i =>
    cases rw_.int_
    obtain ⟨t, rfl⟩ := r2
    refine fin rfl (rc_item hu KI J (typeIs_int s i t) (h3 _ (by decide)) F.slot_int_eq (fun Q' hq => ?_) h1 h2 (back main))
    exact call_meets F.slot_int_eq (typeIs_int s i t) F.entry_int_eq (F.args_int_eq_2 _ _) (int_dec i t a C dx) ⟨O.obj, hq⟩
  | str i =>
    cases rw_.str_
    obtain ⟨t, rfl⟩ := r2
    refine fin rfl (rc_item hu KI J (typeIs_str s i t) (h3 _ (by decide)) F.slot_str_eq (fun Q' hq => ?_) h1 h2 (back main))
    exact call_meets F.slot_str_eq (typeIs_str s i t) F.entry_str_eq (F.args_str_eq_2 _ _) (str_dec i t a C dx) ⟨O.obj, hq⟩
  | dct ks us =>
    obtain ⟨kk, k1⟩ := Option.isSome_iff_exists.mp hw
    obtain ⟨da, xs, oa, rfl, hra, doa, rus⟩ := dctAt_ok S rw_ (show dctAt (.dct ks us) st = some (ks, us) from rfl)
    rw [kks_ok k1] at doa
    obtain ⟨la, ea⟩ := DO.ka doa
    cases ea
    obtain rfl : v2 = Value.ref da := r2
    obtain ⟨_, sa, va, ra, dda⟩ := dk_rd I.hok hra
    have hne : da ≠ a := by
      rintro rfl
      rcases hra with q | ⟨o, q⟩ <;> (rw [hd] at q; cases q)
    refine fin (by rw [Bool.eq_false_iff]; intro q; exact hne (by have := eq_of_beq q; injection this)) (rc_item hu KI J dda.typeIs (h3 _ (by decide)) F.slot_dict_eq (fun Q' hq => ?_) h1 h2 (back main))
    exact dict_dec KI J dda.typeIs (h3 _ (by decide)) hq
  | _ => cases hw
/-- u in (w, ..), u an own instance: its own == is asked of each item -/
def inOwn (c : Nat) (f0 : Fn) (b : Nat) (u : U) : List U → List U → Res U
  | [], st => .ok (.bl false) st
  | w :: ws, st => if (insCls u st).map (·.1) = some c ∧ okIn w = true then (callM false f0 b [u, w] st).bind fun z st1 => (match z with
      | .bl true => .ok (.bl true) st1
      | .bl false => inOwn c f0 b u ws st1
      | _ => .stuck) else .stuck
def InI (X : Cx) (G : Ge) (W : WX) (pins : List (Addr × Obj)) (σ : L2.St) (B : Nat → Prop) (b c : Nat) (f0 : Fn) (u : U) (x : V) (K : U → Ph → Hp → List U → Prop) (rest : List Value) (s' : Shared) : Prop :=
  ∃ φ1 H1 st1 ws ys, Inv X pins σ H1 s' ∧ StOk G φ1 H1 B b st1 ∧ RV G φ1 H1 u x ∧ RVs G φ1 H1 ws ys ∧ Vals ys rest ∧ Post G (fun c d H => W c d σ H) B b φ1 H1 (inOwn c f0 b u ws st1) K
theorem own_in (hG : XG X G (k + 1)) (tk : Takes X W) (hm : OwnM G k c "__eq__" p2 f0) (hs : ∀ C, G.cls[c]? = some C → ∀ T ∈ inTs, PySem.W.subIn G.K (.ref C) (.type T) = some false) :
    OpW G W X (compareOp .In) fun b u w st => match w with
      | .tup ws => inOwn c f0 b u ws st
      | _ => .stuck := by
  intro pins s σ H Q φ st B b u w x y v1 v2 I r1 r2 S ru rw_ P
  simp only at P
  split at P
  · rename_i ws
    obtain ⟨d, xs, rfl, hd, rx⟩ := tpAt_ok hG.K rw_ (show tpAt (.tup ws) = some ws from rfl)
    obtain rfl : v2 = Value.ref d := r2
    obtain ⟨its, rv, e, z⟩ := I.tuple hd
    refine in_tupG (InI X G W pins σ B b c f0 u x (fun u φ' H' _ => ∀ v, RV G φ' H' u v → Q v H')) e (fun y rest s1 h => ?_) (fun s1 h => ?_) ⟨φ, H, st, ws, xs, I, S, ru, rx.rvs, rv, P⟩
    · obtain ⟨φ1, H1, st1, ws1, ys, I1, S1, ru1, rws, rv1, P1⟩ := h
      cases rv1 with
      | cons r0 rv1 =>
      cases rws with
      | cons rw0 rws =>
        unfold inOwn at P1
        split at P1
        · rename_i hc
          obtain ⟨hc, ho⟩ := hc
          obtain ⟨⟨c1, nm⟩, e1, rfl⟩ := Option.map_eq_some_iff.mp hc
          refine wpAny_mono (eq_item (Q := fun v H' => (v = .bl true ∧ Q (.bl true) H') ∨ (v = .bl false ∧ ∃ φ' st' ws' ys', StOk G φ' H' B b st' ∧ RV G φ' H' u x ∧ RVs G φ' H' ws' ys' ∧ Vals ys' rest ∧ Post G (fun c d H => W c d σ H) B b φ' H' (inOwn c1 f0 b u ws' st') (fun u φ' H' _ => ∀ v, RV G φ' H' u v → Q v H')))
            hG tk hm hs I1 S1 ru1 rw0 r1 r0 e1 ho (P1.bind.imp fun z φ' H' st' x' S' q v rv' => ?_)) (fun r s2 q => ?_) fun _ _ x => x
          · cases z with
            | bl c2 =>
              refine ⟨c2, rv'.bl_, ?_⟩
              cases c2 with
              | true => exact .inl ⟨rfl, q.okk S' _ rt_bl.rv⟩
              | false => exact .inr ⟨rfl, φ', st', _, _, S', ru1.mono x', RVs.mono x' rws, rv1, q⟩
            | _ => exact q.elim
          · obtain ⟨H', I', q⟩ := q
            cases r with
            | true =>
              rw [if_pos rfl]
              rcases q with q | q
              · exact ⟨.bl true, H', I', rfl, q.2⟩
              · cases q.1
            | false =>
              rw [if_neg (by decide)]
              rcases q with q | q
              · cases q.1
              · obtain ⟨_, φ', st', ws', ys', q1, q2, q3, q4, q5⟩ := q
                exact ⟨φ', H', st', ws', ys', I', q1, q2, q3, q4, q5⟩
        · exact P1.elim
    · obtain ⟨φ1, H1, st1, ws1, ys, I1, S1, ru1, rws, rv1, P1⟩ := h
      cases rv1
      cases rws
      exact ⟨.bl false, H1, I1, rfl, P1.okk S1 _ rt_bl.rv⟩
  · exact P.elim
end
end EV

set_option maxRecDepth 100000
/-! E27: texts with fields; types as values. -/
namespace EV
open PySem PySem.Spec PyProof.Rows L2
section
variable {G : Ge} {W : WX} {X : Cx} {φ : Ph} {H H' : Hp} {B : Nat → Prop} {b : Nat} {st : List U} {e : Expr} {fa : Ev U} {k : Nat} {pos : Pos} {σ : L2.St}
def eRep (fa : Ev U) : Ev U := fun b ρ st => (fa b ρ st).bind fun u st1 => match showU st1 u with
  | some z => .ok (.str z) st1
  | none => .stuck
theorem s_rep (hG : XG X G k) (he : PE X e (lift G W fa)) : PE X (.FormattedValue e 114 none pos) (lift G W (eRep fa)) := by
  refine ⟨fun pins s σ H Q I ⟨φ, st, ρ, B, b, R, S, P⟩ => ?_⟩
  refine wpAny_FormattedValue_repr (thn (he.run pins s σ H (fun v H1 => ∃ (φ1 : Ph) (st1 : List U) (u : U) (d : PyData), StOk G φ1 H1 B b st1 ∧ RV G φ1 H1 u v ∧ pq 9 st1 u = some d ∧ d.showable = true ∧ (d.hasDict = false ∨ noLst d = true) ∧ d.shown.length ≤ sizeLine ∧ d.depth ≤ 60 ∧ Q (.str d.shown) H1) I ⟨φ, st, ρ, B, b, R, S, P.bind.imp fun u φ1 H1 st1 x1 S1 q v r => ?_⟩) fun v s1 hv => ?_)
  · split at q
    · rename_i z ez
      unfold showU at ez
      split at ez
      · rename_i d ed
        split at ez
        · rename_i hc
          cases ez
          exact ⟨φ1, st1, u, d, S1, r, ed, hc.1, hc.2.1, hc.2.2.1, hc.2.2.2, q.okk S1 _ rt_str.rv⟩
        · cases ez
      · cases ez
    · exact q.elim
  · obtain ⟨x, H1, I1, r1, φ1, st1, u, d, S1, ru, ed, h1, h2, h3, h4, q⟩ := hv
    obtain ⟨as, hr, hn⟩ := pq_ok hG.K I1 S1 9 u x v d ru r1 ed
    have hu := hG.room.units
    have fin : ∀ t (h' : Heap) tk, (∀ b o, s1.heap.get? b = some o → h'.get? b = some o) → wpAny (model X.prog X.w) X.A (formatField (Value.str d.shown t) Str.empty) (EP X pins σ Q) X.xe { s1 with heap := h', toks := tk } := fun t h' tk hk =>
      wpAny_formatField_str ⟨.str _, H1, I1.kept hk, ⟨_, rfl⟩, q⟩ ⟨.str _, H1, I1.kept hk, ⟨_, rfl⟩, q⟩ h3
    have key : ∀ a, v = Value.ref a → wpAny (model X.prog X.w) X.A (pyReprObj v) (fun r s₂ => wpAny (model X.prog X.w) X.A (formatField r Str.empty) (EP X pins σ Q) X.xe s₂) X.xe s1 := fun a ea => by
      subst ea
      exact pyReprObj_of_reads hr h1 (fun z => hn (h2.resolve_left (by rw [z]; decide))) hG.gd (by omega) (fun _ _ q => q) (fun h' u tk hk => fin u h' tk hk) h3
    cases d with
    | none => cases hr; exact pyReprObj_none (fin _ _ _ fun _ _ q => q)
    | bool c => cases hr; exact pyReprObj_bool (fin _ _ _ fun _ _ q => q)
    | int i => cases hr; exact pyReprObj_int (by simpa [PyData.showable] using h1) (fin _ _ _ fun _ _ q => q)
    | str y => cases hr; exact pyReprObj_str (fin _ _ _ fun _ _ q => q) h3
    | list xs =>
      cases v with
      | ref a => exact key a rfl
      | _ => cases hr
    | tuple xs =>
      cases v with
      | ref a => exact key a rfl
      | _ => cases hr
    | dict xs =>
      cases v with
      | ref a => exact key a rfl
      | _ => cases hr
def eFmt (fa : Ev U) : Ev U := fun b ρ st => (fa b ρ st).bind fun u st1 => match u with
  | .str y => if y.length ≤ sizeLine then .ok (.str y) st1 else .stuck
  | .int i => if i.natAbs.log2 < 1920 then .ok (.str (toString i)) st1 else .stuck
  | _ => .stuck
theorem s_fmt (he : PE X e (lift G W fa)) : PE X (.FormattedValue e (-1) none pos) (lift G W (eFmt fa)) :=
  PEi (pe_fmt he) fun σ H Q ⟨φ, st, ρ, B, b, R, S, P⟩ => by
    refine (show lift G W fa σ H _ from ⟨φ, st, ρ, B, b, R, S, P.bind.imp fun u φ1 H1 st1 x1 S1 q v r => ?_⟩)
    cases u with
    | str y =>
      simp only at q
      split at q
      · rename_i hz
        exact .inl ⟨y, r.str_, hz, q.okk S1 _ rt_str.rv⟩
      · exact q.elim
    | int i =>
      simp only at q
      split at q
      · rename_i hz
        exact .inr ⟨i, r.int_, hz, q.okk S1 _ rt_str.rv⟩
      · exact q.elim
    | _ => exact q.elim
/-- the texts one behind the other -/
def eJs : List (Ev U) → Str → Ev U
  | [], acc => fun _ _ st => .ok (.str acc) st
  | f :: fs, acc => fun b ρ st => (f b ρ st).bind fun u st1 => match u with
    | .str y => if (acc ++ y).length ≤ sizeLine then eJs fs (acc ++ y) b ρ st1 else .stuck
    | _ => .stuck
theorem js_imp : ∀ (fs : List (Ev U)) (acc : Str) (σ : L2.St) (H : Hp) (Q : VK), lift G W (eJs fs acc) σ H Q → tJs (fs.map (lift G W)) acc σ H fun out H1 => Q (.str out) H1
  | [], acc, σ, H, Q, ⟨φ, st, ρ, B, b, R, S, P⟩ => P.okk S _ rt_str.rv
  | f :: fs, acc, σ, H, Q, ⟨φ, st, ρ, B, b, R, S, P⟩ => by
    refine (show lift G W f σ H _ from ⟨φ, st, ρ, B, b, R, S, P.bind.imp fun u φ1 H1 st1 x1 S1 q v r => ?_⟩)
    cases u with
    | str y =>
      simp only at q
      split at q
      · rename_i hz
        exact ⟨y, r.str_, hz, js_imp fs _ σ H1 Q ⟨φ1, st1, ρ, B, b, R.mono x1, S1, q⟩⟩
      · exact q.elim
    | _ => exact q.elim
/-- parts' judgements -/
inductive PJs (G : Ge) (W : WX) (X : Cx) : List Expr → List (Ev U) → Prop where
  | nil : PJs G W X [] []
  | cons {e : Expr} {f : Ev U} {es : List Expr} {fs : List (Ev U)} (h : PE X e (lift G W f)) (r : PJs G W X es fs) : PJs G W X (e :: es) (f :: fs)
theorem PJs.pj {es : List Expr} {fs : List (Ev U)} (h : PJs G W X es fs) : PJ X es (fs.map (lift G W)) := by
  induction h with
  | nil => exact .nil
  | cons h _ ih => exact .cons h ih
theorem s_joined {v1 v2 : Expr} {rest : List Expr} {fs : List (Ev U)} (h : PJs G W X (v1 :: v2 :: rest) fs) : PE X (.JoinedStr (v1 :: v2 :: rest) pos) (lift G W (eJs fs Str.empty)) :=
  PEi (pe_joined h.pj) fun σ H Q q => js_imp fs Str.empty σ H Q q
/-- a built-in type, a class, as a value -/
theorem pe_bty {x : Str} {T : String} (hg : Gl X x) (hm : X.mg x = none) (hv : bootBuiltins x = some (.type T)) (hn : x ≠ "__name__") (hd : (x == ("__debug__" : Str)) = false) : PE X (.Name x pos) (tC (.ty T)) :=
  ⟨fun pins s σ H Q I h => ld_blt I hg hm hv ⟨.ty T, H, I, rfl, h⟩ hn hd⟩
theorem rt_ty {T : String} : RT G φ H (.ty T) (.ty T) := by unfold RT; rfl
theorem rt_cl {c : Nat} {C : Addr} (h : G.cls[c]? = some C) : RT G φ H (.cl c) (.ref C) := by unfold RT; exact ⟨C, h, rfl⟩
end
end EV

set_option maxRecDepth 100000
/-! E33: {**d, k: v}, {**d, **e}. -/
namespace EV
open PySem PySem.Spec PyProof.Rows L2
open Sem (wp)
section
variable {prog : Program} {w : World} {K : Type} [DecidableEq K] {knd : KeyKind prog w K} {A : Around} {E : Value → Shared → Prop} {s : Shared}
/-- one entry told to a dict, its hash known -/
theorem put_pairs {d : Addr} {kvs : List (K × Value)} {k : K} {key v : Value} {Q : Unit → Shared → Prop} (hkey : knd.is k key = true) (hm : s.heap.DictOf knd d kvs) (hsz : kvs.length ≤ sizeLine)
    (hQ : ∀ h', h'.DictOf knd d (stored kvs k v) → Heap.SameBut d s.heap h' → Q () { s with heap := h' }) : wpAny (model prog w) A (dictPut d (knd.hash k) key v) Q E s := by
  obtain ⟨o, es, ep, ho, hc, hd, hk, hp, hn⟩ := hm
  have z0 : es.toList.length = es.size := Array.length_toList
  have z1 := hp.length
  have hes : es.size ≤ sizeLine := by omega
  unfold dictPut
  refine wpAny_bind (wpAny_dictFind_of hkey ho hd hk ?_)
  have ix : (es.findIdx? fun e => knd.is k e.key) = kvs.findIdx? fun p => decide (p.1 = k) := by rw [← hp.findIdx k]; cases es; simp
  cases q : es.findIdx? fun e => knd.is k e.key with
  | some i =>
    have hit : (kvs.any fun x => decide (x.1 = k)) = true := any_of_findIdx_some (ix.symm.trans q)
    refine wpAny_updateDict ho hd ((hQ _ ⟨_, _, ep, Heap.get?_update_self _ ho (Obj.isFreed_of_dict (Obj.data_mapDict hd _)), hc.mapDict _, Obj.data_mapDict hd _, hk.modify _ _, ?_, ?_⟩ (Heap.SameBut.update ..)))
    · rw [stored, if_pos hit]
      have q2 : (es.toList.findIdx? fun e => knd.is k e.key) = some i := by rw [← q]; cases es; simp
      have := hp.modify hn q2 v
      rwa [← Array.toList_modify] at this
    · rw [stored, if_pos hit, keys_map_store]; exact hn
  | none =>
    have new : k ∉ kvs.map (·.1) := not_mem_of_findIdx_none (ix.symm.trans q)
    have miss : ¬ (kvs.any fun x => decide (x.1 = k)) = true := fun z => by
      obtain ⟨x, m, e⟩ := List.any_eq_true.mp z
      exact new (List.mem_map.mpr ⟨x, m, of_decide_eq_true e⟩)
    refine wpAny_updateDictKeys (hz := hes) ho hd (hQ _ ⟨_, _, ep + 1, Heap.get?_update_self _ ho (Obj.isFreed_of_dict (Obj.data_mapDictKeys hd _)), hc.mapDictKeys _, Obj.data_mapDictKeys hd _, hk.push hkey _, ?_, ?_⟩ (Heap.SameBut.update ..))
    · rw [stored, if_neg miss, Array.toList_push]
      exact hp.append hkey (knd.hash k) v
    · rw [stored, if_neg miss, List.map_append]
      refine List.nodup_append.mpr ⟨hn, by simp, fun a ha b hb e => ?_⟩
      rw [List.map_cons, List.map_nil, List.mem_singleton] at hb
      exact new (by rw [show k = b from hb.symm, ← e]; exact ha)
/-- **o into d -/
theorem merge_pairs {d o : Addr} {kvs more : List (K × Value)} {Q : Unit → Shared → Prop} (hkr : ∀ k v, knd.is k v = true → ∀ a, v ≠ .ref a) (hdo : d ≠ o) (hoS : (o == sysModules) = false) (hd : s.heap.DictOf knd d kvs) (ho : s.heap.DictOf knd o more)
    (hQ : ∀ h', h'.DictOf knd d (merged kvs more) → h'.DictOf knd o more → Heap.SameBut d s.heap h' → Q () { s with heap := h' }) (hsz : kvs.length + more.length ≤ sizeLine) :
    wpAny (model prog w) A (mergeMapping d (.ref o) false) Q E s := by
  obtain ⟨od, esd, epd, hod, hcd, hdd, hkd, hpd, hnd⟩ := id hd
  obtain ⟨oo, eso, epo, hoo, hco, hdo', hko, hpo, hno⟩ := id ho
  have hlen : more.length = eso.size := by rw [← hpo.length, Array.length_toList]
  unfold mergeMapping
  refine wpAny_bind (wpAny_isInstance ho.typeIs isSubtype_dict_dict ?_)
  rw [if_pos rfl]
  refine wpAny_bind (wpAny_specialOf ho.typeIs F.slot_dict_iter.lookup ?_)
  rw [beq_self_eq_true]
  refine wpAny_bind (wpAny_pure ?_)
  dsimp only
  rw [if_neg (by rw [hoS]; exact Bool.false_ne_true)]
  refine wpAny_bind (wpAny_dictEntries hod hdd ?_)
  have loop : wpAny (model prog w) A (do
      let l ← dictEntries o
      let ep0 ← dictEpoch o
      forIn (List.range l.size) PUnit.unit fun i (_ : PUnit) => (do
        match (← dictEntries o)[i]? with
        | some e => do
          holding [e.key, e.val] (dictPut d e.hash e.key e.val)
          if ((← dictEpoch o) != ep0) = true then do
            (unsupported "dict.changed-during-merge" : Sem PUnit)
            pure (ForInStep.yield PUnit.unit)
          else pure (ForInStep.yield PUnit.unit)
        | _ => do
          (unsupported "dict.changed-during-merge" : Sem PUnit)
          pure (ForInStep.yield PUnit.unit) : Sem (ForInStep PUnit))
      pure ()) Q E s := by
    refine wpAny_bind (wpAny_dictEntries hoo hdo' (wpAny_bind (wpAny_dictEpoch hoo hdo' (wpAny_bind ?_))))
    refine wpAny_forIn_list _
      (fun rest _ s' => ∃ h' i, s' = { s with heap := h' } ∧ rest = (List.range eso.size).drop i ∧ i ≤ eso.size ∧ h'.DictOf knd d (merged kvs (more.take i)) ∧ h'.get? o = some oo ∧ Heap.SameBut d s.heap h')
      _ ?_ ?_ _ _ ⟨s.heap, 0, rfl, rfl, Nat.zero_le _, by simpa [merged] using hd, hoo, Heap.SameBut.refl _ _⟩
    · rintro x rest b s' ⟨h', i, rfl, hr, hi, hd', hoo', hs'⟩
      have hlt : i < eso.size := by
        rcases Nat.lt_or_ge i eso.size with h | h
        · exact h
        · rw [List.drop_eq_nil_of_le (by simpa using h)] at hr; cases hr
      rw [List.drop_eq_getElem_cons (by simpa using hlt), List.getElem_range] at hr
      injection hr with hx hrest
      subst hx
      refine wpAny_bind (wpAny_dictEntries hoo' hdo' ?_)
      rw [Array.getElem?_eq_getElem hlt]
      have hm : x < more.length := by rw [hlen]; exact hlt
      have hkv : more[x]? = some more[x] := List.getElem?_eq_getElem hm
      obtain ⟨hkey, hval⟩ := hpo.get? (e := eso[x]) (by simp [hlt]) hkv
      obtain ⟨k', hkey', hhash⟩ := hko eso[x] (Array.getElem_mem hlt)
      obtain rfl : k' = more[x].1 := knd.inj _ _ _ hkey' hkey
      have hle : (merged kvs (more.take x)).length ≤ sizeLine := by
        have e1 := merged_length_le kvs (more.take x)
        have e2 : (more.take x).length ≤ more.length := by rw [List.length_take]; omega
        omega
      refine wpAny_bind (wpAny_holding ?_)
      rw [hhash, hval]
      refine put_pairs hkey hd' hle fun h'' hd'' hs'' => ?_
      have hoo'' : h''.get? o = some oo := (hs''.2 o (Ne.symm hdo)).trans hoo'
      refine wpAny_bind (wpAny_dictEpoch hoo'' hdo' ?_)
      rw [if_neg (by simp)]
      exact wpAny_pure ⟨h'', x + 1, rfl, hrest, hlt, by rw [merged_take_succ kvs more x _ hkv]; exact hd'', hoo'', hs'.trans hs''⟩
    · rintro b s' ⟨h', i, rfl, hr, hi, hd', hoo', hs'⟩
      have hin : i = eso.size := by
        rcases Nat.lt_or_ge i eso.size with h | h
        · rw [List.drop_eq_getElem_cons (by simpa using h)] at hr; cases hr
        · exact Nat.le_antisymm hi h
      refine wpAny_pure (hQ h' ?_ ⟨oo, eso, epo, hoo', hco, hdo', hko, hpo, hno⟩ hs')
      rw [hin, ← hlen, List.take_length] at hd'
      exact hd'
  split
  · refine wpAny_bind (wpAny_dictEntries hoo hdo' (wpAny_bind ?_))
    rw [← Array.forIn_toList]
    refine wpAny_forIn_list _ (fun rest _ s' => s' = s ∧ ∀ e ∈ rest, e ∈ eso) _ ?_ ?_ _ _ ⟨rfl, fun e m => by simpa using m⟩
    · rintro e rest b s' ⟨rfl, hr⟩
      have nr : ∀ a, e.key ≠ .ref a := by
        obtain ⟨k, hk, _⟩ := hko e (hr e (List.mem_cons_self ..))
        exact hkr k _ hk
      split
      · rename_i a ea; exact absurd ea (nr a)
      · exact wpAny_pure ⟨rfl, fun e' m => hr e' (List.mem_cons_of_mem _ m)⟩
    · rintro b s' ⟨rfl, _⟩
      exact loop
  · exact loop
end
/-! ### on the tracked heap -/
theorem mix_ref {P : Program} {w : World} (k : Key) (v : Value) (h : (mixKind P w).is k v = true) (a : Addr) : v ≠ .ref a := by
  rcases keyIs_shape h with ⟨_, _, _, e⟩ | ⟨_, _, _, e⟩ <;> (rw [e]; exact nofun)
section
variable {X : Cx} {pins : List (Addr × Obj)} {σ : L2.St} {H : Hp} {s : Shared} {A : Around} {E : Value → Shared → Prop}
theorem step_merge {p a : Addr} {k0 kvs : List (Key × V)} {Q : Unit → Shared → Prop} (I : Inv X pins σ H s) (e0 : H p = some (.dK k0)) (e : Rd H a (.dK kvs)) (hne : p ≠ a) (hz : k0.length + kvs.length ≤ sizeLine)
    (h : ∀ s', Inv X pins σ (upd H p (.dK (mergeK k0 kvs))) s' → Q () s') : wpAny (model X.prog X.w) A (mergeMapping p (.ref a) false) Q E s := by
  obtain ⟨_, hd, vs, rel, dd⟩ := dk_rd I.hok e
  obtain ⟨_, hd0, vs0, rel0, dd0⟩ := dk_of I.hok e0
  have l1 := rel.length
  have l0 := rel0.length
  refine merge_pairs (fun k v q a => mix_ref k v q a) hne hd dd0 dd (fun h' d1 _ sb => h _ ?_) (by omega)
  have hx : ∃ q, h'.get? p = some q := let ⟨q, _, _, hq, _⟩ := d1; ⟨q, hq⟩
  have lm := length_mergeK kvs k0
  exact d_write I (by rw [e0]; exact True.intro) sb hx (dk_new (by omega) hd0 (rel.merge rel0) d1)
end
def evDt (X : Cx) (e : Expr) (pos : Pos) : Sem Value := do let x ← eval e X.env; standAt pos; pure x
theorem disp1_eq (k v0 v1 : Sem Value) : dictDisplay [(none, v0), (some k, v1)] = (do
    let d ← alloc { cls := .type "dict", data := .dict #[] }
    let m ← holding [.ref d] v0
    (((holding [.ref d, m] (mergeMapping d m false)).onRaise fun x => do let _ ← holding [.ref d, m, x] (runValue (.builtin "proto.let_go" {}))).tryCatch fun e => do
        if ← isInstance e (.type "AttributeError") then
          rule "dict.display.not-a-mapping"; raiseError "TypeError" s!"'{← typeNameOf m}' object is not a mapping"
        throw e).onRaise fun x => do let _ ← holding [.ref d, x] (runValue (.builtin "proto.let_go" {}))
    let sub ← holding [.ref d] (subDict [(k, v1)])
    (holding [.ref d, .ref sub] (mergeMapping d (.ref sub) false)).onRaise fun x => do let _ ← holding [.ref d, x] (runValue (.builtin "proto.let_go" {}))
    pure (.ref d)) := by
  unfold dictDisplay
  simp
/-- {**d, k: v}: the new dict p; the dict p2 of what is written -/
def tSp1 (td tk tv : TE) : TE := fun σ H Q => ∀ p, H p = none → td σ (upd H p (.dK [])) fun x H1 => H1 p = some (.dK []) ∧ ∃ a kvs, x = .ref a ∧ p ≠ a ∧ Rd H1 a (.dK kvs) ∧
  ∀ p2, upd H1 p (.dK (mergeK [] kvs)) p2 = none → tk σ (upd (upd H1 p (.dK (mergeK [] kvs))) p2 (.dK [])) fun y H2 => tv σ H2 fun z H3 => H3 p = some (.dK (mergeK [] kvs)) ∧ H3 p2 = some (.dK []) ∧ (mergeK [] kvs).length < sizeLine ∧ ∃ k, y = kV k ∧
    Q (.ref p) (upd (upd H3 p2 (.dK [(k, z)])) p (.dK (putK (mergeK [] kvs) k z)))
section
variable {X : Cx} {d k v : Expr} {td tk tv : TE} {pos : Pos}
theorem pe_sp1 (hd : PE X d td) (hk : PE X k tk) (hv : PE X v tv) : PE X (.Dict [none, some k] [d, v] pos) (tSp1 td tk tv) := by
  refine ⟨fun pins s σ H Q I q => ?_⟩
  rw [arm_eval_Dict]
  refine wpAny_bind (wpAny_standAt ?_)
  show wpAny _ _ (dictDisplay [(none, (do let x ← eval d X.env; standAt pos; pure x)), (some (eval k X.env), (do let x ← eval v X.env; standAt pos; pure x))]) _ _ s
  rw [disp1_eq]
  have hn := I.hok.fresh (Nat.le_refl s.heap.objs.size)
  have I1 := I.laid (a := s.heap.objs.size) (o := .dK []) (h' := s.heap.push { cls := .type "dict", data := .dict #[] }) (t' := s.toks) (fun _ _ q => Heap.get?_push_of_some _ q) (Nat.le_refl _) (dk_empty s.heap I.big)
  refine wpAny_bind (wpAny_alloc (wpAny_bind (wpAny_holding (wpAny_bind (thn (hd.run pins _ σ _ _ I1 (q _ hn)) fun u s2 ⟨x, H1, I2, rx, e1, a, kvs, ex, hne, er, q2⟩ => wpAny_bind (wpAny_standAt (wpAny_pure ?_)))))))
  subst ex
  obtain rfl : u = Value.ref a := rx
  have zk : kvs.length ≤ sizeLine := (dk_rd I2.hok er).1
  refine wpAny_bind (wpAny_onRaise (wpAny_tryCatch (wpAny_onRaise (wpAny_holding (step_merge I2 e1 er hne (by simpa using zk) fun s3 I3 => ?_)))))
  have hn3 := I3.hok.fresh (Nat.le_refl s3.heap.objs.size)
  have I4 := I3.laid (a := s3.heap.objs.size) (o := .dK []) (h' := s3.heap.push { cls := .type "dict", data := .dict #[] }) (t' := s3.toks) (fun _ _ q => Heap.get?_push_of_some _ q) (Nat.le_refl _) (dk_empty s3.heap I3.big)
  refine wpAny_bind (wpAny_holding (wpAny_subDict (knd := mixKind X.prog X.w) (Nat.le_of_ble_eq_true rfl) ?_))
  refine evalPairs_cons (thn (hk.run pins _ σ _ _ I4 (q2 _ hn3)) fun w1 s5 ⟨y, H2, I5, ry, q3⟩ => wpAny_bind (thn (hv.run pins s5 σ H2 _ I5 q3) fun w2 s6 ⟨z, H3, I6, rz, e2, e3, hl, k', ey, q4⟩ => wpAny_bind (wpAny_standAt (wpAny_pure (evalPairs_nil ?_)))))
  subst ey
  obtain ⟨_, hd2, vs0, r0, dd⟩ := dk_of I6.hok e3
  cases r0
  refine ⟨[(k', w2)], ⟨kV_is ry, rfl, trivial⟩, dd, fun h' dd' sb => ?_⟩
  have hx : ∃ q, h'.get? s3.heap.objs.size = some q := let ⟨q, _, _, hq, _⟩ := dd'; ⟨q, hq⟩
  have I7 : Inv X pins σ (upd H3 s3.heap.objs.size (.dK [(k', z)])) { s6 with heap := h', toks := s6.toks + 1 } :=
    d_write I6 (by rw [e3]; exact True.intro) sb hx (dk_new (by rw [sizeLine_eq, List.length_singleton]; omega) hd2 (kvs := [(k', z)]) (vs := [(k', w2)]) (.cons ⟨rfl, rz⟩ .nil) dd')
  have hpp : s.heap.objs.size ≠ s3.heap.objs.size := fun z => by
    rw [z] at e2; rw [e3] at e2
    rw [← z] at hn3
    rw [upd_same] at hn3; cases hn3
  refine wpAny_bind (wpAny_onRaise (wpAny_holding (step_merge (k0 := mergeK [] kvs) (kvs := [(k', z)]) I7 (by rw [upd_ne hpp]; exact e2) (.inl upd_same) hpp (by rw [List.length_singleton]; omega) fun s8 I8 => wpAny_pure ?_)))
  exact ⟨.ref s.heap.objs.size, _, I8, rfl, q4⟩
end
/-! ### in the evaluator -/
/-- a ghost is let go -/
theorem GRel.pop {G : Ge} {B : Nat → Prop} {b : Nat} {st : List U} {φ1 φ' : Ph} {H2 H' : Hp} {D : Addr} (g : GRel φ1 H2 D φ' H') (S : StOk G φ' H' B b st) : Ext φ1 H2 ⟨φ'.l, φ1.g⟩ H' ∧ StOk G ⟨φ'.l, φ1.g⟩ H' B b st := by
  obtain ⟨ψ, rfl⟩ := g.ph
  obtain ⟨S', nD⟩ := S.pop
  refine ⟨⟨⟨⟨ψ, rfl⟩, fun a u e n => ⟨(g.keep a u e n).1, Ph.not (Ph.nl (φ := ⟨φ1.l ++ ψ, D :: φ1.g⟩) (g.keep a u e n).2) (Ph.ng (φ := φ1) n)⟩⟩, rfl, g.gk, g.fz⟩, S'⟩
section
variable {G : Ge} {φ : Ph} {H : Hp} {B : Nat → Prop} {b : Nat} {st : List U}
/-- a dict that is told is no ghost -/
theorem dctAt_ne {u : U} {a p : Addr} {ks : List KK} {us : List U} (S : StOk G φ H B b st) (r : RV G φ H u (.ref a)) (e : dctAt u st = some (ks, us)) (hp : p ∈ φ.g) : p ≠ a := by
  cases u with
  | dct ks' us' =>
    obtain ⟨d, xs, o, e1, n, _⟩ := rt_dct (r.rt rfl)
    cases e1
    exact fun z => n (.inr (z ▸ hp))
  | ref n =>
    rcases r with ⟨m, a', e1, e2, e3⟩ | r
    · cases e3
      exact fun z => S.lg (List.mem_of_getElem? e2) (z ▸ hp)
    · exact absurd r.nref (by simp [U.isRef])
  | _ => cases e
theorem zip_paired : ∀ {kk : List Key} {us : List U} {xs : List V}, RVs G φ H us xs → Paired (fun (p : Key × U) (kv : Key × V) => p.1 = kv.1 ∧ RV G φ H p.2 kv.2) (kk.zip us) (kk.zip xs)
  | [], _, _, _ => .nil
  | _ :: _, _, _, .nil => .nil
  | k :: kk, _, _, .cons h t => .cons ⟨rfl, h⟩ (zip_paired t)
theorem DO.at {ks : List KK} {kk : List Key} {xs : List V} {o : HO} (h : DO ks xs (some o)) (e : kks ks = some kk) : kk.length = xs.length ∧ (o = .dK (kk.zip xs)) := by
  obtain ⟨hl, h⟩ := h
  obtain rfl := kks_ok e
  rw [List.length_map] at hl
  refine ⟨hl, ?_⟩
  rcases h with ⟨kk2, e2, e3⟩ | ⟨kk2, e2, hne, e3⟩
  · have : kk = kk2 := by
      have inj : ∀ (a b : List Key), a.map KK.a = b.map KK.a → a = b := fun a => by
        induction a with
        | nil => intro b h; cases b with
          | nil => rfl
          | cons _ _ => cases h
        | cons x a ih => intro b h; cases b with
          | nil => cases h
          | cons y b => rw [List.map_cons, List.map_cons] at h; injection h with h1 h2; cases h1; rw [ih b h2]
      exact inj _ _ e2
    rw [this]; exact Option.some.inj e3
  · cases kk2 with
    | nil => exact absurd rfl hne
    | cons y r => cases kk with
      | nil => cases e2
      | cons x r' => rw [List.map_cons, List.map_cons] at e2; injection e2 with z _; cases z
end
noncomputable def eSp1 (live : Bool) (fd fk fv : Ev U) : Ev U := fun b ρ st => (noX (fd b ρ st)).bind fun x st1 => match dctAt x st1 with
  | some (ks, us) => (match kks ks with
    | some kk => (noX (fk b ρ st1)).bind fun y st2 => (noX (fv b ρ st2)).bind fun z st3 => match toKey y with
      | some k => if (mergeU ([], []) (kk.zip us)).1.length < sizeLine then ofO (mk live (.dct ((kput (mergeU ([], []) (kk.zip us)).1 (mergeU ([], []) (kk.zip us)).2 k z).1.map KK.a)) (kput (mergeU ([], []) (kk.zip us)).1 (mergeU ([], []) (kk.zip us)).2 k z).2 st3) else .stuck
      | none => .stuck
    | none => .stuck)
  | none => .stuck
section
variable {G : Ge} {W : WX} {X : Cx} {d k v : Expr} {fd fk fv : Ev U} {pos : Pos} {live : Bool}
theorem s_sp1 (hd : PE X d (lift G W fd)) (hk : PE X k (lift G W fk)) (hv : PE X v (lift G W fv)) : PE X (.Dict [none, some k] [d, v] pos) (lift G W (eSp1 live fd fk fv)) := by
  refine PEi (pe_sp1 hd hk hv) fun σ H Q ⟨φ, st, ρ, B, b, R, S, P⟩ p hp => ?_
  have x0 : GRel φ H p ⟨φ.l, p :: φ.g⟩ (upd H p (.dK [])) := GRel.start hp S
  have S0 : StOk G ⟨φ.l, p :: φ.g⟩ (upd H p (.dK [])) B b st := S.push hp (fun _ z => by cases z)
  refine ⟨_, st, ρ, B, b, ⟨R.1, fun i u e => let ⟨v, a, r⟩ := R.2 i u e; ⟨v, a, r.mono' x0.las⟩⟩, S0, ?_⟩
  unfold eSp1 at P
  cases e1 : fd b ρ st with
  | stuck => rw [e1] at P; exact P
  | exc ex st1 => rw [e1] at P; exact P.elim
  | ok x st1 =>
  rw [e1] at P
  intro φ1 H1 x1 S1 vx rx
  have g1 := x0.ext x1
  have hp1 : H1 p = some (.dK []) := by rw [x1.gkp p x0.mem]; exact upd_same
  refine ⟨hp1, ?_⟩
  have P : Post G (fun c d H => W c d σ H) B b φ H (match dctAt x st1 with
    | some (ks, us) => (match kks ks with
      | some kk => (noX (fk b ρ st1)).bind fun y st2 => (noX (fv b ρ st2)).bind fun z st3 => match toKey y with
        | some k => if (mergeU ([], []) (kk.zip us)).1.length < sizeLine then ofO (mk live (.dct ((kput (mergeU ([], []) (kk.zip us)).1 (mergeU ([], []) (kk.zip us)).2 k z).1.map KK.a)) (kput (mergeU ([], []) (kk.zip us)).1 (mergeU ([], []) (kk.zip us)).2 k z).2 st3) else .stuck
        | none => .stuck
      | none => .stuck)
    | none => .stuck) (fun u φ' H' _ => ∀ v, RV G φ' H' u v → Q v H') := P
  cases e2 : dctAt x st1 with
  | none => rw [e2] at P; exact P.elim
  | some q =>
  obtain ⟨ks, us⟩ := q
  rw [e2] at P
  simp only at P
  cases e3 : kks ks with
  | none => rw [e3] at P; exact P.elim
  | some kk =>
  rw [e3] at P
  simp only at P
  obtain ⟨a, xs, o, rfl, er, hdo, rxs⟩ := dctAt_ok S1 rx e2
  obtain ⟨hl, rfl⟩ := hdo.at e3
  obtain ⟨xs1, m1, m2, m3⟩ := merge_ok (acc := ([], [])) (xs := []) rfl .nil (zip_paired (kk := kk) rxs)
  have m1 : mergeK [] (kk.zip xs) = (mergeU ([], []) (kk.zip us)).1.zip xs1 := m1
  refine ⟨a, kk.zip xs, rfl, dctAt_ne S1 rx e2 g1.mem, er, fun p2 hp2 => ?_⟩
  rw [m1] at hp2 ⊢
  have nt : ∀ zs, HO.dK ((mergeU ([], []) (kk.zip us)).1.zip xs1) ≠ .tup zs := fun _ z => by cases z
  have g2 : GRel φ H p φ1 (upd H1 p (.dK ((mergeU ([], []) (kk.zip us)).1.zip xs1))) := g1.upd hp S
  have S2 : StOk G φ1 (upd H1 p (.dK ((mergeU ([], []) (kk.zip us)).1.zip xs1))) B b st1 := S1.ghost g1.mem nt
  have l2 : Las φ1 H1 φ1 (upd H1 p (.dK ((mergeU ([], []) (kk.zip us)).1.zip xs1))) := Las.ghost g1.mem
  have x3 : GRel φ1 (upd H1 p (.dK ((mergeU ([], []) (kk.zip us)).1.zip xs1))) p2 ⟨φ1.l, p2 :: φ1.g⟩ (upd (upd H1 p (.dK ((mergeU ([], []) (kk.zip us)).1.zip xs1))) p2 (.dK [])) := GRel.start hp2 S2
  have S3 : StOk G ⟨φ1.l, p2 :: φ1.g⟩ (upd (upd H1 p (.dK ((mergeU ([], []) (kk.zip us)).1.zip xs1))) p2 (.dK [])) B b st1 := S2.push hp2 (fun _ z => by cases z)
  have R3 : StR G ⟨φ1.l, p2 :: φ1.g⟩ (upd (upd H1 p (.dK ((mergeU ([], []) (kk.zip us)).1.zip xs1))) p2 (.dK [])) ρ σ := ⟨R.1, fun i u e => let ⟨v, a, r⟩ := R.2 i u e; ⟨v, a, (r.mono' g2.las).mono' x3.las⟩⟩
  refine ⟨_, st1, ρ, B, b, R3, S3, ?_⟩
  cases e4 : fk b ρ st1 with
  | stuck => rw [e4] at P; exact P.elim
  | exc ex st1 => rw [e4] at P; exact P.elim
  | ok y st2 =>
  rw [e4] at P
  intro φ4 H4 x4 S4 vy ry
  refine ⟨_, st2, ρ, B, b, R3.mono x4, S4, ?_⟩
  have P : Post G (fun c d H => W c d σ H) B b φ H ((noX (fv b ρ st2)).bind fun z st3 => match toKey y with
        | some k => if (mergeU ([], []) (kk.zip us)).1.length < sizeLine then ofO (mk live (.dct ((kput (mergeU ([], []) (kk.zip us)).1 (mergeU ([], []) (kk.zip us)).2 k z).1.map KK.a)) (kput (mergeU ([], []) (kk.zip us)).1 (mergeU ([], []) (kk.zip us)).2 k z).2 st3) else .stuck
        | none => .stuck) (fun u φ' H' _ => ∀ v, RV G φ' H' u v → Q v H') := P
  cases e5 : fv b ρ st2 with
  | stuck => rw [e5] at P; exact P.elim
  | exc ex st1 => rw [e5] at P; exact P.elim
  | ok z st3 =>
  rw [e5] at P
  intro φ5 H5 x5 S5 vz rz
  have P : Post G (fun c d H => W c d σ H) B b φ H (match toKey y with
        | some k => if (mergeU ([], []) (kk.zip us)).1.length < sizeLine then ofO (mk live (.dct ((kput (mergeU ([], []) (kk.zip us)).1 (mergeU ([], []) (kk.zip us)).2 k z).1.map KK.a)) (kput (mergeU ([], []) (kk.zip us)).1 (mergeU ([], []) (kk.zip us)).2 k z).2 st3) else .stuck
        | none => .stuck) (fun u φ' H' _ => ∀ v, RV G φ' H' u v → Q v H') := P
  cases e6 : toKey y with
  | none => rw [e6] at P; exact P.elim
  | some key =>
  rw [e6] at P
  simp only at P
  split at P
  · rename_i hlt
    have g5 := (x3.ext x4).ext x5
    have hp2' : H5 p2 = some (.dK []) := by rw [x5.gkp p2 (x3.ext x4).mem, x4.gkp p2 x3.mem]; exact upd_same
    have xx : Ext φ1 (upd H1 p (.dK ((mergeU ([], []) (kk.zip us)).1.zip xs1))) ⟨φ5.l, φ1.g⟩ H5 := (g5.pop S5).1
    have hp' : H5 p = some (.dK ((mergeU ([], []) (kk.zip us)).1.zip xs1)) := by rw [xx.gkp p g1.mem]; exact upd_same
    refine ⟨hp', hp2', by rw [List.length_zip, ← m2]; omega, key, toKey_ok e6 ry, ?_⟩
    -- the end
    have g6 : GRel φ1 (upd H1 p (.dK ((mergeU ([], []) (kk.zip us)).1.zip xs1))) p2 φ5 (upd H5 p2 (.dK [(key, vz)])) := g5.upd hp2 S2
    have S6 : StOk G φ5 (upd H5 p2 (.dK [(key, vz)])) B b st3 := S5.ghost g5.mem (fun _ z => by cases z)
    obtain ⟨x7, S7⟩ := g6.pop S6
    have l6 : Las φ5 H5 φ5 (upd H5 p2 (.dK [(key, vz)])) := Las.ghost g5.mem
    obtain ⟨ψ, e7⟩ := g6.ph
    have l7 : Las φ5 (upd H5 p2 (.dK [(key, vz)])) ⟨φ5.l, φ1.g⟩ (upd H5 p2 (.dK [(key, vz)])) := by rw [e7]; exact Las.pop
    have g8 := g2.ext x7
    have rz8 := ((rz.mono' l6).mono' l7).mono' (Las.ghost (o := .dK (putK ((mergeU ([], []) (kk.zip us)).1.zip xs1) key vz)) g8.mem)
    have r8 := ((m3.mono' l2).mono' x7.toLas).mono' (Las.ghost (o := .dK (putK ((mergeU ([], []) (kk.zip us)).1.zip xs1) key vz)) g8.mem)
    obtain ⟨xs', e8, l8, r9⟩ := kput_ok (k := key) m2 r8 rz8
    have g9 := g8.upd (o := .dK (putK ((mergeU ([], []) (kk.zip us)).1.zip xs1) key vz)) hp S
    have S9 : StOk G ⟨φ5.l, φ1.g⟩ (upd (upd H5 p2 (.dK [(key, vz)])) p (.dK (putK ((mergeU ([], []) (kk.zip us)).1.zip xs1) key vz))) B b st3 := S7.ghost g8.mem (fun _ z => by cases z)
    have hal : (mergeU ([], []) (kk.zip us)).2.length = (mergeU ([], []) (kk.zip us)).1.length := by rw [r8.len, m2]
    have hd : HeadOk G (.dct ((kput (mergeU ([], []) (kk.zip us)).1 (mergeU ([], []) (kk.zip us)).2 key z).1.map KK.a)) (fun vs => .dK ((kput (mergeU ([], []) (kk.zip us)).1 (mergeU ([], []) (kk.zip us)).2 key z).1.zip vs)) (kput (mergeU ([], []) (kk.zip us)).1 (mergeU ([], []) (kk.zip us)).2 key z).2.length := by
      rw [(kput_len (k := key) (u := z) hal).1]; exact head_dct
    obtain ⟨φ3, u, st4, r, k⟩ := mk_ghost hd .refl hp g9 S9 (by rw [upd_same, e8]) r9 (Post.ofO P)
    exact k _ r
  · exact P.elim
end
end EV

set_option maxRecDepth 100000
/-! E26: the core language and its evaluator. -/
namespace EV
open PySem PySem.Spec PyProof.Rows L2
open Classical
/-! ### the core language -/
inductive C where
  | v (i : Nat) | k (u : K0) | no
  | g (x : Str)
  | bin (op : Operator) (a b : C) | cmp (op : CmpOp) (a b : C) | neg (a : C)
  | chain (op1 op2 : CmpOp) (a b c : C)
  | and_ (a b : C) | or_ (a b : C) | not_ (a : C) | ife (t a b : C)
  | tup (l : List C) | lst (live : Bool) (l : List C) | dct0 (live : Bool) | dctm (live : Bool) (d a b : C)
  | bf (live : Bool) (x : Str) (l : List C)
  | call (live : Bool) (i : Nat) (n m : Nat) (p : Perm) (l kw : List C)
  | make (live : Bool) (c i : Nat) (n m : Nat) (p : Perm) (l kw : List C)
  | meth (live : Bool) (x : Str) (ds : List (Nat × Nat × Perm)) (n m : Nat) (o : C) (l kw : List C)
  | bm (live : Bool) (x : Str) (o : C) (l : List C)
  | fld (o : C) (f : Str)
  | ix (a b : C) | sl (live : Bool) (a lo hi : C) | rev (live : Bool) (a : C)
  | rng1 (a : C) | rng2 (a b : C) | items (a : C) | enum (a : C)
  | lc (live : Bool) (own : List Nat) (it : C) (s : TgS) (t : C) (elt : C)
  | dc (live : Bool) (own : List Nat) (it : C) (s : TgS) (t : C) (kx vx : C)
  | litems (live : Bool) (a : C) | lvals (live : Bool) (a : C) | sumv (a : C) | rep (a : C) | fmt (a : C) | js (l : List C)
instance : Inhabited C := ⟨.no⟩
/-- the program's functions -/
structure Pg where
  fn : Nat → Fn
  bin : Operator → PrW
  cmp : CmpOp → PrW
  ix : PrW
  bf : Bool → Str → PrAW
  bmT : Str → List String
  bm : Bool → Str → String → PrM
  sl : Bool → PrSl
  rev : Bool → Pr1
  set : Pr3
  glob : Str → Option U
def evStuck {α : Type} : Ev α := fun _ _ _ => .stuck
/-- o.m(..), a built-in's method, by the receiver's type -/
def eMs (ts : List String) (p : String → PrM) (fa : Ev U) (fs : Ev (List U)) : Ev U := fun b ρ st => (fa b ρ st).bind fun x st1 => match ts.find? fun T => tyU T x st1 with
  | some T => (fs b ρ st1).bind fun xs st2 => ofO (p T b x xs st2)
  | none => .stuck
/-- a node's readings: as a value, as a test, walked -/
structure EA where
  e : Ev U
  t : Ev Bool
  i : Ev IV
def ea (e : Ev U) : EA := ⟨e, eTest e, itVal e⟩
def eaI (i : Ev IV) : EA := ⟨evStuck, evStuck, i⟩
def isNo : C → Bool
  | .no => true
  | _ => false
mutual
noncomputable def evA (P : Pg) : C → EA
  | .v i => ea (eVar i)
  | .k u => ea (eC u.u)
  | .g x => ea (match P.glob x with
    | some u => eC u
    | none => evStuck)
  | .bin op a b => ea (eW (P.bin op) (evA P a).e (evA P b).e)
  | .cmp op a b => { ea (eW (P.cmp op) (evA P a).e (evA P b).e) with t := eTB (eW (P.cmp op) (evA P a).e (evA P b).e) }
  | .neg a => ea (e1 (fun _ u st => match u with
    | .int i => some (.int (-i), st)
    | _ => none) (evA P a).e)
  | .chain op1 op2 a b c => { ea (eChain (P.cmp op1) (P.cmp op2) (evA P a).e (evA P b).e (evA P c).e) with t := eTB (eChain (P.cmp op1) (P.cmp op2) (evA P a).e (evA P b).e (evA P c).e) }
  | .and_ a b => { ea (eAnd (evA P a).e (evA P b).e) with t := eTAnd (evA P a).t (evA P b).t }
  | .or_ a b => { ea (eOr (evA P a).e (evA P b).e) with t := eTOr (evA P a).t (evA P b).t }
  | .not_ a => { ea (eNot (evA P a).e) with t := eTNot (evA P a).t }
  | .ife t a b => { ea (tIfE (evA P t).t (evA P a).e (evA P b).e) with t := evStuck }
  | .tup l => ea (eTup (evEs P l))
  | .lst live l => ea (eLst live (evEs P l))
  | .dct0 live => ea (fun _ _ st => ofO (mk live (.dct []) [] st))
  | .dctm live d a b => ea (eSp1 live (evA P d).e (evA P a).e (evA P b).e)
  | .bf live x l => ea (eAW (P.bf live x) (evEs P l))
  | .call live i n m p l kw => ea (eCal live (P.fn i) p.fill n m (evEs P l) (evEs P kw))
  | .make live c i n m p l kw => ea (eMake live c (P.fn i) p.fill n m (evEs P l) (evEs P kw))
  | .meth live x ds n m o l kw => ea (eMeth live x (fun c => (ds.lookup c).map fun q => (Perm.fill q.2, P.fn q.1)) n m (evA P o).e (evEs P l) (evEs P kw))
  | .bm live x o l => ea (eMs (P.bmT x) (P.bm live x) (evA P o).e (evEs P l))
  | .fld o f => ea (eFld f (evA P o).e)
  | .ix a b => ea (eW P.ix (evA P a).e (evA P b).e)
  | .sl live a lo hi => ea (eSl (P.sl live) (evA P a).e (if isNo lo = true then none else some (evA P lo).e) (if isNo hi = true then none else some (evA P hi).e))
  | .rev live a => ea (e1 (P.rev live) (evA P a).e)
  | .lc live own it s t elt => ea (eLc live own (evA P it).i s (if isNo t = true then fun _ _ st => .ok true st else (evA P t).t) (evA P elt).e)
  | .dc live own it s t kx vx => ea (eDc live own (evA P it).i s (if isNo t = true then fun _ _ st => .ok true st else (evA P t).t) (evA P kx).e (evA P vx).e)
  | .litems live a => ea (eLItems live (evA P a).e)
  | .lvals live a => ea (eLVals live (evA P a).e)
  | .sumv a => ea (eSumV (evA P a).e)
  | .rep a => ea (eRep (evA P a).e)
  | .fmt a => ea (eFmt (evA P a).e)
  | .js l => ea (eJs (evFs P l) Str.empty)
  | .no => ea evStuck
  | .rng1 a => eaI (itRng1 (eCons (evA P a).e eNil))
  | .rng2 a b => eaI (itRng2 (eCons (evA P a).e (eCons (evA P b).e eNil)))
  | .items a => eaI (itItems (evA P a).e)
  | .enum a => eaI (itEnum (eCons (evA P a).e eNil))
noncomputable def evEs (P : Pg) : List C → Ev (List U)
  | [] => eNil
  | a :: l => eCons (evA P a).e (evEs P l)
noncomputable def evFs (P : Pg) : List C → List (Ev U)
  | [] => []
  | a :: l => (evA P a).e :: evFs P l
end
noncomputable abbrev evE (P : Pg) (c : C) : Ev U := (evA P c).e
noncomputable abbrev evT (P : Pg) (c : C) : Ev Bool := (evA P c).t
noncomputable abbrev evI (P : Pg) (c : C) : Ev IV := (evA P c).i
/-! ### statements -/
inductive T where
  | nm (i : Nat) | tp (l : List T) | sub (o i : C)
inductive S where
  | nil | seq (a b : S) | expr (e : C) | asg (t : T) (e : C) | par (is : List Nat) (l : List C) | unp (ts : List T) (l : List C) | ret (e : C) | retN | ife (t : C) (a b : S) | for_ (it : C) (t : T) (b : S) | while_ (t : C) (b : S) | brk | cnt | stuck
  | fld (o : C) (f : Str) (e : C)
mutual
noncomputable def evTg (P : Pg) : T → Tg
  | .nm i => gVar i
  | .tp l => gTupE l.length (evTgs P l)
  | .sub o i => gSubE P.set (evE P o) (evE P i)
noncomputable def evTgs (P : Pg) : List T → Tgs
  | [] => gsNil
  | t :: l => gsCons (evTg P t) (evTgs P l)
end
/-- o.f = e, at an object that may change -/
def putE (f : Str) (u : U) : List Str → List U → List Str × List U
  | n :: ns, w :: us => if n = f then (n :: ns, u :: us) else ((n :: (putE f u ns us).1), w :: (putE f u ns us).2)
  | _, _ => ([f], [u])
def sFldE (f : Str) (fo fa : Ev U) : Sv := exS fa fun u => exS fo fun o b ρ st => match o with
  | .ref n => (match st[n]? with
    | some (.ins c ns us) => if ns.length < 1000 ∧ (b ≤ n ∨ u.isRef = false) then .ok (.nx, ρ) (st.set n (.ins c (putE f u ns us).1 (putE f u ns us).2)) else .stuck
    | _ => .stuck)
  | _ => .stuck
/-- x, y, .. = e1, e2, .. with plain local names -/
def setAll : List Nat → List U → En → En
  | i :: is, u :: us, ρ => setAll is us (ρ.set i (some u))
  | _, _, ρ => ρ
def sParL (is : List Nat) (fs : Ev (List U)) : Sv := exS fs fun us _ ρ st => if us.length = is.length then .ok (.nx, setAll is us ρ) st else .stuck
/-- .. with other targets, one behind the other -/
def sUnp (n : Nat) (fs : Ev (List U)) (tgs : Tgs) : Sv := exS fs fun us b ρ st => if us.length = n ∧ us.length ≤ sizeLine then match tgs us b ρ st with
  | some (ρ', st') => .ok (.nx, ρ') st'
  | none => .stuck
  else .stuck
/-- a while's turns at most -/
def most : Nat := 1000000
noncomputable def evS (P : Pg) : S → Sv
  | .nil => sNil
  | .seq a b => sSeq (evS P a) (evS P b)
  | .expr e => sExpr (evE P e)
  | .asg t e => sAsg (evE P e) (evTg P t)
  | .par is l => sParL is (evEs P l)
  | .unp ts l => sUnp ts.length (evEs P l) (evTgs P ts)
  | .ret e => sRet (evE P e)
  | .retN => sRetN
  | .ife t a b => sIf (evT P t) (evS P a) (evS P b)
  | .for_ it t b => sFor (evI P it) (evTg P t) (evS P b)
  | .while_ t b => whileL (evT P t) (evS P b) most
  | .brk => sBrk
  | .cnt => sCnt
  | .stuck => sStuck
  | .fld o f e => sFldE f (evE P o) (evE P e)
end EV

set_option maxRecDepth 100000
/-! E11: chains, fields stored, methods by the receiver's type, displays. -/
namespace EV
open PySem PySem.Spec PyProof.Rows L2
open Classical
section
variable {G : Ge} {W : WX} {X : Cx} {a c d e t o : Expr} {es : List Expr} {fa fb fc : Ev U} {fs fk : Ev (List U)} {pos p apos : Pos} {x : Str}
variable {σ : L2.St} {H : Hp} {Q : VK} {φ : Ph} {B : Nat → Prop} {b : Nat} {st : List U}
theorem chain_split {p q : PrW} (h : lift G W (eChain p q fa fb fc) σ H Q) : lift G W fa σ H fun x H1 => lift G W fb σ H1 fun y H2 => rW G W σ p x y H2 fun z H3 => ∃ k, z = .bl k ∧
    if k = true then lift G W fc σ H3 (fun w H4 => rW G W σ q y w H4 Q) else Q (.bl false) H3 := by
  obtain ⟨φ, st, ρ, B, b, R, S, P⟩ := h
  refine ⟨φ, st, ρ, B, b, R, S, P.bind.imp fun u φ1 H1 st1 x1 S1 q1 v r => ?_⟩
  refine ⟨φ1, st1, ρ, B, b, R.mono x1, S1, q1.bind.imp fun w φ2 H2 st2 x2 S2 q2 y r2 => ⟨φ2, st2, B, b, u, w, S2, r.mono x2, r2, q2.bind.imp fun z φ3 H3 st3 x3 S3 q3 zv rz => ?_⟩⟩
  cases z with
  | bl k =>
    refine ⟨k, rz.bl_, ?_⟩
    cases k with
    | false => rw [if_neg (by decide)]; exact q3.okk S3 _ rt_bl.rv
    | true =>
      rw [if_pos rfl]
      exact ⟨φ3, st3, ρ, B, b, ((R.mono x1).mono x2).mono x3, S3, q3.bind.imp fun w4 φ4 H4 st4 x4 S4 q4 v4 r4 => ⟨φ4, st4, B, b, w, w4, S4, (r2.mono x3).mono x4, r4, q4⟩⟩
  | _ => exact q3.elim
theorem s_chainW {op op' : CmpOp} {p q : PrW} (ho : OpW G W X (compareOp op) p) (ho' : OpW G W X (compareOp op') q) (ha : PE X a (lift G W fa)) (hb : PE X c (lift G W fb)) (hc : PE X d (lift G W fc))
    (hm : lastMarks [op, op'] [c, d] = false) : PE X (.Compare a [op, op'] [c, d] pos) (lift G W (eChain p q fa fb fc)) := by
  refine ⟨fun pins s σ H Q I h => ?_⟩
  refine Compare_chain (thn (ha.run pins s σ H _ I (chain_split h)) fun v s1 ⟨x, H1, I1, r1, q1⟩ => chain_link (thn (hb.run pins s1 σ H1 _ I1 q1) fun u s2 ⟨y, H2, I2, r2, φ, st, B, b, uu, w, S, ru, rw_, q2⟩ =>
    thn (ho pins s2 σ H2 (fun z H3 => ∃ k, z = .bl k ∧ if k = true then lift G W fc σ H3 (fun w H4 => rW G W σ q y w H4 Q) else Q (.bl false) H3) φ st B b uu w x y v u I2 r1 r2 S ru rw_ q2) fun d s3 ⟨z, H3, I3, r3, k, e, q3⟩ => ?_)) hm
  subst e
  cases r3
  refine wpAny_truthy_bool ?_
  cases k with
  | false => rw [if_neg (by decide)] at q3; exact ite_ff ⟨.bl false, H3, I3, rfl, q3⟩
  | true =>
    rw [if_pos rfl] at q3
    exact ite_tt (chain_last (thn (hc.run pins s3 σ H3 _ I3 q3) fun w' s4 ⟨z', H4, I4, r4, φ, st, B, b, uu, w, S, ru, rw_, q4⟩ => ho' pins s4 σ H4 Q φ st B b uu w y z' u w' I4 r2 r4 S ru rw_ q4))
theorem s_tchainW {op op' : CmpOp} {p q : PrW} (ho : OpW G W X (compareOp op) p) (ho' : OpW G W X (compareOp op') q) (ha : PE X a (lift G W fa)) (hb : PE X c (lift G W fb)) (hc : PE X d (lift G W fc))
    (hm : lastMarks [op, op'] [c, d] = false) : PT X (.Compare a [op, op'] [c, d] pos) (liftT G W (eTB (eChain p q fa fb fc))) := by
  refine ⟨fun pins s σ H Q I h => ?_⟩
  have h2 : lift G W (eChain p q fa fb fc) σ H fun x H' => ∃ k, x = .bl k ∧ Q k H' := by
    obtain ⟨φ, st, ρ, B, b, R, S, P⟩ := h
    refine ⟨φ, st, ρ, B, b, R, S, P.bind.imp fun u φ' H' st' x' S' q v r => ?_⟩
    cases u with
    | bl k => exact ⟨k, r.bl_, q.okk S'⟩
    | _ => exact q.elim
  refine isTrue_chain (thn (ha.run pins s σ H _ I (chain_split h2)) fun v s1 ⟨x, H1, I1, r1, q1⟩ => test_link (thn (hb.run pins s1 σ H1 _ I1 q1) fun u s2 ⟨y, H2, I2, r2, φ, st, B, b, uu, w, S, ru, rw_, q2⟩ =>
    thn (ho pins s2 σ H2 (fun z H3 => ∃ k, z = .bl k ∧ if k = true then lift G W fc σ H3 (fun w H4 => rW G W σ q y w H4 fun x H' => ∃ k, x = .bl k ∧ Q k H') else ∃ k, V.bl false = .bl k ∧ Q k H3) φ st B b uu w x y v u I2 r1 r2 S ru rw_ q2) fun d s3 ⟨z, H3, I3, r3, k, e, q3⟩ => ?_)) hm
  subst e
  cases r3
  refine wpAny_truthy_bool ?_
  cases k with
  | false =>
    rw [if_neg (by decide)] at q3
    obtain ⟨k', e', q'⟩ := q3
    cases e'
    exact ite_ff ⟨H3, I3, q'⟩
  | true =>
    rw [if_pos rfl] at q3
    refine ite_tt (test_last (thn (hc.run pins s3 σ H3 _ I3 q3) fun w' s4 ⟨z', H4, I4, r4, φ, st, B, b, uu, w, S, ru, rw_, q4⟩ => thn (ho' pins s4 σ H4 (fun x H' => ∃ k, x = .bl k ∧ Q k H') φ st B b uu w y z' u w' I4 r2 r4 S ru rw_ q4) fun d' s5 ⟨z2, H5, I5, r5, k2, e2, q5⟩ => ?_))
    subst e2
    cases r5
    exact wpAny_truthy_bool ⟨H5, I5, q5⟩
/-! ### e.f = value -/
theorem putF_zip {f : Str} {u : U} {y : V} (ry : RV G φ H u y) : ∀ {ns : List Str} {us : List U} {xs : List V}, ns.length = xs.length → RVs G φ H us xs →
    ∃ xs', putF f y (ns.zip xs) = (putE f u ns us).1.zip xs' ∧ (putE f u ns us).1.length = xs'.length ∧ RVs G φ H (putE f u ns us).2 xs'
  | [], _, [], _, .nil => ⟨[y], rfl, rfl, .cons ry .nil⟩
  | n :: ns, _, x :: xs, hl, .cons h t => by
    unfold putE
    rw [List.zip_cons_cons]
    unfold putF
    by_cases e : n = f
    · rw [if_pos e, if_pos e]
      exact ⟨y :: xs, rfl, by simpa using hl, .cons ry t⟩
    · rw [if_neg e, if_neg e]
      obtain ⟨xs', e1, e2, e3⟩ := putF_zip ry (by simpa using hl) t
      exact ⟨x :: xs', by rw [e1]; rfl, by simp [e2], .cons h e3⟩
theorem putE_ref {f : Str} {u : U} {m : Nat} : ∀ {ns : List Str} {us : List U}, ns.length = us.length → U.ref m ∈ (putE f u ns us).2 → u = .ref m ∨ U.ref m ∈ us
  | [], [], _, h => by simp [putE] at h; exact .inl h.symm
  | n :: ns, w :: us, hl, h => by
    unfold putE at h
    split at h
    · rcases List.mem_cons.mp h with e | h
      · exact .inl e.symm
      · exact .inr (List.mem_cons_of_mem _ h)
    · rcases List.mem_cons.mp h with e | h
      · exact .inr (by rw [e]; exact List.mem_cons_self ..)
      · rcases putE_ref (by simpa using hl) h with e | e
        · exact .inl e
        · exact .inr (List.mem_cons_of_mem _ e)
theorem s_sfld {f : Str} {pos' : Pos} (hK : X.K = G.K) (hf : FldOk G f) (ho : PE X o (lift G W fb)) (hv : PE X e (lift G W fa)) (hs : swapsWith e (some (.Attribute o f pos')) pos.line X.env = pure false) :
    PS X (.Assign [.Attribute o f pos'] e pos) (liftS G W (sFldE f fb fa)) :=
  PSi (ps_fld ho hv hs) fun D σ H ⟨φ, st, ρ, B, b, R, S, P⟩ => by
    refine ⟨φ, st, ρ, B, b, R, S, (exS_post R P).imp fun u φ1 H1 st1 x1 S1 q y ry => ?_⟩
    refine ⟨φ1, st1, ρ, B, b, R.mono x1, S1, (exS_post (R.mono x1) q).imp fun w φ2 H2 st2 x2 S2 q2 z rz => ?_⟩
    split at q2
    · rename_i n
      split at q2
      · rename_i c ns us eu
        split at q2
        · rename_i hn
          obtain ⟨p, rfl, ep, hp, C, dx, xs, hc, hl, co, r⟩ := rv_ref S2 rz eu
          unfold FldOk at hf
          rw [← hK] at hf
          obtain ⟨h1, h2⟩ := hf c C hc
          obtain ⟨xs', e1, e2, e3⟩ := putF_zip (ry.mono x2) hl r
          have hap : p ∈ φ2.l := List.mem_of_getElem? ep
          have co' : CO G φ2 H2 (.ins c (putE f u ns us).1 (putE f u ns us).2) (some (.ins C dx ((putE f u ns us).1.zip xs'))) := ⟨C, dx, xs', hc, e2, rfl, e3⟩
          refine ⟨p, C, dx, _, rfl, co, h1, h2, by rw [List.length_zip]; omega, ?_⟩
          rw [e1]
          have xs_ := Ext.set (o := .ins C dx ((putE f u ns us).1.zip xs')) S2 hap (fun _ _ z => by rw [co] at z; cases z)
          refine q2 φ2 _ xs_ (S2.set ep co' ?_) σ ((R.mono x1).mono (x2.trans xs_))
          rcases hn.2 with hb | hr
          · exact .inl hb
          · refine .inr fun m hm => ⟨_, eu, ?_⟩
            rcases putE_ref (by rw [hl, r.len]) hm with e | e
            · rw [e] at hr; exact absurd hr (by simp [U.isRef])
            · exact e
        · exact q2.elim
      · exact q2.elim
    · exact q2.elim
/-! ### methods of built-ins -/
theorem s_ms {ts : List String} {name : Str} {p : String → PrM} (hK : X.K = G.K) (hts : ∀ T ∈ ts, ∃ id, PlainAttrs T ∧ Slot T name id ∧ typeOf (.builtin id) = pure (.type "method_descriptor") ∧ MtR X id (rM G (p T))) (ho : PE X a (lift G W fa)) (ha : PA X (e :: es) (liftA G W fs))
    (hbase : attributeBase a name X.env (eval a X.env) = eval a X.env)
    (hfew : ((backTo pos (starEach (e :: es) X.env)).all (fun x => !x.1) && (backToKw pos (keywordEach [] X.env)).all (fun x => x.1.isSome)
      && decide ((e :: es).length + ([] : List Keyword).length + (if ([] : List Keyword).isEmpty then 0 else 1) < 30)) = true)
    (hline : (apos.endLine == pos.line) = true) (hs : starEach (e :: es) X.env = (false, eval e X.env) :: starEach es X.env) (hplain : (backTo pos (starEach es X.env)).any (·.1) = false) :
    PE X (.Call (.Attribute a name apos) (e :: es) [] pos) (lift G W (eMs ts p fa fs)) := by
  refine ⟨fun pins s σ H Q I ⟨φ, st, ρ, B, b, R, S, P⟩ => ?_⟩
  have h1 : lift G W fa σ H fun v H1 => ∃ φ1 st1 u T, StOk G φ1 H1 B b st1 ∧ StR G φ1 H1 ρ σ ∧ RV G φ1 H1 u v ∧ T ∈ ts ∧ tyU T u st1 = true ∧
      Post G (fun c d H => W c d σ H) B b φ1 H1 ((fs b ρ st1).bind fun xs st2 => ofO (p T b u xs st2)) fun u φ' H' _ => ∀ v, RV G φ' H' u v → Q v H' :=
    ⟨φ, st, ρ, B, b, R, S, P.bind.imp fun u φ1 H1 st1 x1 S1 q v r => by
      split at q
      · rename_i T eT
        exact ⟨φ1, st1, u, T, S1, R.mono x1, r, List.mem_of_find?_eq_some eT, (by have := List.find?_some eT; exact this), q⟩
      · exact q.elim⟩
  refine wpAny_Call_method_late hbase hfew hline rfl (thn (ho.run pins s σ H _ I h1) fun v s1 ⟨x, H1, I1, rx, φ1, st1, u, T, S1, R1, r, hT, ty, q⟩ => ?_)
  obtain ⟨id, pa, slot, hty, hm⟩ := hts T hT
  obtain ⟨h1, h2⟩ := tyU_is hK I1 S1 r rx ty
  refine ⟨T, id, pa, slot, hty, h1, h2, ?_⟩
  have hA := ha.run pos pins s1 σ H1 (fun xs H2 => rM G (p T) x xs H2 Q) I1 ⟨φ1, st1, ρ, B, b, R1, S1, q.bind.imp fun us φ2 H2 st2 x2 S2 q2 vs rs => ⟨φ2, st2, B, b, u, us, S2, r.mono x2, rs, q2.ofO⟩⟩
  rw [hs] at hA ⊢
  refine Calls.callWith_builtin (by show (false || (backTo pos (starEach es X.env)).any (·.1)) = false; rw [hplain] <;> rfl) (Calls.evalArgs_plain ?_)
  exact thn hA fun us s2 ⟨vs, H2, I2, r2, q2⟩ => hm pins s2 σ H2 x vs v us Q I2 rx r2 q2
theorem s_ms0 {ts : List String} {name : Str} {p : String → PrM} (hK : X.K = G.K) (hts : ∀ T ∈ ts, ∃ id, PlainAttrs T ∧ Slot T name id ∧ typeOf (.builtin id) = pure (.type "method_descriptor") ∧ MtR X id (rM G (p T))) (ho : PE X a (lift G W fa))
    (hbase : attributeBase a name X.env (eval a X.env) = eval a X.env) (hline : (apos.endLine == pos.line) = true) :
    PE X (.Call (.Attribute a name apos) [] [] pos) (lift G W (eMs ts p fa eNil)) := by
  refine ⟨fun pins s σ H Q I ⟨φ, st, ρ, B, b, R, S, P⟩ => ?_⟩
  have h1 : lift G W fa σ H fun v H1 => ∃ φ1 st1 u T, StOk G φ1 H1 B b st1 ∧ RV G φ1 H1 u v ∧ T ∈ ts ∧ tyU T u st1 = true ∧
      PostO G B b φ1 H1 (p T b u [] st1) fun u φ' H' _ => ∀ v, RV G φ' H' u v → Q v H' :=
    ⟨φ, st, ρ, B, b, R, S, P.bind.imp fun u φ1 H1 st1 x1 S1 q v r => by
      split at q
      · rename_i T eT
        exact ⟨φ1, st1, u, T, S1, r, List.mem_of_find?_eq_some eT, (by have := List.find?_some eT; exact this), (q.bind.okk S1).ofO⟩
      · exact q.elim⟩
  refine wpAny_Call_method0_late hbase hline (thn (ho.run pins s σ H _ I h1) fun v s1 ⟨x, H1, I1, rx, φ1, st1, u, T, S1, r, hT, ty, q⟩ => ?_)
  obtain ⟨id, pa, slot, hty, hm⟩ := hts T hT
  obtain ⟨h1, h2⟩ := tyU_is hK I1 S1 r rx ty
  exact ⟨T, id, pa, slot, hty, h1, h2, Calls.callWith_builtin rfl (PySem.evalArgs_none (hm pins s1 σ H1 x [] v [] Q I1 rx .nil ⟨φ1, st1, B, b, u, [], S1, r, .nil, q⟩))⟩
theorem s_dct0 {live : Bool} : PE X (.Dict [] [] pos) (lift G W fun _ _ st => ofO (mk live (.dct []) [] st)) :=
  PEi pe_dnewK fun σ H Q ⟨φ, st, ρ, B, b, R, S, P⟩ p hp => mk_fin (o := fun vs => .dK (([] : List Key).zip vs)) (head_dct (kk := [])) S .nil P.ofO p hp
/-- xs[::-1] -/
def pRevL (live : Bool) : Pr1 := fun _ u st => match lstOf u st with
  | some (us, _) => mk live .lst us.reverse st
  | none => none
end
end EV

set_option maxRecDepth 100000
/-! E12: what is seen of the syntax. -/
namespace EV
open PySem PySem.Spec PyProof.Rows L2

def noStar : Expr → Bool
  | .Starred .. => false
  | _ => true
theorem star_cons {e : Expr} {es : List Expr} {env : PySem.Env} (h : noStar e = true) : starEach (e :: es) env = (false, eval e env) :: starEach es env := by
  cases e <;> first | rfl | cases h
theorem star_all {env : PySem.Env} : ∀ {es : List Expr}, es.all noStar = true → (starEach es env).all (fun x => !x.1) = true ∧ (starEach es env).any (·.1) = false
  | [], _ => ⟨rfl, rfl⟩
  | e :: es, h => by
    rw [List.all_cons, Bool.and_eq_true] at h
    obtain ⟨h1, h2⟩ := star_all (env := env) h.2
    rw [star_cons h.1]
    exact ⟨by simp [h1], by simp [h2]⟩
theorem backTo_any {pos : Pos} {l : List (Bool × Sem Value)} : (backTo pos l).any (·.1) = l.any (·.1) := by
  unfold backTo
  rw [List.any_map]; rfl
theorem backTo_all {pos : Pos} {l : List (Bool × Sem Value)} : (backTo pos l).all (fun x => !x.1) = l.all (fun x => !x.1) := by
  unfold backTo
  rw [List.all_map]; rfl
def kwNames (kws : List Keyword) : List (Option Str) := kws.map fun k => match k with | ⟨n, _, _⟩ => n
theorem kwEach {env : PySem.Env} : ∀ {kws : List Keyword}, (keywordEach kws env).map (·.1) = kwNames kws
  | [] => rfl
  | ⟨n, v, p⟩ :: r => by
    show n :: (keywordEach r env).map (·.1) = _
    rw [kwEach] <;> rfl
theorem backToKw_map {pos : Pos} {l : List (Option Str × Sem Value)} : (backToKw pos l).map (·.1) = l.map (·.1) := by
  unfold backToKw
  rw [List.map_map]; rfl
theorem kw_all {env : PySem.Env} {pos : Pos} {kws : List Keyword} {ks : List Str} (h : kwNames kws = ks.map some) :
    (backToKw pos (keywordEach kws env)).all (·.1.isSome) = true ∧ (backToKw pos (keywordEach kws env)).any (·.1.isNone) = false ∧ (backToKw pos (keywordEach kws env)).filterMap (·.1) = ks := by
  have e : (backToKw pos (keywordEach kws env)).map (·.1) = ks.map some := by rw [backToKw_map, kwEach, h]
  generalize backToKw pos (keywordEach kws env) = l at e
  refine ⟨?_, ?_, ?_⟩
  · have : (l.map (·.1)).all (·.isSome) = true := by rw [e, List.all_map]; simp [Function.comp_def]
    rw [List.all_map] at this; exact this
  · have : (l.map (·.1)).any (·.isNone) = false := by rw [e, List.any_map]; simp [Function.comp_def]
    rw [List.any_map] at this; exact this
  · have : (l.map (·.1)).filterMap id = ks := by rw [e]; simp [List.filterMap_map]
    rw [List.filterMap_map] at this; exact this
def okBase : Expr → Bool
  | .Call (.Name _ _) [] [] _ => false
  | _ => true
theorem base_ok {o : Expr} {m : Str} {env : PySem.Env} (h : okBase o = true) : attributeBase o m env (eval o env) = eval o env := by
  unfold attributeBase
  split
  · rename_i id p q
    cases h
  · rfl
def plainT : Expr → Bool
  | .UnaryOp .Not _ _ => false
  | .BoolOp .. => false
  | .IfExp .. => false
  | .Compare .. => false
  | _ => true
theorem plainT_ok {e : Expr} {env : PySem.Env} (h : plainT e = true) (whole : Sem Value) : isTrue e env whole = (do let v ← whole; standAt e.pos; holding [v] (truthy v)) := by
  cases e with
  | UnaryOp op _ _ => cases op <;> first | rfl | cases h
  | BoolOp => cases h
  | IfExp => cases h
  | Compare => cases h
  | _ => rfl
def plainIx : Expr → Bool
  | .Slice .. => false
  | _ => true
theorem plainIx_ok {e : Expr} (h : plainIx e = true) : PlainIx e ∧ ∀ v1 v2, subscripted e true v1 v2 = runValue (.builtin "lifetime.subscript" ⟨[v1, v2], []⟩) := by
  cases e <;> first | exact ⟨fun _ _ => rfl, fun _ _ => rfl⟩ | cases h
def noSet : Expr → Bool
  | .Set .. => false
  | _ => true
theorem noSet_ok {e : Expr} {env : PySem.Env} (h : noSet e = true) (x : Value) : foldedSetIterable e env x = pure x := by
  cases e <;> first | rfl | cases h
theorem noSet_behind {e : Expr} (op : CmpOp) (h : noSet e = true) : behindInMarks op e = false := by
  cases e <;> first | rfl | cases h
def noComp : Expr → Bool
  | .ListComp .. => false
  | .SetComp .. => false
  | .DictComp .. => false
  | _ => true
theorem noComp_swaps {e : Expr} {t : Option Expr} {n : Nat} {env : PySem.Env} (h : noComp e = true) : swapsWith e t n env = pure false := by
  cases e <;> first | rfl | cases h
theorem noComp_sole {e t : Expr} {n : Nat} {env : PySem.Env} (h : noComp e = true) : swapsWithSole [t] e n env = pure false := noComp_swaps h
/-- a comprehension stored elsewhere than in a name -/
def subT : Expr → Bool
  | .Subscript .. => true
  | .Attribute .. => true
  | .Tuple .. => true
  | _ => false
theorem subT_sole {e t : Expr} {n : Nat} {env : PySem.Env} (h : subT t = true) : swapsWithSole [t] e n env = pure false := by
  cases t <;> first | (cases e <;> rfl) | cases h
def noTup : Expr → Bool
  | .Tuple .. => false
  | .List .. => false
  | _ => true
theorem noTup_sw {t e : Expr} {env : PySem.Env} (h : noTup t = true ∨ noTup e = true) : swappedStores [t] e env = pure none := by
  rcases h with h | h
  · cases t <;> first | (cases e <;> rfl) | cases h
  · cases e <;> first | (cases t <;> rfl) | cases h
theorem asgEach1 {t : Expr} {env : PySem.Env} (h : noStar t = true) : (assignEach [t] env).map (·.2) = [assign t env] := by
  cases t <;> first | rfl | cases h
theorem asgCons {t : Expr} {r : List Expr} {env : PySem.Env} (h : noStar t = true) : assignEach (t :: r) env = (false, assign t env) :: assignEach r env := by
  cases t <;> first | rfl | cases h
theorem asgEach {env : PySem.Env} : ∀ {l : List Expr}, l.all noStar = true → (assignEach l env).findIdx? (·.1) = none ∧ (assignEach l env).length = l.length
  | [], _ => ⟨rfl, rfl⟩
  | t :: r, h => by
    rw [List.all_cons, Bool.and_eq_true] at h
    obtain ⟨h1, h2⟩ := asgEach (env := env) h.2
    rw [asgCons h.1]
    exact ⟨by simp [List.findIdx?_cons, h1], by simp [h2]⟩
theorem asgSub {a c : Expr} {pos : Pos} {env : PySem.Env} (h : plainIx c = true) (v : Value) : assign (.Subscript a c pos) env v = (do
      let ov ← holding [v] (eval a env)
      let iv ← holding [v, ov] (eval c env)
      standAt pos
      holding [v, ov, iv] (setItem ov iv v)
      release [v, ov, iv] []) := by
  cases c <;> first | rfl | cases h
/-- o.m(..) as it is run -/
theorem meth_tree {o : Expr} {m : Str} {apos pos : Pos} {args : List Expr} {kws : List Keyword} {env : PySem.Env} {ks : List Str} (hb : okBase o = true) (hs : args.all noStar = true) (hk : kwNames kws = ks.map some) (hn : decide (args.length + kws.length + 1 < 30) = true) (hl : (apos.endLine == pos.line) = true) :
    eval (.Call (.Attribute o m apos) args kws pos) env = (do
      let ov ← eval o env
      standAt apos.atName
      let (f, first) ← holding [ov] (getMethod ov m (do return (← importBound o env).getD true))
      callWith pos f first (backTo pos (starEach args env)) (backToKw pos (keywordEach kws env))) := by
  have hf : methodCallForm (args.length + kws.length) (backTo pos (starEach args env)) (backToKw pos (keywordEach kws env)) = true := by
    unfold methodCallForm
    rw [backTo_all, (star_all hs).1, (kw_all hk).1]
    have := of_decide_eq_true hn
    simp only [Bool.and_self, Bool.true_and, decide_eq_true_eq]
    split <;> omega
  rw [arm_eval_Call, base_ok hb]
  unfold methodCall
  rw [hf]
  unfold methodCallPos calleeOf
  rw [hl]
  rfl
end EV

set_option maxRecDepth 100000
/-! E13: from the text's syntax to the core; expressions are kept. -/
namespace EV
open PySem PySem.Spec PyProof.Rows L2
open Classical

structure Sig where
  ps : List Str
  dfl : List K0
def sigAt (sg : Sig) (n : Nat) (ks : List Str) (j : Nat) : Option (Sum Nat K0) :=
  if j < n then some (.inl j) else match sg.ps[j]? with
    | none => none
    | some x => match ks.findIdx? (· == x) with
      | some i => some (.inl (n + i))
      | none => if sg.ps.length - sg.dfl.length ≤ j then (sg.dfl[j - (sg.ps.length - sg.dfl.length)]?).map .inr else none
def sigPerm (sg : Sig) (n : Nat) (ks : List Str) : Option Perm := (List.range sg.ps.length).mapM (sigAt sg n ks)
inductive GK where
  | fn (i : Nat) (sg : Sig) | cls (c i : Nat) (sg : Sig) | cst | bf | ty
structure Cg where
  N : List Str
  sc : Scope
  fc : Option Scope
  glob : List (Str × GK)
  meth : List (Str × List (Nat × Nat × Sig))
  bms : List Str
  flds : List Str
  shapes : List (Nat × Nat × List Str)
  live : List (Nat × Nat)
def Cg.blk (Γ : Cg) (scope : Scope) : Cg := { Γ with sc := relS scope Γ.sc, fc := some scope }
def fnb (Γ : Cg) (x : Str) : Bool := match Γ.fc with
  | none => true
  | some sc => sc.names.lookup x == some .cell
def locIx (Γ : Cg) (x : Str) : Option Nat := match Γ.sc.names.lookup x with
  | some .local => if x == ("__debug__" : Str) || x == ("__classdict__" : Str) then none else Γ.N.findIdx? (· == x)
  | some .cell => if x == ("__debug__" : Str) || x == ("__classdict__" : Str) then none else Γ.N.findIdx? (· == x)
  | some .free => if x == ("__debug__" : Str) || x == ("__classdict__" : Str) then none else Γ.N.findIdx? (· == x)
  | _ => none
def tIx (Γ : Cg) (x : Str) : Option Nat := match Γ.sc.names.lookup x with
  | some .local => Γ.N.findIdx? (· == x)
  | some .cell => if fnb Γ x = true then Γ.N.findIdx? (· == x) else none
  | _ => none
def glK (Γ : Cg) (x : Str) : Option GK := match Γ.sc.names.lookup x with
  | some .globalImplicit => if x == ("__debug__" : Str) || x == ("__name__" : Str) then none else Γ.glob.lookup x
  | _ => none
def liveAt (Γ : Cg) (p : Pos) : Bool := Γ.live.contains (p.line, p.col)
section
variable (Γ : Cg) (f : Expr → Option C) (fb : Scope → Expr → Option C)
def compL : List Expr → Option (List C)
  | [] => some []
  | e :: es => if noStar e = true then match f e, compL es with
    | some c, some cs => some (c :: cs)
    | _, _ => none
    else none
def compKw : List Keyword → Option (List Str × List C)
  | [] => some ([], [])
  | ⟨some x, e, _⟩ :: r => (match f e, compKw r with
    | some c, some q => some (x :: q.1, c :: q.2)
    | _, _ => none)
  | ⟨none, _, _⟩ :: _ => none
def cName (x : Str) : Option C := match locIx Γ x with
  | some i => some (.v i)
  | none => match glK Γ x with
    | some .cst => some (.g x)
    | some .ty => some (.g x)
    | some (.cls _ _ _) => some (.g x)
    | _ => none
def cConst : Const → Option C
  | .none => some (.k .non)
  | .bool b => some (.k (.bl b))
  | .int i => some (.k (.int i))
  | .str x => some (.k (.str x))
  | _ => none
def cBool (op : BoolOp) : List Expr → Option C
  | [] => none
  | [a] => f a
  | a :: r => match f a, cBool op r with
    | some x, some y => some (match op with | .And => .and_ x y | .Or => .or_ x y)
    | _, _ => none
def cCmp (a : Expr) (ops : List CmpOp) (cs : List Expr) : Option C := match ops, cs with
  | [op], [b] => if noSet b = true then (match f a, f b with
    | some x, some y => some (.cmp op x y)
    | _, _ => none) else none
  | [op1, op2], [b, c] => if noSet c = true then (match f a, f b, f c with
    | some x, some y, some z => some (.chain op1 op2 x y z)
    | _, _, _ => none) else none
  | _, _ => none
def cOpt : Option Expr → Option C
  | none => some .no
  | some e => match f e with
    | some c => if isNo c = true then none else some c
    | none => none
def cSub (a i : Expr) (pos : Pos) : Option C := match i with
  | .Slice none none (some (.UnaryOp .USub (.Constant (.int 1) _ _) _)) _ => (f a).map (.rev (liveAt Γ pos))
  | .Slice lo hi none _ => (match f a, cOpt f lo, cOpt f hi with
    | some x, some y, some z => some (.sl (liveAt Γ pos) x y z)
    | _, _, _ => none)
  | i => if plainIx i = true then (match f a, f i with
    | some x, some y => some (.ix x y)
    | _, _ => none) else none
def cCallN (x : Str) (args : List Expr) (kws : List Keyword) (pos : Pos) : Option C := match glK Γ x with
  | some (.fn i sg) => (match compL f args, compKw f kws with
    | some l, some kw => if Γ.shapes.contains (i, args.length, kw.1) = true then (sigPerm sg args.length kw.1).map fun p => .call (liveAt Γ pos) i args.length kw.1.length p l kw.2 else none
    | _, _ => none)
  | some (.cls c i sg) => (match compL f args, compKw f kws with
    | some l, some kw => if Γ.shapes.contains (i, args.length + 1, kw.1) = true then (sigPerm sg (args.length + 1) kw.1).map fun p => .make (liveAt Γ pos) c i args.length kw.1.length p l kw.2 else none
    | _, _ => none)
  | some .bf => (match args, kws with
    | _ :: _, [] => (compL f args).map (.bf (liveAt Γ pos) x)
    | _, _ => none)
  | some .ty => (match kws with
    | [] => (compL f args).map (.bf (liveAt Γ pos) x)
    | _ => none)
  | _ => none
/-- list(o.items()), list(o.values()), sum(o.values()) -/
def cView (x : Str) (args : List Expr) (kws : List Keyword) (pos : Pos) : Option C := match args, kws with
  | [.Call (.Attribute o m apos) [] [] cpos], [] => if okBase o = true ∧ (apos.endLine == cpos.line) = true then
      (match glK Γ x with
      | some .ty => if x = "list" ∧ m = "items" then (f o).map (.litems (liveAt Γ pos)) else if x = "list" ∧ m = "values" then (f o).map (.lvals (liveAt Γ pos)) else none
      | some .bf => if x = "sum" ∧ m = "values" then (f o).map .sumv else none
      | _ => none) else none
  | _, _ => none
/-- the parts of a text with fields -/
def cParts : List Expr → Option (List C)
  | [] => some []
  | .FormattedValue e c none _ :: r => (match f e, cParts r with
    | some x, some l => if c = 114 then some (.rep x :: l) else if c = -1 then some (.fmt x :: l) else none
    | _, _ => none)
  | .Constant (.str z) _ _ :: r => (cParts r).map fun l => .k (.str z) :: l
  | _ => none
def cJoined (vs : List Expr) : Option C := match vs with
  | _ :: _ :: _ => (cParts f vs).map .js
  | _ => none
def cMethL (n : Nat) (ks : List Str) : List (Nat × Nat × Sig) → Option (List (Nat × Nat × Perm))
  | [] => some []
  | (c, i, sg) :: r => if Γ.shapes.contains (i, n + 1, ks) = true then (match sigPerm sg (n + 1) ks, cMethL n ks r with
    | some p, some q => some ((c, i, p) :: q)
    | _, _ => none) else none
def cCallM (o : Expr) (m : Str) (apos : Pos) (args : List Expr) (kws : List Keyword) (pos : Pos) : Option C :=
  if okBase o = true ∧ (apos.endLine == pos.line) = true ∧ decide (args.length + kws.length + 1 < 30) = true then
    match f o, compL f args, compKw f kws with
    | some co, some l, some kw => if Γ.bms.contains m = true then (match kws with
        | [] => some (.bm (liveAt Γ pos) m co l)
        | _ => none)
      else (match Γ.meth.lookup m with
        | some ds => (cMethL Γ args.length kw.1 ds).map fun q => .meth (liveAt Γ pos) m q args.length kw.1.length co l kw.2
        | none => none)
    | _, _, _ => none
  else none
def isTup : Expr → Bool
  | .Tuple .. => true
  | _ => false
/-- what is walked, at a target -/
def cIter (tg e : Expr) : Option C := match e with
  | .Call (.Name x _) [a] [] _ => (match glK Γ x with
    | some .ty => if noStar a = true then (if x == ("range" : Str) then (f a).map .rng1 else if x == ("enumerate" : Str) && isTup tg then (f a).map .enum else f e) else none
    | _ => f e)
  | .Call (.Name x _) [a, b] [] _ => (match glK Γ x with
    | some .ty => if x == ("range" : Str) && (noStar a && noStar b) then (match f a, f b with
        | some ca, some cb => some (.rng2 ca cb)
        | _, _ => none) else f e
    | _ => f e)
  | .Call (.Attribute o m apos) [] [] pos => if m == ("items" : Str) && (isTup tg && (okBase o && (apos.endLine == pos.line))) then (f o).map .items else f e
  | e => f e
def tgCL (g : Expr → Option TgS) : List Expr → Option (List TgS)
  | [] => some []
  | e :: es => if noStar e = true then match g e, tgCL g es with
    | some t, some ts => some (t :: ts)
    | _, _ => none
    else none
def tgC : Nat → Expr → Option TgS
  | 0, _ => none
  | n + 1, e => match e with
    | .Name x _ => (tIx Γ x).map .nm
    | .Tuple es _ _ => (tgCL (tgC n) es).map .tp
    | _ => none
def ownOf (scope : Scope) : List (Str × Nat) := scope.names.filterMap fun y => match y.2 with
  | .local => (Γ.N.findIdx? (· == y.1)).map fun i => (y.1, i)
  | .cell => (Γ.N.findIdx? (· == y.1)).map fun i => (y.1, i)
  | _ => none
def cIfs (g : Expr → Option C) : List Expr → Option C
  | [] => some .no
  | [e] => cOpt g (some e)
  | _ => none
def cLcomp (elt : Expr) (gens : List Comprehension) (scope : Scope) (pos : Pos) : Option C := match gens with
  | [⟨tg, it, ifs, k⟩] => (match tgC (Γ.blk scope) 8 tg, cIter Γ f tg it, cIfs (fb scope) ifs, fb scope elt with
    | some s, some ci, some ct, some ce => if k = 0 ∧ noSet it = true ∧ blkC Γ.N Γ.sc scope (ownOf Γ scope) = true ∧ (s.names.all fun j => ((ownOf Γ scope).map (·.2)).contains j) = true then some (.lc (liveAt Γ pos) ((ownOf Γ scope).map (·.2)) ci s ct ce) else none
    | _, _, _, _ => none)
  | _ => none
def cDcomp (kx vx : Expr) (gens : List Comprehension) (scope : Scope) (pos : Pos) : Option C := match gens with
  | [⟨tg, it, ifs, k⟩] => (match tgC (Γ.blk scope) 8 tg, cIter Γ f tg it, cIfs (fb scope) ifs, fb scope kx, fb scope vx with
    | some s, some ci, some ct, some ck, some cv => if k = 0 ∧ noSet it = true ∧ blkC Γ.N Γ.sc scope (ownOf Γ scope) = true ∧ (s.names.all fun j => ((ownOf Γ scope).map (·.2)).contains j) = true then some (.dc (liveAt Γ pos) ((ownOf Γ scope).map (·.2)) ci s ct ck cv) else none
    | _, _, _, _, _ => none)
  | _ => none
end
def comp : Nat → Cg → Expr → Option C
  | 0, _, _ => none
  | n + 1, Γ, e => match e with
    | .Name x _ => cName Γ x
    | .Constant c _ _ => cConst c
    | .BinOp a op b _ => (match comp n Γ a, comp n Γ b with
      | some x, some y => some (.bin op x y)
      | _, _ => none)
    | .UnaryOp op a _ => (match op with
      | .Not => (comp n Γ a).map .not_
      | .USub => (comp n Γ a).map .neg
      | _ => none)
    | .BoolOp op vs _ => cBool (comp n Γ) op vs
    | .Compare a ops cs _ => cCmp (comp n Γ) a ops cs
    | .IfExp t a b _ => (match comp n Γ t, comp n Γ a, comp n Γ b with
      | some x, some y, some z => some (.ife x y z)
      | _, _, _ => none)
    | .Tuple es _ _ => (compL (comp n Γ) es).map .tup
    | .List es pos => (compL (comp n Γ) es).map (.lst (liveAt Γ pos))
    | .Dict ks vs pos => (match ks, vs with
      | [], [] => some (.dct0 (liveAt Γ pos))
      | [none, some k], [d, v] => (match comp n Γ d, comp n Γ k, comp n Γ v with
        | some x, some y, some z => some (.dctm (liveAt Γ pos) x y z)
        | _, _, _ => none)
      | _, _ => none)
    | .Attribute o x _ => if okBase o = true ∧ Γ.flds.contains x = true then (comp n Γ o).map (.fld · x) else none
    | .Subscript a i pos => cSub Γ (comp n Γ) a i pos
    | .Call g args kws pos => (match g with
      | .Name x _ => (match cView Γ (comp n Γ) x args kws pos with
        | some c => some c
        | none => cCallN Γ (comp n Γ) x args kws pos)
      | .Attribute o m apos => cCallM Γ (comp n Γ) o m apos args kws pos
      | _ => none)
    | .JoinedStr vs _ => cJoined (comp n Γ) vs
    | .ListComp elt gens scope pos => cLcomp Γ (comp n Γ) (fun sc => comp n (Γ.blk sc)) elt gens scope pos
    | .DictComp kx vx gens scope pos => cDcomp Γ (comp n Γ) (fun sc => comp n (Γ.blk sc)) kx vx gens scope pos
    | _ => none

/-- what the program's functions are sound for -/
structure GOk (G : Ge) (k : Nat) (Γ : Cg) (P : Pg) : Prop where
  fn : ∀ x i sg, Γ.glob.lookup x = some (.fn i sg) → ∃ f, G.mg x = some (.ref f) ∧ ∀ n ks p, Γ.shapes.contains (i, n, ks) = true → sigPerm sg n ks = some p → Cal G k f n ks p.fill (P.fn i)
  cls : ∀ x c i sg, Γ.glob.lookup x = some (.cls c i sg) → ∃ C, G.mg x = some (.ref C) ∧ (G.cls[c]? = some C ∧ P.glob x = some (.cl c)) ∧ ∀ n ks p, Γ.shapes.contains (i, n + 1, ks) = true → sigPerm sg (n + 1) ks = some p → MkCal G k c C n ks p.fill (P.fn i)
  meth : ∀ m l c i sg, Γ.meth.lookup m = some l → (c, i, sg) ∈ l → ∀ n ks p, Γ.shapes.contains (i, n + 1, ks) = true → sigPerm sg (n + 1) ks = some p → MCal G k c m n ks p.fill (P.fn i)
  cst : ∀ x, Γ.glob.lookup x = some .cst → ∃ u v vv, P.glob x = some u ∧ G.mg x = some vv ∧ RelV v vv ∧ ∀ φ H, RT G φ H u v
  bf : ∀ x, Γ.glob.lookup x = some .bf → G.mg x = none ∧ ∃ id, bootBuiltins x = some (.builtin id) ∧ ∀ (X : Cx) (W : WX) live, XG X G (k + 1) → Takes X W → CallW G W X (.builtin id) (P.bf live x)
  ty : ∀ x, Γ.glob.lookup x = some .ty → G.mg x = none ∧ ∃ id, bootBuiltins x = some (.type id) ∧ P.glob x = some (.ty id) ∧ ∀ (X : Cx) (W : WX) live, XG X G (k + 1) → Takes X W → CallW G W X (.type id) (P.bf live x)
  bin : ∀ (X : Cx) (W : WX) op, XG X G (k + 1) → Takes X W → OpW G W X (binaryOp op) (P.bin op)
  cmp : ∀ (X : Cx) (W : WX) op, XG X G (k + 1) → Takes X W → OpW G W X (compareOp op) (P.cmp op)
  ix : ∀ (X : Cx) (W : WX), XG X G (k + 1) → Takes X W → IxW G W X P.ix
  bm : ∀ (X : Cx) m live, XG X G (k + 1) → Γ.bms.contains m = true → ∀ T ∈ P.bmT m, ∃ id, PlainAttrs T ∧ Slot T m id ∧ typeOf (.builtin id) = pure (.type "method_descriptor") ∧ MtR X id (rM G (P.bm live m T))
  sl : ∀ (X : Cx) live, XG X G (k + 1) → SlR X (rSl G (P.sl live))
  rev : ∀ live, P.rev live = pRevL live
  set : ∀ (X : Cx), XG X G (k + 1) → PSet X (rSet G P.set)
  fld : ∀ f, Γ.flds.contains f = true → FldOk G f
theorem GOk.blk {G : Ge} {k : Nat} {Γ : Cg} {P : Pg} (g : GOk G k Γ P) (scope : Scope) : GOk G k (Γ.blk scope) P := ⟨g.fn, g.cls, g.meth, g.cst, g.bf, g.ty, g.bin, g.cmp, g.ix, g.bm, g.sl, g.rev, g.set, g.fld⟩
structure CtxOk (G : Ge) (k : Nat) (Γ : Cg) (X : Cx) : Prop where
  xg : XG X G (k + 1)
  N : X.N = Γ.N
  sc : X.env.scope = Γ.sc
  fn : ∀ x, fnb Γ x = true → X.fn x = true
/-- kept: as a value, as a test, walked -/
structure OK (G : Ge) (X : Cx) (P : Pg) (W : WX) (ex : Expr) (c : C) : Prop where
  e : PE X ex (lift G W (evE P c))
  t : PT X ex (liftT G W (evT P c))
  i : ∀ tg, PI X tg ex (liftI G W (evI P c))
section
variable {G : Ge} {k : Nat} {Γ : Cg} {P : Pg} {W : WX} {X : Cx} {f : Expr → Option C} {fb : Scope → Expr → Option C} {e : Expr} {c : C} {pos : Pos}
theorem OK.of {E : Ev U} (hX : XG X G k) (hc : evA P c = ea E) (hp : plainT e = true) (he : PE X e (lift G W E)) : OK G X P W e c := by
  refine ⟨?_, ?_, fun tg => ?_⟩
  · show PE X e (lift G W (evA P c).e); rw [hc]; exact he
  · show PT X e (liftT G W (evA P c).t); rw [hc]; exact s_test hX.K he (plainT_ok hp)
  · show PI X tg e (liftI G W (evA P c).i); rw [hc]; exact s_itVal hX.K he
theorem findIx {N : List Str} {x : Str} {i : Nat} (h : N.findIdx? (· == x) = some i) : N[i]? = some x := by
  obtain ⟨h1, h2, _⟩ := List.findIdx?_eq_some_iff_getElem.mp h
  rw [List.getElem?_eq_getElem h1]
  exact congrArg some (beq_iff_eq.mp h2)
theorem locIx_ok {x : Str} {i : Nat} (h : locIx Γ x = some i) : Γ.N[i]? = some x ∧ (Γ.sc.names.lookup x = some .local ∨ Γ.sc.names.lookup x = some .cell ∨ Γ.sc.names.lookup x = some .free) ∧ (x == ("__debug__" : Str)) = false ∧ (x == ("__classdict__" : Str)) = false := by
  have key : ∀ {o : Option Nat}, (if x == ("__debug__" : Str) || x == ("__classdict__" : Str) then none else o) = some i → o = some i ∧ (x == ("__debug__" : Str)) = false ∧ (x == ("__classdict__" : Str)) = false := fun {o} h => by
    split at h
    · cases h
    · rename_i hn
      rw [Bool.not_eq_true, Bool.or_eq_false_iff] at hn
      exact ⟨h, hn.1, hn.2⟩
  unfold locIx at h
  split at h
  · rename_i e; obtain ⟨h1, h2, h3⟩ := key h; exact ⟨findIx h1, .inl e, h2, h3⟩
  · rename_i e; obtain ⟨h1, h2, h3⟩ := key h; exact ⟨findIx h1, .inr (.inl e), h2, h3⟩
  · rename_i e; obtain ⟨h1, h2, h3⟩ := key h; exact ⟨findIx h1, .inr (.inr e), h2, h3⟩
  · cases h
theorem glK_ok {x : Str} {g : GK} (h : glK Γ x = some g) : Γ.sc.names.lookup x = some .globalImplicit ∧ (x == ("__debug__" : Str)) = false ∧ x ≠ "__name__" ∧ Γ.glob.lookup x = some g := by
  unfold glK at h
  split at h
  · rename_i e
    split at h
    · cases h
    · rename_i hn
      rw [Bool.not_eq_true, Bool.or_eq_false_iff] at hn
      exact ⟨e, hn.1, fun z => by rw [z] at hn; exact absurd hn.2 (by decide), h⟩
  · cases h
theorem CtxOk.gl {x : Str} (c : CtxOk G k Γ X) (h : Γ.sc.names.lookup x = some .globalImplicit) : Gl X x := by
  show X.env.scope.names.lookup x = _
  rw [c.sc]; exact h
theorem evA_g {x : Str} {u : U} (e : P.glob x = some u) : evA P (.g x) = ea (eC u) := by
  show ea (match P.glob x with
    | some u => eC u
    | none => evStuck) = ea (eC u)
  rw [e]
theorem ok_name {x : Str} (g : GOk G k Γ P) (co : CtxOk G k Γ X) (h : cName Γ x = some c) : OK G X P W (.Name x pos) c := by
  unfold cName at h
  split at h
  · rename_i i ei
    cases h
    obtain ⟨h1, h2, h3, h4⟩ := locIx_ok ei
    exact .of co.xg rfl rfl (s_var (by rw [co.N]; exact h1) (by unfold Vis; rw [co.sc]; exact h2) h3 h4)
  · split at h
    · rename_i eg
      cases h
      obtain ⟨h1, h2, h3, h4⟩ := glK_ok eg
      obtain ⟨u, v, vv, e1, e2, e3, e4⟩ := g.cst x h4
      refine .of (E := eC u) co.xg (evA_g e1) rfl (s_con (pe_glob (co.gl h1) (by rw [co.xg.mg]; exact e2) e3 h2) e4)
    · rename_i eg
      cases h
      obtain ⟨h1, h2, h3, h4⟩ := glK_ok eg
      obtain ⟨hm, T, hv, e1, _⟩ := g.ty x h4
      exact .of (E := eC (.ty T)) co.xg (evA_g e1) rfl (s_con (pe_bty (co.gl h1) (by rw [co.xg.mg]; exact hm) hv h3 h2) fun _ _ => rt_ty)
    · rename_i c' i' sg' eg
      cases h
      obtain ⟨h1, h2, h3, h4⟩ := glK_ok eg
      obtain ⟨C, hm, ⟨hc, e1⟩, _⟩ := g.cls x c' i' sg' h4
      exact .of (E := eC (.cl c')) co.xg (evA_g e1) rfl (s_con (pe_glob (v := .ref C) (co.gl h1) (by rw [co.xg.mg]; exact hm) rfl h2) fun _ _ => rt_cl hc)
    · cases h
theorem ok_const {cc : Const} {j : Nat} (co : CtxOk G k Γ X) (h : cConst cc = some c) : OK G X P W (.Constant cc j pos) c := by
  cases cc <;> first | cases h | skip
  · exact .of co.xg rfl rfl (s_con pe_non fun _ _ => rt_non)
  · exact .of co.xg rfl rfl (s_con pe_bl fun _ _ => rt_bl)
  · exact .of co.xg rfl rfl (s_con pe_int fun _ _ => rt_int)
  · exact .of co.xg rfl rfl (s_con pe_str fun _ _ => rt_str)
theorem ok_bool (co : CtxOk G k Γ X) (hf : ∀ e c, f e = some c → OK G X P W e c) {op : BoolOp} : ∀ (vs : List Expr) (c : C), cBool f op vs = some c →
    PE X (.BoolOp op vs pos) (lift G W (evE P c)) ∧ PW X (.BoolOp op vs pos) (liftT G W (evT P c)) ∧ ∀ tg, PI X tg (.BoolOp op vs pos) (liftI G W (evI P c))
  | [], c, h => by cases h
  | [a], c, h => by
    have o := hf a c h
    refine ⟨pe_one o.e, ?_, fun tg => ?_⟩
    · cases op
      · exact s_tand1 o.t
      · exact s_tor1 o.t
    · exact ⟨fun pins s σ H R I q => BoolOp_one ((o.i tg).run pins s σ H R I q)⟩
  | a :: a2 :: r, c, h => by
    unfold cBool at h
    cases e1 : f a with
    | none => rw [e1] at h; cases h
    | some x =>
      cases e2 : cBool f op (a2 :: r) with
      | none => rw [e1, e2] at h; cases h
      | some y =>
        rw [e1, e2] at h
        have o := hf a x e1
        obtain ⟨i1, i2, _⟩ := ok_bool co hf (a2 :: r) y e2
        cases op with
        | And =>
          cases h
          have pe := s_and (pos := pos) o.e i1
          exact ⟨pe, s_tand o.t i2, fun tg => s_itVal co.xg.K pe⟩
        | Or =>
          cases h
          have pe := s_or (pos := pos) o.e i1
          exact ⟨pe, s_tor o.t i2, fun tg => s_itVal co.xg.K pe⟩
theorem ok_cmp (g : GOk G k Γ P) (co : CtxOk G k Γ X) (tk : Takes X W) (hf : ∀ e c, f e = some c → OK G X P W e c) {a : Expr} {ops : List CmpOp} {cs : List Expr} (h : cCmp f a ops cs = some c) : OK G X P W (.Compare a ops cs pos) c := by
  unfold cCmp at h
  split at h
  · rename_i op b
    split at h
    · rename_i hn
      split at h
      · rename_i x y ex ey
        cases h
        have pe := s_cmpW (pos := pos) (g.cmp X W op co.xg tk) (hf _ _ ex).e (hf _ _ ey).e (noSet_behind op hn)
        exact ⟨pe, s_tcmpW (g.cmp X W op co.xg tk) (hf _ _ ex).e (hf _ _ ey).e (noSet_behind op hn), fun tg => s_itVal co.xg.K pe⟩
      · cases h
    · cases h
  · rename_i op1 op2 b c'
    split at h
    · rename_i hn
      split at h
      · rename_i x y z ex ey ez
        cases h
        have hm : lastMarks [op1, op2] [b, c'] = false := noSet_behind op2 hn
        have pe := s_chainW (pos := pos) (g.cmp X W op1 co.xg tk) (g.cmp X W op2 co.xg tk) (hf _ _ ex).e (hf _ _ ey).e (hf _ _ ez).e hm
        exact ⟨pe, s_tchainW (g.cmp X W op1 co.xg tk) (g.cmp X W op2 co.xg tk) (hf _ _ ex).e (hf _ _ ey).e (hf _ _ ez).e hm, fun tg => s_itVal co.xg.K pe⟩
      · cases h
    · cases h
  · cases h
theorem ok_list (hf : ∀ e c, f e = some c → OK G X P W e c) : ∀ (es : List Expr) (cs : List C), compL f es = some cs → PA X es (liftA G W (evEs P cs)) ∧ es.all noStar = true ∧ (es = [] → cs = [])
  | [], cs, h => by cases h; exact ⟨s_nil, rfl, fun _ => rfl⟩
  | e :: es, cs, h => by
    unfold compL at h
    split at h
    · rename_i hs
      split at h
      · rename_i c cs' ec ecs
        cases h
        obtain ⟨h1, h2, _⟩ := ok_list hf es cs' ecs
        exact ⟨s_cons (hf e c ec).e h1 (star_cons hs), by rw [List.all_cons, hs, h2]; rfl, fun z => by cases z⟩
      · cases h
    · cases h
theorem PKi {kws : List Keyword} {t t' : TA} (h : PK X kws t) (i : ∀ σ H Q, t' σ H Q → t σ H Q) : PK X kws t' := ⟨fun pos pins s σ H Q I q => h.run pos pins s σ H Q I (i _ _ _ q)⟩
theorem ok_kws (hf : ∀ e c, f e = some c → OK G X P W e c) : ∀ (kws : List Keyword) (q : List Str × List C), compKw f kws = some q → PK X kws (liftA G W (evEs P q.2)) ∧ kwNames kws = q.1.map some
  | [], q, h => by
    cases h
    exact ⟨PKi pk_nil fun σ H Q ⟨φ, st, ρ, B, b, R, S, P⟩ => P.okk S [] .nil, rfl⟩
  | ⟨none, _, _⟩ :: _, q, h => by cases h
  | ⟨some x, e, p⟩ :: r, q, h => by
    unfold compKw at h
    split at h
    · rename_i c q' ec eq
      cases h
      obtain ⟨h1, h2⟩ := ok_kws hf r q' eq
      refine ⟨PKi (pk_cons (hf e c ec).e h1) fun σ H Q ⟨φ, st, ρ, B, b, R, S, P⟩ => ?_, by show some x :: kwNames r = _; rw [h2] <;> rfl⟩
      exact ⟨φ, st, ρ, B, b, R, S, P.bind.imp fun u φ1 H1 st1 x1 S1 q v r => ⟨φ1, st1, ρ, B, b, R.mono x1, S1, q.bind.imp fun us φ2 H2 st2 x2 S2 q2 vs rs => q2.okk S2 _ (.cons (r.mono x2) rs)⟩⟩
    · cases h
theorem plT_call {g : Expr} {args : List Expr} {kws : List Keyword} : plainT (.Call g args kws pos) = true := rfl
theorem ok_callN (g : GOk G k Γ P) (co : CtxOk G k Γ X) (tk : Takes X W) (hf : ∀ e c, f e = some c → OK G X P W e c) {x : Str} {np : Pos} {args : List Expr} {kws : List Keyword} (h : cCallN Γ f x args kws pos = some c) : OK G X P W (.Call (.Name x np) args kws pos) c := by
  unfold cCallN at h
  split at h
  · rename_i i sg eg
    obtain ⟨h1, h2, h3, h4⟩ := glK_ok eg
    split at h
    · rename_i l kw el ek
      split at h
      · rename_i hs
        obtain ⟨p, ep, rfl⟩ := Option.map_eq_some_iff.mp h
        obtain ⟨fa, hm, hc⟩ := g.fn x i sg h4
        obtain ⟨a1, a2, a3⟩ := ok_list hf args l el
        obtain ⟨k1, k2⟩ := ok_kws hf kws kw ek
        obtain ⟨q1, q2, q3⟩ := kw_all (env := X.env) (pos := pos) k2
        exact .of co.xg rfl rfl (s_cal (co.xg.mono (Nat.le_succ k)) tk (hc args.length kw.1 p hs ep) (co.gl h1) (by rw [co.xg.mg]; exact hm) h2 a1 k1 (fun z => by rw [a3 z]; rfl) (fun e r z => star_cons (by rw [z, List.all_cons, Bool.and_eq_true] at a2; exact a2.1)) q1 q3
          (by rw [backTo_any, (star_all a2).2, q2]; rfl))
      · cases h
    · cases h
  · rename_i cc i sg eg
    obtain ⟨h1, h2, h3, h4⟩ := glK_ok eg
    split at h
    · rename_i l kw el ek
      split at h
      · rename_i hs
        obtain ⟨p, ep, rfl⟩ := Option.map_eq_some_iff.mp h
        obtain ⟨CA, hm, _, hc⟩ := g.cls x cc i sg h4
        obtain ⟨a1, a2, a3⟩ := ok_list hf args l el
        obtain ⟨k1, k2⟩ := ok_kws hf kws kw ek
        obtain ⟨q1, q2, q3⟩ := kw_all (env := X.env) (pos := pos) k2
        exact .of co.xg rfl rfl (s_make co.xg tk (hc args.length kw.1 p hs ep) (co.gl h1) (by rw [co.xg.mg]; exact hm) h2 a1 k1 (fun z => by rw [a3 z]; rfl) (fun e r z => star_cons (by rw [z, List.all_cons, Bool.and_eq_true] at a2; exact a2.1)) q1 q3
          (by rw [backTo_any, (star_all a2).2, q2]; rfl))
      · cases h
    · cases h
  · rename_i eg
    obtain ⟨h1, h2, h3, h4⟩ := glK_ok eg
    obtain ⟨hm, id, hv, hc⟩ := g.bf x h4
    split at h
    · rename_i a r
      obtain ⟨l, el, rfl⟩ := Option.map_eq_some_iff.mp h
      obtain ⟨a1, a2, a3⟩ := ok_list hf _ l el
      have a2' := a2
      rw [List.all_cons, Bool.and_eq_true] at a2'
      exact .of co.xg rfl rfl (s_callBW (hc X W _ co.xg tk) (co.gl h1) (by rw [co.xg.mg]; exact hm) hv a1 h3 h2 (star_cons a2'.1) (by rw [backTo_any, (star_all a2'.2).2]))
    · cases h
  · rename_i eg
    obtain ⟨h1, h2, h3, h4⟩ := glK_ok eg
    obtain ⟨hm, id, hv, _, hc⟩ := g.ty x h4
    split at h
    · obtain ⟨l, el, rfl⟩ := Option.map_eq_some_iff.mp h
      obtain ⟨a1, a2, a3⟩ := ok_list hf _ l el
      cases args with
      | nil =>
        cases a3 rfl
        exact .of co.xg rfl rfl (s_callTyW0 (hc X W _ co.xg tk) (co.gl h1) (by rw [co.xg.mg]; exact hm) hv h3 h2)
      | cons a r =>
        have a2' := a2
        rw [List.all_cons, Bool.and_eq_true] at a2'
        exact .of co.xg rfl rfl (s_callTyW (hc X W _ co.xg tk) (co.gl h1) (by rw [co.xg.mg]; exact hm) hv a1 h3 h2 (star_cons a2'.1) (by rw [backTo_any, (star_all a2'.2).2]))
    · cases h
  · cases h
theorem ok_view (g : GOk G k Γ P) (co : CtxOk G k Γ X) (hf : ∀ e c, f e = some c → OK G X P W e c) {x : Str} {np : Pos} {args : List Expr} {kws : List Keyword} (h : cView Γ f x args kws pos = some c) : OK G X P W (.Call (.Name x np) args kws pos) c := by
  unfold cView at h
  split at h
  · rename_i o m apos cpos
    split at h
    · rename_i hc
      have hb := base_ok (env := X.env) (m := m) hc.1
      split at h
      · rename_i eg
        obtain ⟨h1, h2, h3, h4⟩ := glK_ok eg
        obtain ⟨hm, _⟩ := g.ty x h4
        rw [← co.xg.mg] at hm
        split at h
        · rename_i hx
          obtain ⟨rfl, rfl⟩ := hx
          obtain ⟨y, ey, rfl⟩ := Option.map_eq_some_iff.mp h
          exact .of co.xg rfl rfl (s_listItems co.xg.calm (hf _ _ ey).e (co.gl h1) hm hb hc.2 (star_cons rfl))
        · split at h
          · rename_i hx
            obtain ⟨rfl, rfl⟩ := hx
            obtain ⟨y, ey, rfl⟩ := Option.map_eq_some_iff.mp h
            exact .of co.xg rfl rfl (s_listVals co.xg.calm (hf _ _ ey).e (co.gl h1) hm hb hc.2 (star_cons rfl))
          · cases h
      · rename_i eg
        obtain ⟨h1, h2, h3, h4⟩ := glK_ok eg
        obtain ⟨hm, _⟩ := g.bf x h4
        rw [← co.xg.mg] at hm
        split at h
        · rename_i hx
          obtain ⟨rfl, rfl⟩ := hx
          obtain ⟨y, ey, rfl⟩ := Option.map_eq_some_iff.mp h
          exact .of co.xg rfl rfl (s_sumVals co.xg.calm (hf _ _ ey).e (co.gl h1) hm hb hc.2 (star_cons rfl))
        · cases h
      · cases h
    · cases h
  · cases h
theorem ok_parts (hG : XG X G (k + 1)) (hf : ∀ e c, f e = some c → OK G X P W e c) : ∀ (vs : List Expr) (l : List C), cParts f vs = some l → PJs G W X vs (evFs P l)
  | [], l, h => by cases h; exact .nil
  | v :: r, l, h => by
    unfold cParts at h
    split at h
    · cases ‹v :: r = []›
    · rename_i e c p r' eq
      cases eq
      split at h
      · rename_i x l' ex el
        split at h
        · rename_i hc
          subst hc
          cases h
          exact .cons (s_rep hG (hf _ _ ex).e) (ok_parts hG hf r _ el)
        · split at h
          · rename_i hc
            subst hc
            cases h
            exact .cons (s_fmt (hf _ _ ex).e) (ok_parts hG hf r _ el)
          · cases h
      · cases h
    · rename_i z j p r' eq
      cases eq
      obtain ⟨l', el, rfl⟩ := Option.map_eq_some_iff.mp h
      exact .cons (s_con pe_str fun _ _ => rt_str) (ok_parts hG hf r _ el)
    · cases h
theorem ok_joined (co : CtxOk G k Γ X) (hf : ∀ e c, f e = some c → OK G X P W e c) {vs : List Expr} (h : cJoined f vs = some c) : OK G X P W (.JoinedStr vs pos) c := by
  unfold cJoined at h
  split at h
  · obtain ⟨l, el, rfl⟩ := Option.map_eq_some_iff.mp h
    exact .of co.xg rfl rfl (s_joined (ok_parts co.xg hf _ l el))
  · cases h
end
end EV

set_option maxRecDepth 100000
/-! E14: expressions are kept, on. -/
namespace EV
open PySem PySem.Spec PyProof.Rows L2
open Classical
section
variable {G : Ge} {k : Nat} {Γ : Cg} {P : Pg} {W : WX} {X : Cx} {f : Expr → Option C} {fb : Scope → Expr → Option C} {e : Expr} {c : C} {pos : Pos}
theorem cMethL_ok {n : Nat} {ks : List Str} : ∀ {ds : List (Nat × Nat × Sig)} {q : List (Nat × Nat × Perm)}, cMethL Γ n ks ds = some q → ∀ cc i p, q.lookup cc = some (i, p) → ∃ sg, (cc, i, sg) ∈ ds ∧ Γ.shapes.contains (i, n + 1, ks) = true ∧ sigPerm sg (n + 1) ks = some p
  | [], q, h, cc, i, p, e => by cases h; simp at e
  | (c0, i0, sg) :: r, q, h, cc, i, p, e => by
    unfold cMethL at h
    split at h
    · rename_i hs
      split at h
      · rename_i p0 q0 ep eq
        cases h
        rw [List.lookup_cons] at e
        split at e
        · rename_i hb
          cases e
          rw [beq_iff_eq.mp hb]
          exact ⟨sg, List.mem_cons_self .., hs, ep⟩
        · obtain ⟨sg', h1, h2, h3⟩ := cMethL_ok eq cc i p e
          exact ⟨sg', List.mem_cons_of_mem _ h1, h2, h3⟩
      · cases h
    · cases h
theorem ok_callM (g : GOk G k Γ P) (co : CtxOk G k Γ X) (tk : Takes X W) (hf : ∀ e c, f e = some c → OK G X P W e c) {o : Expr} {m : Str} {apos : Pos} {args : List Expr} {kws : List Keyword} (h : cCallM Γ f o m apos args kws pos = some c) :
    OK G X P W (.Call (.Attribute o m apos) args kws pos) c := by
  unfold cCallM at h
  split at h
  · rename_i hc
    obtain ⟨hb, hl, hn⟩ := hc
    split at h
    · rename_i co' l kw eo el ek
      obtain ⟨a1, a2, a3⟩ := ok_list hf args l el
      obtain ⟨k1, k2⟩ := ok_kws hf kws kw ek
      obtain ⟨q1, q2, q3⟩ := kw_all (env := X.env) (pos := pos) k2
      split at h
      · rename_i hbm
        split at h
        · cases h
          cases args with
          | nil =>
            cases a3 rfl
            exact .of co.xg rfl rfl (s_ms0 co.xg.K (fun T hT => g.bm X m _ co.xg hbm T hT) (hf o co' eo).e (base_ok hb) hl)
          | cons a r =>
            have a2' := a2
            rw [List.all_cons, Bool.and_eq_true] at a2'
            refine .of co.xg rfl rfl (s_ms co.xg.K (fun T hT => g.bm X m _ co.xg hbm T hT) (hf o co' eo).e a1 (base_ok hb) ?_ hl (star_cons a2'.1) (by rw [backTo_any, (star_all a2'.2).2]))
            rw [backTo_all, (star_all a2).1]
            have := of_decide_eq_true hn
            simp only [List.length_nil] at this
            simp [backToKw, keywordEach]
            simp at this
            omega
        · cases h
      · split at h
        · rename_i ds ed
          obtain ⟨q, eq, rfl⟩ := Option.map_eq_some_iff.mp h
          refine .of co.xg rfl rfl (s_meth (pl := do return (← importBound o X.env).getD true) (co.xg.mono (Nat.le_succ k)) tk (fun cc gu F hd => ?_) (hf o co' eo).e a1 k1 (fun z => by rw [a3 z]; rfl)
            (fun e r z => star_cons (by rw [z, List.all_cons, Bool.and_eq_true] at a2; exact a2.1)) q1 q3 (by rw [backTo_any, (star_all a2).2, q2]; rfl) (meth_tree hb a2 k2 hn hl))
          obtain ⟨⟨i, p⟩, e1, e2⟩ := Option.map_eq_some_iff.mp hd
          cases e2
          obtain ⟨sg, s1, s2, s3⟩ := cMethL_ok eq cc i p e1
          exact g.meth m ds cc i sg ed s1 args.length kw.1 p s2 s3
        · cases h
    · cases h
  · cases h
theorem ok_opt (hf : ∀ e c, f e = some c → OK G X P W e c) {o : Option Expr} (h : cOpt f o = some c) : PO X o (liftO G W (ePart (if isNo c = true then none else some (evE P c)))) := by
  unfold cOpt at h
  split at h
  · cases h; exact s_part0
  · split at h
    · rename_i c' ec
      split at h
      · cases h
      · rename_i hn
        cases h
        rw [if_neg hn]
        exact s_part1 (hf _ _ ec).e
    · cases h
theorem s_rev {a : Expr} {fa : Ev U} {kk : Nat} {p1 p2 p3 : Pos} {live : Bool} (hK : X.K = G.K) (ha : PE X a (lift G W fa)) : PE X (.Subscript a (.Slice none none (some (.UnaryOp .USub (.Constant (.int 1) kk p1) p2)) p3) pos) (lift G W (e1 (pRevL live) fa)) :=
  PEi (pe_revL ha) fun σ H Q ⟨φ, st, ρ, B, b, R, S, P⟩ => ⟨φ, st, ρ, B, b, R, S, P.bind.imp fun u φ1 H1 st1 x1 S1 q v r => by
    have q := Post.ofO q
    unfold pRevL at q
    split at q
    · rename_i us chk el
      obtain ⟨d, rfl, ⟨xs, hx, rx⟩, _⟩ := lst_las (X := X) hK S1 r el
      exact ⟨d, xs, rfl, hx, fun p hp => mk_fin head_lst S1 (pRev rx) q p hp⟩
    · exact q.elim⟩
theorem ok_sub (g : GOk G k Γ P) (co : CtxOk G k Γ X) (tk : Takes X W) (hf : ∀ e c, f e = some c → OK G X P W e c) {a i : Expr} (h : cSub Γ f a i pos = some c) : OK G X P W (.Subscript a i pos) c := by
  unfold cSub at h
  split at h
  · obtain ⟨x, ex, rfl⟩ := Option.map_eq_some_iff.mp h
    refine .of co.xg rfl rfl ?_
    rw [g.rev]
    exact s_rev co.xg.K (hf _ _ ex).e
  · split at h
    · rename_i x y z ex ey ez
      cases h
      exact .of co.xg rfl rfl (s_sl (g.sl X _ co.xg) (hf _ _ ex).e (ok_opt hf ey) (ok_opt hf ez))
    · cases h
  · split at h
    · rename_i hp
      split at h
      · rename_i x y ex ey
        cases h
        exact .of co.xg rfl rfl (s_ixW (g.ix X W co.xg tk) (hf _ _ ex).e (hf _ _ ey).e (plainIx_ok hp).1 (plainIx_ok hp).2)
      · cases h
    · cases h
theorem isTup_ok {t : Expr} (h : isTup t = true) : ∃ es kk p, t = .Tuple es kk p := by
  cases t <;> first | exact ⟨_, _, _, rfl⟩ | cases h
theorem ok_iter (g : GOk G k Γ P) (co : CtxOk G k Γ X) (hf : ∀ e c, f e = some c → OK G X P W e c) {tg : Expr} (h : cIter Γ f tg e = some c) : PI X tg e (liftI G W (evI P c)) := by
  unfold cIter at h
  split at h
  · rename_i x np a p
    split at h
    · rename_i eg
      obtain ⟨h1, h2, h3, h4⟩ := glK_ok eg
      obtain ⟨hm, _⟩ := g.ty x h4
      split at h
      · rename_i hs
        split at h
        · rename_i hx
          obtain ⟨ca, ea, rfl⟩ := Option.map_eq_some_iff.mp h
          have ex := beq_iff_eq.mp hx
          subst ex
          exact s_rng1 (co.gl h1) (by rw [co.xg.mg]; exact hm) (s_cons (hf _ _ ea).e s_nil (star_cons hs)) (star_cons hs)
        · split at h
          · rename_i hx
            rw [Bool.and_eq_true] at hx
            obtain ⟨ca, ea, rfl⟩ := Option.map_eq_some_iff.mp h
            have ex := beq_iff_eq.mp hx.1
            subst ex
            obtain ⟨es, kk, tp, rfl⟩ := isTup_ok hx.2
            exact s_enum co.xg.K (co.gl h1) (by rw [co.xg.mg]; exact hm) (s_cons (hf _ _ ea).e s_nil (star_cons hs)) (star_cons hs)
          · exact (hf _ _ h).i tg
      · cases h
    · exact (hf _ _ h).i tg
  · rename_i x np a b' p
    split at h
    · rename_i eg
      obtain ⟨h1, h2, h3, h4⟩ := glK_ok eg
      obtain ⟨hm, _⟩ := g.ty x h4
      split at h
      · rename_i hx
        rw [Bool.and_eq_true, Bool.and_eq_true] at hx
        obtain ⟨hx, hs1, hs2⟩ := hx
        split at h
        · rename_i ca cb ea eb
          cases h
          have ex := beq_iff_eq.mp hx
          subst ex
          exact s_rng2 (co.gl h1) (by rw [co.xg.mg]; exact hm) (s_cons (hf _ _ ea).e (s_cons (hf _ _ eb).e s_nil (star_cons hs2)) (star_cons hs1)) (by rw [star_cons hs1, star_cons hs2]; rfl) (star_cons hs2)
        · cases h
      · exact (hf _ _ h).i tg
    · exact (hf _ _ h).i tg
  · rename_i o m apos p
    split at h
    · rename_i hx
      rw [Bool.and_eq_true, Bool.and_eq_true, Bool.and_eq_true] at hx
      obtain ⟨hx, ht, hb, hl⟩ := hx
      obtain ⟨ca, ea, rfl⟩ := Option.map_eq_some_iff.mp h
      have ex := beq_iff_eq.mp hx
      subst ex
      obtain ⟨es, kk, tp, rfl⟩ := isTup_ok ht
      exact s_items (hf _ _ ea).e (base_ok hb) hl
    · exact (hf _ _ h).i tg
  · exact (hf _ _ h).i tg
theorem tgCL_ok {gg : Expr → Option TgS} (hg : ∀ e s, gg e = some s → PG X e (tgT X.K s)) : ∀ (es : List Expr) (ss : List TgS), tgCL gg es = some ss → PGs X es (tgTs X.K ss) ∧ es.all noStar = true ∧ ss.length = es.length
  | [], ss, h => by cases h; exact ⟨by unfold tgTs; exact pgs_nil, rfl, rfl⟩
  | e :: es, ss, h => by
    unfold tgCL at h
    split at h
    · rename_i hs
      split at h
      · rename_i t ts et ets
        cases h
        obtain ⟨h1, h2, h3⟩ := tgCL_ok hg es ts ets
        exact ⟨by unfold tgTs; exact pgs_cons (hg e t et) h1 (by rw [asgCons hs]; rfl), by rw [List.all_cons, hs, h2]; rfl, by simp [h3]⟩
      · cases h
    · cases h
theorem tIx_ok {x : Str} {i : Nat} (co : CtxOk G k Γ X) (h : tIx Γ x = some i) : X.N[i]? = some x ∧ L2.Loc X.env.scope x ∧ (X.fn x = true ∨ X.env.scope.names.lookup x = some .local) := by
  unfold tIx at h
  unfold L2.Loc
  rw [co.N, co.sc]
  split at h
  · rename_i e; exact ⟨findIx h, .inl e, .inr e⟩
  · rename_i e
    split at h
    · rename_i hf; exact ⟨findIx h, .inr e, .inl (co.fn x hf)⟩
    · cases h
  · cases h
theorem tgC_ok (co : CtxOk G k Γ X) : ∀ (n : Nat) (e : Expr) (s : TgS), tgC Γ n e = some s → PG X e (tgT X.K s)
  | 0, e, s, h => by cases h
  | n + 1, e, s, h => by
    unfold tgC at h
    split at h
    · obtain ⟨i, ei, rfl⟩ := Option.map_eq_some_iff.mp h
      obtain ⟨h1, h2, h3⟩ := tIx_ok co ei
      unfold tgT
      exact pg_name co.xg.nd h1 h2 h3
    · obtain ⟨ss, es, rfl⟩ := Option.map_eq_some_iff.mp h
      obtain ⟨h1, h2, h3⟩ := tgCL_ok (tgC_ok co n) _ ss es
      unfold tgT
      rw [h3]
      exact pg_tup co.xg.calm h1 (asgEach h2).2 (asgEach h2).1
    · cases h
theorem ok_ifs (hf : ∀ e c, f e = some c → OK G X P W e c) {ifs : List Expr} (h : cIfs f ifs = some c) : PTs X ifs (liftT G W (if isNo c = true then fun _ _ st => .ok true st else evT P c)) := by
  unfold cIfs at h
  split at h
  · cases h
    exact ⟨fun pins s σ H Q I ⟨φ, st, ρ, B, b, R, S, P⟩ => pts_nil.run pins s σ H Q I (P.okk S)⟩
  · rename_i e0
    simp only [cOpt] at h
    split at h
    · rename_i c' ec
      split at h
      · cases h
      · rename_i hn
        cases h
        rw [if_neg hn]
        exact pts_one (hf _ _ ec).t
    · cases h
  · cases h
theorem CtxOk.blk (co : CtxOk G k Γ X) (scope : Scope) (s : Shared) (H : Hp) (CA : Addr) (cl : List (Str × Addr)) (fp : List Addr) : CtxOk G k (Γ.blk scope) (X.blk s H scope (compEnvC scope cl CA X.env) fp) where
  xg := ⟨co.xg.g, co.xg.calm, co.xg.room, co.xg.nd, co.xg.gd⟩
  N := co.N
  sc := by show relS scope X.env.scope = relS scope Γ.sc; rw [co.sc]
  fn := fun x h => h
theorem blk_takes (scope : Scope) (s : Shared) (H : Hp) (CA : Addr) (cl : List (Str × Addr)) (fp : List Addr) : Takes (X.blk s H scope (compEnvC scope cl CA X.env) fp) W0 := takes0 rfl
theorem ok_lcomp (g : GOk G k Γ P) (co : CtxOk G k Γ X) (hf : ∀ e c, f e = some c → OK G X P W e c) (hfb : ∀ scope e c, fb scope e = some c → ∀ X', CtxOk G k (Γ.blk scope) X' → Takes X' W0 → OK G X' P W0 e c) {elt : Expr} {gens : List Comprehension} {scope : Scope}
    (h : cLcomp Γ f fb elt gens scope pos = some c) : OK G X P W (.ListComp elt gens scope pos) c := by
  unfold cLcomp at h
  split at h
  · rename_i tg it ifs kk
    split at h
    · rename_i s ci ct ce es ei et ee
      split at h
      · rename_i hc
        obtain ⟨rfl, hs, hb, hn⟩ := hc
        cases h
        refine .of co.xg rfl rfl (s_lc co.xg.K co.xg.calm co.xg.nd (ok_iter g co hf ei) (own := ownOf Γ scope) (by rw [co.N, co.sc]; exact blkOk_by hb) (fun j hj => ?_)
          (fun s' H C cl fp => tgC_ok (co.blk scope s' H C cl fp) 8 tg s es) (fun s' H C cl fp => ok_ifs (fun e c h => hfb scope e c h _ (co.blk scope s' H C cl fp) (takes0 rfl)) et)
          (fun s' H C cl fp => (hfb scope elt ce ee _ (co.blk scope s' H C cl fp) (takes0 rfl)).e) (noSet_ok hs))
        have := List.all_eq_true.mp hn j hj
        simpa using this
      · cases h
    · cases h
  · cases h
theorem ok_dcomp (g : GOk G k Γ P) (co : CtxOk G k Γ X) (hf : ∀ e c, f e = some c → OK G X P W e c) (hfb : ∀ scope e c, fb scope e = some c → ∀ X', CtxOk G k (Γ.blk scope) X' → Takes X' W0 → OK G X' P W0 e c) {kx vx : Expr} {gens : List Comprehension} {scope : Scope}
    (h : cDcomp Γ f fb kx vx gens scope pos = some c) : OK G X P W (.DictComp kx vx gens scope pos) c := by
  unfold cDcomp at h
  split at h
  · rename_i tg it ifs kk
    split at h
    · rename_i s ci ct ck cv es ei et ek ev
      split at h
      · rename_i hc
        obtain ⟨rfl, hs, hb, hn⟩ := hc
        cases h
        refine .of co.xg rfl rfl (s_dc co.xg.K co.xg.calm co.xg.nd (ok_iter g co hf ei) (own := ownOf Γ scope) (by rw [co.N, co.sc]; exact blkOk_by hb) (fun j hj => ?_)
          (fun s' H C cl fp => tgC_ok (co.blk scope s' H C cl fp) 8 tg s es) (fun s' H C cl fp => ok_ifs (fun e c h => hfb scope e c h _ (co.blk scope s' H C cl fp) (takes0 rfl)) et)
          (fun s' H C cl fp => (hfb scope kx ck ek _ (co.blk scope s' H C cl fp) (takes0 rfl)).e)
          (fun s' H C cl fp => (hfb scope vx cv ev _ (co.blk scope s' H C cl fp) (takes0 rfl)).e) (noSet_ok hs))
        have := List.all_eq_true.mp hn j hj
        simpa using this
      · cases h
    · cases h
  · cases h
end
theorem ok_neg {X : Cx} {G : Ge} {W : WX} {a : Expr} {fa : Ev U} {pos : Pos} (ha : PE X a (lift G W fa)) : PE X (.UnaryOp .USub a pos) (lift G W (e1 (fun _ u st => match u with
    | .int i => some (.int (-i), st)
    | _ => none) fa)) :=
  PEi (pe_un un_neg ha) fun σ H Q ⟨φ, st, ρ, B, b, R, S, P⟩ => ⟨φ, st, ρ, B, b, R, S, P.bind.imp fun u φ1 H1 st1 x1 S1 q v r => by
    cases u with
    | int i => exact ⟨i, r.int_, (Post.ofO q) φ1 H1 .refl S1 _ rt_int.rv⟩
    | _ => exact (Post.ofO q).elim⟩
/-- every expression that is turned is kept -/
theorem comp_ok {G : Ge} {k : Nat} {P : Pg} : ∀ (n : Nat) (Γ : Cg) (e : Expr) (c : C), comp n Γ e = some c → GOk G k Γ P → ∀ (X : Cx) (W : WX), CtxOk G k Γ X → Takes X W → OK G X P W e c := by
  intro n
  induction n with
  | zero => intro Γ e c h; cases h
  | succ n ih =>
    intro Γ e c h g X W co tk
    have hf : ∀ e c, comp n Γ e = some c → OK G X P W e c := fun e c h => ih Γ e c h g X W co tk
    unfold comp at h
    split at h
    · exact ok_name g co h
    · exact ok_const co h
    · split at h
      · rename_i x y ex ey
        cases h
        exact .of co.xg rfl rfl (s_binW (g.bin X W _ co.xg tk) (hf _ _ ex).e (hf _ _ ey).e)
      · cases h
    · split at h
      · obtain ⟨x, ex, rfl⟩ := Option.map_eq_some_iff.mp h
        have pe := s_not (pos := by assumption) (hf _ _ ex).e
        exact ⟨pe, s_tnot (hf _ _ ex).t, fun tg => s_itVal co.xg.K pe⟩
      · obtain ⟨x, ex, rfl⟩ := Option.map_eq_some_iff.mp h
        exact .of co.xg rfl rfl (ok_neg (hf _ _ ex).e)
      · cases h
    · obtain ⟨h1, h2, h3⟩ := ok_bool co hf _ _ h
      exact ⟨h1, h2.pt, h3⟩
    · exact ok_cmp g co tk hf h
    · split at h
      · rename_i x y z ex ey ez
        cases h
        have pe := s_ifExp (pos := by assumption) (hf _ _ ex).t (hf _ _ ey).e (hf _ _ ez).e
        exact ⟨pe, ⟨fun pins s σ H Q I ⟨φ, st, ρ, B, b, R, S, P⟩ => P.elim⟩, fun tg => s_itVal co.xg.K pe⟩
      · cases h
    · obtain ⟨l, el, rfl⟩ := Option.map_eq_some_iff.mp h
      exact .of co.xg rfl rfl (s_tup (ok_list hf _ l el).1)
    · obtain ⟨l, el, rfl⟩ := Option.map_eq_some_iff.mp h
      exact .of co.xg rfl rfl (s_lst (ok_list hf _ l el).1)
    · split at h
      · cases h
        exact .of co.xg rfl rfl s_dct0
      · split at h
        · rename_i x y z ex ey ez
          cases h
          exact .of co.xg rfl rfl (s_sp1 (hf _ _ ex).e (hf _ _ ey).e (hf _ _ ez).e)
        · cases h
      · cases h
    · split at h
      · rename_i hc
        obtain ⟨x, ex, rfl⟩ := Option.map_eq_some_iff.mp h
        exact .of co.xg rfl rfl (s_fld co.xg.K (g.fld _ hc.2) (hf _ _ ex).e (base_ok hc.1))
      · cases h
    · exact ok_sub g co tk hf h
    · split at h
      · split at h
        · rename_i ev
          cases h
          exact ok_view g co hf ev
        · exact ok_callN g co tk hf h
      · exact ok_callM g co tk hf h
      · cases h
    · exact ok_joined co hf h
    · exact ok_lcomp g co hf (fun scope e c h X' co' tk' => ih (Γ.blk scope) e c h (g.blk scope) X' W0 co' tk') h
    · exact ok_dcomp g co hf (fun scope e c h X' co' tk' => ih (Γ.blk scope) e c h (g.blk scope) X' W0 co' tk') h
    · cases h
end EV

set_option maxRecDepth 100000
/-! E34: several targets at once. -/
namespace EV
open PySem PySem.Spec PyProof.Rows L2
open Classical
def swN (sc : Scope) (ts : List Expr) : List Str := ts.filterMap fun
  | .Name id pos => if sc.names.lookup id == some .local && pos.line == (ts.head?.map (·.pos.line)).getD 0 then some id else none
  | _ => none
/-- which stores are swapped: told, or not known -/
def swS (sc : Scope) (ts vs : List Expr) : Option (Option (List Str)) :=
  if (!(ts.length == 2 || ts.length == 3) || vs.length != ts.length) = true then some none
  else if (vs.any fun | .Starred .. => true | _ => false) = true then some none
  else if ((swN sc ts).length != ts.length || (swN sc ts).eraseDups.length != (swN sc ts).length) = true then some none
  else if (vs.all (foldedForSure 8)) = true then some none
  else if (vs.all (constantsAlone 8)) = true then none
  else some (some (swN sc ts))
theorem swS_ok {sc : Scope} {ts vs : List Expr} {k k2 : Nat} {p p2 : Pos} {env : PySem.Env} {r : Option (List Str)} (hk : env.blockKind = .function) (hs : env.scope = sc) (h : swS sc ts vs = some r) : swappedStores [.Tuple ts k p] (.Tuple vs k2 p2) env = pure r := by
  subst hs
  unfold swS at h
  unfold swappedStores
  simp only [hk, Env.kindOf]
  split at h
  · rename_i c
    cases h
    exact if_pos (by rw [c]; rfl)
  · rename_i c
    have c' : (!(ts.length == 2 || ts.length == 3) || vs.length != ts.length) = false := by simpa using c
    refine (if_neg (by rw [c']; decide)).trans ?_
    split at h
    · rename_i c2
      cases h
      exact if_pos c2
    · rename_i c2
      refine (if_neg c2).trans ?_
      split at h
      · rename_i c3
        cases h
        exact if_pos c3
      · rename_i c3
        refine (if_neg c3).trans ?_
        split at h
        · rename_i c4
          cases h
          exact if_pos c4
        · rename_i c4
          refine (if_neg c4).trans ?_
          split at h
          · cases h
          · rename_i c5
            cases h
            exact if_neg c5
section
variable {G : Ge} {W : WX} {X : Cx} {a b2 c : Expr} {fs : Ev (List U)} {pos : Pos}
theorem s_par3 {i j l : Nat} {x y z : Str} {px py pz pt : Pos} {kt k2 : Nat} {pt2 : Pos} (hc : X.calm = true) (hN : X.N.Nodup) (hi : X.N[i]? = some x) (hj : X.N[j]? = some y) (hl : X.N[l]? = some z) (hij : i ≠ j) (hil : i ≠ l) (hjl : j ≠ l)
    (hx : X.env.scope.names.lookup x = some .local) (hy : X.env.scope.names.lookup y = some .local) (hz : X.env.scope.names.lookup z = some .local) (ha : PA X [a, b2, c] (liftA G W fs))
    (hw : swappedStores [.Tuple [.Name x px, .Name y py, .Name z pz] kt pt] (.Tuple [a, b2, c] k2 pt2) X.env = pure (some [x, y, z])) :
    PS X (.Assign [.Tuple [.Name x px, .Name y py, .Name z pz] kt pt] (.Tuple [a, b2, c] k2 pt2) pos) (liftS G W (sParL [i, j, l] fs)) :=
  PSi (ps_par3 hc hN hi hj hl hij hil hjl hx hy hz ha hw) fun D σ H ⟨φ, st, ρ, B, b, R, S, P⟩ => ⟨φ, st, ρ, B, b, R, S, (exS_post R P).imp fun us φ' H' st' x S' q vs r => by
    split at q
    · rename_i hl
      match us, hl, r, q with
      | [u1, u2, u3], _, .cons r1 (.cons r2 (.cons r3 .nil)), q => exact ⟨_, _, _, rfl, q φ' H' .refl S' _ ((((R.mono x).set r1 i).set r2 j).set r3 l)⟩
    · exact q.elim⟩
theorem s_par2 {i j : Nat} {x y : Str} {px py pt : Pos} {kt k2 : Nat} {pt2 : Pos} (hc : X.calm = true) (hN : X.N.Nodup) (hi : X.N[i]? = some x) (hj : X.N[j]? = some y) (hij : i ≠ j)
    (hx : X.env.scope.names.lookup x = some .local) (hy : X.env.scope.names.lookup y = some .local) (ha : PA X [a, b2] (liftA G W fs))
    (hw : swappedStores [.Tuple [.Name x px, .Name y py] kt pt] (.Tuple [a, b2] k2 pt2) X.env = pure (some [x, y])) :
    PS X (.Assign [.Tuple [.Name x px, .Name y py] kt pt] (.Tuple [a, b2] k2 pt2) pos) (liftS G W (sParL [i, j] fs)) :=
  PSi (ps_par hc hN hi hj hij hx hy ha hw) fun D σ H ⟨φ, st, ρ, B, b, R, S, P⟩ => ⟨φ, st, ρ, B, b, R, S, (exS_post R P).imp fun us φ' H' st' x S' q vs r => by
    split at q
    · rename_i hl
      match us, hl, r, q with
      | [u1, u2], _, .cons r1 (.cons r2 .nil), q => exact ⟨_, _, rfl, q φ' H' .refl S' _ (((R.mono x).set r1 i).set r2 j)⟩
    · exact q.elim⟩
theorem s_unp {ts es : List Expr} {tgs : Tgs} {k k2 : Nat} {p p2 : Pos} (hK : X.K = G.K) (hc : X.calm = true) (ha : PA X es (liftA G W fs)) (ht : PGs X ts (liftGs G tgs)) (hn : (assignEach ts X.env).length = ts.length) (hst : (assignEach ts X.env).findIdx? (·.1) = none)
    (hw : swappedStores [.Tuple ts k p] (.Tuple es k2 p2) X.env = pure none) (h1 : (assignEach [.Tuple ts k p] X.env).map (·.2) = [assign (.Tuple ts k p) X.env]) :
    PS X (.Assign [.Tuple ts k p] (.Tuple es k2 p2) pos) (liftS G W (sUnp ts.length fs tgs)) :=
  PSi (ps_asg (pe_tup ha) (pg_tup hc ht hn hst) rfl hw h1) fun D σ H ⟨φ, st, ρ, B, b, R, S, P⟩ => ⟨φ, st, ρ, B, b, R, S, (exS_post R P).imp fun us φ' H' st' x S' q vs r => by
    split at q
    · rename_i hl
      refine ⟨by rw [← r.len]; exact hl.2, fun p hp => ?_⟩
      have x2 : Ext φ' H' φ' (upd H' p (.tup vs)) := Ext.alloc S' hp
      refine ⟨p, vs, rfl, .of upd_same, by rw [← r.len]; exact hl.1, φ', st', ρ, B, b, us, (R.mono x).mono x2, S'.alloc hp, r.mono x2, ?_⟩
      cases e : tgs us b ρ st' with
      | none => rw [e] at q; exact q.elim
      | some z =>
        rw [e] at q
        exact fun φ2 H2 x3 S2 σ' R' => q φ2 H2 (x2.trans x3) S2 σ' R'
    · exact q.elim⟩
end
end EV

set_option maxRecDepth 100000
/-! E15: statements are kept. -/
namespace EV
open PySem PySem.Spec PyProof.Rows L2
open Classical
section
variable {X : Cx}
theorem sw_is {e : Expr} {y : Str} {py : Pos} {l : Nat} {env : PySem.Env} (hk : env.scope.kind = .function) : swapsWith e (some (.Name y py)) l env = pure (match (match e with
    | .ListComp _ _ s _ => some s
    | .SetComp _ _ s _ => some s
    | .DictComp _ _ _ s _ => some s
    | _ => none) with
    | some scope => env.scope.names.lookup y == some .local && py.line == e.pos.line && !(scope.names.any fun (n, k) => n == y && (k == .local || k == .cell))
    | none => false) := by
  have hb : env.blockKind = .function := by unfold Env.blockKind; rw [hk]; rfl
  cases e <;> first | rfl | (unfold swapsWith; simp only [hb, Env.kindOf]; rfl)
theorem ps_setDc {i : Nat} {y : Str} {py : Pos} {kx vx tg iter : Expr} {ifs : List Expr} {scope : Scope} {own : List (Str × Nat)} {pos spos : Pos} {wi : TI} {g : TG} {tt : TT} {tk tv : TE} (hc : X.calm = true) (hN : X.N.Nodup) (hy : X.N[i]? = some y) (hyl : X.env.scope.names.lookup y = some .local)
    (hsw : swapsWith (.DictComp kx vx [⟨tg, iter, ifs, 0⟩] scope pos) (some (.Name y py)) spos.line X.env = pure true) (hi : PI X tg iter wi) (ok : BlkOk X.N X.env.scope scope own)
    (hg : ∀ (s : Shared) (H : Hp) (C : Addr) (cl : List (Str × Addr)) (fp : List Addr), PG (X.blk s H scope (compEnvC scope cl C X.env) fp) tg g) (ht : ∀ (s : Shared) (H : Hp) (C : Addr) (cl : List (Str × Addr)) (fp : List Addr), PTs (X.blk s H scope (compEnvC scope cl C X.env) fp) ifs tt)
    (hk : ∀ (s : Shared) (H : Hp) (C : Addr) (cl : List (Str × Addr)) (fp : List Addr), PE (X.blk s H scope (compEnvC scope cl C X.env) fp) kx tk)
    (he : ∀ (s : Shared) (H : Hp) (C : Addr) (cl : List (Str × Addr)) (fp : List Addr), PE (X.blk s H scope (compEnvC scope cl C X.env) fp) vx tv) (hs : ∀ x, foldedSetIterable iter X.env x = pure x) :
    PS X (.Assign [.Name y py] (.DictComp kx vx [⟨tg, iter, ifs, 0⟩] scope pos) spos) (tAsg (tDc wi g tt tk tv (own.map (·.2))) (gName i)) := by
  refine ⟨fun pins s σ H D I h => ?_⟩
  rw [exec_Assign_Name_used _ _ _ _ hsw]
  refine wpAny_bind (wpAny_standAt (wpAny_bind ?_))
  show wpAny _ X.A (do let _ ← comprehension (.DictComp kx vx [⟨tg, iter, ifs, 0⟩] scope pos) scope X.env (firstIterPos [⟨tg, iter, ifs, 0⟩] pos) newDict false (eval iter X.env) (some (assign (.Name y py) X.env))) _ _ s
  have h : tDc wi g tt tk tv (own.map (·.2)) σ H (fun x H1 => gName i x σ H1 D.nx) := h
  refine wpAny_bind (thn (dc_core (Qf := fun _ s' => SP X pins D .next s') hc hN I hi ok hg ht hk he hs h fun L C s' m H' I' q hn f => ?_) fun _ s' hq => wpAny_pure (wpAny_pure hq))
  show wpAny _ _ (assign (.Name y py) X.env (.ref L)) _ _ _
  refine wpAny_assign_Name (store_ok2 (v := V.ref L) I' hN hy (.inl hyl) rfl (fun s2 I2 ⟨a, sb, ha⟩ => ?_) (.inr hyl))
  obtain ⟨f0, f1, f2, f3, f4, f5⟩ := f
  have haC : C ≠ a := by
    rcases ha with z | z
    · rw [z]; exact f1
    · exact fun e => f4 y a z e.symm
  refine ⟨m, hn.sameBut sb haC, fun h3 sb3 => ?_⟩
  exact ⟨_, H', I2.turned (t' := s2.toks) (fun b o hb e => (sb3.2 b hb).trans e) f0 f1 f3 f4 f5, q⟩
end
/-! ### from the text's statements to the core -/
def swB (sc : Scope) (y : Str) (py : Pos) (e : Expr) : Bool := match (match e with
    | .ListComp _ _ s _ => some s
    | .SetComp _ _ s _ => some s
    | .DictComp _ _ _ s _ => some s
    | _ => none) with
    | some scope => sc.names.lookup y == some .local && py.line == e.pos.line && !(scope.names.any fun (n, k) => n == y && (k == .local || k == .cell))
    | none => false
section
variable (Γ : Cg) (f : Expr → Option C)
def tComp : Nat → Expr → Option T
  | 0, _ => none
  | n + 1, e => match e with
    | .Name x _ => (tIx Γ x).map .nm
    | .Tuple es _ _ => (tL (tComp n) es).map .tp
    | .Subscript a i _ => if plainIx i = true then (match f a, f i with
      | some x, some y => some (.sub x y)
      | _, _ => none) else none
    | _ => none
where tL (g : Expr → Option T) : List Expr → Option (List T)
  | [] => some []
  | e :: es => if noStar e = true then (match g e, tL g es with
    | some t, some ts => some (t :: ts)
    | _, _ => none) else none
def sAssign (t e : Expr) : Option S := match t with
  | .Name x py => (match f e, tIx Γ x with
    | some c, some i => if swB Γ.sc x py e = true then (match e with
        | .ListComp _ [⟨_, _, _, _⟩] _ _ => some (.asg (.nm i) c)
        | .DictComp _ _ [⟨_, _, _, _⟩] _ _ => some (.asg (.nm i) c)
        | _ => none) else some (.asg (.nm i) c)
    | _, _ => none)
  | .Attribute o x _ => if Γ.flds.contains x = true then (match f o, f e with
    | some co, some ce => some (.fld co x ce)
    | _, _ => none) else none
  | .Subscript a i p => (match tComp Γ f 8 (.Subscript a i p), f e with
    | some t, some c => some (.asg t c)
    | _, _ => none)
  | .Tuple es k p => (match e with
    | .Tuple vs _ _ => (match swS Γ.sc es vs with
      | some none => (match tComp.tL (tComp Γ f 8) es, compL f vs with
        | some ts, some l => some (.unp ts l)
        | _, _ => none)
      | some (some _) => (match es, vs with
        | [.Name x _, .Name y _], [a, b] => (match tIx Γ x, tIx Γ y, compL f [a, b] with
          | some i, some j, some l => if swS Γ.sc es vs = some (some [x, y]) ∧ x ≠ y ∧ Γ.sc.names.lookup x = some .local ∧ Γ.sc.names.lookup y = some .local then some (.par [i, j] l) else none
          | _, _, _ => none)
        | [.Name x _, .Name y _, .Name z _], [a, b, c] => (match tIx Γ x, tIx Γ y, tIx Γ z, compL f [a, b, c] with
          | some i, some j, some k, some l => if swS Γ.sc es vs = some (some [x, y, z]) ∧ (x ≠ y ∧ x ≠ z ∧ y ≠ z) ∧ Γ.sc.names.lookup x = some .local ∧ Γ.sc.names.lookup y = some .local ∧ Γ.sc.names.lookup z = some .local then some (.par [i, j, k] l) else none
          | _, _, _, _ => none)
        | _, _ => none)
      | none => none)
    | e => if noTup e = true then (match tComp Γ f 8 (.Tuple es k p), f e with
      | some t, some c => some (.asg t c)
      | _, _ => none) else none)
  | _ => none
end
def orStuck : Option S → S
  | some s => s
  | none => .stuck
def noOther : List Stmt → Bool
  | [] => true
  | _ => false
def sExprC (f : Expr → Option C) (e : Expr) : Option S := match e with
  | .Constant (.str _) _ _ => some .nil
  | e => if noComp e = true then (f e).map .expr else none
mutual
def compS (n : Nat) (Γ : Cg) : Stmt → S
  | .Expr e _ => orStuck (sExprC (comp n Γ) e)
  | .Assign ts e _ => (match ts with
    | [t] => orStuck (sAssign Γ (comp n Γ) t e)
    | _ => .stuck)
  | .Return v _ => (match v with
    | some e => orStuck ((comp n Γ e).map .ret)
    | none => .retN)
  | .If t a b _ => (match comp n Γ t with
    | some c => .ife c (compSs n Γ a) (compSs n Γ b)
    | none => .stuck)
  | .For t it body els _ => if noOther els = true ∧ noSet it = true then (match cIter Γ (comp n Γ) t it, tComp Γ (comp n Γ) 8 t with
    | some ci, some ct => .for_ ci ct (compSs n Γ body)
    | _, _ => .stuck) else .stuck
  | .While t body els _ => if noOther els = true then (match comp n Γ t with
    | some c => .while_ c (compSs n Γ body)
    | none => .stuck) else .stuck
  | .Pass _ => .nil
  | .Break _ => .brk
  | .Continue _ => .cnt
  | _ => .stuck
def compSs (n : Nat) (Γ : Cg) : List Stmt → S
  | [] => .nil
  | s :: r => .seq (compS n Γ s) (compSs n Γ r)
end
structure CtxS (G : Ge) (k : Nat) (Γ : Cg) (X : Cx) : Prop extends CtxOk G k Γ X where
  ps : PassesOwn (model X.prog X.w) X.A X.env X.xe
  kind : Γ.sc.kind = .function
section
variable {G : Ge} {k : Nat} {Γ : Cg} {P : Pg} {W : WX} {X : Cx} {f : Expr → Option C} {e : Expr} {c : C} {pos : Pos}
theorem tL_ok {gg : Expr → Option T} (hg : ∀ e t, gg e = some t → PG X e (liftG G (evTg P t))) : ∀ (es : List Expr) (ts : List T), tComp.tL gg es = some ts → PGs X es (liftGs G (evTgs P ts)) ∧ es.all noStar = true ∧ ts.length = es.length
  | [], ts, h => by cases h; exact ⟨s_gsnil, rfl, rfl⟩
  | e :: es, ts, h => by
    unfold tComp.tL at h
    split at h
    · rename_i hs
      split at h
      · rename_i t ts' et ets
        cases h
        obtain ⟨h1, h2, h3⟩ := tL_ok hg es ts' ets
        exact ⟨s_gscons (hg e t et) h1 (by rw [asgCons hs]; rfl), by rw [List.all_cons, hs, h2]; rfl, by simp [h3]⟩
      · cases h
    · cases h
theorem tComp_ok (g : GOk G k Γ P) (co : CtxOk G k Γ X) (hf : ∀ e c, f e = some c → OK G X P W e c) : ∀ (n : Nat) (e : Expr) (t : T), tComp Γ f n e = some t → PG X e (liftG G (evTg P t))
  | 0, e, t, h => by cases h
  | n + 1, e, t, h => by
    unfold tComp at h
    split at h
    · obtain ⟨i, ei, rfl⟩ := Option.map_eq_some_iff.mp h
      obtain ⟨h1, h2, h3⟩ := tIx_ok co ei
      exact s_gname co.xg.nd h1 h2 h3
    · obtain ⟨ts, es, rfl⟩ := Option.map_eq_some_iff.mp h
      obtain ⟨h1, h2, h3⟩ := tL_ok (tComp_ok g co hf n) _ ts es
      show PG X _ (liftG G (gTupE ts.length (evTgs P ts)))
      rw [h3]
      exact s_gtup co.xg.K co.xg.calm h1 (asgEach h2).1 (asgEach h2).2
    · split at h
      · rename_i hp
        split at h
        · rename_i x y ex ey
          cases h
          exact s_gsub (g.set X co.xg) (hf _ _ ex).e (hf _ _ ey).e (asgSub hp)
        · cases h
      · cases h
    · cases h
theorem attr_sw {o e : Expr} {x : Str} {p : Pos} {l : Nat} {env : PySem.Env} : swapsWith e (some (.Attribute o x p)) l env = pure false := by
  cases e <;> rfl
theorem noSwap (co : CtxS G k Γ X) {e : Expr} {x : Str} {py : Pos} {l : Nat} (h : swB Γ.sc x py e = false) : swapsWithSole [.Name x py] e l X.env = pure false := by
  show swapsWith e (some (.Name x py)) l X.env = pure false
  rw [sw_is (by rw [co.sc]; exact co.kind), co.sc]
  unfold swB at h
  rw [h]
theorem yesSwap (co : CtxS G k Γ X) {e : Expr} {x : Str} {py : Pos} {l : Nat} (h : swB Γ.sc x py e = true) : swapsWith e (some (.Name x py)) l X.env = pure true := by
  rw [sw_is (by rw [co.sc]; exact co.kind), co.sc]
  unfold swB at h
  rw [h]
theorem swB_local {sc : Scope} {e : Expr} {x : Str} {py : Pos} (h : swB sc x py e = true) : sc.names.lookup x = some .local := by
  unfold swB at h
  split at h
  · rw [Bool.and_eq_true, Bool.and_eq_true] at h
    exact beq_iff_eq.mp h.1.1
  · cases h
theorem asg_imp {i : Nat} {fa : Ev U} {D : Ends} {σ : L2.St} {H : Hp} (h : liftS G W (sAsg fa (gVar i)) D σ H) : tAsg (lift G W fa) (gName i) D σ H := by
  obtain ⟨φ, st, ρ, B, b, R, S, P⟩ := h
  refine ⟨φ, st, ρ, B, b, R, S, (exS_post R P).imp fun u φ' H' st' x S' q v r => ?_⟩
  simp only [gVar] at q
  by_cases hi : i < ρ.length
  · rw [if_pos hi] at q
    exact q φ' H' .refl S' _ ((R.mono x).set r i)
  · rw [if_neg hi] at q
    exact q.elim
theorem ok_setL {n : Nat} (g : GOk G k Γ P) (co : CtxS G k Γ X) (tk : Takes X W) {elt : Expr} {gens : List Comprehension} {scope : Scope} {p spos py : Pos} {y : Str} {i : Nat} (hi : tIx Γ y = some i) (hsw : swB Γ.sc y py (.ListComp elt gens scope p) = true)
    (h : comp n Γ (.ListComp elt gens scope p) = some c) : PS X (.Assign [.Name y py] (.ListComp elt gens scope p) spos) (liftS G W (sAsg (evE P c) (gVar i))) := by
  cases n with
  | zero => cases h
  | succ n =>
  replace h : cLcomp Γ (comp n Γ) (fun sc => comp n (Γ.blk sc)) elt gens scope p = some c := h
  have hf : ∀ e c, comp n Γ e = some c → OK G X P W e c := fun e c h => comp_ok n Γ e c h g X W co.toCtxOk tk
  have hfb : ∀ scope e c, comp n (Γ.blk scope) e = some c → ∀ X', CtxOk G k (Γ.blk scope) X' → Takes X' W0 → OK G X' P W0 e c := fun scope e c h X' co' tk' => comp_ok n (Γ.blk scope) e c h (g.blk scope) X' W0 co' tk'
  unfold cLcomp at h
  split at h
  · rename_i tg it ifs kk
    split at h
    · rename_i s ci ct ce es ei et ee
      split at h
      · rename_i hc
        obtain ⟨rfl, hs, hb, hn⟩ := hc
        cases h
        obtain ⟨t1, t2, t3⟩ := tIx_ok co.toCtxOk hi
        refine PSi (s_setLc (live := liveAt Γ p) co.xg.K co.xg.calm co.xg.nd t1 (by rw [co.sc]; exact swB_local hsw) (yesSwap co hsw) (ok_iter g co.toCtxOk hf ei) (own := ownOf Γ scope) (by rw [co.N, co.sc]; exact blkOk_by hb) (fun j hj => ?_)
          (fun s' H C cl fp => tgC_ok (co.toCtxOk.blk scope s' H C cl fp) 8 tg s es) (fun s' H C cl fp => ok_ifs (fun e c h => hfb scope e c h _ (co.toCtxOk.blk scope s' H C cl fp) (takes0 rfl)) et)
          (fun s' H C cl fp => (hfb scope elt ce ee _ (co.toCtxOk.blk scope s' H C cl fp) (takes0 rfl)).e) (noSet_ok hs)) fun D σ H q => asg_imp q
        have := List.all_eq_true.mp hn j hj
        simpa using this
      · cases h
    · cases h
  · cases h
theorem ok_setD {n : Nat} (g : GOk G k Γ P) (co : CtxS G k Γ X) (tk : Takes X W) {kx vx : Expr} {gens : List Comprehension} {scope : Scope} {p spos py : Pos} {y : Str} {i : Nat} (hi : tIx Γ y = some i) (hsw : swB Γ.sc y py (.DictComp kx vx gens scope p) = true)
    (h : comp n Γ (.DictComp kx vx gens scope p) = some c) : PS X (.Assign [.Name y py] (.DictComp kx vx gens scope p) spos) (liftS G W (sAsg (evE P c) (gVar i))) := by
  cases n with
  | zero => cases h
  | succ n =>
  replace h : cDcomp Γ (comp n Γ) (fun sc => comp n (Γ.blk sc)) kx vx gens scope p = some c := h
  have hf : ∀ e c, comp n Γ e = some c → OK G X P W e c := fun e c h => comp_ok n Γ e c h g X W co.toCtxOk tk
  have hfb : ∀ scope e c, comp n (Γ.blk scope) e = some c → ∀ X', CtxOk G k (Γ.blk scope) X' → Takes X' W0 → OK G X' P W0 e c := fun scope e c h X' co' tk' => comp_ok n (Γ.blk scope) e c h (g.blk scope) X' W0 co' tk'
  unfold cDcomp at h
  split at h
  · rename_i tg it ifs kk
    split at h
    · rename_i s ci ct ck cv es ei et ek ev
      split at h
      · rename_i hc
        obtain ⟨rfl, hs, hb, hn⟩ := hc
        cases h
        obtain ⟨t1, t2, t3⟩ := tIx_ok co.toCtxOk hi
        refine PSi (ps_unl (ps_setDc co.xg.calm co.xg.nd t1 (by rw [co.sc]; exact swB_local hsw) (yesSwap co hsw) (ok_iter g co.toCtxOk hf ei) (own := ownOf Γ scope) (by rw [co.N, co.sc]; exact blkOk_by hb)
          (fun s' H C cl fp => tgC_ok (co.toCtxOk.blk scope s' H C cl fp) 8 tg s es) (fun s' H C cl fp => ok_ifs (fun e c h => hfb scope e c h _ (co.toCtxOk.blk scope s' H C cl fp) (takes0 rfl)) et)
          (fun s' H C cl fp => (hfb scope kx ck ek _ (co.toCtxOk.blk scope s' H C cl fp) (takes0 rfl)).e)
          (fun s' H C cl fp => (hfb scope vx cv ev _ (co.toCtxOk.blk scope s' H C cl fp) (takes0 rfl)).e) (noSet_ok hs))) fun D σ H q => dc_imp (live := liveAt Γ p) co.xg.K (fun j hj => ?_) (asg_imp q)
        have := List.all_eq_true.mp hn j hj
        simpa using this
      · cases h
    · cases h
  · cases h
theorem blk_fn (co : CtxS G k Γ X) : X.env.blockKind = .function := by
  unfold Env.blockKind
  rw [co.sc, co.kind]; rfl
theorem ok_assign {n : Nat} (g : GOk G k Γ P) (co : CtxS G k Γ X) (tk : Takes X W) {t e : Expr} {s : S} (h : sAssign Γ (comp n Γ) t e = some s) : PS X (.Assign [t] e pos) (liftS G W (evS P s)) := by
  have hf : ∀ e c, comp n Γ e = some c → OK G X P W e c := fun e c h => comp_ok n Γ e c h g X W co.toCtxOk tk
  unfold sAssign at h
  split at h
  · rename_i x py
    split at h
    · rename_i c i ec ei
      split at h
      · rename_i hsw
        split at h
        · cases h; exact ok_setL g co tk ei hsw ec
        · cases h; exact ok_setD g co tk ei hsw ec
        · cases h
      · rename_i hsw
        cases h
        obtain ⟨t1, t2, t3⟩ := tIx_ok co.toCtxOk ei
        exact s_asg (hf _ _ ec).e (s_gname co.xg.nd t1 t2 t3) (noSwap co (by simpa using hsw)) (noTup_sw (.inl rfl)) (asgEach1 rfl)
    · cases h
  · split at h
    · rename_i hx
      split at h
      · rename_i co' ce eo ee
        cases h
        exact s_sfld co.xg.K (g.fld _ hx) (hf _ _ eo).e (hf _ _ ee).e attr_sw
      · cases h
    · cases h
  · split at h
    · rename_i t' c et ec
      cases h
      exact s_asg (hf _ _ ec).e (tComp_ok g co.toCtxOk hf 8 _ t' et) (subT_sole rfl) (noTup_sw (.inl rfl)) (asgEach1 rfl)
    · cases h
  · split at h
    · split at h
      · rename_i hsw
        have hw := fun k k2 p p2 => swS_ok (k := k) (k2 := k2) (p := p) (p2 := p2) (blk_fn co) co.sc hsw
        split at h
        · rename_i ts l et el
          cases h
          obtain ⟨h1, h2, h3⟩ := tL_ok (tComp_ok g co.toCtxOk hf 8) _ ts et
          show PS X _ (liftS G W (sUnp ts.length (evEs P l) (evTgs P ts)))
          rw [h3]
          exact s_unp co.xg.K co.xg.calm (ok_list hf _ l el).1 h1 (asgEach h2).2 (asgEach h2).1 (hw _ _ _ _) (asgEach1 rfl)
        · cases h
      · rename_i ns hsw
        split at h
        · rename_i x px y py a b
          split at h
          · rename_i i j l ei ej el
            split at h
            · rename_i hc
              cases h
              obtain ⟨hs, hne, hx, hy⟩ := hc
              have hw := fun k k2 p p2 => swS_ok (k := k) (k2 := k2) (p := p) (p2 := p2) (blk_fn co) co.sc hs
              obtain ⟨t1, _, _⟩ := tIx_ok co.toCtxOk ei
              obtain ⟨u1, _, _⟩ := tIx_ok co.toCtxOk ej
              exact s_par2 co.xg.calm co.xg.nd t1 u1 (fun z => hne (by rw [z, u1] at t1; exact (Option.some.inj t1).symm)) (by rw [co.sc]; exact hx) (by rw [co.sc]; exact hy) (ok_list hf _ l el).1 (hw _ _ _ _)
            · cases h
          · cases h
        · rename_i x px y py z pz a b c
          split at h
          · rename_i i j k l ei ej ek el
            split at h
            · rename_i hc
              cases h
              obtain ⟨hs, ⟨n1, n2, n3⟩, hx, hy, hz⟩ := hc
              have hw := fun k k2 p p2 => swS_ok (k := k) (k2 := k2) (p := p) (p2 := p2) (blk_fn co) co.sc hs
              obtain ⟨t1, _, _⟩ := tIx_ok co.toCtxOk ei
              obtain ⟨u1, _, _⟩ := tIx_ok co.toCtxOk ej
              obtain ⟨w1, _, _⟩ := tIx_ok co.toCtxOk ek
              exact s_par3 co.xg.calm co.xg.nd t1 u1 w1 (fun z => n1 (by rw [z, u1] at t1; exact (Option.some.inj t1).symm)) (fun z => n2 (by rw [z, w1] at t1; exact (Option.some.inj t1).symm)) (fun z => n3 (by rw [z, w1] at u1; exact (Option.some.inj u1).symm)) (by rw [co.sc]; exact hx) (by rw [co.sc]; exact hy) (by rw [co.sc]; exact hz) (ok_list hf _ l el).1 (hw _ _ _ _)
            · cases h
          · cases h
        · cases h
      · cases h
    · split at h
      · rename_i hn
        split at h
        · rename_i t' c et ec
          cases h
          exact s_asg (hf _ _ ec).e (tComp_ok g co.toCtxOk hf 8 _ t' et) (subT_sole rfl) (noTup_sw (.inr hn)) (asgEach1 rfl)
        · cases h
      · cases h
  · cases h
theorem ok_exprS {n : Nat} (g : GOk G k Γ P) (co : CtxS G k Γ X) (tk : Takes X W) {s : S} (h : sExprC (comp n Γ) e = some s) : PS X (.Expr e pos) (liftS G W (evS P s)) := by
  unfold sExprC at h
  split at h
  · cases h; exact s_doc
  · split at h
    · rename_i hn
      obtain ⟨c, ec, rfl⟩ := Option.map_eq_some_iff.mp h
      exact s_expr (comp_ok n Γ e c ec g X W co.toCtxOk tk).e (noComp_swaps hn)
    · cases h
theorem orStuck_ok {st : Stmt} {o : Option S} (h : ∀ s, o = some s → PS X st (liftS G W (evS P s))) : PS X st (liftS G W (evS P (orStuck o))) := by
  cases o with
  | none => exact s_stuck
  | some s => exact h s rfl
mutual
theorem compS_ok (n : Nat) (g : GOk G k Γ P) (co : CtxS G k Γ X) (tk : Takes X W) : ∀ st : Stmt, PS X st (liftS G W (evS P (compS n Γ st)))
  | .Expr e _ => by unfold compS; exact orStuck_ok fun s h => ok_exprS g co tk h
  | .Assign ts e _ => by
    unfold compS
    split
    · exact orStuck_ok fun s h => ok_assign g co tk h
    · exact s_stuck
  | .Return v _ => by
    unfold compS
    split
    · refine orStuck_ok fun s h => ?_
      obtain ⟨c, ec, rfl⟩ := Option.map_eq_some_iff.mp h
      exact s_ret (comp_ok n Γ _ c ec g X W co.toCtxOk tk).e
    · exact s_retN
  | .If t a b _ => by
    unfold compS
    split
    · rename_i c ec
      exact s_if (comp_ok n Γ _ c ec g X W co.toCtxOk tk).t (compSs_ok n g co tk a) (compSs_ok n g co tk b)
    · exact s_stuck
  | .For t it body els _ => by
    have hf : ∀ e c, comp n Γ e = some c → OK G X P W e c := fun e c h => comp_ok n Γ e c h g X W co.toCtxOk tk
    unfold compS
    split
    · rename_i hc
      split
      · rename_i ci ct ei et
        cases els with
        | nil => exact s_for co.ps co.xg.calm (ok_iter g co.toCtxOk hf ei) (tComp_ok g co.toCtxOk hf 8 _ ct et) (compSs_ok n g co tk body) (noSet_ok hc.2)
        | cons _ _ => cases hc.1
      · exact s_stuck
    · exact s_stuck
  | .While t body els _ => by
    unfold compS
    split
    · rename_i hc
      split
      · rename_i c ec
        cases els with
        | nil => exact s_while co.ps (comp_ok n Γ _ c ec g X W co.toCtxOk tk).t (compSs_ok n g co tk body)
        | cons _ _ => cases hc
      · exact s_stuck
    · exact s_stuck
  | .Pass _ => by unfold compS; exact s_pass
  | .Break _ => by unfold compS; exact s_break
  | .Continue _ => by unfold compS; exact s_continue
  | .FunctionDef .. => by unfold compS; exact s_stuck
  | .AsyncFunctionDef .. => by unfold compS; exact s_stuck
  | .ClassDef .. => by unfold compS; exact s_stuck
  | .Delete .. => by unfold compS; exact s_stuck
  | .TypeAlias .. => by unfold compS; exact s_stuck
  | .AugAssign .. => by unfold compS; exact s_stuck
  | .AnnAssign .. => by unfold compS; exact s_stuck
  | .AsyncFor .. => by unfold compS; exact s_stuck
  | .With .. => by unfold compS; exact s_stuck
  | .AsyncWith .. => by unfold compS; exact s_stuck
  | .Match .. => by unfold compS; exact s_stuck
  | .Raise .. => by unfold compS; exact s_stuck
  | .Try .. => by unfold compS; exact s_stuck
  | .TryStar .. => by unfold compS; exact s_stuck
  | .Assert .. => by unfold compS; exact s_stuck
  | .Import .. => by unfold compS; exact s_stuck
  | .ImportFrom .. => by unfold compS; exact s_stuck
  | .Global .. => by unfold compS; exact s_stuck
  | .Nonlocal .. => by unfold compS; exact s_stuck
theorem compSs_ok (n : Nat) (g : GOk G k Γ P) (co : CtxS G k Γ X) (tk : Takes X W) : ∀ sts : List Stmt, PSs X sts (liftS G W (evS P (compSs n Γ sts)))
  | [] => by unfold compSs; exact s_snil
  | s :: r => by unfold compSs; exact s_seq (compS_ok n g co tk s) (compSs_ok n g co tk r)
end
/-! ### a def -/
/-- a def's function, from its body -/
noncomputable def fnE (P : Pg) (N : List Str) (body : S) : Fn := fun b us st => match evS P body b (us.map some ++ List.replicate (N.length - us.length) none) st with
  | .ok (.nx, _) st' => .ok .non st'
  | .ok (.rt u, _) st' => .ok u st'
  | .ok (.ex e, _) st' => .exc e st'
  | _ => .stuck
theorem start_ok {φ : Ph} {H : Hp} {us : List U} {vs : List V} {N : List Str} (r : RVs G φ H us vs) : StR G φ H (us.map some ++ List.replicate (N.length - us.length) none) (L2.start N vs) := by
  refine ⟨by simp [L2.start, r.len], fun i u e => ?_⟩
  by_cases hi : i < us.length
  · rw [List.getElem?_append_left (by simpa using hi), List.getElem?_map] at e
    cases e1 : us[i]? with
    | none => rw [e1] at e; cases e
    | some w =>
      rw [e1] at e; cases e
      obtain ⟨v, e2, rv⟩ := pGet r e1
      refine ⟨v, ?_, rv⟩
      unfold L2.start
      rw [List.getElem?_append_left (by rw [List.length_map, ← r.len]; exact hi), List.getElem?_map, e2]; rfl
  · rw [List.getElem?_append_right (by simpa using hi), List.getElem?_replicate] at e
    split at e <;> cases e
/-- THE DEF: its body turned, it does what its function says -/
theorem def_ok {x qual : Str} {params : Arguments} {body : List Stmt} {scope : Scope} {dvs : List V} {kws : List (Str × V)} {fa : Addr} {fd : FuncData} {ps : List Str} {n : Nat} (FD : FunD G.K x qual params body scope dvs kws fa fd) (S : FnScope Γ.N ps scope) (hs : Γ.sc = scope) (hfc : Γ.fc = none)
    (g : GOk G k Γ P) : FnG G.P G.w G.K G.mg G.base (L2.CX G.P G.w) (k + 2) fa fd ps (spE G ps.length (fnE P Γ.N (compSs n Γ body))) := by
  obtain ⟨oc, od, dV, kV, doc, pm, an, cdv, ct, osl, rfl, lk, hcd, _, _⟩ := FD.ex
  refine fng_of lk hcd S (fun vs H Q E h => h.1) fun A outer s H vs Q E hgd hr h => ?_
  obtain ⟨hl, φ, st, B, b, us, SS, r, P0⟩ := h
  let X := cxOf (L2.CX G.P G.w) G.P G.w G.K G.mg G.base Γ.N qual scope fa cdv A outer s H E
  have tk : Takes X (fun cls d _ H => E cls d H) := takes_of rfl rfl rfl rfl
  have xg : XG X G (k + 1) := ⟨rfl, rfl, hr, S.nd, hgd⟩
  have co : CtxS G k Γ X := { xg := xg, N := rfl, sc := hs.symm, fn := fun _ _ => rfl, ps := passes_of rfl, kind := by rw [hs]; exact S.kind }
  refine ⟨_, compSs_ok n g co tk body, φ, st, _, B, b, start_ok r, SS, ?_⟩
  unfold fnE at P0
  unfold PostS
  generalize evS P (compSs n Γ body) b (us.map some ++ List.replicate (Γ.N.length - us.length) none) st = res at P0 ⊢
  cases res with
  | stuck => exact P0
  | exc e st' => exact P0.elim
  | ok p st' =>
    obtain ⟨fl, ρ'⟩ := p
    intro φ' H' x S'
    cases fl with
    | nx => exact fun σ _ => P0 φ' H' x S' .non rt_non.rv
    | rt u => exact fun v rv => P0 φ' H' x S' v rv
    | bk => exact P0.elim
    | ct => exact P0.elim
    | ex e => exact fun σ cls d _ rx => P0 φ' H' cls d x S' rx
end
end EV

set_option maxRecDepth 100000
/-! E28: the program's operations by tables. -/
namespace EV
open PySem PySem.Spec PyProof.Rows L2
section
variable {G : Ge} {W : WX} {X : Cx} {φ : Ph} {H : Hp} {B : Nat → Prop} {b : Nat} {st : List U} {k : Nat}
/-! ### in -/
noncomputable def inD (u w : U) (st : List U) : Option Bool := match dctAt w st with
  | some (ks, us) => (match toKK u with
    | some k => if kindOk ks k = true then some (kkget ks us k).isSome else none
    | none => none)
  | none => match pdAt u st, pdAt w st with
    | some d, some (.list ds) => if SeqAt.shaped d = true ∧ SeqAt.shaped (.list ds) = true then some (ds.any fun z => PyData.eqv z d) else none
    | _, _ => none
noncomputable def inU (u w : U) (st : List U) : Option Bool := match u, w with
  | .str i, .str j => some (!(Builtin.Str.occurrences j i 0 j.length 1).isEmpty)
  | u, w => inD u w st
noncomputable def pIn (neg : Bool) : Pr2 := fun _ u w st => (inU u w st).map fun c => (.bl (c != neg), st)
theorem oIn (hK : X.K = G.K) (hu : X.A.units + 65 < cLine) (neg : Bool) : OpR X (compareOp (if neg = true then .NotIn else .In)) (r2 G (pIn neg)) := by
  intro pins s σ H x y v vv Q I r1 r2 ⟨φ, st, B, b, u, w, S, ru, rw_, P⟩
  unfold pIn at P
  have gen : ∀ c, inD u w st = some c → (∀ v', RV G φ H (.bl (c != neg)) v' → Q v' H) → wpAny (model X.prog X.w) X.A (compareOp (if neg = true then .NotIn else .In) v vv) (EP X pins σ Q) X.xe s := fun c e q => by
    unfold inD at e
    split at e
    · rename_i ks us ed
      split at e
      · rename_i k ek
        split at e
        · rename_i hk
          cases e
          obtain ⟨d, o, rfl, g, g1, g2⟩ := dget_ok S rw_ ru ed ek (kind1 hk) (kind2 hk)
          obtain rfl : vv = Value.ref d := r2
          have ho : (kkget ks us k).isSome = o.isSome := by
            cases ez : kkget ks us k with
            | none => rw [g1 ez]; rfl
            | some z => obtain ⟨x', e1, _⟩ := g2 z ez; rw [e1]; rfl
          rw [ho] at q
          cases neg with
          | true => exact d_notIn (by omega) I g r1 fun s' I' => ⟨.bl _, H, I', rfl, q _ (by simpa using rt_bl.rv)⟩
          | false => exact d_in (by omega) I g r1 fun s' I' => ⟨.bl _, H, I', rfl, q _ (by simpa using rt_bl.rv)⟩
        · cases e
      · cases e
    · split at e
      · rename_i d ds e1 e2
        split at e
        · rename_i hs
          cases e
          have h1 := pdAt_ok hK S ru e1
          have h2 := pdAt_ok hK S rw_ e2
          cases neg with
          | true => exact op_notInD hu pins s σ H x y v vv Q I r1 r2 ⟨d, ds, h1, h2, hs.1, hs.2, q _ (by simpa using rt_bl.rv)⟩
          | false => exact op_inD hu pins s σ H x y v vv Q I r1 r2 ⟨d, ds, h1, h2, hs.1, hs.2, q _ (by simpa using rt_bl.rv)⟩
        · cases e
      · cases e
  cases e : inU u w st with
  | none => rw [e] at P; exact P.elim
  | some c =>
    rw [e] at P
    have q := P φ H .refl S
    unfold inU at e
    split at e
    · cases e
      cases ru.str_; cases rw_.str_
      cases neg with
      | true => exact op_notin_str pins s σ H _ _ v vv Q I r1 r2 ⟨_, _, rfl, rfl, q _ (by simpa using rt_bl.rv)⟩
      | false => exact op_in_str pins s σ H _ _ v vv Q I r1 r2 ⟨_, _, rfl, rfl, q _ (by simpa using rt_bl.rv)⟩
    · exact gen c e q
/-! ### built-in comparisons -/
noncomputable def pCmp : CmpOp → Pr2
  | .Eq => pEq false
  | .NotEq => pEq true
  | .Lt => cLt | .LtE => cLe | .Gt => cGt | .GtE => cGe
  | .Is => pIs false | .IsNot => pIs true
  | .In => pIn false | .NotIn => pIn true
theorem oCmp (hG : XG X G (k + 1)) (op : CmpOp) : OpR X (compareOp op) (r2 G (pCmp op)) := by
  have hu := hG.room.un
  have hi : X.A.in1.units = X.A.units + 1 := rfl
  cases op with
  | Eq => exact oEq hG.K (by omega) false
  | NotEq => exact oEq hG.K (by omega) true
  | Lt => exact oLt
  | LtE => exact oLe
  | Gt => exact oGt
  | GtE => exact oGe
  | Is => exact oIs
  | IsNot => exact oIsNot
  | In => exact oIn hG.K (by omega) false
  | NotIn => exact oIn hG.K (by omega) true
/-! ### the tables -/
structure Tab where
  isi : List ((Kd × Kd) × Bool)
  bin : List ((String × Nat) × Nat)
  binS : List ((String × Nat) × Nat)
  rbinS : List ((String × Nat) × Nat)
  cmp : List ((Str × Nat) × Nat)
  ne : List (Nat × Nat)
  ix : List (Nat × Nat)
  rep : List (Nat × Nat)
  glob : List (Str × U)
variable (T : Tab) (fn : Nat → Fn)
def own2 (o : Option Nat) (b : Nat) (u w : U) (st : List U) : Res U := match o with
  | some i => callM false (fn i) b [u, w] st
  | none => .stuck
noncomputable def tBin (op : Operator) : PrW := fun b u w st => match insCls u st with
  | some (c, _) => (match insCls w st with
    | some (c2, _) => if c2 = c then own2 fn (T.bin.lookup (op.info.2, c)) b u w st else .stuck
    | none => (match w with
      | .str _ => own2 fn (T.binS.lookup (op.info.2, c)) b u w st
      | _ => .stuck))
  | none => (match insCls w st with
    | some (c, _) => (match u with
      | .str _ => own2 fn (T.rbinS.lookup (op.info.2, c)) b w u st
      | _ => .stuck)
    | none => ofO (pBin op b u w st))
def notR (r : Res U) : Res U := r.bind fun z st => match z with
  | .bl c => .ok (.bl (!c)) st
  | _ => .stuck
noncomputable def tCmp (op : CmpOp) : PrW := fun b u w st => match insCls u st with
  | some (c, _) => (match insCls w st with
    | some (c2, _) => if c2 = c then (match op with
      | .NotEq => notR (own2 fn (T.ne.lookup c) b u w st)
      | .Eq => own2 fn (T.cmp.lookup (("__eq__" : Str), c)) b u w st
      | .Lt => own2 fn (T.cmp.lookup (("__lt__" : Str), c)) b u w st
      | .LtE => own2 fn (T.cmp.lookup (("__le__" : Str), c)) b u w st
      | .Gt => own2 fn (T.cmp.lookup (("__gt__" : Str), c)) b u w st
      | .GtE => own2 fn (T.cmp.lookup (("__ge__" : Str), c)) b u w st
      | _ => .stuck) else .stuck
    | none => (match op with
      | .Is => ofO (pCmp .Is b u w st)
      | .IsNot => ofO (pCmp .IsNot b u w st)
      | .In => (match T.ne.lookup c with
        | some i => (match w with
          | .tup ws => inOwn c (fn i) b u ws st
          | _ => .stuck)
        | none => .stuck)
      | _ => .stuck))
  | none => (match insCls w st with
    | some _ => .stuck
    | none => ofO (pCmp op b u w st))
noncomputable def tIxW : PrW := fun b u w st => match insCls u st with
  | some (c, _) => own2 fn (T.ix.lookup c) b u w st
  | none => ofO (pIx b u w st)
def tRepr (b : Nat) (us : List U) (st : List U) : Res U := match us with
  | [u] => (match insCls u st with
    | some (c, _) => (match T.rep.lookup c with
      | some i => (callM false (fn i) b [u] st).bind fun z st1 => (match z with
        | .str y => .ok (.str y) st1
        | _ => .stuck)
      | none => .stuck)
    | none => ofO (pRepr b us st))
  | _ => .stuck
/-- a built-in, by its name -/
noncomputable def tBf (live : Bool) (x : Str) : PrAW := fun b us st =>
  if x = "isinstance" then ofO (pIsi T.isi b us st)
  else if x = "repr" then tRepr T fn b us st
  else if x = "len" then ofO (pLen b us st)
  else if x = "all" then ofO (pAll (fun bs => bs.all id) b us st)
  else if x = "any" then ofO (pAll (fun bs => bs.any id) b us st)
  else if x = "sum" then ofO (pSum b us st)
  else if x = "sorted" then ofO (pSorted live b us st)
  else if x = "max" then ofO (p2i (fun i j => if j > i then j else i) b us st)
  else if x = "min" then ofO (p2i (fun i j => if j < i then j else i) b us st)
  else if x = "abs" then ofO (pAbs b us st)
  else if x = "divmod" then ofO (pDivmod b us st)
  else if x = "int" then ofO (pInt1 b us st)
  else if x = "list" then ofO (pListOf live b us st)
  else if x = "dict" then ofO (pDictOf live b us st)
  else .stuck
noncomputable def pgOf : Pg where
  fn := fn
  bin := tBin T fn
  cmp := tCmp T fn
  ix := tIxW T fn
  bf := tBf T fn
  bmT := bmTs
  bm := fun _ m t => pBm m t
  sl := pSl
  rev := pRevL
  set := pSetI
  glob := fun x => T.glob.lookup x
/-- what the tables say of the program -/
structure TabOk (G : Ge) (k : Nat) : Prop where
  isi : IsiOk G T.isi
  bin : ∀ (nm : String) (c i : Nat), T.bin.lookup (nm, c) = some i → OwnM G k c (PySem.dunder nm) p2 (fn i) ∧ ∀ C, G.cls[c]? = some C → PySem.W.selfFirst G.K C = true
  binS : ∀ (nm : String) (c i : Nat), T.binS.lookup (nm, c) = some i → OwnM G k c (PySem.dunder nm) p2 (fn i) ∧ BinT G c nm "str"
  rbinS : ∀ (nm : String) (c i : Nat), T.rbinS.lookup (nm, c) = some i → OwnM G k c (dunderR nm) p2 (fn i) ∧ BinT G c nm "str" ∧ ∃ F0, OwnM G k c (PySem.dunder nm) p2 F0
  cmp : ∀ nm c i, T.cmp.lookup (nm, c) = some i → OwnM G k c nm p2 (fn i)
  ne : ∀ c i, T.ne.lookup c = some i → OwnM G k c "__eq__" p2 (fn i) ∧ ∀ C, G.cls[c]? = some C → PySem.W.findIn G.K (.ref C) "__ne__" = some (some (.builtin "object.__ne__")) ∧ PySem.W.subIn G.K (.ref C) (.type "object") = some true ∧ ∀ T ∈ inTs, PySem.W.subIn G.K (.ref C) (.type T) = some false
  ix : ∀ c i, T.ix.lookup c = some i → OwnM G k c "__getitem__" p2 (fn i)
  rep : ∀ c i, T.rep.lookup c = some i → OwnM G k c "__repr__" p1 (fn i)
end
section
variable {G : Ge} {W : WX} {X : Cx} {k : Nat} {T : Tab} {fn : Nat → Fn}
theorem OpW.stuck {f : Value → Value → Sem Value} : OpW G W X f fun _ _ _ _ => .stuck := fun pins s σ H Q φ st B b u w x y v1 v2 I r1 r2 S ru rw_ P => P.elim
theorem tBin_ok (t : TabOk T fn G k) (hG : XG X G (k + 1)) (tk : Takes X W) (op : Operator) : OpW G W X (binaryOp op) (tBin T fn op) := by
  intro pins s σ H Q φ st B b u w x y v1 v2 I r1 r2 S ru rw_ P
  unfold tBin own2 at P
  split at P
  · rename_i c ns e1
    split at P
    · rename_i c2 ns2 e2
      split at P
      · rename_i hc
        subst hc
        split at P
        · rename_i i ei
          obtain ⟨m1, m2⟩ := t.bin _ _ _ ei
          refine own_bin hG tk m1 m2 pins s σ H Q φ st B b u w x y v1 v2 I r1 r2 S ru rw_ ?_
          simp only [e1, e2, and_self, if_true]
          exact P
        · exact P.elim
      · exact P.elim
    · split at P
      · split at P
        · rename_i i ei
          obtain ⟨m1, m2⟩ := t.binS _ _ _ ei
          refine own_binS hG tk m1 m2 pins s σ H Q φ st B b u _ x y v1 v2 I r1 r2 S ru rw_ ?_
          simp only [e1, if_true]
          exact P
        · exact P.elim
      · exact P.elim
  · split at P
    · rename_i c ns e2
      split at P
      · split at P
        · rename_i i ei
          obtain ⟨m1, m2, F0, m3⟩ := t.rbinS _ _ _ ei
          refine own_rbinS hG tk m3 m1 m2 pins s σ H Q φ st B b _ w x y v1 v2 I r1 r2 S ru rw_ ?_
          simp only [e2, if_true]
          exact P
        · exact P.elim
      · exact P.elim
    · exact OpW.of (oBin op) pins s σ H Q φ st B b u w x y v1 v2 I r1 r2 S ru rw_ P
theorem tCmp_ok (t : TabOk T fn G k) (hG : XG X G (k + 1)) (tk : Takes X W) (op : CmpOp) : OpW G W X (compareOp op) (tCmp T fn op) := by
  intro pins s σ H Q φ st B b u w x y v1 v2 I r1 r2 S ru rw_ P
  unfold tCmp at P
  have own : ∀ (nm : Str) c1 n1 n2, insCls u st = some (c1, n1) → insCls w st = some (c1, n2) → (∀ a b, compareOp op a b = richCompare op a b) → (cmpInfo op).2.1 = nm →
      Post G (fun c d H => W c d σ H) B b φ H (own2 fn (T.cmp.lookup (nm, c1)) b u w st) (fun u φ' H' _ => ∀ v, RV G φ' H' u v → Q v H') → wpAny (model X.prog X.w) X.A (compareOp op v1 v2) (EP X pins σ Q) X.xe s := fun nm c1 n1 n2 e1 e2 hop hn P => by
    unfold own2 at P
    split at P
    · rename_i i ei
      have m := t.cmp _ _ _ ei
      rw [← hn] at m
      refine own_cmp hop hG tk m pins s σ H Q φ st B b u w x y v1 v2 I r1 r2 S ru rw_ ?_
      simp only [e1, e2, and_self, if_true]
      exact P
    · exact P.elim
  split at P
  · rename_i c ns e1
    split at P
    · rename_i c2 ns2 e2
      split at P
      · rename_i hc
        subst hc
        cases op with
        | NotEq =>
          simp only at P
          unfold notR own2 at P
          split at P
          · rename_i i ei
            obtain ⟨m, h⟩ := t.ne _ _ ei
            obtain ⟨a, C, ox, od, rfl, hc1, J⟩ := ins_at hG I S ru e1
            obtain ⟨a2, C2, ox2, od2, rfl, hc2, J2⟩ := ins_at hG I S rw_ e2
            rw [hc1] at hc2; cases hc2
            obtain ⟨f, h1, h2, _, ca⟩ := m.ex C hc1
            obtain ⟨h3, h4, _⟩ := h C hc1
            rw [← hG.K] at h1 h2 h3 h4
            have r1' := r1
            have r2' := r2
            obtain rfl : v1 = Value.ref a := r1
            obtain rfl : v2 = Value.ref a2 := r2
            have hu := hG.room.un
            refine ne_K (by omega) I.kIn J J2.type h3 h4 h1 h2 ?_
            refine wpAny_mono (cal2 (Q := fun v H' => ∃ c, v = .bl c ∧ Q (.bl (!c)) H') (hG.mono (Nat.le_succ k)) tk ca hG.sub1 I S ru rw_ r1' r2' (P.bind.imp fun z φ' H' st' x' S' q v rv => ?_)) (fun v s' hv => ?_) fun _ _ e => e
            · cases z with
              | bl c => exact ⟨c, rv.bl_, q.okk S' _ rt_bl.rv⟩
              | _ => exact q.elim
            · obtain ⟨z, H', I', rz, c, rfl, q⟩ := hv
              cases rz
              exact ⟨c, rfl, .bl _, H', I', rfl, q⟩
          · exact P.elim
        | Eq => exact own _ _ _ _ e1 e2 (fun _ _ => rfl) rfl P
        | Lt => exact own _ _ _ _ e1 e2 (fun _ _ => rfl) rfl P
        | LtE => exact own _ _ _ _ e1 e2 (fun _ _ => rfl) rfl P
        | Gt => exact own _ _ _ _ e1 e2 (fun _ _ => rfl) rfl P
        | GtE => exact own _ _ _ _ e1 e2 (fun _ _ => rfl) rfl P
        | _ => exact P.elim
      · exact P.elim
    · cases op with
      | Is => exact OpW.of (oCmp hG .Is) pins s σ H Q φ st B b u w x y v1 v2 I r1 r2 S ru rw_ P
      | IsNot => exact OpW.of (oCmp hG .IsNot) pins s σ H Q φ st B b u w x y v1 v2 I r1 r2 S ru rw_ P
      | In =>
        simp only at P
        split at P
        · rename_i i ei
          obtain ⟨m, h⟩ := t.ne _ _ ei
          exact own_in hG tk m (fun C hc => (h C hc).2.2) pins s σ H Q φ st B b u w x y v1 v2 I r1 r2 S ru rw_ P
        · exact P.elim
      | _ => exact P.elim
  · split at P
    · exact P.elim
    · exact OpW.of (oCmp hG op) pins s σ H Q φ st B b u w x y v1 v2 I r1 r2 S ru rw_ P
theorem tIx_ok' (t : TabOk T fn G k) (hG : XG X G (k + 1)) (tk : Takes X W) : IxW G W X (tIxW T fn) := by
  intro value slice pins s σ H Q φ st B b u w x y v1 v2 I r1 r2 S ru rw_ P hs hs2
  unfold tIxW own2 at P
  have hu := hG.room.un
  split at P
  · rename_i c ns e1
    split at P
    · rename_i i ei
      refine own_ix hG tk (t.ix _ _ ei) value slice pins s σ H Q φ st B b u w x y v1 v2 I r1 r2 S ru rw_ ?_ hs hs2
      simp only [e1, if_true]
      exact P
    · exact P.elim
  · exact IxW.of (oIx hG.K (by omega)) value slice pins s σ H Q φ st B b u w x y v1 v2 I r1 r2 S ru rw_ P hs hs2
theorem CallW.stuck {f : Value} : CallW G W X f fun _ _ _ => .stuck := fun pins s σ H Q φ st B b us vs vus I rv S r P => P.elim
theorem tRepr_ok (t : TabOk T fn G k) (hG : XG X G (k + 1)) (tk : Takes X W) : CallW G W X (.builtin "repr") (tRepr T fn) := by
  intro pins s σ H Q φ st B b us vs vus I rv S r P
  unfold tRepr at P
  split at P
  · rename_i u
    split at P
    · rename_i c ns e1
      split at P
      · rename_i i ei
        refine own_repr hG tk (t.rep _ _ ei) pins s σ H Q φ st B b [u] vs vus I rv S r ?_
        simp only [e1, if_true]
        exact P
      · exact P.elim
    · exact CallW.of (oRepr hG.K hG.gd hG.room.units) pins s σ H Q φ st B b [u] vs vus I rv S r P
  · exact P.elim
/-- the built-in functions of the table -/
def bfs : List Str := ["isinstance", "repr", "len", "all", "any", "sum", "sorted", "max", "min", "abs", "divmod"]
/-- the built-in types of the table; those that are values alone -/
def btys : List Str := ["int", "list", "dict", "bool", "str", "tuple", "range", "enumerate"]
theorem boot_bf {x : Str} (h : x ∈ bfs) : ∃ id, bootBuiltins x = some (.builtin id) ∧ Str.ofString id = x := by
  unfold bfs at h
  simp only [List.mem_cons, List.not_mem_nil, or_false] at h
  rcases h with rfl | rfl | rfl | rfl | rfl | rfl | rfl | rfl | rfl | rfl | rfl <;> exact ⟨_, by first | rfl | decide +kernel, rfl⟩
theorem tBf_ok (t : TabOk T fn G k) (hG : XG X G (k + 1)) (tk : Takes X W) (live : Bool) : ∀ x ∈ bfs, ∃ id, bootBuiltins x = some (.builtin id) ∧ CallW G W X (.builtin id) (tBf T fn live x) := by
  have hK := hG.K
  intro x h
  unfold bfs at h
  simp only [List.mem_cons, List.not_mem_nil, or_false] at h
  have go : ∀ {x : Str} {id : String} {p : PrAW}, tBf T fn live x = p → bootBuiltins x = some (.builtin id) → CallW G W X (.builtin id) p → ∃ id, bootBuiltins x = some (.builtin id) ∧ CallW G W X (.builtin id) (tBf T fn live x) := fun e h1 h2 => ⟨_, h1, by rw [e]; exact h2⟩
  rcases h with rfl | rfl | rfl | rfl | rfl | rfl | rfl | rfl | rfl | rfl | rfl
  · exact go (p := fun b us st => ofO (pIsi T.isi b us st)) rfl (by first | rfl | decide +kernel) (CallW.of (oIsi hK t.isi))
  · exact go (p := tRepr T fn) rfl (by first | rfl | decide +kernel) (tRepr_ok t hG tk)
  · exact go (p := fun b us st => ofO (pLen b us st)) rfl (by first | rfl | decide +kernel) (CallW.of (oLen hK))
  · exact go (p := fun b us st => ofO (pAll (fun bs => bs.all id) b us st)) rfl (by first | rfl | decide +kernel) (CallW.of (oAllG hK (cr_all hG.calm)))
  · exact go (p := fun b us st => ofO (pAll (fun bs => bs.any id) b us st)) rfl (by first | rfl | decide +kernel) (CallW.of (oAllG hK (cr_any hG.calm)))
  · exact go (p := fun b us st => ofO (pSum b us st)) rfl (by first | rfl | decide +kernel) (CallW.of (oSum hK hG.calm))
  · exact go (p := fun b us st => ofO (pSorted live b us st)) rfl (by first | rfl | decide +kernel) (CallW.of (oSorted hK hG.calm live))
  · exact go (p := fun b us st => ofO (p2i (fun i j => if j > i then j else i) b us st)) rfl (by first | rfl | decide +kernel) (CallW.of (o2i (call_max2 hG.calm)))
  · exact go (p := fun b us st => ofO (p2i (fun i j => if j < i then j else i) b us st)) rfl (by first | rfl | decide +kernel) (CallW.of (o2i (call_min2 hG.calm)))
  · exact go (p := fun b us st => ofO (pAbs b us st)) rfl (by first | rfl | decide +kernel) (CallW.of oAbs)
  · exact go (p := fun b us st => ofO (pDivmod b us st)) rfl (by first | rfl | decide +kernel) (CallW.of oDivmod)
theorem tTy_ok (t : TabOk T fn G k) (hG : XG X G (k + 1)) (tk : Takes X W) (live : Bool) : ∀ x ∈ btys, ∃ id, bootBuiltins x = some (.type id) ∧ CallW G W X (.type id) (tBf T fn live x) := by
  have hK := hG.K
  intro x h
  unfold btys at h
  simp only [List.mem_cons, List.not_mem_nil, or_false] at h
  have go : ∀ {x : Str} {id : String} {p : PrAW}, tBf T fn live x = p → bootBuiltins x = some (.type id) → CallW G W X (.type id) p → ∃ id, bootBuiltins x = some (.type id) ∧ CallW G W X (.type id) (tBf T fn live x) := fun e h1 h2 => ⟨_, h1, by rw [e]; exact h2⟩
  rcases h with rfl | rfl | rfl | rfl | rfl | rfl | rfl | rfl
  · exact go (p := fun b us st => ofO (pInt1 b us st)) rfl (by first | rfl | decide +kernel) (CallW.of oInt1)
  · exact go (p := fun b us st => ofO (pListOf live b us st)) rfl (by first | rfl | decide +kernel) (CallW.of (oListOf hK hG.calm live))
  · exact go (p := fun b us st => ofO (pDictOf live b us st)) rfl (by first | rfl | decide +kernel) (CallW.of (oDictOf hK hG.calm live))
  · exact go (p := fun _ _ _ => .stuck) rfl (by first | rfl | decide +kernel) CallW.stuck
  · exact go (p := fun _ _ _ => .stuck) rfl (by first | rfl | decide +kernel) CallW.stuck
  · exact go (p := fun _ _ _ => .stuck) rfl (by first | rfl | decide +kernel) CallW.stuck
  · exact go (p := fun _ _ _ => .stuck) rfl (by first | rfl | decide +kernel) CallW.stuck
  · exact go (p := fun _ _ _ => .stuck) rfl (by first | rfl | decide +kernel) CallW.stuck
end
end EV

set_option maxRecDepth 100000
/-! E29: bindings; the program's defs, level by level. -/
namespace EV
open PySem PySem.Spec PyProof.Rows L2
def K0.v : K0 → V
  | .non => .non | .bl b => .bl b | .int i => .int i | .str x => .str x
theorem K0.rt {G : Ge} {φ : Ph} {H : Hp} (k : K0) : RT G φ H k.u k.v := by cases k <;> (unfold RT; rfl)
/-- a parameter's value, among the written ones or the defaults (the first default's parameter: dn) -/
def fillAt {α : Type} (d : α) (dn : Nat) (us its : List α) (s : Sum Nat K0) (j : Nat) : α := match s with
  | .inl i => (us[i]?).getD d
  | .inr _ => (its[j - dn]?).getD d
def fillG {α : Type} (d : α) (dn : Nat) (us its : List α) : Perm → Nat → List α
  | [], _ => []
  | s :: p, j => fillAt d dn us its s j :: fillG d dn us its p (j + 1)
def k0eq : K0 → K0 → Bool
  | .non, .non => true | .bl a, .bl b => a == b | .int a, .int b => a == b | .str a, .str b => a == b | _, _ => false
theorem k0eq_ok {a b : K0} (h : k0eq a b = true) : a = b := by
  cases a <;> cases b <;> simp [k0eq] at h <;> first | rfl | rw [h]
/-- the defaults stand where the permutation says -/
def dfOk (dn : Nat) (dfl : List K0) : Perm → Nat → Bool
  | [], _ => true
  | .inl _ :: p, j => dfOk dn dfl p (j + 1)
  | .inr k :: p, j => (match dfl[j - dn]? with
    | some k2 => k0eq k2 k
    | none => false) && dfOk dn dfl p (j + 1)
section
variable {G : Ge} {φ : Ph} {H : Hp}
theorem getD_rv {us : List U} {vs : List V} (r : RVs G φ H us vs) (i : Nat) : RV G φ H ((us[i]?).getD .non) ((vs[i]?).getD .non) := by
  cases e : us[i]? with
  | none =>
    have : vs[i]? = none := by
      rw [List.getElem?_eq_none_iff] at e ⊢
      rw [← r.len]; exact e
    rw [this]; exact rt_non.rv
  | some u => obtain ⟨v, e2, rv⟩ := pGet r e; rw [e2]; exact rv
theorem fill_rv {dn : Nat} {dfl : List K0} {us ws : List U} {vs zs : List V} (r : RVs G φ H us vs) (rz : RVs G φ H ws zs) : ∀ (p : Perm) (j : Nat), dfOk dn dfl p j = true → RVs G φ H (p.fill us ws) (fillG .non dn (vs ++ zs) (dfl.map K0.v) p j)
  | [], _, _ => .nil
  | .inl i :: p, j, h => .cons (getD_rv (pApp r rz) i) (fill_rv r rz p (j + 1) h)
  | .inr k :: p, j, h => by
    unfold dfOk at h
    rw [Bool.and_eq_true] at h
    refine .cons ?_ (fill_rv r rz p (j + 1) h.2)
    have h1 := h.1
    split at h1
    · rename_i k2 e
      obtain rfl := k0eq_ok h1
      show RV G φ H k2.u (((dfl.map K0.v)[j - dn]?).getD .non)
      rw [List.getElem?_map, e]
      exact (K0.rt k2).rv
    · cases h1
theorem fillG_len {α : Type} {d : α} {dn : Nat} {us its : List α} : ∀ (p : Perm) (j : Nat), (fillG d dn us its p j).length = p.length
  | [], _ => rfl
  | _ :: p, j => by simp [fillG, fillG_len p (j + 1)]
theorem getD_vals {vs : List V} {us : List Value} (r : Vals vs us) (i : Nat) : RelV ((vs[i]?).getD .non) ((us[i]?).getD .none) := by
  cases e : vs[i]? with
  | none =>
    have : us[i]? = none := by
      rw [List.getElem?_eq_none_iff] at e ⊢
      rw [← r.length]; exact e
    rw [this]; rfl
  | some u => obtain ⟨v, e2, rv⟩ := pGet r e; rw [e2]; exact rv
theorem fill_vals {dn : Nat} {vs ds : List V} {us its : List Value} (r : Vals vs us) (rd : Vals ds its) : ∀ (p : Perm) (j : Nat), Vals (fillG .non dn vs ds p j) (fillG .none dn us its p j)
  | [], _ => .nil
  | .inl i :: p, j => .cons (getD_vals r i) (fill_vals r rd p (j + 1))
  | .inr k :: p, j => .cons (getD_vals rd _) (fill_vals r rd p (j + 1))
end
/-- a call's shape is bound as the permutation says -/
def KBf (G : Ge) (fd : FuncData) (ps : List Str) (n : Nat) (ks : List Str) (p : Perm) : Prop :=
  ∃ g gV, KBn G.K fd ps n ks g gV ∧ ∀ φ H us ws vs zs, RVs G φ H us vs → RVs G φ H ws zs → us.length = n → ws.length = ks.length → RVs G φ H (p.fill us ws) (gV vs zs) ∧ (gV vs zs).length = ps.length
theorem Vals.app {xs ys : List V} {us ws : List Value} (h : Vals xs us) (h' : Vals ys ws) : Vals (xs ++ ys) (us ++ ws) := pApp h h'
theorem kb0 {G : Ge} {x qual : Str} {params : Arguments} {body : List Stmt} {scope : Scope} {kws : List (Str × V)} {f : Addr} {fd : FuncData} {ps ks : List Str} {n : Nat} {p : Perm} (F : FunD G.K x qual params body scope [] kws f fd) (hd : dfOk ps.length [] p 0 = true) (hl : p.length = ps.length)
    (h : ∀ (kV doc pm : Value) (an : Option Addr) (cdv ct : Value) (us ws : List Value), us.length = n → ws.length = ks.length → bindArgs (PySem.W.fnOf x qual params body scope .none kV doc pm an cdv ct) ⟨us, ks.zip ws⟩ = pure (ps.zip (fillG .none ps.length (us ++ ws) [] p 0))) : KBf G fd ps n ks p := by
  obtain ⟨oc, od, dV, kV, doc, pm, an, cdv, ct, osl, rfl, lk, hcd, hD, hK⟩ := F.ex
  rcases hD with ⟨_, rfl⟩ | ⟨e, _⟩
  · refine ⟨fun us ws => fillG .none ps.length (us ++ ws) [] p 0, fun vs zs => fillG .non ps.length (vs ++ zs) [] p 0, ⟨fun s us ws X l1 l2 => .of_eq (h kV doc pm an cdv ct us ws l1 l2), fun r rz => fill_vals (Vals.app r rz) .nil p 0⟩, fun φ H us ws vs zs r rz _ _ => ⟨fill_rv (dfl := []) r rz p 0 hd, by rw [fillG_len, hl]⟩⟩
  · exact absurd rfl e
theorem kb1 {G : Ge} {x qual : Str} {params : Arguments} {body : List Stmt} {scope : Scope} {dfl : List K0} {kws : List (Str × V)} {f : Addr} {fd : FuncData} {ps ks : List Str} {n : Nat} {p : Perm} (F : FunD G.K x qual params body scope (dfl.map K0.v) kws f fd) (hne : dfl ≠ []) (hd : dfOk (ps.length - dfl.length) dfl p 0 = true) (hl : p.length = ps.length)
    (h : ∀ (T : Addr) (kV doc pm : Value) (an : Option Addr) (cdv ct : Value) (us ws its : List Value), us.length = n → ws.length = ks.length → its.length = dfl.length →
      ∃ k, bindArgs (PySem.W.fnOf x qual params body scope (.ref T) kV doc pm an cdv ct) ⟨us, ks.zip ws⟩ = seqItems? (.ref T) >>= k ∧ k (some its.toArray) = pure (ps.zip (fillG .none (ps.length - dfl.length) (us ++ ws) its p 0))) : KBf G fd ps n ks p := by
  obtain ⟨oc, od, dV, kV, doc, pm, an, cdv, ct, osl, rfl, lk, hcd, hD, hK⟩ := F.ex
  rcases hD with ⟨e, _⟩ | ⟨_, T, o, its, m, rfl, lT, oT, rT⟩
  · cases dfl with
    | nil => exact absurd rfl hne
    | cons _ _ => cases e
  · refine ⟨fun us ws => fillG .none (ps.length - dfl.length) (us ++ ws) its p 0, fun vs zs => fillG .non (ps.length - dfl.length) (vs ++ zs) (dfl.map K0.v) p 0, ⟨fun s us ws X l1 l2 => ?_, fun r rz => fill_vals (Vals.app r rz) rT p 0⟩, fun φ H us ws vs zs r rz _ _ => ⟨fill_rv (dfl := dfl) r rz p 0 hd, by rw [fillG_len, hl]⟩⟩
    obtain ⟨k, e1, e2⟩ := h T kV doc pm an cdv ct us ws its l1 l2 (by have := rT.length; simp at this; exact this.symm)
    refine BindsTo.of_looks fun M => ?_
    rw [e1]
    exact looks_items X lT oT (.of_pure e2)
/-! ### the program -/
structure DefI where
  d : He.DefD
  N : List Str
  ps : List Str
  dfl : List K0
  live : List (Nat × Nat)
def DefI.sg (x : DefI) : Sig := ⟨x.ps, x.dfl⟩
structure PTab where
  defs : List DefI
  glob : List (Str × GK)
  meth : List (Str × List (Nat × Nat × Sig))
  bms : List Str
  flds : List Str
  shapes : List (Nat × Nat × List Str)
  cls : List Str
  T : Tab
def PTab.cg (t : PTab) (x : DefI) : Cg := { N := x.N, sc := x.d.scope, fc := none, glob := t.glob, meth := t.meth, bms := t.bms, flds := t.flds, shapes := t.shapes, live := x.live }
/-- a def's core -/
def PTab.bd (t : PTab) (x : DefI) : S := compSs 40 (t.cg x) x.d.body
noncomputable def fnL (t : PTab) : Nat → Nat → Fn
  | 0, _ => fun _ _ _ => .stuck
  | n + 1, i => match t.defs[i]? with
    | some x => fnE (pgOf t.T (fnL t n)) x.N (t.bd x)
    | none => fun _ _ _ => .stuck
/-- where a def stands -/
def DefI.ad (K : PySem.W.Frag) (x : DefI) : Addr := He.fAd K x.d.at_
/-- a method of an own class -/
def MethAt (t : PTab) (G : Ge) (c : Nat) (nm : Str) (i : Nat) : Prop := ∃ x, t.defs[i]? = some x ∧ ∀ C, G.cls[c]? = some C → Cls G.K C ∧ Meth G.K C nm (x.ad G.K)
def ShAt (t : PTab) (i : Nat) (p : Perm) : Prop := ∃ x, t.defs[i]? = some x ∧ t.shapes.contains (i, p.length, []) = true ∧ sigPerm x.sg p.length [] = some p
/-- what stands of the program, once and for all -/
structure SF (t : PTab) (G : Ge) : Prop where
  scope : ∀ (i : Nat) (x : DefI), t.defs[i]? = some x → FnScope x.N x.ps x.d.scope
  fd : ∀ (i : Nat) (x : DefI), t.defs[i]? = some x → ∃ fd, FunD G.K x.d.name x.d.qual x.d.params x.d.body x.d.scope (x.d.dvs G.K) (x.d.kws G.K) (x.ad G.K) fd ∧ ∀ (n : Nat) (ks : List Str) (p : Perm), t.shapes.contains (i, n, ks) = true → sigPerm x.sg n ks = some p → KBf G fd x.ps n ks p
  gfn : ∀ (y : Str) (i : Nat) (sg : Sig), t.glob.lookup y = some (.fn i sg) → ∃ x, t.defs[i]? = some x ∧ sg = x.sg ∧ G.mg y = some (.ref (x.ad G.K))
  gcls : ∀ (y : Str) (c i : Nat) (sg : Sig), t.glob.lookup y = some (.cls c i sg) → ∃ x C, t.defs[i]? = some x ∧ sg = x.sg ∧ G.mg y = some (.ref C) ∧ G.cls[c]? = some C ∧ t.T.glob.lookup y = some (.cl c) ∧ Mk G.K C (x.ad G.K)
  meth : ∀ (m : Str) (l : List (Nat × Nat × Sig)) (c i : Nat) (sg : Sig), t.meth.lookup m = some l → (c, i, sg) ∈ l → ∃ x, t.defs[i]? = some x ∧ sg = x.sg ∧ MethAt t G c m i
  gcst : ∀ y, t.glob.lookup y = some .cst → ∃ u v vv, t.T.glob.lookup y = some u ∧ G.mg y = some vv ∧ RelV v vv ∧ ∀ φ H, RT G φ H u v
  gbf : ∀ y, t.glob.lookup y = some .bf → y ∈ bfs ∧ G.mg y = none
  gty : ∀ y, t.glob.lookup y = some .ty → y ∈ btys ∧ G.mg y = none ∧ ∃ T, bootBuiltins y = some (.type T) ∧ t.T.glob.lookup y = some (.ty T)
  fld : ∀ f, t.flds.contains f = true → FldOk G f
  isi : IsiOk G t.T.isi
  bin : ∀ (nm : String) (c i : Nat), t.T.bin.lookup (nm, c) = some i → MethAt t G c (PySem.dunder nm) i ∧ ShAt t i p2 ∧ ∀ (C : Addr), G.cls[c]? = some C → PySem.W.selfFirst G.K C = true
  binS : ∀ (nm : String) (c i : Nat), t.T.binS.lookup (nm, c) = some i → MethAt t G c (PySem.dunder nm) i ∧ ShAt t i p2 ∧ BinT G c nm "str"
  rbinS : ∀ (nm : String) (c i : Nat), t.T.rbinS.lookup (nm, c) = some i → MethAt t G c (dunderR nm) i ∧ ShAt t i p2 ∧ BinT G c nm "str" ∧ ∃ i0, MethAt t G c (PySem.dunder nm) i0 ∧ ShAt t i0 p2
  cmp : ∀ (nm : Str) (c i : Nat), t.T.cmp.lookup (nm, c) = some i → MethAt t G c nm i ∧ ShAt t i p2
  ne : ∀ (c i : Nat), t.T.ne.lookup c = some i → MethAt t G c "__eq__" i ∧ ShAt t i p2 ∧ ∀ (C : Addr), G.cls[c]? = some C → PySem.W.findIn G.K (.ref C) "__ne__" = some (some (.builtin "object.__ne__")) ∧ PySem.W.subIn G.K (.ref C) (.type "object") = some true ∧ ∀ T ∈ inTs, PySem.W.subIn G.K (.ref C) (.type T) = some false
  ix : ∀ (c i : Nat), t.T.ix.lookup c = some i → MethAt t G c "__getitem__" i ∧ ShAt t i p2
  rep : ∀ (c i : Nat), t.T.rep.lookup c = some i → MethAt t G c "__repr__" i ∧ ShAt t i p1
section
variable {t : PTab} {G : Ge}
theorem stuck_fng {k : Nat} {f : Addr} {fd : FuncData} {ps : List Str} : FnG G.P G.w G.K G.mg G.base (L2.CX G.P G.w) k f fd ps (spE G ps.length fun _ _ _ => .stuck) :=
  ⟨fun vs H Q E h => h.1, fun A outer s H args us vs Q E _ _ _ _ _ ⟨_, φ, st, B, b, us', S, r, P⟩ => P.elim⟩
theorem fng_cal {k : Nat} {n : Nat} (sf : SF t G) {i : Nat} {x : DefI} (e : t.defs[i]? = some x) (F : ∀ fd, FunD G.K x.d.name x.d.qual x.d.params x.d.body x.d.scope (x.d.dvs G.K) (x.d.kws G.K) (x.ad G.K) fd → FnG G.P G.w G.K G.mg G.base (L2.CX G.P G.w) k (x.ad G.K) fd x.ps (spE G x.ps.length (fnL t n i)))
    {m : Nat} {ks : List Str} {p : Perm} (hs : t.shapes.contains (i, m, ks) = true) (hp : sigPerm x.sg m ks = some p) : Cal G k (x.ad G.K) m ks p.fill (fnL t n i) := by
  obtain ⟨fd, FD, hb⟩ := sf.fd i x e
  obtain ⟨g, gV, h1, h2⟩ := hb m ks p hs hp
  exact ⟨⟨fd, x.ps, g, gV, F fd FD, h1, h2⟩, FD.kp⟩
theorem ownM_of {k n : Nat} (sf : SF t G) (cal : ∀ (i : Nat) (x : DefI), t.defs[i]? = some x → ∀ m ks p, t.shapes.contains (i, m, ks) = true → sigPerm x.sg m ks = some p → Cal G k (x.ad G.K) m ks p.fill (fnL t n i)) {c i : Nat} {nm : Str} {p : Perm}
    (h : MethAt t G c nm i) (hs : ShAt t i p) : OwnM G k c nm p (fnL t n i) := by
  obtain ⟨x, e, hm⟩ := h
  obtain ⟨x2, e2, h1, h2⟩ := hs
  rw [e] at e2; cases e2
  refine ⟨fun C hc => ⟨x.ad G.K, (hm C hc).2.at_, (hm C hc).2.fn, ?_, cal i x e _ _ p h1 h2⟩⟩
  obtain ⟨fd, FD, _⟩ := sf.fd i x e
  obtain ⟨oc, od, dV, kV, doc, pm, an, cdv, ct, osl, rfl, lk, _⟩ := FD.ex
  unfold PySem.W.fnIn
  rw [lk]
/-- the level's functions are sound for the next one's defs -/
theorem gok_of {k n : Nat} (sf : SF t G) (cal : ∀ (i : Nat) (x : DefI), t.defs[i]? = some x → ∀ m ks p, t.shapes.contains (i, m, ks) = true → sigPerm x.sg m ks = some p → Cal G k (x.ad G.K) m ks p.fill (fnL t n i)) (x : DefI) : GOk G k (t.cg x) (pgOf t.T (fnL t n)) := by
  have tab : TabOk t.T (fnL t n) G k :=
    { isi := sf.isi
      bin := fun nm c i h => let ⟨a, s, z⟩ := sf.bin nm c i h; ⟨ownM_of sf cal a s, z⟩
      binS := fun nm c i h => let ⟨a, s, z⟩ := sf.binS nm c i h; ⟨ownM_of sf cal a s, z⟩
      rbinS := fun nm c i h => let ⟨a, s, z, i0, a0, s0⟩ := sf.rbinS nm c i h; ⟨ownM_of sf cal a s, z, _, ownM_of sf cal a0 s0⟩
      cmp := fun nm c i h => let ⟨a, s⟩ := sf.cmp nm c i h; ownM_of sf cal a s
      ne := fun c i h => let ⟨a, s, z⟩ := sf.ne c i h; ⟨ownM_of sf cal a s, z⟩
      ix := fun c i h => let ⟨a, s⟩ := sf.ix c i h; ownM_of sf cal a s
      rep := fun c i h => let ⟨a, s⟩ := sf.rep c i h; ownM_of sf cal a s }
  exact
    { fn := fun y i sg h => by
        obtain ⟨z, e, rfl, hm⟩ := sf.gfn y i sg h
        exact ⟨_, hm, fun m ks p hs hp => cal i z e m ks p hs hp⟩
      cls := fun y c i sg h => by
        obtain ⟨z, C, e, rfl, hm, hc, hg, mk⟩ := sf.gcls y c i sg h
        exact ⟨C, hm, ⟨hc, hg⟩, fun m ks p hs hp => ⟨hc, _, mk, cal i z e _ ks p hs hp⟩⟩
      meth := fun m l c i sg h hl j ks p hs hp => by
        obtain ⟨z, e, rfl, z2, e2, hm⟩ := sf.meth m l c i sg h hl
        rw [e] at e2; cases e2
        exact ⟨fun C hc => ⟨_, (hm C hc).1, (hm C hc).2, cal i z e _ ks p hs hp⟩⟩
      cst := fun y h => sf.gcst y h
      bf := fun y h => by
        obtain ⟨hy, hm⟩ := sf.gbf y h
        obtain ⟨id, hb, _⟩ := boot_bf hy
        refine ⟨hm, id, hb, fun X W live hG tk => ?_⟩
        obtain ⟨id2, hb2, hc⟩ := tBf_ok tab hG tk live y hy
        rw [hb] at hb2; cases hb2
        exact hc
      ty := fun y h => by
        obtain ⟨hy, hm, T, hb, hg⟩ := sf.gty y h
        refine ⟨hm, T, hb, hg, fun X W live hG tk => ?_⟩
        obtain ⟨id2, hb2, hc⟩ := tTy_ok tab hG tk live y hy
        rw [hb] at hb2; cases hb2
        exact hc
      bin := fun X W op hG tk => tBin_ok tab hG tk op
      cmp := fun X W op hG tk => tCmp_ok tab hG tk op
      ix := fun X W hG tk => tIx_ok' tab hG tk
      bm := fun X m live hG _ T hT => oBm (by have := hG.room.un; omega) m T hT
      sl := fun X live hG => oSl hG.K live
      rev := fun live => rfl
      set := fun X hG => oSet (by have := hG.room.un; omega)
      fld := sf.fld }
/-- EVERY DEF, at every level -/
theorem prog_ok (sf : SF t G) : ∀ (n i : Nat) (x : DefI), t.defs[i]? = some x → ∀ fd, FunD G.K x.d.name x.d.qual x.d.params x.d.body x.d.scope (x.d.dvs G.K) (x.d.kws G.K) (x.ad G.K) fd →
    FnG G.P G.w G.K G.mg G.base (L2.CX G.P G.w) (2 * n) (x.ad G.K) fd x.ps (spE G x.ps.length (fnL t n i))
  | 0, i, x, e, fd, FD => stuck_fng
  | n + 1, i, x, e, fd, FD => by
    have ih := prog_ok sf n
    have g := gok_of (k := 2 * n) (n := n) sf (fun j y ey m ks p hs hp => fng_cal sf ey (fun fd FD => ih j y ey fd FD) hs hp) x
    have h := def_ok (n := 40) FD (sf.scope i x e) rfl rfl g
    have e2 : fnL t (n + 1) i = fnE (pgOf t.T (fnL t n)) x.N (t.bd x) := by
      show (match t.defs[i]? with
        | some x => fnE (pgOf t.T (fnL t n)) x.N (t.bd x)
        | none => fun _ _ _ => .stuck) = _
      rw [e]
    rw [e2]
    exact h
end
end EV

set_option maxRecDepth 100000
/-! E30: the program's facts by checks; the law's call. -/
namespace EV
open PySem PySem.Spec PyProof.Rows L2
def sgEq (a b : Sig) : Bool := (a.ps == b.ps) && (a.dfl.length == b.dfl.length && (List.zipWith k0eq a.dfl b.dfl).all id)
theorem zip_k0 : ∀ {a b : List K0}, a.length = b.length → (List.zipWith k0eq a b).all id = true → a = b
  | [], [], _, _ => rfl
  | x :: a, y :: b, h, e => by
    rw [List.zipWith_cons_cons, List.all_cons, Bool.and_eq_true] at e
    rw [k0eq_ok e.1, zip_k0 (by simpa using h) e.2]
  | [], _ :: _, h, _ => by cases h
  | _ :: _, [], h, _ => by cases h
theorem sgEq_ok {a b : Sig} (h : sgEq a b = true) : a = b := by
  unfold sgEq at h
  rw [Bool.and_eq_true, Bool.and_eq_true] at h
  cases a; cases b
  simp only at h
  rw [beq_iff_eq.mp h.1, zip_k0 (beq_iff_eq.mp h.2.1) h.2.2]
/-! ### the facts that are asked of the heap -/
def faG (t : PTab) (q : Str × GK) : List He.Fa := match q.2 with
  | .fn _ _ => [.glo q.1]
  | .cls _ _ _ => [.glo q.1, .mkr q.1]
  | .cst => (match t.T.glob.lookup q.1 with
    | some (.int i) => [.int q.1 i]
    | some (.str z) => [.str q.1 z]
    | _ => [])
  | .bf => [.free q.1]
  | .ty => [.free q.1]
def faOf (t : PTab) : List He.Fa := t.glob.flatMap (faG t) ++ (t.cls.flatMap fun y => He.Fa.cls y :: t.flds.map (He.Fa.noat y)) ++ t.defs.filterMap fun x => match x.d.at_.2 with
  | some m => if t.cls.contains x.d.at_.1 then some (.meth x.d.at_.1 m) else none
  | none => none
def fnOf (t : PTab) : List He.DefD := t.defs.map (·.d)
/-! ### checks of the tables alone -/
def methB (t : PTab) (c : Nat) (nm : Str) (i : Nat) : Bool := match t.defs[i]?, t.cls[c]? with
  | some x, some y => x.d.at_ == (y, some nm)
  | _, _ => false
def isP1 : Option Perm → Bool
  | some [.inl 0] => true
  | _ => false
def isP2 : Option Perm → Bool
  | some [.inl 0, .inl 1] => true
  | _ => false
def shB1 (t : PTab) (i : Nat) : Bool := match t.defs[i]? with
  | some x => t.shapes.contains (i, 1, []) && isP1 (sigPerm x.sg 1 [])
  | none => false
def shB2 (t : PTab) (i : Nat) : Bool := match t.defs[i]? with
  | some x => t.shapes.contains (i, 2, []) && isP2 (sigPerm x.sg 2 [])
  | none => false
def globB (t : PTab) (q : Str × GK) : Bool := match q.2 with
  | .fn i sg => (match t.defs[i]? with
    | some x => sgEq sg x.sg && x.d.at_ == (q.1, none)
    | none => false)
  | .cls c i sg => (match t.defs[i]?, t.T.glob.lookup q.1 with
    | some x, some (.cl c2) => sgEq sg x.sg && (x.d.at_ == (q.1, some ("__init__" : Str)) && (t.cls[c]? == some q.1 && c2 == c))
    | _, _ => false)
  | .cst => (match t.T.glob.lookup q.1 with
    | some (.int _) => true
    | some (.str _) => true
    | _ => false)
  | .bf => bfs.contains q.1
  | .ty => btys.contains q.1 && (match t.T.glob.lookup q.1 with
    | some (.ty T) => decide (bootBuiltins q.1 = some (.type T))
    | _ => false)
def scopeB (x : DefI) : Bool := decide (x.d.scope.kind = .function) && (!x.d.scope.isCoroutine && (!x.d.scope.isGenerator && (decide x.N.Nodup && (decide (x.N.take x.ps.length = x.ps) && ((x.ps.all fun y => x.d.scope.names.lookup y == some .local || x.d.scope.names.lookup y == some .cell) && x.d.scope.names.all fun y => y.2 != .free)))))
def methsB (t : PTab) (q : Str × List (Nat × Nat × Sig)) : Bool := q.2.all fun z => methB t z.1 q.1 z.2.1 && (match t.defs[z.2.1]? with
  | some x => sgEq z.2.2 x.sg
  | none => false)
def chk (t : PTab) : Bool := t.glob.all (globB t) && (t.defs.all scopeB && (t.meth.all (methsB t) && (t.T.bin.all (fun q => methB t q.1.2 (PySem.dunder q.1.1) q.2 && shB2 t q.2) && (t.T.binS.all (fun q => methB t q.1.2 (PySem.dunder q.1.1) q.2 && shB2 t q.2) &&
  (t.T.rbinS.all (fun q => methB t q.1.2 (dunderR q.1.1) q.2 && (shB2 t q.2 && (match t.T.binS.lookup q.1 with
    | some i0 => methB t q.1.2 (PySem.dunder q.1.1) i0 && shB2 t i0
    | none => false))) && (t.T.cmp.all (fun q => methB t q.1.2 q.1.1 q.2 && shB2 t q.2) && (t.T.ne.all (fun q => methB t q.1 "__eq__" q.2 && shB2 t q.2) && (t.T.ix.all (fun q => methB t q.1 "__getitem__" q.2 && shB2 t q.2) && t.T.rep.all (fun q => methB t q.1 "__repr__" q.2 && shB1 t q.2)))))))))
/-! ### checks of the heap -/
def cAd (t : PTab) (K : PySem.W.Frag) (c : Nat) : Option Addr := (t.cls[c]?).map (He.ga K)
def isiB (K : PySem.W.Frag) (C : Addr) : Bool := decide (PySem.W.findIn K (.ref C) "__class__" = some (some (.builtin "object.__class__"))) && (decide (PySem.W.specialIn K (.builtin "object.__class__") "__get__" = some (some (.builtin "getset_descriptor.__get__"))) &&
  (decide (PySem.W.takesIn K (.builtin "object.__class__") = some true) && decide (PySem.W.mroIn K C (.type "object") = some true)))
def kdB (t : PTab) (K : PySem.W.Frag) : Kd → Option Value
  | .inl T => some (.type T)
  | .inr c => (cAd t K c).map .ref
def isiT (t : PTab) (K : PySem.W.Frag) (q : (Kd × Kd) × Bool) : Bool := match kdB t K q.1.1, kdB t K q.1.2 with
  | some a, some b => decide (PySem.W.kitOne K a b = some q.2)
  | _, _ => true
def binTB (K : PySem.W.Frag) (C : Addr) (nm : String) (T : String) : Bool := PySem.W.selfFirst K C && (decide (PySem.W.subIn K (.type T) (.ref C) = some false) && ((match PySem.W.findIn K (.ref C) (dunderR nm) with
    | some none => true
    | some (some (.ref _)) => true
    | _ => false) && (match PySem.W.findIn K (.type T) (PySem.dunder nm), PySem.W.findIn K (.type T) (dunderR nm) with
    | some fo, some ro => !((fo.isSome && !isSeqSlot fo) || (ro.isSome && !isSeqSlot ro))
    | _, _ => false)))
def neB (K : PySem.W.Frag) (C : Addr) : Bool := decide (PySem.W.findIn K (.ref C) "__ne__" = some (some (.builtin "object.__ne__"))) && (decide (PySem.W.subIn K (.ref C) (.type "object") = some true) && inTs.all fun T => decide (PySem.W.subIn K (.ref C) (.type T) = some false))
def atC (t : PTab) (K : PySem.W.Frag) (c : Nat) (f : Addr → Bool) : Bool := match cAd t K c with
  | some C => f C
  | none => true
def exB (t : PTab) (K : PySem.W.Frag) : Bool := (t.cls.all fun y => isiB K (He.ga K y)) && (t.T.isi.all (isiT t K) && (t.T.bin.all (fun q => atC t K q.1.2 (PySem.W.selfFirst K)) && (t.T.binS.all (fun q => atC t K q.1.2 fun C => binTB K C q.1.1 "str") && (t.T.rbinS.all (fun q => atC t K q.1.2 fun C => binTB K C q.1.1 "str") && t.T.ne.all (fun q => atC t K q.1 (neB K))))))
instance : LawfulBEq Kd where
  eq_of_beq := fun {a b} h => by
    cases a <;> cases b <;> first | (cases h; done) | (rename_i x y; exact congrArg _ (beq_iff_eq.mp (show (x == y) = true from h)))
  rfl := fun {a} => by
    cases a with
    | inl x => exact (beq_self_eq_true x : (x == x) = true)
    | inr x => exact (beq_self_eq_true x : (x == x) = true)
theorem lk_mem {α β : Type} [BEq α] [LawfulBEq α] {a : α} {b : β} : ∀ {l : List (α × β)}, l.lookup a = some b → (a, b) ∈ l
  | [], h => by cases h
  | (x, y) :: l, h => by
    rw [List.lookup_cons] at h
    cases e : a == x with
    | true => rw [e] at h; cases h; rw [beq_iff_eq.mp e]; exact List.mem_cons_self ..
    | false => rw [e] at h; exact List.mem_cons_of_mem _ (lk_mem h)
section
variable {t : PTab} {G : Ge}
theorem binTB_ok {C : Addr} {nm T : String} {K : PySem.W.Frag} (h : binTB K C nm T = true) : PySem.W.selfFirst K C = true ∧ PySem.W.subIn K (.type T) (.ref C) = some false ∧ (∃ rc, PySem.W.findIn K (.ref C) (dunderR nm) = some rc ∧ (rc = none ∨ ∃ g : Addr, rc = some (.ref g))) ∧
    ∃ fo ro, PySem.W.findIn K (.type T) (PySem.dunder nm) = some fo ∧ PySem.W.findIn K (.type T) (dunderR nm) = some ro ∧ ((fo.isSome && !isSeqSlot fo) || (ro.isSome && !isSeqSlot ro)) = false := by
  unfold binTB at h
  simp only [Bool.and_eq_true] at h
  obtain ⟨h1, h2, h3, h4⟩ := h
  refine ⟨h1, of_decide_eq_true h2, ?_, ?_⟩
  · split at h3
    · rename_i e; exact ⟨_, e, .inl rfl⟩
    · rename_i g e; exact ⟨_, e, .inr ⟨g, rfl⟩⟩
    · cases h3
  · split at h4
    · rename_i fo ro e1 e2; exact ⟨fo, ro, e1, e2, by rw [Bool.not_eq_true'] at h4; exact h4⟩
    · cases h4
/-- the heap tells all that is asked -/
structure Says (t : PTab) (G : Ge) : Prop where
  cls : G.cls = t.cls.map (He.ga G.K)
  d : He.SaysD (faOf t) (fnOf t) G.K
  ex : exB t G.K = true
  h : ∃ h : Heap, G.K.In h ∧ h.Ns mainGlobals G.mg
  chk : chk t = true
theorem Says.cl (s : Says t G) {c : Nat} {C : Addr} (h : G.cls[c]? = some C) : ∃ y, t.cls[c]? = some y ∧ C = He.ga G.K y ∧ cAd t G.K c = some C := by
  rw [s.cls, List.getElem?_map] at h
  obtain ⟨y, e, rfl⟩ := Option.map_eq_some_iff.mp h
  exact ⟨y, e, rfl, by unfold cAd; rw [e]; rfl⟩
theorem Says.clsOk (s : Says t G) {c : Nat} {C : Addr} (h : G.cls[c]? = some C) : Cls G.K C := by
  obtain ⟨y, e, rfl, _⟩ := s.cl h
  refine He.cls_ok (x := y) (s.d.facts ?_)
  unfold faOf
  exact List.mem_append_left _ (List.mem_append_right _ (List.mem_flatMap.mpr ⟨y, List.mem_of_getElem? e, List.mem_cons_self ..⟩))
theorem Says.atC (s : Says t G) {c : Nat} {C : Addr} {f : Addr → Bool} (h : G.cls[c]? = some C) (e : EV.atC t G.K c f = true) : f C = true := by
  obtain ⟨y, _, _, e2⟩ := s.cl h
  unfold EV.atC at e
  rw [e2] at e
  exact e
theorem Says.meth (s : Says t G) {c i : Nat} {nm : Str} (h : methB t c nm i = true) : MethAt t G c nm i := by
  unfold methB at h
  split at h
  · rename_i x y ex ey
    have ea := beq_iff_eq.mp h
    refine ⟨x, ex, fun C hc => ⟨s.clsOk hc, ?_⟩⟩
    obtain ⟨y2, e2, rfl, _⟩ := s.cl hc
    rw [ey] at e2; cases e2
    have : x.ad G.K = He.ma G.K (He.ga G.K y) nm := by unfold DefI.ad; rw [ea]; rfl
    rw [this]
    refine He.meth_ok (s.d.facts ?_)
    unfold faOf
    refine List.mem_append_right _ (List.mem_filterMap.mpr ⟨x, List.mem_of_getElem? ex, ?_⟩)
    rw [ea]
    simp only
    rw [if_pos (by simpa using List.mem_of_getElem? ey)]
  · cases h
theorem isP2_ok {o : Option Perm} (h : isP2 o = true) : o = some p2 := by
  unfold isP2 at h
  split at h
  · rfl
  · cases h
theorem isP1_ok {o : Option Perm} (h : isP1 o = true) : o = some p1 := by
  unfold isP1 at h
  split at h
  · rfl
  · cases h
theorem sh2 {i : Nat} (h : shB2 t i = true) : ShAt t i p2 := by
  unfold shB2 at h
  split at h
  · rename_i x ex
    rw [Bool.and_eq_true] at h
    exact ⟨x, ex, h.1, isP2_ok h.2⟩
  · cases h
theorem sh1 {i : Nat} (h : shB1 t i = true) : ShAt t i p1 := by
  unfold shB1 at h
  split at h
  · rename_i x ex
    rw [Bool.and_eq_true] at h
    exact ⟨x, ex, h.1, isP1_ok h.2⟩
  · cases h
theorem Says.fact (s : Says t G) {q : Str × GK} {f : He.Fa} (h : q ∈ t.glob) (hf : f ∈ faG t q) : f.ok G.K = true := s.d.facts (by
  unfold faOf
  exact List.mem_append_left _ (List.mem_append_left _ (List.mem_flatMap.mpr ⟨q, h, hf⟩)))
theorem scopeB_ok {x : DefI} (h : scopeB x = true) : FnScope x.N x.ps x.d.scope := by
  unfold scopeB at h
  simp only [Bool.and_eq_true, Bool.not_eq_true', decide_eq_true_eq, List.all_eq_true, Bool.or_eq_true, beq_iff_eq, bne_iff_ne] at h
  obtain ⟨h1, h2, h3, h4, h5, h6, h7⟩ := h
  exact ⟨h1, h2, h3, h4, h5, h6, h7⟩
/-- ALL that stands of the program -/
theorem Says.sf (s : Says t G) (hb : ∀ (i : Nat) (x : DefI), t.defs[i]? = some x → ∀ fd, FunD G.K x.d.name x.d.qual x.d.params x.d.body x.d.scope (x.d.dvs G.K) (x.d.kws G.K) (x.ad G.K) fd → ∀ (n : Nat) (ks : List Str) (p : Perm), t.shapes.contains (i, n, ks) = true → sigPerm x.sg n ks = some p → KBf G fd x.ps n ks p) : SF t G := by
  have ck := s.chk
  have ex := s.ex
  unfold EV.chk at ck
  unfold exB at ex
  simp only [Bool.and_eq_true, List.all_eq_true] at ck ex
  obtain ⟨c1, c2, c3, c4, c5, c6, c7, c8, c9, c10⟩ := ck
  obtain ⟨x1, x2, x3, x4, x5, x6⟩ := ex
  obtain ⟨h, KX, NG⟩ := s.h
  exact
    { scope := fun i x e => scopeB_ok (c2 x (List.mem_of_getElem? e))
      fd := fun i x e => by
        obtain ⟨fd, FD⟩ := s.d.defs (d := x.d) (by unfold fnOf; exact List.mem_map.mpr ⟨x, List.mem_of_getElem? e, rfl⟩)
        exact ⟨fd, FD, hb i x e fd FD⟩
      gfn := fun y i sg hy => by
        have hm := lk_mem hy
        have h1 := c1 _ hm
        unfold globB at h1
        simp only at h1
        split at h1
        · rename_i x e
          rw [Bool.and_eq_true] at h1
          refine ⟨x, e, sgEq_ok h1.1, ?_⟩
          have := He.glo_ok KX NG (s.fact hm (f := .glo y) (by unfold faG; exact List.mem_cons_self ..))
          rw [this]
          have ea := beq_iff_eq.mp h1.2
          unfold DefI.ad
          rw [ea]; rfl
        · cases h1
      gcls := fun y c i sg hy => by
        have hm := lk_mem hy
        have h1 := c1 _ hm
        unfold globB at h1
        simp only at h1
        split at h1
        · rename_i x c2' e e2
          rw [Bool.and_eq_true, Bool.and_eq_true, Bool.and_eq_true] at h1
          obtain ⟨q1, q2, q3, q4⟩ := h1
          have ea := beq_iff_eq.mp q2
          have ec := beq_iff_eq.mp q3
          obtain rfl := beq_iff_eq.mp q4
          refine ⟨x, He.ga G.K y, e, sgEq_ok q1, He.glo_ok KX NG (s.fact hm (f := .glo y) (by unfold faG; exact List.mem_cons_self ..)), ?_, e2, ?_⟩
          · rw [s.cls, List.getElem?_map, ec]; rfl
          · have := He.mkr_ok (s.fact hm (f := .mkr y) (by unfold faG; exact List.mem_cons_of_mem _ (List.mem_cons_self ..)))
            have e3 : x.ad G.K = He.ma G.K (He.ga G.K y) "__init__" := by unfold DefI.ad; rw [ea]; rfl
            rw [e3]; exact this
        · cases h1
      meth := fun m l c i sg hm hl => by
        have h1 := c3 _ (lk_mem hm)
        unfold methsB at h1
        rw [List.all_eq_true] at h1
        have h2 := h1 _ hl
        rw [Bool.and_eq_true] at h2
        simp only at h2
        split at h2
        · rename_i x e
          exact ⟨x, e, sgEq_ok h2.2, s.meth h2.1⟩
        · cases h2.2
      gcst := fun y hy => by
        have hm := lk_mem hy
        have h1 := c1 _ hm
        unfold globB at h1
        simp only at h1
        split at h1
        · rename_i i e
          obtain ⟨t', e2⟩ := He.int_ok KX NG (s.fact hm (f := .int y i) (by unfold faG; simp only; rw [e]; exact List.mem_cons_self ..))
          exact ⟨.int i, .int i, _, e, e2, ⟨t', rfl⟩, fun _ _ => rt_int⟩
        · rename_i z e
          obtain ⟨t', e2⟩ := He.str_ok KX NG (s.fact hm (f := .str y z) (by unfold faG; simp only; rw [e]; exact List.mem_cons_self ..))
          exact ⟨.str z, .str z, _, e, e2, ⟨t', rfl⟩, fun _ _ => rt_str⟩
        · cases h1
      gbf := fun y hy => by
        have hm := lk_mem hy
        have h1 := c1 _ hm
        exact ⟨by simpa [globB] using h1, He.free_ok KX NG (s.fact hm (f := .free y) (by unfold faG; exact List.mem_cons_self ..))⟩
      gty := fun y hy => by
        have hm := lk_mem hy
        have h1 := c1 _ hm
        unfold globB at h1
        simp only [Bool.and_eq_true] at h1
        refine ⟨by simpa using h1.1, He.free_ok KX NG (s.fact hm (f := .free y) (by unfold faG; exact List.mem_cons_self ..)), ?_⟩
        have h2 := h1.2
        split at h2
        · rename_i T e
          exact ⟨T, of_decide_eq_true h2, e⟩
        · cases h2
      fld := fun f hf c C hc => ⟨s.clsOk hc, by
        obtain ⟨y, e, rfl, _⟩ := s.cl hc
        refine He.noat_ok (s.d.facts ?_)
        unfold faOf
        exact List.mem_append_left _ (List.mem_append_right _ (List.mem_flatMap.mpr ⟨y, List.mem_of_getElem? e, List.mem_cons_of_mem _ (List.mem_map.mpr ⟨f, by simpa using hf, rfl⟩)⟩))⟩
      isi := ⟨fun c C hc => by
          obtain ⟨y, e, rfl, _⟩ := s.cl hc
          have h1 := x1 y (List.mem_of_getElem? e)
          unfold isiB at h1
          simp only [Bool.and_eq_true, decide_eq_true_eq] at h1
          exact ⟨s.clsOk hc, h1.1, h1.2.1, h1.2.2.1, h1.2.2.2⟩, fun a c r tv cv hl ht hc => by
          have h1 := x2 _ (lk_mem hl)
          unfold isiT at h1
          have key : ∀ k v, kdV G k = some v → kdB t G.K k = some v := fun k v hk => by
            cases k with
            | inl T => exact hk
            | inr c =>
              obtain ⟨C, e, rfl⟩ := Option.map_eq_some_iff.mp (show (G.cls[c]?).map Value.ref = some v from hk)
              obtain ⟨_, _, _, e2⟩ := s.cl e
              show (cAd t G.K c).map Value.ref = _
              rw [e2]; rfl
          simp only [key _ _ ht, key _ _ hc] at h1
          exact of_decide_eq_true h1⟩
      bin := fun nm c i hl => by
        have h1 := c4 _ (lk_mem hl)
        simp only [Bool.and_eq_true] at h1
        exact ⟨s.meth h1.1, sh2 h1.2, fun C hc => s.atC hc (x3 _ (lk_mem hl))⟩
      binS := fun nm c i hl => by
        have h1 := c5 _ (lk_mem hl)
        simp only [Bool.and_eq_true] at h1
        exact ⟨s.meth h1.1, sh2 h1.2, ⟨fun C hc => binTB_ok (s.atC hc (x4 _ (lk_mem hl)))⟩⟩
      rbinS := fun nm c i hl => by
        have h1 := c6 _ (lk_mem hl)
        simp only [Bool.and_eq_true] at h1
        refine ⟨s.meth h1.1, sh2 h1.2.1, ⟨fun C hc => binTB_ok (s.atC hc (x5 _ (lk_mem hl)))⟩, ?_⟩
        have h2 := h1.2.2
        split at h2
        · rename_i i0 e
          rw [Bool.and_eq_true] at h2
          exact ⟨i0, s.meth h2.1, sh2 h2.2⟩
        · cases h2
      cmp := fun nm c i hl => by
        have h1 := c7 _ (lk_mem hl)
        simp only [Bool.and_eq_true] at h1
        exact ⟨s.meth h1.1, sh2 h1.2⟩
      ne := fun c i hl => by
        have h1 := c8 _ (lk_mem hl)
        simp only [Bool.and_eq_true] at h1
        refine ⟨s.meth h1.1, sh2 h1.2, fun C hc => ?_⟩
        have h2 := s.atC hc (x6 _ (lk_mem hl))
        unfold neB at h2
        simp only [Bool.and_eq_true, decide_eq_true_eq, List.all_eq_true] at h2
        exact h2
      ix := fun c i hl => by
        have h1 := c9 _ (lk_mem hl)
        simp only [Bool.and_eq_true] at h1
        exact ⟨s.meth h1.1, sh2 h1.2⟩
      rep := fun c i hl => by
        have h1 := c10 _ (lk_mem hl)
        simp only [Bool.and_eq_true] at h1
        exact ⟨s.meth h1.1, sh1 h1.2⟩ }
end
end EV

set_option maxRecDepth 100000
/-! E31: the law's call at the top. -/
namespace EV
open PySem PySem.Spec PyProof.Rows L2
/-- the law's def called with the script, where nothing but the script may be tracked -/
theorem run_top {P : Program} {w : World} {K : PySem.W.Frag} {mg mb : Str → Option Value} {k : Nat} {fa a : Addr} {fd : FuncData} {x : Str} {sp : Heap → Sp} {s₁ : Shared} {vs : List Value} {ns : List Int}
    (KX : K.In s₁.heap) (hns : s₁.heap.Ns mainGlobals mg) (hb : s₁.heap.Ns builtinsNs mb) (hbb : ∀ x : Str, x ≠ "__name__" → mb x = bootBuiltins x) (hlim : s₁.heap.NoLimit) (hg : s₁.gens = #[])
    (ha : s₁.heap.get? a = some { cls := .type "list", data := .seq vs.toArray }) (hr : Room k callerA)
    (F : ∀ base : Heap, K.In base → base.Ns mainGlobals mg → FnG P w K mg base (L2.CX P w) k fa fd [x] (sp base)) (hbind : ∀ (s : Shared) (u : Value), BindsTo s fd ⟨[u], []⟩ [(x, u)])
    (hsp : ∀ (base : Heap) (H : Hp), Only H → SqL K H a (ns.map V.int) → sp base [.ref a] H (fun v _ => v = .bl true) fun _ _ _ => False)
    (H : Hp) (hO : Only H) (hS : SqL K H a (ns.map V.int)) (hok : HOk P w H s₁.heap) (hA : ∀ b, H b ≠ none → b = a) (hK : H a ≠ none → K.lookup a = none) :
    codeAny (model P w) callerA (.call (.ref fa) ⟨[.ref a], []⟩) (fun r s' => r = .ok (.ret (.bool true)) ∧ OldK s₁.heap s'.heap ∧ s'.os = s₁.os ∧ AllBare s'.gens) s₁ := by
  have alone : ∀ {b : Addr} {o : Obj}, s₁.heap.get? b = some o → (b = a → False) → H b = none := fun {b o} e n => by
    cases q : H b with
    | none => rfl
    | some u => exact (n (hA b (by rw [q]; exact nofun))).elim
  have nsK : ∀ {b : Addr} {m : Str → Option Value}, s₁.heap.Ns b m → (hidT s₁.heap H).Ns b m := fun {b m} ⟨o, es, ep, e, d, r⟩ => ⟨o, es, ep, hidT_get e (alone e fun z => by
    rw [z, ha] at e; cases e
    have d' : Data.seq vs.toArray _ = Data.dict es ep := d
    cases d'), d, r⟩
  have hKb : K.In (hidT s₁.heap H) := fun b o e => hidT_get (KX b o e) (by
    cases q : H b with
    | none => rfl
    | some u =>
      obtain rfl : b = a := hA b (by rw [q]; exact nofun)
      rw [hK (by rw [q]; exact nofun)] at e; cases e)
  have hM : Mod K mg (hidT s₁.heap H) := ⟨hKb, nsK hns, ⟨mb, nsK hb, hbb⟩, let ⟨mc, h1, h2⟩ := hlim; ⟨mc, nsK h1, h2⟩⟩
  have noFr : ∀ b : Addr, b ∉ ([] : List Addr) := fun b z => by cases z
  have e0 : Env0 P w K mg (hidT s₁.heap H) callerA [] s₁ H := ⟨rfl, hM, fun b o e => of_hidT e, Nat.le_of_eq (hidT_size _ _), trivial, fun b z => (noFr b z).elim, hok, .of_eq hg⟩
  refine codeAny_mono ((F _ hKb (nsK hns)).run callerA [] s₁ H ⟨[.ref a], []⟩ [.ref a] [.ref a] _ _ rfl hr e0 (hbind s₁ (.ref a)) (.cons rfl .nil) (hsp _ H hO hS)) fun r s' h => ?_
  cases r with
  | error e =>
    obtain ⟨_, _, _, _, _, _, _, _, _, _, _, _, z⟩ := h
    exact z.elim
  | ok fl =>
    cases fl with
    | next => exact False.elim h
    | brk => exact False.elim h
    | cont => exact False.elim h
    | ret u =>
      obtain ⟨v, H', os, bare, un, hok', r', q⟩ := h
      obtain rfl : v = .bl true := q
      obtain rfl : u = Value.bool true := r'
      refine ⟨rfl, OldK.of_keep fun b o e => ?_, os, bare⟩
      cases q : H b with
      | none => exact un.keep b o e q (noFr b) (noFr b)
      | some u =>
        rcases hO b with z | ⟨ob, xs, z⟩
        · rw [q] at z; cases z
        · obtain ⟨e1, _⟩ := hok b _ z
          obtain ⟨e2, _⟩ := hok' b _ (un.frzs b ob _ z)
          rw [e] at e1; cases e1
          exact e2
/-- the goal behind the head -/
theorem walk_top {l : PySem.W.OpenLaw} {n k : Nat} {q : Program} {loose : List Str} {XP : (Str → Option Value) → Heap → Prop} {YP : World → Heap → Prop} {d : DefRec} {x : Str}
    (hn : l.most = some n) (hn2 : n ≤ sizeLine) (hdf : d.params.defaults = []) (hr : Room k callerA)
    (F : ∀ (w : World) (mg : Str → Option Value) (fa : Addr) (h : Heap), YP w h → h.Ns mainGlobals mg → mg d.name = some (.ref fa) →
      ∃ (K : PySem.W.Frag) (fd : FuncData) (sp : Heap → Sp), K.In h ∧ (∀ (s : Shared) (u : Value), BindsTo s fd ⟨[u], []⟩ [(x, u)]) ∧
        (∀ (base : Heap) (H : Hp) (a : Addr) (ns : List Int), ns.length ≤ n → Only H → SqL K H a (ns.map V.int) → sp base [.ref a] H (fun v _ => v = .bl true) fun _ _ _ => False) ∧
        ∀ base : Heap, K.In base → base.Ns mainGlobals mg → FnG l.prog w K mg base (L2.CX l.prog w) k fa fd [x] (sp base)) :
    PySem.W.WalkO q loose XP YP l.row.toRowW d [] (fun f vs => PySem.call f vs) := by
  refine Att.attach_call hn hdf fun w s₀ s₁ mg mb fa o pm cd doc a vs ns G Y ho hd hcd hmg hobj hints hlen hg => ?_
  obtain ⟨K, fd, sp, KX, hb, hsp, hF⟩ := F w mg fa _ Y G.T.g hmg
  have rv := vals_ints hints
  have lenV := hints.length
  have hl := Nat.le_trans hlen hn2
  have run := run_top (ns := ns) KX G.T.g G.T.b G.T.builtins G.T.nolimit hg hobj hr hF hb fun base H hO hS => hsp base H a ns hlen hO hS
  cases hk : K.lookup a with
  | some o =>
    have e := KX a o hk
    rw [hobj] at e
    cases e
    exact run (fun _ => none) (fun _ => .inl rfl) (.inr ⟨_, vs.toArray, _, hk, rfl, rfl, rfl, by rw [List.size_toArray, lenV]; exact hl, by simpa using rv⟩) (fun b u z => by have z' : (none : Option HO) = some u := z; cases z') (fun b z => absurd rfl z) fun z => absurd rfl z
  | none =>
    have at_ : ∀ b, (if b = a then some (HO.frz { cls := .type "list", data := .seq vs.toArray } (.lst (ns.map V.int))) else none) ≠ none → b = a := fun b z => by
      by_cases hb : b = a
      · exact hb
      · exact absurd (if_neg hb) z
    refine run (fun b => if b = a then some (.frz { cls := .type "list", data := .seq vs.toArray } (.lst (ns.map V.int))) else none) (fun b => ?_) (.inl (.inr ⟨{ cls := .type "list", data := .seq vs.toArray }, if_pos rfl⟩)) (fun b u z => ?_) at_ fun _ => hk
    · by_cases hb : b = a
      · exact .inr ⟨_, _, if_pos hb⟩
      · exact .inl (if_neg hb)
    · have hb := at_ b (by rw [show (if b = a then some (HO.frz { cls := .type "list", data := .seq vs.toArray } (.lst (ns.map V.int))) else none) = some u from z]; exact nofun)
      subst hb
      have z' := (if_pos rfl).symm.trans z
      cases z'
      exact ⟨hobj, by rw [List.length_map]; exact hl, vs, _, rv, hobj⟩
/-- a store of nothing, at the script alone -/
theorem ok_only {G : Ge} {H : Hp} : StOk G ⟨[], []⟩ H (fun _ => False) 0 [] :=
  ⟨rfl, .nil, fun n u a e => (by simp at e), fun a m => (by cases m), Nat.le_refl _, fun c z => z.elim, fun c z => z.elim⟩
/-- the law's promise, from what its function computes -/
theorem sp_top {G : Ge} {F : Fn} {H : Hp} {a : Addr} {ns : List Int} (hS : SqL G.K H a (ns.map V.int)) (h : ∃ st, F 0 [.fl (ns.map .int)] [] = .ok (.bl true) st) : spE G 1 F [.ref a] H (fun v _ => v = .bl true) fun _ _ _ => False := by
  obtain ⟨st, e⟩ := h
  have rs : RTs G ⟨[], []⟩ H (ns.map U.int) (ns.map V.int) := .of (by
    clear hS e
    induction ns with
    | nil => exact .nil
    | cons i ns ih => exact .cons rt_int ih)
  refine ⟨rfl, ⟨[], []⟩, [], fun _ => False, 0, [.fl (ns.map .int)], ok_only, .cons (RT.rv ?_) .nil, ?_⟩
  · unfold RT
    refine ⟨a, _, rfl, ?_, rs⟩
    rcases hS with hS | hS
    · exact .inl ⟨fun z => (by rcases z with z | z <;> cases z), hS⟩
    · exact .inr hS
  · rw [e]
    exact fun φ' H' x S v r => r.bl_
end EV

set_option maxRecDepth 100000
/-! the tables of heardlogs_k21_whole_clocks_by_dicts; printed by gen.py -/
namespace K21
open PySem PySem.Spec PyProof.Rows L2 EV
def top (i : Nat) : Stmt := PySem.Challenge.pw_heardlogs_k21_whole_clocks_by_dicts.main.body.getD i (.Pass ⟨0, 0, 0, 0⟩)
def clsB : Stmt → List Stmt
  | .ClassDef (body := b) .. => b
  | _ => []
def sub (i j : Nat) : Stmt := (clsB (top i)).getD j (.Pass ⟨0, 0, 0, 0⟩)
/-- is_integer -/
def d0 : DefI := { d := ⟨("is_integer", none), "is_integer", "is_integer", defArgs (top 3), defBody (top 3), defScope (top 3), [], []⟩, N := ["value"], ps := ["value"], dfl := [], live := [] }
/-- is_count -/
def d1 : DefI := { d := ⟨("is_count", none), "is_count", "is_count", defArgs (top 4), defBody (top 4), defScope (top 4), [], []⟩, N := ["value"], ps := ["value"], dfl := [], live := [] }
/-- is_name -/
def d2 : DefI := { d := ⟨("is_name", none), "is_name", "is_name", defArgs (top 5), defBody (top 5), defScope (top 5), [], []⟩, N := ["value", "letter"], ps := ["value"], dfl := [], live := [] }
/-- are_counts -/
def d3 : DefI := { d := ⟨("are_counts", none), "are_counts", "are_counts", defArgs (top 11), defBody (top 11), defScope (top 11), [], []⟩, N := ["value", "name", "count"], ps := ["value"], dfl := [], live := [] }
/-- want_clock -/
def d4 : DefI := { d := ⟨("want_clock", none), "want_clock", "want_clock", defArgs (top 12), defBody (top 12), defScope (top 12), [], []⟩, N := ["value"], ps := ["value"], dfl := [], live := [] }
/-- Clock.__init__ -/
def d5 : DefI := { d := ⟨("Clock", some "__init__"), "__init__", "Clock.__init__", defArgs (sub 13 0), defBody (sub 13 0), defScope (sub 13 0), [.non], []⟩, N := ["self", "counts", "given", "names", "name"], ps := ["self", "counts"], dfl := [.non], live := [] }
/-- Clock.__getitem__ -/
def d6 : DefI := { d := ⟨("Clock", some "__getitem__"), "__getitem__", "Clock.__getitem__", defArgs (sub 13 1), defBody (sub 13 1), defScope (sub 13 1), [], []⟩, N := ["self", "name"], ps := ["self", "name"], dfl := [], live := [] }
/-- Clock.__iter__ -/
def d7 : DefI := { d := ⟨("Clock", some "__iter__"), "__iter__", "Clock.__iter__", defArgs (sub 13 2), defBody (sub 13 2), defScope (sub 13 2), [], []⟩, N := ["self"], ps := ["self"], dfl := [], live := [] }
/-- Clock.counts -/
def d8 : DefI := { d := ⟨("Clock", some "counts"), "counts", "Clock.counts", defArgs (sub 13 3), defBody (sub 13 3), defScope (sub 13 3), [], []⟩, N := ["self"], ps := ["self"], dfl := [], live := [(49, 15)] }
/-- Clock.total -/
def d9 : DefI := { d := ⟨("Clock", some "total"), "total", "Clock.total", defArgs (sub 13 4), defBody (sub 13 4), defScope (sub 13 4), [], []⟩, N := ["self"], ps := ["self"], dfl := [], live := [] }
/-- Clock.count_of -/
def d10 : DefI := { d := ⟨("Clock", some "count_of"), "count_of", "Clock.count_of", defArgs (sub 13 5), defBody (sub 13 5), defScope (sub 13 5), [], []⟩, N := ["self", "name"], ps := ["self", "name"], dfl := [], live := [] }
/-- Clock.__le__ -/
def d11 : DefI := { d := ⟨("Clock", some "__le__"), "__le__", "Clock.__le__", defArgs (sub 13 6), defBody (sub 13 6), defScope (sub 13 6), [], []⟩, N := ["self", "other"], ps := ["self", "other"], dfl := [], live := [] }
/-- Clock.__ge__ -/
def d12 : DefI := { d := ⟨("Clock", some "__ge__"), "__ge__", "Clock.__ge__", defArgs (sub 13 7), defBody (sub 13 7), defScope (sub 13 7), [], []⟩, N := ["self", "other"], ps := ["self", "other"], dfl := [], live := [] }
/-- Clock.__or__ -/
def d13 : DefI := { d := ⟨("Clock", some "__or__"), "__or__", "Clock.__or__", defArgs (sub 13 8), defBody (sub 13 8), defScope (sub 13 8), [], []⟩, N := ["self", "other"], ps := ["self", "other"], dfl := [], live := [] }
/-- Clock.__and__ -/
def d14 : DefI := { d := ⟨("Clock", some "__and__"), "__and__", "Clock.__and__", defArgs (sub 13 9), defBody (sub 13 9), defScope (sub 13 9), [], []⟩, N := ["self", "other"], ps := ["self", "other"], dfl := [], live := [] }
/-- Clock.__add__ -/
def d15 : DefI := { d := ⟨("Clock", some "__add__"), "__add__", "Clock.__add__", defArgs (sub 13 10), defBody (sub 13 10), defScope (sub 13 10), [], []⟩, N := ["self", "name"], ps := ["self", "name"], dfl := [], live := [] }
/-- Clock.__radd__ -/
def d16 : DefI := { d := ⟨("Clock", some "__radd__"), "__radd__", "Clock.__radd__", defArgs (sub 13 11), defBody (sub 13 11), defScope (sub 13 11), [], []⟩, N := ["self", "name"], ps := ["self", "name"], dfl := [], live := [] }
/-- Clock.__eq__ -/
def d17 : DefI := { d := ⟨("Clock", some "__eq__"), "__eq__", "Clock.__eq__", defArgs (sub 13 12), defBody (sub 13 12), defScope (sub 13 12), [], []⟩, N := ["self", "other"], ps := ["self", "other"], dfl := [], live := [] }
/-- Clock.__repr__ -/
def d18 : DefI := { d := ⟨("Clock", some "__repr__"), "__repr__", "Clock.__repr__", defArgs (sub 13 13), defBody (sub 13 13), defScope (sub 13 13), [], []⟩, N := ["self"], ps := ["self"], dfl := [], live := [] }
/-- is_at_most -/
def d19 : DefI := { d := ⟨("is_at_most", none), "is_at_most", "is_at_most", defArgs (top 14), defBody (top 14), defScope (top 14), [], []⟩, N := ["one", "other", "name", "count"], ps := ["one", "other"], dfl := [], live := [] }
/-- greatest_of -/
def d20 : DefI := { d := ⟨("greatest_of", none), "greatest_of", "greatest_of", defArgs (top 15), defBody (top 15), defScope (top 15), [], []⟩, N := ["one", "other", "found", "name", "count"], ps := ["one", "other"], dfl := [], live := [(89, 12)] }
/-- least_of -/
def d21 : DefI := { d := ⟨("least_of", none), "least_of", "least_of", defArgs (top 16), defBody (top 16), defScope (top 16), [], []⟩, N := ["one", "other", "found", "name", "count", "far"], ps := ["one", "other"], dfl := [], live := [(95, 12)] }
/-- _law_pot -/
def d22 : DefI := { d := ⟨("_law_pot", none), "_law_pot", "_law_pot", defArgs (top 18), defBody (top 18), defScope (top 18), [], []⟩, N := ["_law_script", "_law_k", "_law_cell"], ps := ["_law_script", "_law_k"], dfl := [], live := [(105, 11)] }
/-- _law_draw -/
def d23 : DefI := { d := ⟨("_law_draw", none), "_law_draw", "_law_draw", defArgs (top 19), defBody (top 19), defScope (top 19), [], []⟩, N := ["_law_pot_here", "_law_many", "_law_digit"], ps := ["_law_pot_here", "_law_many"], dfl := [], live := [] }
/-- _law_among -/
def d24 : DefI := { d := ⟨("_law_among", none), "_law_among", "_law_among", defArgs (top 20), defBody (top 20), defScope (top 20), [], []⟩, N := ["_law_pot_here", "_law_some"], ps := ["_law_pot_here", "_law_some"], dfl := [], live := [] }
/-- _law_counts -/
def d25 : DefI := { d := ⟨("_law_counts", none), "_law_counts", "_law_counts", defArgs (top 21), defBody (top 21), defScope (top 21), [], []⟩, N := ["_law_pot_here", "_law_found", "_law_tag"], ps := ["_law_pot_here"], dfl := [], live := [(115, 17)] }
/-- _law_plain -/
def d26 : DefI := { d := ⟨("_law_plain", none), "_law_plain", "_law_plain", defArgs (top 22), defBody (top 22), defScope (top 22), [], []⟩, N := ["_law_some", "_law_tag"], ps := ["_law_some"], dfl := [], live := [] }
/-- _law_most -/
def d27 : DefI := { d := ⟨("_law_most", none), "_law_most", "_law_most", defArgs (top 23), defBody (top 23), defScope (top 23), [], []⟩, N := ["_law_one", "_law_other", "_law_tag"], ps := ["_law_one", "_law_other"], dfl := [], live := [] }
/-- _law_least -/
def d28 : DefI := { d := ⟨("_law_least", none), "_law_least", "_law_least", defArgs (top 24), defBody (top 24), defScope (top 24), [], []⟩, N := ["_law_one", "_law_other", "_law_tag"], ps := ["_law_one", "_law_other"], dfl := [], live := [] }
/-- _law_is_at_most -/
def d29 : DefI := { d := ⟨("_law_is_at_most", none), "_law_is_at_most", "_law_is_at_most", defArgs (top 25), defBody (top 25), defScope (top 25), [], []⟩, N := ["_law_one", "_law_other", "_law_tag"], ps := ["_law_one", "_law_other"], dfl := [], live := [] }
/-- _law_told_right -/
def d30 : DefI := { d := ⟨("_law_told_right", none), "_law_told_right", "_law_told_right", defArgs (top 26), defBody (top 26), defScope (top 26), [], []⟩, N := ["_law_tome", "_law_some", "_law_turn", "_law_told", "_law_tags", "_law_tag"], ps := ["_law_tome", "_law_some"], dfl := [], live := [(129, 20)] }
/-- _law_pair_right -/
def d31 : DefI := { d := ⟨("_law_pair_right", none), "_law_pair_right", "_law_pair_right", defArgs (top 27), defBody (top 27), defScope (top 27), [], []⟩, N := ["_law_one", "_law_other", "_law_first", "_law_second", "_law_both", "_law_shared", "_law_marks", "_law_same"], ps := ["_law_one", "_law_other", "_law_first", "_law_second"], dfl := [], live := [] }
/-- _law_more_right -/
def d32 : DefI := { d := ⟨("_law_more_right", none), "_law_more_right", "_law_more_right", defArgs (top 28), defBody (top 28), defScope (top 28), [], []⟩, N := ["_law_tome", "_law_some", "_law_tag", "_law_due"], ps := ["_law_tome", "_law_some"], dfl := [], live := [] }
/-- _law_right -/
def d33 : DefI := { d := ⟨("_law_right", none), "_law_right", "_law_right", defArgs (top 29), defBody (top 29), defScope (top 29), [], []⟩, N := ["_law_pot_here", "_law_some", "_law_turn", "_law_handed", "_law_one", "_law_tomes", "_law_shown", "_law_tome", "_law_at", "_law_far", "_law_first", "_law_second", "_law_third"], ps := ["_law_pot_here"], dfl := [], live := [(159, 18), (159, 19)] }
/-- law -/
def d34 : DefI := { d := ⟨("law", none), "law", "law", defArgs (top 30), defBody (top 30), defScope (top 30), [], []⟩, N := ["_law_script", "_law_k"], ps := ["_law_script"], dfl := [], live := [(180, 27)] }
def T0 : Tab :=
  { isi := ([((.inl "NoneType", .inr 0), false),
    ((.inl "bool", .inr 0), false),
    ((.inl "int", .inr 0), false),
    ((.inl "str", .inr 0), false),
    ((.inl "list", .inr 0), false),
    ((.inl "tuple", .inr 0), false),
    ((.inl "dict", .inr 0), false),
    ((.inr 0, .inr 0), true),
    ((.inl "NoneType", .inl "bool"), false),
    ((.inl "bool", .inl "bool"), true),
    ((.inl "int", .inl "bool"), false),
    ((.inl "str", .inl "bool"), false),
    ((.inl "list", .inl "bool"), false),
    ((.inl "tuple", .inl "bool"), false),
    ((.inl "dict", .inl "bool"), false),
    ((.inr 0, .inl "bool"), false),
    ((.inl "NoneType", .inl "dict"), false),
    ((.inl "bool", .inl "dict"), false),
    ((.inl "int", .inl "dict"), false),
    ((.inl "str", .inl "dict"), false),
    ((.inl "list", .inl "dict"), false),
    ((.inl "tuple", .inl "dict"), false),
    ((.inl "dict", .inl "dict"), true),
    ((.inr 0, .inl "dict"), false),
    ((.inl "NoneType", .inl "int"), false),
    ((.inl "bool", .inl "int"), true),
    ((.inl "int", .inl "int"), true),
    ((.inl "str", .inl "int"), false),
    ((.inl "list", .inl "int"), false),
    ((.inl "tuple", .inl "int"), false)] : List ((Kd × Kd) × Bool)) ++
    ([((.inl "dict", .inl "int"), false),
    ((.inr 0, .inl "int"), false),
    ((.inl "NoneType", .inl "str"), false),
    ((.inl "bool", .inl "str"), false),
    ((.inl "int", .inl "str"), false),
    ((.inl "str", .inl "str"), true),
    ((.inl "list", .inl "str"), false),
    ((.inl "tuple", .inl "str"), false),
    ((.inl "dict", .inl "str"), false),
    ((.inr 0, .inl "str"), false)] : List ((Kd × Kd) × Bool)),
    bin := [(("or", 0), 13), (("and", 0), 14), (("add", 0), 15)],
    binS := [(("or", 0), 13), (("and", 0), 14), (("add", 0), 15)],
    rbinS := [(("add", 0), 16)],
    cmp := [(("__le__", 0), 11), (("__ge__", 0), 12), (("__eq__", 0), 17)],
    ne := [(0, 17)],
    ix := [(0, 6)],
    rep := [(0, 18)],
    glob := ([("Clock", .cl 0),
    ("LETTERS", .str "abcdefghijklmnopqrstuvwxyz"),
    ("MOST_LETTERS", .int 6),
    ("int", .ty "int"),
    ("list", .ty "list"),
    ("dict", .ty "dict"),
    ("bool", .ty "bool"),
    ("str", .ty "str"),
    ("range", .ty "range")] : List (Str × U)) }
def tab : PTab :=
  { defs := ([d0,
    d1,
    d2,
    d3,
    d4,
    d5,
    d6,
    d7,
    d8,
    d9,
    d10,
    d11,
    d12,
    d13,
    d14,
    d15,
    d16,
    d17,
    d18,
    d19,
    d20,
    d21,
    d22,
    d23,
    d24,
    d25,
    d26,
    d27,
    d28,
    d29] : List (DefI)) ++
    ([d30,
    d31,
    d32,
    d33,
    d34] : List (DefI)),
    glob := ([("is_integer", .fn 0 ⟨["value"], []⟩),
    ("is_count", .fn 1 ⟨["value"], []⟩),
    ("is_name", .fn 2 ⟨["value"], []⟩),
    ("are_counts", .fn 3 ⟨["value"], []⟩),
    ("want_clock", .fn 4 ⟨["value"], []⟩),
    ("is_at_most", .fn 19 ⟨["one", "other"], []⟩),
    ("greatest_of", .fn 20 ⟨["one", "other"], []⟩),
    ("least_of", .fn 21 ⟨["one", "other"], []⟩),
    ("_law_pot", .fn 22 ⟨["_law_script", "_law_k"], []⟩),
    ("_law_draw", .fn 23 ⟨["_law_pot_here", "_law_many"], []⟩),
    ("_law_among", .fn 24 ⟨["_law_pot_here", "_law_some"], []⟩),
    ("_law_counts", .fn 25 ⟨["_law_pot_here"], []⟩),
    ("_law_plain", .fn 26 ⟨["_law_some"], []⟩),
    ("_law_most", .fn 27 ⟨["_law_one", "_law_other"], []⟩),
    ("_law_least", .fn 28 ⟨["_law_one", "_law_other"], []⟩),
    ("_law_is_at_most", .fn 29 ⟨["_law_one", "_law_other"], []⟩),
    ("_law_told_right", .fn 30 ⟨["_law_tome", "_law_some"], []⟩),
    ("_law_pair_right", .fn 31 ⟨["_law_one", "_law_other", "_law_first", "_law_second"], []⟩),
    ("_law_more_right", .fn 32 ⟨["_law_tome", "_law_some"], []⟩),
    ("_law_right", .fn 33 ⟨["_law_pot_here"], []⟩),
    ("law", .fn 34 ⟨["_law_script"], []⟩),
    ("Clock", .cls 0 5 ⟨["self", "counts"], [.non]⟩),
    ("LETTERS", .cst),
    ("MOST_LETTERS", .cst),
    ("isinstance", .bf),
    ("repr", .bf),
    ("len", .bf),
    ("all", .bf),
    ("sum", .bf),
    ("sorted", .bf)] : List (Str × GK)) ++
    ([("max", .bf),
    ("min", .bf),
    ("abs", .bf),
    ("divmod", .bf),
    ("int", .ty),
    ("list", .ty),
    ("dict", .ty),
    ("bool", .ty),
    ("str", .ty),
    ("range", .ty)] : List (Str × GK)),
    meth := ([("__getitem__", [(0, 6, ⟨["self", "name"], []⟩)]),
    ("__iter__", [(0, 7, ⟨["self"], []⟩)]),
    ("counts", [(0, 8, ⟨["self"], []⟩)]),
    ("total", [(0, 9, ⟨["self"], []⟩)]),
    ("count_of", [(0, 10, ⟨["self", "name"], []⟩)]),
    ("__le__", [(0, 11, ⟨["self", "other"], []⟩)]),
    ("__ge__", [(0, 12, ⟨["self", "other"], []⟩)]),
    ("__or__", [(0, 13, ⟨["self", "other"], []⟩)]),
    ("__and__", [(0, 14, ⟨["self", "other"], []⟩)]),
    ("__add__", [(0, 15, ⟨["self", "name"], []⟩)]),
    ("__radd__", [(0, 16, ⟨["self", "name"], []⟩)]),
    ("__eq__", [(0, 17, ⟨["self", "other"], []⟩)]),
    ("__repr__", [(0, 18, ⟨["self"], []⟩)])] : List (Str × List (Nat × Nat × Sig))),
    bms := ["get", "pop", "clear", "append", "extend", "remove", "index", "update", "insert", "reverse", "upper", "items", "values", "keys", "sort", "copy", "join", "split", "count"], flds := ["own_counts"],
    shapes := ([(0, 1, []),
    (1, 1, []),
    (2, 1, []),
    (3, 1, []),
    (4, 1, []),
    (5, 1, ["counts"]),
    (5, 2, []),
    (6, 2, []),
    (7, 1, []),
    (8, 1, []),
    (9, 1, []),
    (10, 2, []),
    (11, 2, []),
    (12, 2, []),
    (13, 2, []),
    (14, 2, []),
    (15, 2, []),
    (16, 2, []),
    (17, 2, []),
    (18, 1, []),
    (19, 2, []),
    (20, 2, []),
    (21, 2, []),
    (22, 2, []),
    (23, 2, []),
    (24, 2, []),
    (25, 1, []),
    (26, 1, []),
    (27, 2, []),
    (28, 2, [])] : List (Nat × Nat × List Str)) ++
    ([(29, 2, []),
    (30, 2, []),
    (31, 4, []),
    (32, 2, []),
    (33, 1, [])] : List (Nat × Nat × List Str)),
    cls := ["Clock"], T := T0 }
/-- the other names that the top binds -/
def others : List Str := (["Clock",
    "InvalidClock",
    "InvalidName",
    "LETTERS",
    "LogError",
    "MOST_LETTERS",
    "__name__",
    "_law_among",
    "_law_counts",
    "_law_draw",
    "_law_is_at_most",
    "_law_least",
    "_law_more_right",
    "_law_most",
    "_law_pair_right",
    "_law_plain",
    "_law_pot",
    "_law_right",
    "_law_told_right",
    "are_counts",
    "greatest_of",
    "is_at_most",
    "is_count",
    "is_integer",
    "is_name",
    "least_of",
    "want_clock"] : List (Str))
end K21

set_option maxRecDepth 100000
set_option maxHeartbeats 0
/-! the head of heardlogs_k21_whole_clocks_by_dicts; printed by gen.py -/
namespace K21
open PySem PySem.Spec PyProof.Rows L2 EV
abbrev R : PySem.W.OpenRow := PySem.W.OpenLaw.row PySem.Challenge.rw_heardlogs_k21_whole_clocks_by_dicts
theorem chk_ok : EV.chk tab = true := by kernel_rfl
abbrev hk : PySem.W.Hook := He.hookX 5 (faOf tab) (fnOf tab) [] [] (exB tab)
def ob (s : PySem.W.SharedT) : He.AlX := He.obsX 5 (faOf tab) (fnOf tab) [] [] (exB tab) (HandSHeadRun.getT s)
theorem ob_eq (s : PySem.W.SharedT) : ob s = hk.obs s.abs := He.obsX_eq (HandSHeadRun.getT_eq s)
theorem run (w : World) : HandSHeadRun.RunEq R (PySem.W.view R.prog [30]) hk ob 8000 others w := by
  intro os
  kernel_rfl
def KP (G : Ge) (q : Nat × Nat × List Str) : Prop := ∀ (x : DefI), tab.defs[q.1]? = some x → ∀ fd, FunD G.K x.d.name x.d.qual x.d.params x.d.body x.d.scope (x.d.dvs G.K) (x.d.kws G.K) (x.ad G.K) fd → ∀ p, sigPerm x.sg q.2.1 q.2.2 = some p → KBf G fd x.ps q.2.1 q.2.2 p
section
variable {G : Ge}
theorem kp0 : KP G (0, 1, []) := fun x e fd F p hp => by
  cases e; cases hp
  exact kb0 F (by rfl) rfl fun kV doc pm an cdv ct us ws l1 l2 => match us, ws, l1, l2 with | [_], [], _, _ => rfl
theorem kp1 : KP G (1, 1, []) := fun x e fd F p hp => by
  cases e; cases hp
  exact kb0 F (by rfl) rfl fun kV doc pm an cdv ct us ws l1 l2 => match us, ws, l1, l2 with | [_], [], _, _ => rfl
theorem kp2 : KP G (2, 1, []) := fun x e fd F p hp => by
  cases e; cases hp
  exact kb0 F (by rfl) rfl fun kV doc pm an cdv ct us ws l1 l2 => match us, ws, l1, l2 with | [_], [], _, _ => rfl
theorem kp3 : KP G (3, 1, []) := fun x e fd F p hp => by
  cases e; cases hp
  exact kb0 F (by rfl) rfl fun kV doc pm an cdv ct us ws l1 l2 => match us, ws, l1, l2 with | [_], [], _, _ => rfl
theorem kp4 : KP G (4, 1, []) := fun x e fd F p hp => by
  cases e; cases hp
  exact kb0 F (by rfl) rfl fun kV doc pm an cdv ct us ws l1 l2 => match us, ws, l1, l2 with | [_], [], _, _ => rfl
theorem kp5 : KP G (5, 1, ["counts"]) := fun x e fd F p hp => by
  cases e; cases hp
  exact kb1 (dfl := d5.dfl) F (by decide) (by rfl) rfl fun T kV doc pm an cdv ct us ws its l1 l2 l3 => match us, ws, its, l1, l2, l3 with | [_], [_], [_], _, _, _ => ⟨_, rfl, rfl⟩
theorem kp6 : KP G (5, 2, []) := fun x e fd F p hp => by
  cases e; cases hp
  exact kb1 (dfl := d5.dfl) F (by decide) (by rfl) rfl fun T kV doc pm an cdv ct us ws its l1 l2 l3 => match us, ws, its, l1, l2, l3 with | [_, _], [], [_], _, _, _ => ⟨_, rfl, rfl⟩
theorem kp7 : KP G (6, 2, []) := fun x e fd F p hp => by
  cases e; cases hp
  exact kb0 F (by rfl) rfl fun kV doc pm an cdv ct us ws l1 l2 => match us, ws, l1, l2 with | [_, _], [], _, _ => rfl
theorem kp8 : KP G (7, 1, []) := fun x e fd F p hp => by
  cases e; cases hp
  exact kb0 F (by rfl) rfl fun kV doc pm an cdv ct us ws l1 l2 => match us, ws, l1, l2 with | [_], [], _, _ => rfl
theorem kp9 : KP G (8, 1, []) := fun x e fd F p hp => by
  cases e; cases hp
  exact kb0 F (by rfl) rfl fun kV doc pm an cdv ct us ws l1 l2 => match us, ws, l1, l2 with | [_], [], _, _ => rfl
theorem kp10 : KP G (9, 1, []) := fun x e fd F p hp => by
  cases e; cases hp
  exact kb0 F (by rfl) rfl fun kV doc pm an cdv ct us ws l1 l2 => match us, ws, l1, l2 with | [_], [], _, _ => rfl
theorem kp11 : KP G (10, 2, []) := fun x e fd F p hp => by
  cases e; cases hp
  exact kb0 F (by rfl) rfl fun kV doc pm an cdv ct us ws l1 l2 => match us, ws, l1, l2 with | [_, _], [], _, _ => rfl
theorem kp12 : KP G (11, 2, []) := fun x e fd F p hp => by
  cases e; cases hp
  exact kb0 F (by rfl) rfl fun kV doc pm an cdv ct us ws l1 l2 => match us, ws, l1, l2 with | [_, _], [], _, _ => rfl
theorem kp13 : KP G (12, 2, []) := fun x e fd F p hp => by
  cases e; cases hp
  exact kb0 F (by rfl) rfl fun kV doc pm an cdv ct us ws l1 l2 => match us, ws, l1, l2 with | [_, _], [], _, _ => rfl
theorem kp14 : KP G (13, 2, []) := fun x e fd F p hp => by
  cases e; cases hp
  exact kb0 F (by rfl) rfl fun kV doc pm an cdv ct us ws l1 l2 => match us, ws, l1, l2 with | [_, _], [], _, _ => rfl
theorem kp15 : KP G (14, 2, []) := fun x e fd F p hp => by
  cases e; cases hp
  exact kb0 F (by rfl) rfl fun kV doc pm an cdv ct us ws l1 l2 => match us, ws, l1, l2 with | [_, _], [], _, _ => rfl
theorem kp16 : KP G (15, 2, []) := fun x e fd F p hp => by
  cases e; cases hp
  exact kb0 F (by rfl) rfl fun kV doc pm an cdv ct us ws l1 l2 => match us, ws, l1, l2 with | [_, _], [], _, _ => rfl
theorem kp17 : KP G (16, 2, []) := fun x e fd F p hp => by
  cases e; cases hp
  exact kb0 F (by rfl) rfl fun kV doc pm an cdv ct us ws l1 l2 => match us, ws, l1, l2 with | [_, _], [], _, _ => rfl
theorem kp18 : KP G (17, 2, []) := fun x e fd F p hp => by
  cases e; cases hp
  exact kb0 F (by rfl) rfl fun kV doc pm an cdv ct us ws l1 l2 => match us, ws, l1, l2 with | [_, _], [], _, _ => rfl
theorem kp19 : KP G (18, 1, []) := fun x e fd F p hp => by
  cases e; cases hp
  exact kb0 F (by rfl) rfl fun kV doc pm an cdv ct us ws l1 l2 => match us, ws, l1, l2 with | [_], [], _, _ => rfl
theorem kp20 : KP G (19, 2, []) := fun x e fd F p hp => by
  cases e; cases hp
  exact kb0 F (by rfl) rfl fun kV doc pm an cdv ct us ws l1 l2 => match us, ws, l1, l2 with | [_, _], [], _, _ => rfl
theorem kp21 : KP G (20, 2, []) := fun x e fd F p hp => by
  cases e; cases hp
  exact kb0 F (by rfl) rfl fun kV doc pm an cdv ct us ws l1 l2 => match us, ws, l1, l2 with | [_, _], [], _, _ => rfl
theorem kp22 : KP G (21, 2, []) := fun x e fd F p hp => by
  cases e; cases hp
  exact kb0 F (by rfl) rfl fun kV doc pm an cdv ct us ws l1 l2 => match us, ws, l1, l2 with | [_, _], [], _, _ => rfl
theorem kp23 : KP G (22, 2, []) := fun x e fd F p hp => by
  cases e; cases hp
  exact kb0 F (by rfl) rfl fun kV doc pm an cdv ct us ws l1 l2 => match us, ws, l1, l2 with | [_, _], [], _, _ => rfl
theorem kp24 : KP G (23, 2, []) := fun x e fd F p hp => by
  cases e; cases hp
  exact kb0 F (by rfl) rfl fun kV doc pm an cdv ct us ws l1 l2 => match us, ws, l1, l2 with | [_, _], [], _, _ => rfl
theorem kp25 : KP G (24, 2, []) := fun x e fd F p hp => by
  cases e; cases hp
  exact kb0 F (by rfl) rfl fun kV doc pm an cdv ct us ws l1 l2 => match us, ws, l1, l2 with | [_, _], [], _, _ => rfl
theorem kp26 : KP G (25, 1, []) := fun x e fd F p hp => by
  cases e; cases hp
  exact kb0 F (by rfl) rfl fun kV doc pm an cdv ct us ws l1 l2 => match us, ws, l1, l2 with | [_], [], _, _ => rfl
theorem kp27 : KP G (26, 1, []) := fun x e fd F p hp => by
  cases e; cases hp
  exact kb0 F (by rfl) rfl fun kV doc pm an cdv ct us ws l1 l2 => match us, ws, l1, l2 with | [_], [], _, _ => rfl
theorem kp28 : KP G (27, 2, []) := fun x e fd F p hp => by
  cases e; cases hp
  exact kb0 F (by rfl) rfl fun kV doc pm an cdv ct us ws l1 l2 => match us, ws, l1, l2 with | [_, _], [], _, _ => rfl
theorem kp29 : KP G (28, 2, []) := fun x e fd F p hp => by
  cases e; cases hp
  exact kb0 F (by rfl) rfl fun kV doc pm an cdv ct us ws l1 l2 => match us, ws, l1, l2 with | [_, _], [], _, _ => rfl
theorem kp30 : KP G (29, 2, []) := fun x e fd F p hp => by
  cases e; cases hp
  exact kb0 F (by rfl) rfl fun kV doc pm an cdv ct us ws l1 l2 => match us, ws, l1, l2 with | [_, _], [], _, _ => rfl
theorem kp31 : KP G (30, 2, []) := fun x e fd F p hp => by
  cases e; cases hp
  exact kb0 F (by rfl) rfl fun kV doc pm an cdv ct us ws l1 l2 => match us, ws, l1, l2 with | [_, _], [], _, _ => rfl
theorem kp32 : KP G (31, 4, []) := fun x e fd F p hp => by
  cases e; cases hp
  exact kb0 F (by rfl) rfl fun kV doc pm an cdv ct us ws l1 l2 => match us, ws, l1, l2 with | [_, _, _, _], [], _, _ => rfl
theorem kp33 : KP G (32, 2, []) := fun x e fd F p hp => by
  cases e; cases hp
  exact kb0 F (by rfl) rfl fun kV doc pm an cdv ct us ws l1 l2 => match us, ws, l1, l2 with | [_, _], [], _, _ => rfl
theorem kp34 : KP G (33, 1, []) := fun x e fd F p hp => by
  cases e; cases hp
  exact kb0 F (by rfl) rfl fun kV doc pm an cdv ct us ws l1 l2 => match us, ws, l1, l2 with | [_], [], _, _ => rfl
theorem kp_all : ∀ q ∈ tab.shapes, KP G q := by
  intro q h
  have h : q ∈ (([(0, 1, []),
    (1, 1, []),
    (2, 1, []),
    (3, 1, []),
    (4, 1, []),
    (5, 1, ["counts"]),
    (5, 2, []),
    (6, 2, []),
    (7, 1, []),
    (8, 1, []),
    (9, 1, []),
    (10, 2, []),
    (11, 2, []),
    (12, 2, []),
    (13, 2, []),
    (14, 2, []),
    (15, 2, []),
    (16, 2, []),
    (17, 2, []),
    (18, 1, []),
    (19, 2, []),
    (20, 2, []),
    (21, 2, []),
    (22, 2, []),
    (23, 2, []),
    (24, 2, []),
    (25, 1, []),
    (26, 1, []),
    (27, 2, []),
    (28, 2, [])] : List (Nat × Nat × List Str)) ++
    ([(29, 2, []),
    (30, 2, []),
    (31, 4, []),
    (32, 2, []),
    (33, 1, [])] : List (Nat × Nat × List Str))) := h
  simp only [List.cons_append, List.nil_append, List.mem_cons, List.not_mem_nil, or_false] at h
  rcases h with rfl | rfl | rfl | rfl | rfl | rfl | rfl | rfl | rfl | rfl | rfl | rfl | rfl | rfl | rfl | rfl | rfl | rfl | rfl | rfl | rfl | rfl | rfl | rfl | rfl | rfl | rfl | rfl | rfl | rfl | rfl | rfl | rfl | rfl | rfl
  · exact kp0
  · exact kp1
  · exact kp2
  · exact kp3
  · exact kp4
  · exact kp5
  · exact kp6
  · exact kp7
  · exact kp8
  · exact kp9
  · exact kp10
  · exact kp11
  · exact kp12
  · exact kp13
  · exact kp14
  · exact kp15
  · exact kp16
  · exact kp17
  · exact kp18
  · exact kp19
  · exact kp20
  · exact kp21
  · exact kp22
  · exact kp23
  · exact kp24
  · exact kp25
  · exact kp26
  · exact kp27
  · exact kp28
  · exact kp29
  · exact kp30
  · exact kp31
  · exact kp32
  · exact kp33
  · exact kp34
end
theorem sf_of {P : Program} {w : World} {h : Heap} {mg : Str → Option Value} {K : PySem.W.Frag} (X : K.In h) (g : h.Ns mainGlobals mg) (c : He.SaysX (faOf tab) (fnOf tab) [] [] (exB tab) w h K) (base : Heap) :
    SF tab ⟨P, w, K, mg, base, tab.cls.map (He.ga K)⟩ :=
  Says.sf { cls := rfl, d := c.t.d, ex := c.more, h := ⟨h, X, g⟩, chk := chk_ok } fun i x e fd F n ks p hs hp => kp_all (i, n, ks) (by simpa using hs) x e fd F p hp
/-- THE LAW, from what its function computes -/
theorem law_of (n : Nat) (hr : Room (2 * n) callerA) (H : ∀ ns : List Int, ns.length ≤ 63 → ∃ st, fnL tab n 34 0 [.fl (ns.map .int)] [] = .ok (.bl true) st) : PySem.Challenge.rw_heardlogs_k21_whole_clocks_by_dicts.Holds := by
  w_on; o_law
  refine HandSHeadRun.head_any (r := R) (q := PySem.W.view R.prog [30]) (H := hk) (ob := ob) (M := 8000) (loose := others) (d := HandSHeadRun.topDef R.prog 30) (kwd := []) ob_eq
    (by kernel_rfl) (fun s => by kernel_rfl) run (by kernel_rfl) (by kernel_rfl) (by kernel_rfl) (by rfl) (by first | assumption | decide +kernel) (by decide +kernel) ⟨rfl, rfl, rfl, rfl, rfl, by decide +kernel⟩ ?hw ?hc
  case hw => w_witness2
  case hc =>
    refine EV.walk_top (l := PySem.Challenge.rw_heardlogs_k21_whole_clocks_by_dicts) (n := 63) (k := 2 * n) (x := "_law_script") rfl (by decide) (by kernel_rfl) hr ?F
    intro w mg fa h Y g hmg0
    obtain ⟨K, X, c⟩ := Y
    have hmg : mg ("law" : PySem.Str) = some (.ref fa) := by
      have e : (HandSHeadRun.topDef R.prog 30).name = ("law" : PySem.Str) := by kernel_rfl
      rw [← e]
      exact hmg0
    obtain ⟨fd, FD, _⟩ := (sf_of (P := R.prog) X g c h).fd 34 d34 rfl
    have ga := He.glo_ok X g (c.t.d.facts (f := .glo "law") (by
      unfold faOf
      refine List.mem_append_left _ (List.mem_append_left _ (List.mem_flatMap.mpr ⟨("law", .fn 34 d34.sg), ?_, List.mem_cons_self ..⟩))
      exact lk_mem (by rfl)))
    have ea : d34.ad K = fa := by
      have e := hmg.symm.trans ga
      cases e
      rfl
    rw [ea] at FD
    refine ⟨K, fd, fun base => spE ⟨R.prog, w, K, mg, base, tab.cls.map (He.ga K)⟩ 1 (fnL tab n 34), X, ?_, ?_, ?_⟩
    · intro s u
      have b := FunD.bindsA (ps := d34.ps) FD fun _ _ _ _ _ _ us hl => match us, hl with | [_], _ => rfl
      exact b s [u] rfl
    · intro base H' a ns hl hO hS
      exact sp_top hS (H ns hl)
    · intro base kb nb
      have := prog_ok (G := ⟨R.prog, w, K, mg, base, tab.cls.map (He.ga K)⟩) (sf_of (P := R.prog) X g c base) n 34 d34 rfl fd (by
        rw [ea]; exact FD)
      rw [ea] at this
      exact this
end K21

/-! M0: association lists; the sorted ones without noughts. Plain. -/
namespace M
section
variable {κ : Type} [DecidableEq κ]
abbrev AL (κ : Type) := List (κ × Int)
def look (l : AL κ) (k : κ) : Option Int := (l.find? fun p => decide (p.1 = k)).map (·.2)
def get (l : AL κ) (k : κ) : Int := (look l k).getD 0
def keys (l : AL κ) : List κ := l.map (·.1)
def put : AL κ → κ → Int → AL κ
  | [], k, v => [(k, v)]
  | (j, w) :: l, k, v => if j = k then (j, v) :: l else (j, w) :: put l k v
theorem look_nil {k : κ} : look ([] : AL κ) k = none := rfl
theorem look_cons {l : AL κ} {j k : κ} {v : Int} : look ((j, v) :: l) k = if j = k then some v else look l k := by
  unfold look
  rw [List.find?_cons]
  by_cases h : j = k
  · simp [h]
  · simp [h]
theorem get_cons {l : AL κ} {j k : κ} {v : Int} : get ((j, v) :: l) k = if j = k then v else get l k := by
  unfold get; rw [look_cons]; split <;> rfl
theorem get_nil {k : κ} : get ([] : AL κ) k = 0 := rfl
theorem look_some {l : AL κ} {k : κ} (h : k ∈ keys l) : look l k = some (get l k) := by
  induction l with
  | nil => cases h
  | cons p l ih =>
    obtain ⟨j, v⟩ := p
    rw [look_cons, get_cons]
    by_cases e : j = k
    · rw [if_pos e, if_pos e]
    · rw [if_neg e, if_neg e]
      refine ih ?_
      rcases List.mem_cons.mp h with h | h
      · exact absurd h.symm e
      · exact h
theorem look_none {l : AL κ} {k : κ} (h : k ∉ keys l) : look l k = none := by
  induction l with
  | nil => rfl
  | cons p l ih =>
    obtain ⟨j, v⟩ := p
    rw [look_cons, if_neg (fun e => h (by rw [← e]; exact List.mem_cons_self ..))]
    exact ih fun m => h (List.mem_cons_of_mem _ m)
theorem get_none {l : AL κ} {k : κ} (h : k ∉ keys l) : get l k = 0 := by unfold get; rw [look_none h]; rfl
theorem get_mem {l : AL κ} {p : κ × Int} (nd : (keys l).Nodup) (h : p ∈ l) : get l p.1 = p.2 := by
  induction l with
  | nil => cases h
  | cons q l ih =>
    obtain ⟨j, v⟩ := q
    rw [get_cons]
    have nd' : j ∉ keys l ∧ (keys l).Nodup := List.nodup_cons.mp nd
    rcases List.mem_cons.mp h with h | h
    · subst h; rw [if_pos rfl]
    · rw [if_neg, ih nd'.2 h]
      intro e
      exact nd'.1 (by rw [e]; exact List.mem_map.mpr ⟨p, h, rfl⟩)
theorem mem_get {l : AL κ} {k : κ} (h : k ∈ keys l) : (k, get l k) ∈ l := by
  induction l with
  | nil => cases h
  | cons q l ih =>
    obtain ⟨j, v⟩ := q
    rw [get_cons]
    by_cases e : j = k
    · rw [if_pos e, e]; exact List.mem_cons_self ..
    · rw [if_neg e]
      refine List.mem_cons_of_mem _ (ih ?_)
      rcases List.mem_cons.mp h with h | h
      · exact absurd h.symm e
      · exact h
/-! put -/
theorem get_put {l : AL κ} {k j : κ} {v : Int} : get (put l k v) j = if k = j then v else get l j := by
  induction l with
  | nil => show get [(k, v)] j = _; rw [get_cons]
  | cons p l ih =>
    obtain ⟨i, w⟩ := p
    unfold put
    by_cases e : i = k
    · rw [if_pos e, get_cons, get_cons, e]
      split <;> rfl
    · rw [if_neg e, get_cons, get_cons, ih]
      by_cases e2 : i = j
      · rw [if_pos e2, if_pos e2, if_neg (fun z => e (e2.trans z.symm))]
      · rw [if_neg e2, if_neg e2]
theorem mem_keys_put {l : AL κ} {k j : κ} {v : Int} : j ∈ keys (put l k v) ↔ j = k ∨ j ∈ keys l := by
  induction l with
  | nil => simp [put, keys]
  | cons p l ih =>
    obtain ⟨i, w⟩ := p
    unfold put
    by_cases e : i = k
    · rw [if_pos e]
      simp only [keys, List.map_cons, List.mem_cons]
      rw [e]; simp
    · rw [if_neg e]
      have ih' : j ∈ List.map (·.1) (put l k v) ↔ j = k ∨ j ∈ List.map (·.1) l := ih
      simp only [keys, List.map_cons, List.mem_cons, ih']
      constructor
      · rintro (h | h | h) <;> simp [h]
      · rintro (h | h | h) <;> simp [h]
theorem nodup_put {l : AL κ} {k : κ} {v : Int} (h : (keys l).Nodup) : (keys (put l k v)).Nodup := by
  induction l with
  | nil => simp [put, keys]
  | cons p l ih =>
    obtain ⟨i, w⟩ := p
    have h' : i ∉ keys l ∧ (keys l).Nodup := List.nodup_cons.mp h
    unfold put
    by_cases e : i = k
    · rw [if_pos e]; exact h
    · rw [if_neg e]
      refine List.nodup_cons.mpr ⟨fun m => ?_, ih h'.2⟩
      rcases mem_keys_put.mp m with m | m
      · exact e m
      · exact h'.1 m
/-- entries told one behind the other -/
def puts (l : AL κ) (ps : AL κ) : AL κ := ps.foldl (fun a p => put a p.1 p.2) l
theorem puts_cons {l : AL κ} {p : κ × Int} {ps : AL κ} : puts l (p :: ps) = puts (put l p.1 p.2) ps := rfl
theorem nodup_puts {ps : AL κ} : ∀ {l : AL κ}, (keys l).Nodup → (keys (puts l ps)).Nodup := by
  induction ps with
  | nil => exact fun h => h
  | cons p ps ih => exact fun h => ih (nodup_put h)
theorem keys_puts {ps : AL κ} {j : κ} : ∀ {l : AL κ}, j ∈ keys (puts l ps) ↔ j ∈ keys l ∨ j ∈ keys ps := by
  induction ps with
  | nil => intro l; simp [puts, keys]
  | cons p ps ih =>
    intro l
    rw [puts_cons, ih, mem_keys_put]
    simp only [keys, List.map_cons, List.mem_cons]
    constructor
    · rintro ((h | h) | h)
      · exact .inr (.inl h)
      · exact .inl h
      · exact .inr (.inr h)
    · rintro (h | h | h)
      · exact .inl (.inr h)
      · exact .inl (.inl h)
      · exact .inr h
/-- .. all of them by one function -/
theorem get_puts {ps : AL κ} {f : κ → Int} {j : κ} (hf : ∀ p ∈ ps, p.2 = f p.1) : ∀ {l : AL κ}, get (puts l ps) j = if j ∈ keys ps then f j else get l j := by
  induction ps with
  | nil => intro l; simp [puts, keys]
  | cons p ps ih =>
    intro l
    rw [puts_cons, ih fun q m => hf q (List.mem_cons_of_mem _ m), get_put, hf p (List.mem_cons_self ..)]
    have hm : j ∈ keys (p :: ps) ↔ j = p.1 ∨ j ∈ keys ps := List.mem_cons
    by_cases h : j ∈ keys ps
    · rw [if_pos h, if_pos (hm.mpr (.inr h))]
    · rw [if_neg h]
      by_cases e : p.1 = j
      · rw [if_pos e, if_pos (hm.mpr (.inl e.symm)), e]
      · rw [if_neg e, if_neg]
        intro z
        rcases hm.mp z with z | z
        · exact e z.symm
        · exact h z
theorem put_new {l : AL κ} {k : κ} {v : Int} (h : k ∉ keys l) : put l k v = l ++ [(k, v)] := by
  induction l with
  | nil => rfl
  | cons p l ih =>
    obtain ⟨i, w⟩ := p
    unfold put
    rw [if_neg (fun e => h (by rw [e]; exact List.mem_cons_self ..)), ih fun m => h (List.mem_cons_of_mem _ m)]
    rfl
theorem puts_new {ps : AL κ} : ∀ {l : AL κ}, (keys (l ++ ps)).Nodup → puts l ps = l ++ ps := by
  induction ps with
  | nil => intro l _; simp [puts]
  | cons p ps ih =>
    intro l h
    have e : l ++ p :: ps = (l ++ [p]) ++ ps := by simp
    have h2 : p.1 ∉ keys l := by
      unfold keys at h ⊢
      rw [List.map_append, List.map_cons, List.nodup_append] at h
      exact fun m => h.2.2 _ m _ (List.mem_cons_self ..) rfl
    rw [puts_cons, put_new h2, e]
    exact ih (by rw [← e]; exact h)
theorem perm_sum {a b : List Int} (p : a.Perm b) : a.sum = b.sum := by
  induction p with
  | nil => rfl
  | cons x _ ih => rw [List.sum_cons, List.sum_cons, ih]
  | swap x y l => simp only [List.sum_cons]; omega
  | trans _ _ h1 h2 => exact h1.trans h2
/-! ### the sorted one without noughts -/
variable (sort : List κ → List κ)
/-- what a sort is -/
structure Sorts (le : κ → κ → Prop) : Prop where
  perm : ∀ l, (sort l).Perm l
  pw : ∀ l, (sort l).Pairwise le
  anti : ∀ a b, le a b → le b a → a = b
def pos (l : AL κ) : List κ := (keys l).filter fun k => decide (0 < get l k)
def canon (l : AL κ) : AL κ := (sort (pos l)).map fun k => (k, get l k)
variable {sort} {le : κ → κ → Prop} (S : Sorts sort le)
include S
theorem Sorts.eq {a b : List κ} (p : a.Perm b) : sort a = sort b :=
  List.Perm.eq_of_pairwise (fun x y _ _ => S.anti x y) (S.pw a) (S.pw b) ((S.perm a).trans (p.trans (S.perm b).symm))
theorem Sorts.id {a : List κ} (h : a.Pairwise le) : sort a = a :=
  List.Perm.eq_of_pairwise (fun x y _ _ => S.anti x y) (S.pw a) h (S.perm a)
theorem Sorts.filter {f : κ → Bool} {a : List κ} : (sort a).filter f = sort (a.filter f) :=
  List.Perm.eq_of_pairwise (fun x y _ _ => S.anti x y) ((S.pw a).sublist List.filter_sublist) (S.pw _) (((S.perm a).filter f).trans (S.perm _).symm)
theorem mem_pos {l : AL κ} {k : κ} : k ∈ pos l ↔ 0 < get l k := by
  unfold pos
  rw [List.mem_filter, decide_eq_true_eq]
  refine ⟨fun h => h.2, fun h => ⟨?_, h⟩⟩
  by_cases m : k ∈ keys l
  · exact m
  · rw [get_none m] at h; exact absurd h (by decide)
theorem nodup_pos {l : AL κ} (h : (keys l).Nodup) : (pos l).Nodup := h.sublist List.filter_sublist
theorem keys_canon {l : AL κ} : keys (canon sort l) = sort (pos l) := by
  unfold keys canon; rw [List.map_map]; simp [Function.comp_def]
theorem nodup_canon {l : AL κ} (h : (keys l).Nodup) : (keys (canon sort l)).Nodup := by
  rw [keys_canon S]; exact (S.perm _).nodup_iff.mpr (nodup_pos S h)
theorem canon_ext {l m : AL κ} (hl : (keys l).Nodup) (hm : (keys m).Nodup) (h : ∀ k, get l k = get m k) : canon sort l = canon sort m := by
  have e : sort (pos l) = sort (pos m) := S.eq ((List.perm_ext_iff_of_nodup (nodup_pos S hl) (nodup_pos S hm)).mpr fun k => by rw [mem_pos S, mem_pos S, h])
  unfold canon
  rw [e]
  exact List.map_congr_left fun k _ => by rw [h]
theorem get_canon {l : AL κ} (h : ∀ k, 0 ≤ get l k) (k : κ) : get (canon sort l) k = get l k := by
  have key : ∀ (ks : List κ), get (ks.map fun k => (k, get l k)) k = if k ∈ ks then get l k else 0 := fun ks => by
    induction ks with
    | nil => rfl
    | cons j ks ih =>
      rw [List.map_cons, get_cons, ih]
      by_cases e : j = k
      · rw [if_pos e, if_pos (by rw [e]; exact List.mem_cons_self ..), e]
      · rw [if_neg e]
        by_cases m : k ∈ ks
        · rw [if_pos m, if_pos (List.mem_cons_of_mem _ m)]
        · rw [if_neg m, if_neg (fun z => (List.mem_cons.mp z).elim (fun z => e z.symm) m)]
  unfold canon
  rw [key]
  by_cases m : k ∈ sort (pos l)
  · rw [if_pos m]
  · rw [if_neg m]
    have : ¬ 0 < get l k := fun z => m ((S.perm _).mem_iff.mpr ((mem_pos S).mpr z))
    have := h k
    omega
theorem canon_canon {l : AL κ} (hn : (keys l).Nodup) (h : ∀ k, 0 ≤ get l k) : canon sort (canon sort l) = canon sort l :=
  canon_ext S (nodup_canon S hn) hn (get_canon S h)
/-- entries are above nought -/
theorem canon_pos {l : AL κ} {p : κ × Int} (h : p ∈ canon sort l) : 0 < p.2 ∧ p.2 = get l p.1 ∧ p.1 ∈ keys l := by
  unfold canon at h
  obtain ⟨k, m, rfl⟩ := List.mem_map.mp h
  have m2 := (S.perm _).mem_iff.mp m
  exact ⟨(mem_pos S).mp m2, rfl, (List.mem_filter.mp m2).1⟩
theorem canon_id {l : AL κ} (hn : (keys l).Nodup) (hp : ∀ p ∈ l, 0 < p.2) (hs : (keys l).Pairwise le) : canon sort l = l := by
  have e : pos l = keys l := by
    unfold pos
    rw [List.filter_eq_self]
    intro k m
    rw [decide_eq_true_eq]
    exact hp _ (mem_get m)
  unfold canon
  rw [e, S.id hs]
  unfold keys
  rw [List.map_map]
  conv => rhs; rw [← List.map_id l]
  refine List.map_congr_left fun p m => ?_
  show (p.1, get l p.1) = p
  rw [get_mem hn m]
omit S in
theorem nonneg {l : AL κ} (h : ∀ p ∈ l, 0 ≤ p.2) (k : κ) : 0 ≤ get l k := by
  by_cases m : k ∈ keys l
  · exact h _ (mem_get m)
  · rw [get_none m]; exact Int.le_refl 0
theorem canon_nonneg {l : AL κ} {p : κ × Int} (h : p ∈ canon sort l) : 0 ≤ p.2 := Int.le_of_lt (canon_pos S h).1
omit S in
theorem pos_eq {l : AL κ} (hn : (keys l).Nodup) : (l.filter fun p => decide (0 < p.2)).map (·.1) = pos l := by
  have key : ∀ (m : AL κ), (∀ p ∈ m, get l p.1 = p.2) → (m.filter fun p => decide (0 < p.2)).map (·.1) = (m.map (·.1)).filter fun k => decide (0 < get l k) := by
    intro m
    induction m with
    | nil => intro _; rfl
    | cons p m ih =>
      intro h
      have hp := h p (List.mem_cons_self ..)
      have ih := ih fun q mq => h q (List.mem_cons_of_mem _ mq)
      rw [List.map_cons, List.filter_cons, List.filter_cons, hp]
      split
      · rw [List.map_cons, ih]
      · exact ih
  exact key l fun p mp => get_mem hn mp
/-! ### sums -/
theorem sum_canon {l : AL κ} (hn : (keys l).Nodup) (h : ∀ p ∈ l, 0 ≤ p.2) : ((canon sort l).map (·.2)).sum = (l.map (·.2)).sum := by
  have e1 : ((canon sort l).map (·.2)).sum = ((sort (pos l)).map (get l)).sum := by
    unfold canon; rw [List.map_map]; rfl
  have e2 : ((sort (pos l)).map (get l)).sum = ((pos l).map (get l)).sum := perm_sum ((S.perm _).map _)
  have e3 : ∀ ks : List κ, (∀ k ∈ ks, 0 ≤ get l k) → ((ks.filter fun k => decide (0 < get l k)).map (get l)).sum = (ks.map (get l)).sum := fun ks hk => by
    induction ks with
    | nil => rfl
    | cons k ks ih =>
      have ih' := ih fun j m => hk j (List.mem_cons_of_mem _ m)
      rw [List.filter_cons]
      split
      · rw [List.map_cons, List.map_cons, List.sum_cons, List.sum_cons, ih']
      · rename_i z
        rw [decide_eq_true_eq] at z
        have := hk k (List.mem_cons_self ..)
        rw [List.map_cons, List.sum_cons, ih']
        omega
  have e4 : (keys l).map (get l) = l.map (·.2) := by
    unfold keys; rw [List.map_map]
    exact List.map_congr_left fun p m => get_mem hn m
  rw [e1, e2]
  unfold pos
  rw [e3 _ (fun k _ => nonneg h k), e4]
end
end M

set_option maxRecDepth 100000
/-! Ev1: what a run must end in; the evaluator's parts by what is wanted behind them. -/
namespace EV
open PySem PySem.Spec PyProof.Rows L2
def Run {α : Type} (E : U → List U → Prop) (r : Res α) (Q : α → List U → Prop) : Prop := match r with
  | .ok a st => Q a st
  | .exc e st => E e st
  | .stuck => False
abbrev NoE : U → List U → Prop := fun _ _ => False
section
variable {α β : Type} {E : U → List U → Prop} {b : Nat} {ρ : En} {st : List U} {Q : U → List U → Prop}
@[simp] theorem run_ok {Q : α → List U → Prop} {a : α} : Run E (.ok a st) Q = Q a st := rfl
@[simp] theorem run_stuck {Q : α → List U → Prop} : Run E (.stuck : Res α) Q = False := rfl
@[simp] theorem run_bind {Q : β → List U → Prop} {r : Res α} {f : α → List U → Res β} : Run E (r.bind f) Q = Run E r fun a st => Run E (f a st) Q := by cases r <;> rfl
theorem run_ite {Q : α → List U → Prop} {c : Prop} [Decidable c] {x y : Res α} : Run E (if c then x else y) Q = if c then Run E x Q else Run E y Q := by split <;> rfl
theorem run_bif {Q : α → List U → Prop} {c : Bool} {x y : Res α} : Run E (if c = true then x else y) Q = if c = true then Run E x Q else Run E y Q := by split <;> rfl
theorem Run.mono {Q Q' : α → List U → Prop} {r : Res α} (h : Run E r Q) (i : ∀ a st, Q a st → Q' a st) : Run E r Q' := by cases r <;> first | exact i _ _ h | exact h
theorem Run.eq {Q : α → List U → Prop} {r : Res α} {a : α} {st : List U} (e : r = .ok a st) (h : Q a st) : Run E r Q := by rw [e]; exact h
theorem run_ex {r : Res α} {Q : α → List U → Prop} (h : Run NoE r Q) : ∃ a st, r = .ok a st ∧ Q a st := by cases r <;> first | exact ⟨_, _, rfl, h⟩ | exact h.elim
@[simp] theorem run_ofO {Q : α → List U → Prop} {a : α} : Run E (ofO (some (a, st))) Q = Q a st := rfl
@[simp] theorem run_noX {Q : α → List U → Prop} {r : Res α} : Run E (noX r) Q = Run NoE r Q := by cases r <;> rfl
/-! ### expressions -/
variable (T : Tab) (fn : Nat → Fn)
@[simp] theorem r_v {i : Nat} : Run E ((evA (pgOf T fn) (.v i)).e b ρ st) Q = (match ρ[i]? with
  | some (some u) => Q u st
  | _ => False) := by
  simp only [evA, ea, eVar]
  split <;> simp_all
@[simp] theorem r_k {u : K0} : Run E ((evA (pgOf T fn) (.k u)).e b ρ st) Q = Q u.u st := by simp only [evA, ea, eC]; rfl
@[simp] theorem r_g {x : Str} {u : U} (h : T.glob.lookup x = some u) : Run E ((evA (pgOf T fn) (.g x)).e b ρ st) Q = Q u st := by
  have : (pgOf T fn).glob x = some u := h
  simp only [evA, ea, this, eC]; rfl
@[simp] theorem r_bin {op : Operator} {x y : C} : Run E ((evA (pgOf T fn) (.bin op x y)).e b ρ st) Q = Run E ((evA (pgOf T fn) x).e b ρ st) fun u st1 => Run E ((evA (pgOf T fn) y).e b ρ st1) fun w st2 => Run E (tBin T fn op b u w st2) Q := by
  simp only [evA, ea, eW, run_bind]; rfl
@[simp] theorem r_cmp {op : CmpOp} {x y : C} : Run E ((evA (pgOf T fn) (.cmp op x y)).e b ρ st) Q = Run E ((evA (pgOf T fn) x).e b ρ st) fun u st1 => Run E ((evA (pgOf T fn) y).e b ρ st1) fun w st2 => Run E (tCmp T fn op b u w st2) Q := by
  simp only [evA, ea, eW, run_bind]; rfl
def bK (K : Bool → List U → Prop) : U → List U → Prop := fun u st => match u with
  | .bl c => K c st
  | _ => False
@[simp] theorem bK_bl {K : Bool → List U → Prop} {c : Bool} : bK K (.bl c) st = K c st := rfl
@[simp] theorem r_cmpT {op : CmpOp} {x y : C} {K : Bool → List U → Prop} : Run E ((evA (pgOf T fn) (.cmp op x y)).t b ρ st) K = Run E ((evA (pgOf T fn) (.cmp op x y)).e b ρ st) (bK K) := by
  simp only [evA, ea, eTB, run_bind]
  congr 1
  funext u st
  cases u <;> rfl
@[simp] theorem r_chain {o1 o2 : CmpOp} {x y z : C} : Run E ((evA (pgOf T fn) (.chain o1 o2 x y z)).e b ρ st) Q = Run E ((evA (pgOf T fn) x).e b ρ st) fun u st1 => Run E ((evA (pgOf T fn) y).e b ρ st1) fun w st2 => Run E (tCmp T fn o1 b u w st2) (bK fun c st3 => if c = true then Run E ((evA (pgOf T fn) z).e b ρ st3) fun v st4 => Run E (tCmp T fn o2 b w v st4) Q else Q (.bl false) st3) := by
  simp only [evA, ea, eChain, run_bind]
  congr 1; funext u st1; congr 1; funext w st2
  show Run E (tCmp T fn o1 b u w st2) _ = _
  congr 1; funext v st3
  cases v with
  | bl c =>
    cases c
    · rfl
    · simp only [run_bind, bK_bl, if_true]; rfl
  | _ => rfl
@[simp] theorem r_chainT {o1 o2 : CmpOp} {x y z : C} {K : Bool → List U → Prop} : Run E ((evA (pgOf T fn) (.chain o1 o2 x y z)).t b ρ st) K = Run E ((evA (pgOf T fn) (.chain o1 o2 x y z)).e b ρ st) (bK K) := by
  simp only [evA, ea, eTB, run_bind]
  congr 1
  funext u st
  cases u <;> rfl
@[simp] theorem r_neg {x : C} {i : Int} : Run E ((evA (pgOf T fn) (.neg x)).e b ρ st) Q = Run E ((evA (pgOf T fn) x).e b ρ st) fun u st1 => match u with
  | .int i => Q (.int (-i)) st1
  | _ => False := by
  simp only [evA, ea, e1, run_bind]
  congr 1; funext u st1
  cases u <;> rfl
@[simp] theorem r_and {x y : C} : Run E ((evA (pgOf T fn) (.and_ x y)).e b ρ st) Q = Run E ((evA (pgOf T fn) x).e b ρ st) (bK fun c st1 => if c = true then Run E ((evA (pgOf T fn) y).e b ρ st1) Q else Q (.bl false) st1) := by
  simp only [evA, ea, eAnd, eBool, run_bind]
  congr 1; funext u st1
  cases u with
  | bl c => cases c <;> rfl
  | _ => rfl
@[simp] theorem r_or {x y : C} : Run E ((evA (pgOf T fn) (.or_ x y)).e b ρ st) Q = Run E ((evA (pgOf T fn) x).e b ρ st) (bK fun c st1 => if c = true then Q (.bl true) st1 else Run E ((evA (pgOf T fn) y).e b ρ st1) Q) := by
  simp only [evA, ea, eOr, eBool, run_bind]
  congr 1; funext u st1
  cases u with
  | bl c => cases c <;> rfl
  | _ => rfl
@[simp] theorem r_not {x : C} : Run E ((evA (pgOf T fn) (.not_ x)).e b ρ st) Q = Run E ((evA (pgOf T fn) x).e b ρ st) (bK fun c st1 => Q (.bl (!c)) st1) := by
  simp only [evA, ea, eNot, eBool, run_bind]
  congr 1; funext u st1
  cases u with
  | bl c => rfl
  | _ => rfl
@[simp] theorem r_andT {x y : C} {K : Bool → List U → Prop} : Run E ((evA (pgOf T fn) (.and_ x y)).t b ρ st) K = Run E ((evA (pgOf T fn) x).t b ρ st) fun c st1 => if c = true then Run E ((evA (pgOf T fn) y).t b ρ st1) K else K false st1 := by
  simp only [evA, eTAnd, run_bind]
  congr 1; funext c st1
  cases c <;> rfl
@[simp] theorem r_orT {x y : C} {K : Bool → List U → Prop} : Run E ((evA (pgOf T fn) (.or_ x y)).t b ρ st) K = Run E ((evA (pgOf T fn) x).t b ρ st) fun c st1 => if c = true then K true st1 else Run E ((evA (pgOf T fn) y).t b ρ st1) K := by
  simp only [evA, eTOr, run_bind]
  congr 1; funext c st1
  cases c <;> rfl
@[simp] theorem r_notT {x : C} {K : Bool → List U → Prop} : Run E ((evA (pgOf T fn) (.not_ x)).t b ρ st) K = Run E ((evA (pgOf T fn) x).t b ρ st) fun c st1 => K (!c) st1 := by
  simp only [evA, eTNot, run_bind, run_ok]
@[simp] theorem r_ife {t x y : C} : Run E ((evA (pgOf T fn) (.ife t x y)).e b ρ st) Q = Run E ((evA (pgOf T fn) t).t b ρ st) fun c st1 => if c = true then Run E ((evA (pgOf T fn) x).e b ρ st1) Q else Run E ((evA (pgOf T fn) y).e b ρ st1) Q := by
  simp only [evA, ea, tIfE, run_bind]
  congr 1; funext c st1
  cases c <;> rfl
/-- a test of any value -/
def tK (K : Bool → List U → Prop) : U → List U → Prop := fun u st => match truth u st with
  | some c => K c st
  | none => False
@[simp] theorem r_t {f : Ev U} {K : Bool → List U → Prop} : Run E (eTest f b ρ st) K = Run E (f b ρ st) (tK K) := by
  simp only [eTest, run_bind]
  congr 1; funext u st1
  unfold tK
  cases truth u st1 <;> rfl
/-! ### lists of expressions -/
@[simp] theorem r_nil {K : List U → List U → Prop} : Run E (evEs (pgOf T fn) [] b ρ st) K = K [] st := by simp only [evEs, eNil]; rfl
@[simp] theorem r_cons {x : C} {l : List C} {K : List U → List U → Prop} : Run E (evEs (pgOf T fn) (x :: l) b ρ st) K = Run E ((evA (pgOf T fn) x).e b ρ st) fun u st1 => Run E (evEs (pgOf T fn) l b ρ st1) fun us st2 => K (u :: us) st2 := by
  simp only [evEs, eCons, run_bind, run_ok]
def mkK (live : Bool) (head : List U → U) (Q : U → List U → Prop) : List U → List U → Prop := fun us st => if live = true then Q (.ref st.length) (st ++ [head us]) else noref us = true ∧ Q (head us) st
theorem run_mk {live : Bool} {head : List U → U} {us : List U} : Run E (ofO (mk live head us st)) Q = mkK live head Q us st := by
  unfold mk mkK
  cases live
  · simp only [Bool.false_eq_true, if_false]
    by_cases h : noref us = true
    · rw [if_pos h]; simp [h]
    · rw [if_neg h]; simp [h, ofO]
  · rfl
@[simp] theorem r_tup {l : List C} : Run E ((evA (pgOf T fn) (.tup l)).e b ρ st) Q = Run E (evEs (pgOf T fn) l b ρ st) fun us st1 => noref us = true ∧ us.length ≤ sizeLine ∧ Q (.tup us) st1 := by
  simp only [evA, ea, eTup, run_bind]
  congr 1; funext us st1
  by_cases h : noref us = true ∧ us.length ≤ sizeLine
  · rw [if_pos h]; simp [h]
  · rw [if_neg h]
    simp only [run_stuck, eq_iff_iff, false_iff]
    exact fun z => h ⟨z.1, z.2.1⟩
@[simp] theorem r_lst {live : Bool} {l : List C} : Run E ((evA (pgOf T fn) (.lst live l)).e b ρ st) Q = Run E (evEs (pgOf T fn) l b ρ st) fun us st1 => us.length ≤ sizeLine ∧ mkK live .lst Q us st1 := by
  simp only [evA, ea, eLst, run_bind]
  congr 1; funext us st1
  by_cases h : us.length ≤ sizeLine
  · rw [if_pos h, run_mk]; simp [h]
  · rw [if_neg h]; simp [h]
@[simp] theorem r_dct0 {live : Bool} : Run E ((evA (pgOf T fn) (.dct0 live)).e b ρ st) Q = mkK live (.dct []) Q [] st := by
  simp only [evA, ea]
  exact run_mk
/-! ### calls -/
/-- a call that lays new objects down as trees -/
@[simp] theorem fill_nil {us ws : List U} : Perm.fill [] us ws = [] := rfl
@[simp] theorem fill_inl {j : Nat} {p : Perm} {us ws : List U} : Perm.fill (.inl j :: p) us ws = ((us ++ ws)[j]?).getD .non :: Perm.fill p us ws := rfl
@[simp] theorem fill_inr {k : K0} {p : Perm} {us ws : List U} : Perm.fill (.inr k :: p) us ws = k.u :: Perm.fill p us ws := rfl
theorem callM_f {F : Fn} {us : List U} {w : U} {st' : List U} {v : U} (h : F st.length us st = .ok v st') (hf : frz 8 st.length st' v = some w) (ht : st'.take st.length = st) : callM false F b us st = .ok w st := by
  unfold callM
  rw [if_neg (by decide), h]
  simp only [leave, hf, ht]
theorem callM_t {F : Fn} {us : List U} {r : Res U} (h : F b us st = r) : callM true F b us st = r := by
  unfold callM; rw [if_pos rfl, h]
@[simp] theorem r_call {live : Bool} {i n m : Nat} {p : Perm} {l kw : List C} : Run E ((evA (pgOf T fn) (.call live i n m p l kw)).e b ρ st) Q = Run E (evEs (pgOf T fn) l b ρ st) fun us st1 => Run E (evEs (pgOf T fn) kw b ρ st1) fun ws st2 => (us.length = n ∧ ws.length = m) ∧ Run E (callM live (fn i) b (p.fill us ws) st2) Q := by
  simp only [evA, ea, eCal, run_bind, run_ok]
  congr 1; funext us st1; congr 1; funext ws st2
  by_cases h : us.length = n ∧ ws.length = m
  · rw [if_pos h]; simp only [h, true_and, and_self]; rfl
  · rw [if_neg h]; simp [h]
@[simp] theorem r_make {live : Bool} {c i n m : Nat} {p : Perm} {l kw : List C} : Run E ((evA (pgOf T fn) (.make live c i n m p l kw)).e b ρ st) Q = Run E (evEs (pgOf T fn) l b ρ st) fun us st1 => Run E (evEs (pgOf T fn) kw b ρ st1) fun ws st2 => (us.length = n ∧ ws.length = m) ∧ Run E (mkRun live c (fn i) p.fill us ws b st2) Q := by
  simp only [evA, ea, eMake, run_bind, run_ok]
  congr 1; funext us st1; congr 1; funext ws st2
  by_cases h : us.length = n ∧ ws.length = m
  · rw [if_pos h]; simp only [h, true_and, and_self]; rfl
  · rw [if_neg h]; simp [h]
@[simp] theorem r_meth {live : Bool} {x : Str} {ds : List (Nat × Nat × Perm)} {n m : Nat} {o : C} {l kw : List C} : Run E ((evA (pgOf T fn) (.meth live x ds n m o l kw)).e b ρ st) Q = Run E ((evA (pgOf T fn) o).e b ρ st) fun u st1 => match insCls u st1 with
    | some (c, ns) => ns.contains x = false ∧ (match ds.lookup c with
      | some q => Run E (evEs (pgOf T fn) l b ρ st1) fun us st2 => Run E (evEs (pgOf T fn) kw b ρ st2) fun ws st3 => (us.length = n ∧ ws.length = m) ∧ Run E (callM live (fn q.1) b (q.2.fill (u :: us) ws) st3) Q
      | none => False)
    | none => False := by
  simp only [evA, ea, eMeth, run_bind]
  congr 1; funext u st1
  cases insCls u st1 with
  | none => rfl
  | some q =>
    obtain ⟨c, ns⟩ := q
    simp only
    by_cases hn : ns.contains x = true
    · rw [if_pos hn, run_stuck]; exact propext ⟨False.elim, fun z => by have := z.1; rw [hn] at this; cases this⟩
    · rw [if_neg hn]
      have hn' : ns.contains x = false := by simpa using hn
      simp only [hn', true_and]
      cases ds.lookup c with
      | none => rfl
      | some q =>
        simp only [Option.map_some, run_bind, run_ok]
        congr 1; funext us st2; congr 1; funext ws st3
        by_cases h : us.length = n ∧ ws.length = m
        · rw [if_pos h]; simp only [h, true_and, and_self]; rfl
        · rw [if_neg h]; simp [h]
@[simp] theorem r_bf {live : Bool} {x : Str} {l : List C} : Run E ((evA (pgOf T fn) (.bf live x l)).e b ρ st) Q = Run E (evEs (pgOf T fn) l b ρ st) fun us st1 => Run E (tBf T fn live x b us st1) Q := by
  simp only [evA, ea, eAW, run_bind]; rfl
@[simp] theorem r_bm {live : Bool} {x : Str} {o : C} {l : List C} : Run E ((evA (pgOf T fn) (.bm live x o l)).e b ρ st) Q = Run E ((evA (pgOf T fn) o).e b ρ st) fun u st1 => match (bmTs x).find? fun T => tyU T u st1 with
    | some S => Run E (evEs (pgOf T fn) l b ρ st1) fun us st2 => Run E (ofO (pBm x S b u us st2)) Q
    | none => False := by
  simp only [evA, ea, eMs, run_bind]
  congr 1; funext u st1
  show Run E (match (bmTs x).find? fun T => tyU T u st1 with
    | some S => _
    | none => _) Q = _
  cases (bmTs x).find? fun T => tyU T u st1 with
  | none => rfl
  | some S => simp only [run_bind]; rfl
def fldK (f : Str) (Q : U → List U → Prop) : U → List U → Prop := fun u st => match (match u with | .ref n => st[n]? | u => some u) with
  | some (.ins c ns us) => (match (ns.zip us).lookup f with
    | some u => Q u st
    | none => False)
  | _ => False
@[simp] theorem r_fld {o : C} {f : Str} : Run E ((evA (pgOf T fn) (.fld o f)).e b ρ st) Q = Run E ((evA (pgOf T fn) o).e b ρ st) (fldK f Q) := by
  simp only [evA, ea, eFld, run_bind]
  congr 1; funext u st1
  unfold fldK
  cases u with
  | ref n =>
    simp only
    cases st1[n]? with
    | none => rfl
    | some w =>
      cases w with
      | ins c ns us =>
        simp only
        cases (ns.zip us).lookup f <;> rfl
      | _ => rfl
  | ins c ns us =>
    simp only
    cases (ns.zip us).lookup f <;> rfl
  | _ => rfl
@[simp] theorem r_ix {x y : C} : Run E ((evA (pgOf T fn) (.ix x y)).e b ρ st) Q = Run E ((evA (pgOf T fn) x).e b ρ st) fun u st1 => Run E ((evA (pgOf T fn) y).e b ρ st1) fun w st2 => Run E (tIxW T fn b u w st2) Q := by
  simp only [evA, ea, eW, run_bind]; rfl
def partK (E : U → List U → Prop) (x : C) (b : Nat) (ρ : En) (K : Option Int → List U → Prop) (st : List U) : Prop := if isNo x = true then K none st else Run E ((evA (pgOf T fn) x).e b ρ st) fun u st1 => match u with
  | .int i => K (some i) st1
  | _ => False
@[simp] theorem r_part {x : C} {K : Option Int → List U → Prop} : Run E (ePart (if isNo x = true then none else some (evE (pgOf T fn) x)) b ρ st) K = partK T fn E x b ρ K st := by
  unfold partK
  cases h : isNo x
  · simp only [Bool.false_eq_true, if_false, ePart, run_bind]
    congr 1; funext u st1
    cases u <;> rfl
  · rfl
@[simp] theorem r_sl {live : Bool} {x lo hi : C} : Run E ((evA (pgOf T fn) (.sl live x lo hi)).e b ρ st) Q = Run E ((evA (pgOf T fn) x).e b ρ st) fun u st1 => partK T fn E lo b ρ (fun i st2 => partK T fn E hi b ρ (fun j st3 => Run E (ofO (pSl live u i j st3)) Q) st2) st1 := by
  simp only [evA, ea, eSl, run_bind]
  congr 1; funext u st1
  rw [r_part]
  congr 1; funext i st2
  rw [r_part]
  rfl
@[simp] theorem r_rev {live : Bool} {x : C} : Run E ((evA (pgOf T fn) (.rev live x)).e b ρ st) Q = Run E ((evA (pgOf T fn) x).e b ρ st) fun u st1 => Run E (ofO (pRevL live b u st1)) Q := by
  simp only [evA, ea, e1, run_bind]; rfl
@[simp] theorem r_dctm {live : Bool} {d x y : C} : Run E ((evA (pgOf T fn) (.dctm live d x y)).e b ρ st) Q = Run NoE ((evA (pgOf T fn) d).e b ρ st) fun u st1 => match dctAt u st1 with
  | some (ks, us) => (match kks ks with
    | some kk => Run NoE ((evA (pgOf T fn) x).e b ρ st1) fun y' st2 => Run NoE ((evA (pgOf T fn) y).e b ρ st2) fun z st3 => match toKey y' with
      | some k => (mergeU ([], []) (kk.zip us)).1.length < sizeLine ∧ mkK live (.dct ((kput (mergeU ([], []) (kk.zip us)).1 (mergeU ([], []) (kk.zip us)).2 k z).1.map KK.a)) Q (kput (mergeU ([], []) (kk.zip us)).1 (mergeU ([], []) (kk.zip us)).2 k z).2 st3
      | none => False
    | none => False)
  | none => False := by
  simp only [evA, ea, eSp1, run_bind, run_noX]
  congr 1; funext u st1
  cases dctAt u st1 with
  | none => rfl
  | some q =>
    obtain ⟨ks, us⟩ := q
    simp only
    cases kks ks with
    | none => rfl
    | some kk =>
      simp only [run_bind, run_noX]
      congr 1; funext y' st2; congr 1; funext z st3
      cases toKey y' with
      | none => rfl
      | some k =>
        simp only
        by_cases h : (mergeU ([], []) (kk.zip us)).1.length < sizeLine
        · rw [if_pos h, run_mk]; simp [h]
        · rw [if_neg h]; simp [h]
@[simp] theorem r_litems {live : Bool} {x : C} : Run E ((evA (pgOf T fn) (.litems live x)).e b ρ st) Q = Run E ((evA (pgOf T fn) x).e b ρ st) fun u st1 => match dctAt u st1 with
  | some (ks, us) => (match kks ks with
    | some _ => noref us = true ∧ mkK live .lst Q (List.zipWith (fun k u => U.tup [ofKK k, u]) ks us) st1
    | none => False)
  | none => False := by
  simp only [evA, ea, eLItems, run_bind]
  congr 1; funext u st1
  cases dctAt u st1 with
  | none => rfl
  | some q =>
    obtain ⟨ks, us⟩ := q
    simp only
    cases kks ks with
    | none => rfl
    | some kk =>
      simp only
      by_cases h : noref us = true
      · rw [if_pos h, run_mk]; simp [h]
      · rw [if_neg h]; simp [h]
@[simp] theorem r_lvals {live : Bool} {x : C} : Run E ((evA (pgOf T fn) (.lvals live x)).e b ρ st) Q = Run E ((evA (pgOf T fn) x).e b ρ st) fun u st1 => match valsAt u st1 with
  | some us => mkK live .lst Q us st1
  | none => False := by
  simp only [evA, ea, eLVals, run_bind]
  congr 1; funext u st1
  cases valsAt u st1 with
  | none => rfl
  | some us => exact run_mk
@[simp] theorem r_sumv {x : C} : Run E ((evA (pgOf T fn) (.sumv x)).e b ρ st) Q = Run E ((evA (pgOf T fn) x).e b ρ st) fun u st1 => match valsAt u st1 with
  | some us => (match us.mapM U.int? with
    | some ns => Q (.int ns.sum) st1
    | none => False)
  | none => False := by
  simp only [evA, ea, eSumV, run_bind]
  congr 1; funext u st1
  cases valsAt u st1 with
  | none => rfl
  | some us =>
    simp only
    cases us.mapM U.int? <;> rfl
@[simp] theorem r_rep {x : C} : Run E ((evA (pgOf T fn) (.rep x)).e b ρ st) Q = Run E ((evA (pgOf T fn) x).e b ρ st) fun u st1 => match showU st1 u with
  | some z => Q (.str z) st1
  | none => False := by
  simp only [evA, ea, eRep, run_bind]
  congr 1; funext u st1
  cases showU st1 u <;> rfl
def strK (K : Str → List U → Prop) : U → List U → Prop := fun u st => match u with
  | .str y => K y st
  | _ => False
@[simp] theorem r_jsF {f : Ev U} {fs : List (Ev U)} {acc : Str} : Run E (eJs (f :: fs) acc b ρ st) Q = Run E (f b ρ st) (strK fun y st1 => (acc ++ y).length ≤ sizeLine ∧ Run E (eJs fs (acc ++ y) b ρ st1) Q) := by
  simp only [eJs, run_bind]
  congr 1; funext u st1
  cases u with
  | str y =>
    simp only [strK]
    by_cases h : (acc ++ y).length ≤ sizeLine
    · rw [if_pos h]; simp [h]
    · rw [if_neg h]; simp [h]
  | _ => rfl
@[simp] theorem r_jsN {acc : Str} : Run E (eJs [] acc b ρ st) Q = Q (.str acc) st := rfl
@[simp] theorem r_js {l : List C} : Run E ((evA (pgOf T fn) (.js l)).e b ρ st) Q = Run E (eJs (evFs (pgOf T fn) l) Str.empty b ρ st) Q := by simp only [evA, ea]
@[simp] theorem fs_nil : evFs (pgOf T fn) [] = [] := by simp only [evFs]
@[simp] theorem fs_cons {x : C} {l : List C} : evFs (pgOf T fn) (x :: l) = (evA (pgOf T fn) x).e :: evFs (pgOf T fn) l := by simp only [evFs]
end
end EV

set_option maxRecDepth 100000
/-! Ev2: walks, comprehensions, statements by what is wanted behind them. -/
namespace EV
open PySem PySem.Spec PyProof.Rows L2
section
variable {α : Type} {E : U → List U → Prop} {b : Nat} {ρ : En} {st : List U} {Q : U → List U → Prop} {I : IV → List U → Prop}
variable (T : Tab) (fn : Nat → Fn)
/-! ### what is walked -/
def itK (I : IV → List U → Prop) (o : Option IV) (st : List U) : Prop := match o with
  | some iv => I iv st
  | none => False
@[simp] theorem r_itVal {f : Ev U} : Run E (itVal f b ρ st) I = Run E (f b ρ st) fun u st1 => itK I (iterOf u st1) st1 := by
  simp only [itVal, run_bind]
  congr 1; funext u st1
  unfold itK
  cases iterOf u st1 <;> rfl
@[simp] theorem r_items {x : C} : Run E ((evA (pgOf T fn) (.items x)).i b ρ st) I = Run E ((evA (pgOf T fn) x).e b ρ st) fun u st1 => itK I (itemsOf u st1) st1 := by
  simp only [evA, eaI, itItems, run_bind]
  congr 1; funext u st1
  unfold itK
  cases itemsOf u st1 <;> rfl
@[simp] theorem r_rng1 {x : C} : Run E ((evA (pgOf T fn) (.rng1 x)).i b ρ st) I = Run E ((evA (pgOf T fn) x).e b ρ st) fun u st1 => match u with
  | .int j => (-16777216 ≤ j ∧ j ≤ 16777216) ∧ I ⟨rngU 0 j.toNat, fun _ => True, none⟩ st1
  | _ => False := by
  simp only [evA, eaI, itRng1, eCons, eNil, run_bind]
  congr 1; funext u st1
  cases u with
  | int j =>
    simp only [run_ok]
    by_cases h : -16777216 ≤ j ∧ j ≤ 16777216
    · rw [if_pos h]; simp [h]
    · rw [if_neg h]; simp [h]
  | _ => rfl
@[simp] theorem r_rng2 {x y : C} : Run E ((evA (pgOf T fn) (.rng2 x y)).i b ρ st) I = Run E ((evA (pgOf T fn) x).e b ρ st) fun u st1 => Run E ((evA (pgOf T fn) y).e b ρ st1) fun w st2 => match u, w with
  | .int i, .int j => (-16777216 ≤ i ∧ i ≤ 16777216 ∧ -16777216 ≤ j ∧ j ≤ 16777216 ∧ j - i ≤ 16777216) ∧ I ⟨rngU i (j - i).toNat, fun _ => True, none⟩ st2
  | _, _ => False := by
  simp only [evA, eaI, itRng2, eCons, eNil, run_bind]
  congr 1; funext u st1; congr 1; funext w st2
  simp only [run_ok]
  cases u with
  | int i =>
    cases w with
    | int j =>
      simp only
      by_cases h : -16777216 ≤ i ∧ i ≤ 16777216 ∧ -16777216 ≤ j ∧ j ≤ 16777216 ∧ j - i ≤ 16777216
      · rw [if_pos h]; simp [h]
      · rw [if_neg h]; simp only [run_stuck, eq_iff_iff, false_iff]; exact fun z => h z.1
    | _ => rfl
  | _ => rfl
@[simp] theorem r_enum {x : C} : Run E ((evA (pgOf T fn) (.enum x)).i b ρ st) I = Run E ((evA (pgOf T fn) x).e b ρ st) fun u st1 => match lstOf u st1 with
  | some q => (noref q.1 = true ∧ q.1.length ≤ sizeLine) ∧ I ⟨q.1.zipIdx.map fun p => .tup [.int (p.2 : Nat), p.1], q.2, none⟩ st1
  | none => False := by
  simp only [evA, eaI, itEnum, eCons, eNil, run_bind]
  congr 1; funext u st1
  simp only [run_ok]
  cases lstOf u st1 with
  | none => rfl
  | some q =>
    obtain ⟨us, chk⟩ := q
    simp only
    by_cases h : noref us = true ∧ us.length ≤ sizeLine
    · rw [if_pos h]; simp [h]
    · rw [if_neg h]; simp only [run_stuck, eq_iff_iff, false_iff]; exact fun z => h z.1
/-! ### comprehensions -/
theorem lc_nil {chk : List U → Prop} {s : TgS} {t : Ev Bool} {elt : Ev U} {acc : List U} {K : List U → List U → Prop} : Run E (lcL chk s t elt [] acc b ρ st) K = (chk st ∧ K acc st) := by
  simp only [lcL]
  by_cases h : chk st
  · rw [if_pos h]; simp [h]
  · rw [if_neg h]; simp [h]
theorem lc_cons {chk : List U → Prop} {s : TgS} {t : Ev Bool} {elt : Ev U} {u : U} {us acc : List U} {K : List U → List U → Prop} : Run E (lcL chk s t elt (u :: us) acc b ρ st) K = (chk st ∧ match tgU s u ρ with
  | none => False
  | some ρ1 => Run E (t b ρ1 st) fun k st1 => if k = true then Run E (elt b ρ1 st1) fun y st2 => Run E (lcL chk s t elt us (acc ++ [y]) b ρ st2) K else Run E (lcL chk s t elt us acc b ρ st1) K) := by
  simp only [lcL]
  by_cases h : chk st
  · rw [if_pos h]
    simp only [h, true_and]
    cases tgU s u ρ with
    | none => rfl
    | some ρ1 =>
      simp only [run_bind]
      congr 1; funext k st1
      cases k
      · rfl
      · simp only [if_true, run_bind]
  · rw [if_neg h]; simp [h]
def lcK (live : Bool) (lk : Option Nat) (Q : U → List U → Prop) : List U → List U → Prop := fun us st => match unl lk st with
  | some st' => mkK live .lst Q us st'
  | none => False
@[simp] theorem r_lc {live : Bool} {own : List Nat} {it : C} {s : TgS} {t elt : C} : Run E ((evA (pgOf T fn) (.lc live own it s t elt)).e b ρ st) Q = Run E ((evA (pgOf T fn) it).i b ρ st) fun iv st1 =>
    Run NoE (lcL iv.chk s (if isNo t = true then fun _ _ st => .ok true st else (evA (pgOf T fn) t).t) (evA (pgOf T fn) elt).e iv.us [] b (wipeE ρ own) (lck iv.lk st1)) (lcK live iv.lk Q) := by
  simp only [evA, ea, eLc, run_bind, run_noX]
  congr 1; funext iv st1; congr 1; funext us st2
  unfold lcK
  cases unl iv.lk st2 with
  | none => rfl
  | some st3 => exact run_mk
theorem dc_nil {chk : List U → Prop} {s : TgS} {t : Ev Bool} {fk fv : Ev U} {acc : List Key × List U} {K : List Key × List U → List U → Prop} : Run E (dcL chk s t fk fv [] acc b ρ st) K = (chk st ∧ K acc st) := by
  simp only [dcL]
  by_cases h : chk st
  · rw [if_pos h]; simp [h]
  · rw [if_neg h]; simp [h]
theorem dc_cons {chk : List U → Prop} {s : TgS} {t : Ev Bool} {fk fv : Ev U} {u : U} {us : List U} {acc : List Key × List U} {K : List Key × List U → List U → Prop} : Run E (dcL chk s t fk fv (u :: us) acc b ρ st) K = (chk st ∧ match tgU s u ρ with
  | none => False
  | some ρ1 => Run E (t b ρ1 st) fun k st1 => if k = true then Run E (fk b ρ1 st1) fun y st2 => Run E (fv b ρ1 st2) fun z st3 => match toKey y with
      | some kk => Run E (dcL chk s t fk fv us (kput acc.1 acc.2 kk z) b ρ st3) K
      | none => False
    else Run E (dcL chk s t fk fv us acc b ρ st1) K) := by
  simp only [dcL]
  by_cases h : chk st
  · rw [if_pos h]
    simp only [h, true_and]
    cases tgU s u ρ with
    | none => rfl
    | some ρ1 =>
      simp only [run_bind]
      congr 1; funext k st1
      cases k
      · rfl
      · simp only [if_true, run_bind]
        congr 1; funext y st2; congr 1; funext z st3
        cases toKey y <;> rfl
  · rw [if_neg h]; simp [h]
def dcK (live : Bool) (lk : Option Nat) (Q : U → List U → Prop) : List Key × List U → List U → Prop := fun p st => match unl lk st with
  | some st' => mkK live (.dct (p.1.map KK.a)) Q p.2 st'
  | none => False
@[simp] theorem r_dc {live : Bool} {own : List Nat} {it : C} {s : TgS} {t kx vx : C} : Run E ((evA (pgOf T fn) (.dc live own it s t kx vx)).e b ρ st) Q = Run E ((evA (pgOf T fn) it).i b ρ st) fun iv st1 =>
    Run NoE (dcL iv.chk s (if isNo t = true then fun _ _ st => .ok true st else (evA (pgOf T fn) t).t) (evA (pgOf T fn) kx).e (evA (pgOf T fn) vx).e iv.us ([], []) b (wipeE ρ own) (lck iv.lk st1)) (dcK live iv.lk Q) := by
  simp only [evA, ea, eDc, run_bind, run_noX]
  congr 1; funext iv st1; congr 1; funext us st2
  unfold dcK
  cases unl iv.lk st2 with
  | none => rfl
  | some st3 => exact run_mk
/-! ### statements -/
def RS (E : U → List U → Prop) (r : Res (Fl × En)) (K : Fl → En → List U → Prop) : Prop := match r with
  | .ok (.ex e, _) st => E e st
  | .ok p st => K p.1 p.2 st
  | _ => False
theorem RS.mono {K K' : Fl → En → List U → Prop} {r : Res (Fl × En)} (h : RS E r K) (i : ∀ f ρ st, K f ρ st → K' f ρ st) : RS E r K' := by
  cases r with
  | ok p st =>
    obtain ⟨f, ρ⟩ := p
    cases f with
    | ex e => exact h
    | _ => exact i _ _ _ h
  | _ => exact h
variable {K : Fl → En → List U → Prop}
@[simp] theorem rs_nx : RS E (.ok (.nx, ρ) st) K = K .nx ρ st := rfl
@[simp] theorem rs_rt {u : U} : RS E (.ok (.rt u, ρ) st) K = K (.rt u) ρ st := rfl
@[simp] theorem rs_bk : RS E (.ok (.bk, ρ) st) K = K .bk ρ st := rfl
@[simp] theorem rs_ct : RS E (.ok (.ct, ρ) st) K = K .ct ρ st := rfl
@[simp] theorem rs_stuck : RS E (.stuck) K = False := rfl
@[simp] theorem rs_exS {f : Ev α} {g : α → Sv} : RS E (exS f g b ρ st) K = Run E (f b ρ st) fun a st1 => RS E (g a b ρ st1) K := by
  unfold exS
  cases f b ρ st <;> rfl
def seqK (E : U → List U → Prop) (g : Sv) (b : Nat) (K : Fl → En → List U → Prop) : Fl → En → List U → Prop := fun f ρ st => match f with
  | .nx => RS E (g b ρ st) K
  | fl => K fl ρ st
@[simp] theorem rs_seq {x y : S} : RS E (evS (pgOf T fn) (.seq x y) b ρ st) K = RS E (evS (pgOf T fn) x b ρ st) (seqK E (evS (pgOf T fn) y) b K) := by
  simp only [evS, sSeq]
  cases evS (pgOf T fn) x b ρ st with
  | ok p st1 =>
    obtain ⟨f, ρ1⟩ := p
    cases f <;> rfl
  | _ => rfl
@[simp] theorem seqK_nx {g : Sv} : seqK E g b K .nx ρ st = RS E (g b ρ st) K := rfl
@[simp] theorem seqK_rt {g : Sv} {u : U} : seqK E g b K (.rt u) ρ st = K (.rt u) ρ st := rfl
@[simp] theorem seqK_bk {g : Sv} : seqK E g b K .bk ρ st = K .bk ρ st := rfl
@[simp] theorem seqK_ct {g : Sv} : seqK E g b K .ct ρ st = K .ct ρ st := rfl
@[simp] theorem rs_nil : RS E (evS (pgOf T fn) .nil b ρ st) K = K .nx ρ st := by simp only [evS, sNil, rs_nx]
@[simp] theorem rs_stk : RS E (evS (pgOf T fn) .stuck b ρ st) K = False := by simp only [evS, sStuck, rs_stuck]
@[simp] theorem rs_brk : RS E (evS (pgOf T fn) .brk b ρ st) K = K .bk ρ st := by simp only [evS, sBrk, rs_bk]
@[simp] theorem rs_cnt : RS E (evS (pgOf T fn) .cnt b ρ st) K = K .ct ρ st := by simp only [evS, sCnt, rs_ct]
@[simp] theorem rs_expr {x : C} : RS E (evS (pgOf T fn) (.expr x) b ρ st) K = Run E ((evA (pgOf T fn) x).e b ρ st) fun _ st1 => K .nx ρ st1 := by
  simp only [evS, sExpr, rs_exS]; rfl
@[simp] theorem rs_ret {x : C} : RS E (evS (pgOf T fn) (.ret x) b ρ st) K = Run E ((evA (pgOf T fn) x).e b ρ st) fun u st1 => K (.rt u) ρ st1 := by
  simp only [evS, sRet, rs_exS]; rfl
@[simp] theorem rs_retN : RS E (evS (pgOf T fn) .retN b ρ st) K = K (.rt .non) ρ st := by simp only [evS, sRetN, rs_rt]
@[simp] theorem rs_ife {t : C} {x y : S} : RS E (evS (pgOf T fn) (.ife t x y) b ρ st) K = Run E ((evA (pgOf T fn) t).t b ρ st) fun c st1 => if c = true then RS E (evS (pgOf T fn) x b ρ st1) K else RS E (evS (pgOf T fn) y b ρ st1) K := by
  simp only [evS, sIf, rs_exS]
  congr 1; funext c st1
  cases c <;> rfl
def tgK (K : Fl → En → List U → Prop) (o : Option (En × List U)) : Prop := match o with
  | some p => K .nx p.1 p.2
  | none => False
@[simp] theorem rs_asg {t : EV.T} {x : C} : RS E (evS (pgOf T fn) (.asg t x) b ρ st) K = Run E ((evA (pgOf T fn) x).e b ρ st) fun u st1 => tgK K (evTg (pgOf T fn) t u b ρ st1) := by
  simp only [evS, sAsg, rs_exS]
  congr 1; funext u st1
  unfold tgK
  cases evTg (pgOf T fn) t u b ρ st1 <;> rfl
@[simp] theorem tg_nm {i : Nat} {u : U} : tgK K (evTg (pgOf T fn) (.nm i) u b ρ st) = (i < ρ.length ∧ K .nx (ρ.set i (some u)) st) := by
  simp only [evTg, gVar]
  by_cases h : i < ρ.length
  · rw [if_pos h]; simp [h, tgK]
  · rw [if_neg h]; simp [h, tgK]
@[simp] theorem tg_tup {l : List EV.T} {us : List U} : tgK K (evTg (pgOf T fn) (.tp l) (.tup us) b ρ st) = (us.length = l.length ∧ tgK K (evTgs (pgOf T fn) l us b ρ st)) := by
  simp only [evTg, gTupE]
  by_cases h : us.length = l.length
  · rw [if_pos h]; simp [h]
  · rw [if_neg h]; simp [h, tgK]
@[simp] theorem tg_lst {l : List EV.T} {us : List U} : tgK K (evTg (pgOf T fn) (.tp l) (.lst us) b ρ st) = (us.length = l.length ∧ tgK K (evTgs (pgOf T fn) l us b ρ st)) := by
  simp only [evTg, gTupE]
  by_cases h : us.length = l.length
  · rw [if_pos h]; simp [h]
  · rw [if_neg h]; simp [h, tgK]
@[simp] theorem tgs_nil : tgK K (evTgs (pgOf T fn) [] [] b ρ st) = K .nx ρ st := by simp only [evTgs, gsNil, tgK]
@[simp] theorem tgs_cons {t : EV.T} {r : List EV.T} {u : U} {us : List U} : tgK K (evTgs (pgOf T fn) (t :: r) (u :: us) b ρ st) = tgK (fun _ ρ1 st1 => tgK K (evTgs (pgOf T fn) r us b ρ1 st1)) (evTg (pgOf T fn) t u b ρ st) := by
  simp only [evTgs, gsCons]
  cases evTg (pgOf T fn) t u b ρ st <;> rfl
def setK (K : Fl → En → List U → Prop) (ρ : En) (o : Option (List U)) : Prop := match o with
  | some st => K .nx ρ st
  | none => False
@[simp] theorem setK_some {st : List U} : setK K ρ (some st) = K .nx ρ st := rfl
@[simp] theorem tg_sub {o i : C} {u : U} : tgK K (evTg (pgOf T fn) (.sub o i) u b ρ st) = Run NoE ((evA (pgOf T fn) o).e b ρ st) fun w st1 => Run NoE ((evA (pgOf T fn) i).e b ρ st1) fun j st2 => setK K ρ (pSetI b w j u st2) := by
  simp only [evTg, gSubE, evE]
  cases (evA (pgOf T fn) o).e b ρ st with
  | ok w st1 =>
    simp only [run_ok]
    cases (evA (pgOf T fn) i).e b ρ st1 with
    | ok j st2 =>
      simp only [run_ok]
      show tgK K ((pSetI b w j u st2).map fun st3 => (ρ, st3)) = _
      cases pSetI b w j u st2 <;> rfl
    | _ => rfl
  | _ => rfl
@[simp] theorem rs_par {is : List Nat} {l : List C} : RS E (evS (pgOf T fn) (.par is l) b ρ st) K = Run E (evEs (pgOf T fn) l b ρ st) fun us st1 => us.length = is.length ∧ K .nx (setAll is us ρ) st1 := by
  simp only [evS, sParL, rs_exS]
  congr 1; funext us st1
  by_cases h : us.length = is.length
  · rw [if_pos h]; simp [h]
  · rw [if_neg h]; simp [h]
@[simp] theorem rs_unp {ts : List EV.T} {l : List C} : RS E (evS (pgOf T fn) (.unp ts l) b ρ st) K = Run E (evEs (pgOf T fn) l b ρ st) fun us st1 => (us.length = ts.length ∧ us.length ≤ sizeLine) ∧ tgK K (evTgs (pgOf T fn) ts us b ρ st1) := by
  simp only [evS, sUnp, rs_exS]
  congr 1; funext us st1
  by_cases h : us.length = ts.length ∧ us.length ≤ sizeLine
  · rw [if_pos h, eq_true h, true_and]
    unfold tgK
    cases evTgs (pgOf T fn) ts us b ρ st1 <;> rfl
  · rw [if_neg h]; simp only [rs_stuck, eq_iff_iff, false_iff]; exact fun z => h z.1
def sfldK (f : Str) (b : Nat) (ρ : En) (u : U) (K : Fl → En → List U → Prop) : U → List U → Prop := fun o st => match o with
  | .ref n => (match st[n]? with
    | some (.ins c ns us) => (ns.length < 1000 ∧ (b ≤ n ∨ u.isRef = false)) ∧ K .nx ρ (st.set n (.ins c (putE f u ns us).1 (putE f u ns us).2))
    | _ => False)
  | _ => False
@[simp] theorem rs_fld {o x : C} {f : Str} : RS E (evS (pgOf T fn) (.fld o f x) b ρ st) K = Run E ((evA (pgOf T fn) x).e b ρ st) fun u st1 => Run E ((evA (pgOf T fn) o).e b ρ st1) (sfldK f b ρ u K) := by
  simp only [evS, sFldE, rs_exS]
  congr 1; funext u st1; congr 1; funext w st2
  unfold sfldK
  cases w with
  | ref n =>
    simp only
    cases st2[n]? with
    | none => rfl
    | some z =>
      cases z with
      | ins c ns us =>
        simp only
        by_cases h : ns.length < 1000 ∧ (b ≤ n ∨ u.isRef = false)
        · rw [if_pos h]; simp only [h, and_self, true_and]; rfl
        · rw [if_neg h]; simp only [rs_stuck, eq_iff_iff, false_iff]; exact fun z => h z.1
      | _ => rfl
  | _ => rfl
/-! ### loops -/
def bodyK (L : En → List U → Prop) (K : Fl → En → List U → Prop) : Fl → En → List U → Prop := fun f ρ st => match f with
  | .nx => L ρ st
  | .ct => L ρ st
  | .bk => K .nx ρ st
  | .rt u => K (.rt u) ρ st
  | .ex _ => False
@[simp] theorem bodyK_nx {L : En → List U → Prop} : bodyK L K .nx ρ st = L ρ st := rfl
@[simp] theorem bodyK_ct {L : En → List U → Prop} : bodyK L K .ct ρ st = L ρ st := rfl
@[simp] theorem bodyK_bk {L : En → List U → Prop} : bodyK L K .bk ρ st = K .nx ρ st := rfl
@[simp] theorem bodyK_rt {L : En → List U → Prop} {u : U} : bodyK L K (.rt u) ρ st = K (.rt u) ρ st := rfl
theorem fl_nil {chk : List U → Prop} {tg : Tg} {body : Sv} : RS E (forL chk tg body [] b ρ st) K = (chk st ∧ K .nx ρ st) := by
  simp only [forL]
  by_cases h : chk st
  · rw [if_pos h]; simp [h]
  · rw [if_neg h]; simp [h]
theorem fl_cons {chk : List U → Prop} {tg : Tg} {body : Sv} {u : U} {us : List U} : RS E (forL chk tg body (u :: us) b ρ st) K = (chk st ∧ tgK (fun _ ρ1 st1 => RS E (body b ρ1 st1) (bodyK (fun ρ st => RS E (forL chk tg body us b ρ st) K) K)) (tg u b ρ st)) := by
  simp only [forL]
  by_cases h : chk st
  · rw [if_pos h]
    simp only [h, true_and]
    cases tg u b ρ st with
    | none => rfl
    | some p =>
      obtain ⟨ρ1, st1⟩ := p
      show RS E ((body b ρ1 st1).bind _) K = RS E (body b ρ1 st1) (bodyK _ K)
      cases body b ρ1 st1 with
      | ok q st2 =>
        obtain ⟨f, ρ2⟩ := q
        cases f <;> rfl
      | _ => rfl
  · rw [if_neg h]; simp [h]
def forK (E : U → List U → Prop) (tg : Tg) (body : Sv) (b : Nat) (ρ : En) (K : Fl → En → List U → Prop) (iv : IV) (st : List U) : Prop := match iv.lk with
  | none => RS E (forL iv.chk tg body iv.us b ρ st) K
  | some n => RS NoE (forL iv.chk tg body iv.us b ρ (lck (some n) st)) fun f ρ st => match unl (some n) st with
    | some st' => K f ρ st'
    | none => False
@[simp] theorem forK_none {tg : Tg} {body : Sv} {us : List U} {chk : List U → Prop} : forK E tg body b ρ K ⟨us, chk, none⟩ st = RS E (forL chk tg body us b ρ st) K := rfl
@[simp] theorem rs_for {it : C} {t : EV.T} {x : S} : RS E (evS (pgOf T fn) (.for_ it t x) b ρ st) K = Run E ((evA (pgOf T fn) it).i b ρ st) (forK E (evTg (pgOf T fn) t) (evS (pgOf T fn) x) b ρ K) := by
  simp only [evS, sFor, rs_exS]
  congr 1; funext iv st1
  unfold forK
  cases h : iv.lk with
  | none => rfl
  | some n =>
    simp only [unlR]
    generalize forL iv.chk (evTg (pgOf T fn) t) (evS (pgOf T fn) x) iv.us b ρ (lck (some n) st1) = r
    cases r with
    | ok p st2 =>
      obtain ⟨f, ρ2⟩ := p
      cases f with
      | ex e => rfl
      | _ => (show RS E (match unl (some n) st2 with | some st' => _ | none => _) K = _); (cases h2 : unl (some n) st2 <;> simp only [RS, h2])
    | _ => rfl
/-- a loop by what is true before each turn -/
theorem for_inv {chk : List U → Prop} {tg : Tg} {body : Sv} (J : List U → En → List U → Prop) (turn : ∀ u us ρ st, J (u :: us) ρ st → chk st ∧ tgK (fun _ ρ1 st1 => RS E (body b ρ1 st1) (bodyK (fun ρ st => J us ρ st) K)) (tg u b ρ st))
    (fin : ∀ ρ st, J [] ρ st → chk st ∧ K .nx ρ st) : ∀ (us : List U) (ρ : En) (st : List U), J us ρ st → RS E (forL chk tg body us b ρ st) K
  | [], ρ, st, h => by rw [fl_nil]; exact fin ρ st h
  | u :: us, ρ, st, h => by
    rw [fl_cons]
    obtain ⟨hc, hb⟩ := turn u us ρ st h
    refine ⟨hc, ?_⟩
    cases e : tg u b ρ st with
    | none => rw [e] at hb; exact hb.elim
    | some p =>
    rw [e] at hb
    refine RS.mono (show RS E (body b p.1 p.2) _ from hb) fun f ρ1 st1 q => ?_
    cases f with
    | nx => exact for_inv J turn fin us ρ1 st1 q
    | ct => exact for_inv J turn fin us ρ1 st1 q
    | bk => exact q
    | rt u => exact q
    | ex e => exact q
theorem rs_while {t : C} {x : S} : RS E (evS (pgOf T fn) (.while_ t x) b ρ st) K = RS E (whileL (evA (pgOf T fn) t).t (evS (pgOf T fn) x) most b ρ st) K := by simp only [evS]
theorem wh_step {t : Ev Bool} {body : Sv} {n : Nat} : RS E (whileL t body (n + 1) b ρ st) K = Run E (t b ρ st) fun k st1 => if k = true then RS E (body b ρ st1) (bodyK (fun ρ st => RS E (whileL t body n b ρ st) K) K) else K .nx ρ st1 := by
  simp only [whileL, rs_exS]
  congr 1; funext k st1
  cases k with
  | false => rfl
  | true =>
    simp only [if_true]
    cases body b ρ st1 with
    | ok q st2 =>
      obtain ⟨f, ρ2⟩ := q
      cases f <;> rfl
    | _ => rfl
theorem wh_inv {t : Ev Bool} {body : Sv} (J : Nat → En → List U → Prop) (turn : ∀ n ρ st, J n ρ st → Run E (t b ρ st) fun k st1 => if k = true then RS E (body b ρ st1) (bodyK (fun ρ st => ∃ m, m < n ∧ J m ρ st) K) else K .nx ρ st1) :
    ∀ (n m : Nat) (ρ : En) (st : List U), n < m → J n ρ st → RS E (whileL t body m b ρ st) K := by
  intro n
  induction n using Nat.strongRecOn with
  | _ n ih =>
    intro m ρ st hm h
    obtain ⟨m, rfl⟩ : ∃ k, m = k + 1 := ⟨m - 1, by omega⟩
    rw [wh_step]
    refine (turn n ρ st h).mono fun k st1 q => ?_
    cases k with
    | false => exact q
    | true =>
      refine RS.mono q fun f ρ1 st2 q => ?_
      cases f with
      | nx => obtain ⟨k, hk, q⟩ := q; exact ih k hk m ρ1 st2 (by omega) q
      | ct => obtain ⟨k, hk, q⟩ := q; exact ih k hk m ρ1 st2 (by omega) q
      | bk => exact q
      | rt u => exact q
      | ex e => exact q
/-! ### defs -/
def fnK (Q : U → List U → Prop) : Fl → En → List U → Prop := fun f _ st => match f with
  | .nx => Q .non st
  | .rt u => Q u st
  | _ => False
@[simp] theorem run_fnE {P : Pg} {N : List Str} {body : S} {us : List U} : Run E (fnE P N body b us st) Q = RS E (evS P body b (us.map some ++ List.replicate (N.length - us.length) none) st) (fnK Q) := by
  unfold fnE
  cases evS P body b (us.map some ++ List.replicate (N.length - us.length) none) st with
  | ok p st1 =>
    obtain ⟨f, ρ1⟩ := p
    cases f <;> rfl
  | _ => rfl
@[simp] theorem fnK_nx : fnK Q .nx ρ st = Q .non st := rfl
@[simp] theorem fnK_rt {u : U} : fnK Q (.rt u) ρ st = Q u st := rfl
/-! ### the other readings -/
@[simp] theorem t_v {i : Nat} {K : Bool → List U → Prop} : Run E ((evA (pgOf T fn) (.v i)).t b ρ st) K = Run E ((evA (pgOf T fn) (.v i)).e b ρ st) (tK K) := by
  simp only [evA, ea, r_t]
@[simp] theorem it_v {i : Nat} : Run E ((evA (pgOf T fn) (.v i)).i b ρ st) I = Run E ((evA (pgOf T fn) (.v i)).e b ρ st) fun u st1 => itK I (iterOf u st1) st1 := by
  simp only [evA, ea, r_itVal]
@[simp] theorem t_call {live : Bool} {i n m : Nat} {p : Perm} {l kw : List C} {K : Bool → List U → Prop} : Run E ((evA (pgOf T fn) (.call live i n m p l kw)).t b ρ st) K = Run E ((evA (pgOf T fn) (.call live i n m p l kw)).e b ρ st) (tK K) := by
  simp only [evA, ea, r_t]
@[simp] theorem it_call {live : Bool} {i n m : Nat} {p : Perm} {l kw : List C} : Run E ((evA (pgOf T fn) (.call live i n m p l kw)).i b ρ st) I = Run E ((evA (pgOf T fn) (.call live i n m p l kw)).e b ρ st) fun u st1 => itK I (iterOf u st1) st1 := by
  simp only [evA, ea, r_itVal]
@[simp] theorem t_bf {live : Bool} {x : Str} {l : List C} {K : Bool → List U → Prop} : Run E ((evA (pgOf T fn) (.bf live x l)).t b ρ st) K = Run E ((evA (pgOf T fn) (.bf live x l)).e b ρ st) (tK K) := by
  simp only [evA, ea, r_t]
@[simp] theorem it_bf {live : Bool} {x : Str} {l : List C} : Run E ((evA (pgOf T fn) (.bf live x l)).i b ρ st) I = Run E ((evA (pgOf T fn) (.bf live x l)).e b ρ st) fun u st1 => itK I (iterOf u st1) st1 := by
  simp only [evA, ea, r_itVal]
@[simp] theorem t_meth {live : Bool} {x : Str} {ds : List (Nat × Nat × Perm)} {n m : Nat} {o : C} {l kw : List C} {K : Bool → List U → Prop} : Run E ((evA (pgOf T fn) (.meth live x ds n m o l kw)).t b ρ st) K = Run E ((evA (pgOf T fn) (.meth live x ds n m o l kw)).e b ρ st) (tK K) := by
  simp only [evA, ea, r_t]
@[simp] theorem it_meth {live : Bool} {x : Str} {ds : List (Nat × Nat × Perm)} {n m : Nat} {o : C} {l kw : List C} : Run E ((evA (pgOf T fn) (.meth live x ds n m o l kw)).i b ρ st) I = Run E ((evA (pgOf T fn) (.meth live x ds n m o l kw)).e b ρ st) fun u st1 => itK I (iterOf u st1) st1 := by
  simp only [evA, ea, r_itVal]
@[simp] theorem t_bm {live : Bool} {x : Str} {o : C} {l : List C} {K : Bool → List U → Prop} : Run E ((evA (pgOf T fn) (.bm live x o l)).t b ρ st) K = Run E ((evA (pgOf T fn) (.bm live x o l)).e b ρ st) (tK K) := by
  simp only [evA, ea, r_t]
@[simp] theorem it_bm {live : Bool} {x : Str} {o : C} {l : List C} : Run E ((evA (pgOf T fn) (.bm live x o l)).i b ρ st) I = Run E ((evA (pgOf T fn) (.bm live x o l)).e b ρ st) fun u st1 => itK I (iterOf u st1) st1 := by
  simp only [evA, ea, r_itVal]
@[simp] theorem t_ix {x y : C} {K : Bool → List U → Prop} : Run E ((evA (pgOf T fn) (.ix x y)).t b ρ st) K = Run E ((evA (pgOf T fn) (.ix x y)).e b ρ st) (tK K) := by
  simp only [evA, ea, r_t]
@[simp] theorem it_ix {x y : C} : Run E ((evA (pgOf T fn) (.ix x y)).i b ρ st) I = Run E ((evA (pgOf T fn) (.ix x y)).e b ρ st) fun u st1 => itK I (iterOf u st1) st1 := by
  simp only [evA, ea, r_itVal]
@[simp] theorem t_fld {o : C} {f : Str} {K : Bool → List U → Prop} : Run E ((evA (pgOf T fn) (.fld o f)).t b ρ st) K = Run E ((evA (pgOf T fn) (.fld o f)).e b ρ st) (tK K) := by
  simp only [evA, ea, r_t]
@[simp] theorem it_fld {o : C} {f : Str} : Run E ((evA (pgOf T fn) (.fld o f)).i b ρ st) I = Run E ((evA (pgOf T fn) (.fld o f)).e b ρ st) fun u st1 => itK I (iterOf u st1) st1 := by
  simp only [evA, ea, r_itVal]
@[simp] theorem t_k {u : K0} {K : Bool → List U → Prop} : Run E ((evA (pgOf T fn) (.k u)).t b ρ st) K = Run E ((evA (pgOf T fn) (.k u)).e b ρ st) (tK K) := by
  simp only [evA, ea, r_t]
@[simp] theorem it_k {u : K0} : Run E ((evA (pgOf T fn) (.k u)).i b ρ st) I = Run E ((evA (pgOf T fn) (.k u)).e b ρ st) fun u st1 => itK I (iterOf u st1) st1 := by
  simp only [evA, ea, r_itVal]
@[simp] theorem t_bin {op : Operator} {x y : C} {K : Bool → List U → Prop} : Run E ((evA (pgOf T fn) (.bin op x y)).t b ρ st) K = Run E ((evA (pgOf T fn) (.bin op x y)).e b ρ st) (tK K) := by
  simp only [evA, ea, r_t]
@[simp] theorem it_bin {op : Operator} {x y : C} : Run E ((evA (pgOf T fn) (.bin op x y)).i b ρ st) I = Run E ((evA (pgOf T fn) (.bin op x y)).e b ρ st) fun u st1 => itK I (iterOf u st1) st1 := by
  simp only [evA, ea, r_itVal]
@[simp] theorem t_g {x : Str} {K : Bool → List U → Prop} : Run E ((evA (pgOf T fn) (.g x)).t b ρ st) K = Run E ((evA (pgOf T fn) (.g x)).e b ρ st) (tK K) := by
  simp only [evA, ea, r_t]
@[simp] theorem it_g {x : Str} : Run E ((evA (pgOf T fn) (.g x)).i b ρ st) I = Run E ((evA (pgOf T fn) (.g x)).e b ρ st) fun u st1 => itK I (iterOf u st1) st1 := by
  simp only [evA, ea, r_itVal]
@[simp] theorem t_lst {live : Bool} {l : List C} {K : Bool → List U → Prop} : Run E ((evA (pgOf T fn) (.lst live l)).t b ρ st) K = Run E ((evA (pgOf T fn) (.lst live l)).e b ρ st) (tK K) := by
  simp only [evA, ea, r_t]
@[simp] theorem it_lst {live : Bool} {l : List C} : Run E ((evA (pgOf T fn) (.lst live l)).i b ρ st) I = Run E ((evA (pgOf T fn) (.lst live l)).e b ρ st) fun u st1 => itK I (iterOf u st1) st1 := by
  simp only [evA, ea, r_itVal]
@[simp] theorem t_tup {l : List C} {K : Bool → List U → Prop} : Run E ((evA (pgOf T fn) (.tup l)).t b ρ st) K = Run E ((evA (pgOf T fn) (.tup l)).e b ρ st) (tK K) := by
  simp only [evA, ea, r_t]
@[simp] theorem it_tup {l : List C} : Run E ((evA (pgOf T fn) (.tup l)).i b ρ st) I = Run E ((evA (pgOf T fn) (.tup l)).e b ρ st) fun u st1 => itK I (iterOf u st1) st1 := by
  simp only [evA, ea, r_itVal]
@[simp] theorem t_sl {live : Bool} {x lo hi : C} {K : Bool → List U → Prop} : Run E ((evA (pgOf T fn) (.sl live x lo hi)).t b ρ st) K = Run E ((evA (pgOf T fn) (.sl live x lo hi)).e b ρ st) (tK K) := by
  simp only [evA, ea, r_t]
@[simp] theorem it_sl {live : Bool} {x lo hi : C} : Run E ((evA (pgOf T fn) (.sl live x lo hi)).i b ρ st) I = Run E ((evA (pgOf T fn) (.sl live x lo hi)).e b ρ st) fun u st1 => itK I (iterOf u st1) st1 := by
  simp only [evA, ea, r_itVal]
@[simp] theorem t_lc {live : Bool} {own : List Nat} {it : C} {s : TgS} {t elt : C} {K : Bool → List U → Prop} : Run E ((evA (pgOf T fn) (.lc live own it s t elt)).t b ρ st) K = Run E ((evA (pgOf T fn) (.lc live own it s t elt)).e b ρ st) (tK K) := by
  simp only [evA, ea, r_t]
@[simp] theorem it_lc {live : Bool} {own : List Nat} {it : C} {s : TgS} {t elt : C} : Run E ((evA (pgOf T fn) (.lc live own it s t elt)).i b ρ st) I = Run E ((evA (pgOf T fn) (.lc live own it s t elt)).e b ρ st) fun u st1 => itK I (iterOf u st1) st1 := by
  simp only [evA, ea, r_itVal]
@[simp] theorem t_dc {live : Bool} {own : List Nat} {it : C} {s : TgS} {t kx vx : C} {K : Bool → List U → Prop} : Run E ((evA (pgOf T fn) (.dc live own it s t kx vx)).t b ρ st) K = Run E ((evA (pgOf T fn) (.dc live own it s t kx vx)).e b ρ st) (tK K) := by
  simp only [evA, ea, r_t]
@[simp] theorem it_dc {live : Bool} {own : List Nat} {it : C} {s : TgS} {t kx vx : C} : Run E ((evA (pgOf T fn) (.dc live own it s t kx vx)).i b ρ st) I = Run E ((evA (pgOf T fn) (.dc live own it s t kx vx)).e b ρ st) fun u st1 => itK I (iterOf u st1) st1 := by
  simp only [evA, ea, r_itVal]
@[simp] theorem t_rev {live : Bool} {x : C} {K : Bool → List U → Prop} : Run E ((evA (pgOf T fn) (.rev live x)).t b ρ st) K = Run E ((evA (pgOf T fn) (.rev live x)).e b ρ st) (tK K) := by
  simp only [evA, ea, r_t]
@[simp] theorem it_rev {live : Bool} {x : C} : Run E ((evA (pgOf T fn) (.rev live x)).i b ρ st) I = Run E ((evA (pgOf T fn) (.rev live x)).e b ρ st) fun u st1 => itK I (iterOf u st1) st1 := by
  simp only [evA, ea, r_itVal]
@[simp] theorem t_litems {live : Bool} {x : C} {K : Bool → List U → Prop} : Run E ((evA (pgOf T fn) (.litems live x)).t b ρ st) K = Run E ((evA (pgOf T fn) (.litems live x)).e b ρ st) (tK K) := by
  simp only [evA, ea, r_t]
@[simp] theorem it_litems {live : Bool} {x : C} : Run E ((evA (pgOf T fn) (.litems live x)).i b ρ st) I = Run E ((evA (pgOf T fn) (.litems live x)).e b ρ st) fun u st1 => itK I (iterOf u st1) st1 := by
  simp only [evA, ea, r_itVal]
@[simp] theorem t_lvals {live : Bool} {x : C} {K : Bool → List U → Prop} : Run E ((evA (pgOf T fn) (.lvals live x)).t b ρ st) K = Run E ((evA (pgOf T fn) (.lvals live x)).e b ρ st) (tK K) := by
  simp only [evA, ea, r_t]
@[simp] theorem it_lvals {live : Bool} {x : C} : Run E ((evA (pgOf T fn) (.lvals live x)).i b ρ st) I = Run E ((evA (pgOf T fn) (.lvals live x)).e b ρ st) fun u st1 => itK I (iterOf u st1) st1 := by
  simp only [evA, ea, r_itVal]
@[simp] theorem t_dct0 {live : Bool} {K : Bool → List U → Prop} : Run E ((evA (pgOf T fn) (.dct0 live)).t b ρ st) K = Run E ((evA (pgOf T fn) (.dct0 live)).e b ρ st) (tK K) := by
  simp only [evA, ea, r_t]
@[simp] theorem it_dct0 {live : Bool} : Run E ((evA (pgOf T fn) (.dct0 live)).i b ρ st) I = Run E ((evA (pgOf T fn) (.dct0 live)).e b ρ st) fun u st1 => itK I (iterOf u st1) st1 := by
  simp only [evA, ea, r_itVal]
@[simp] theorem t_make {live : Bool} {c i n m : Nat} {p : Perm} {l kw : List C} {K : Bool → List U → Prop} : Run E ((evA (pgOf T fn) (.make live c i n m p l kw)).t b ρ st) K = Run E ((evA (pgOf T fn) (.make live c i n m p l kw)).e b ρ st) (tK K) := by
  simp only [evA, ea, r_t]
@[simp] theorem it_make {live : Bool} {c i n m : Nat} {p : Perm} {l kw : List C} : Run E ((evA (pgOf T fn) (.make live c i n m p l kw)).i b ρ st) I = Run E ((evA (pgOf T fn) (.make live c i n m p l kw)).e b ρ st) fun u st1 => itK I (iterOf u st1) st1 := by
  simp only [evA, ea, r_itVal]
@[simp] theorem it_ife {t x y : C} : Run E ((evA (pgOf T fn) (.ife t x y)).i b ρ st) I = Run E ((evA (pgOf T fn) (.ife t x y)).e b ρ st) fun u st1 => itK I (iterOf u st1) st1 := by
  simp only [evA, ea, r_itVal]
@[simp] theorem tK_bl {K : Bool → List U → Prop} {c : Bool} : tK K (.bl c) st = K c st := rfl
@[simp] theorem tK_non {K : Bool → List U → Prop} : tK K .non st = K false st := rfl
@[simp] theorem tK_int {K : Bool → List U → Prop} {i : Int} : tK K (.int i) st = K (i != 0) st := rfl
@[simp] theorem tK_lst {K : Bool → List U → Prop} {us : List U} : tK K (.lst us) st = K (!us.isEmpty) st := rfl
@[simp] theorem tK_tup {K : Bool → List U → Prop} {us : List U} : tK K (.tup us) st = K (!us.isEmpty) st := rfl
@[simp] theorem itK_some {iv : IV} : itK I (some iv) st = I iv st := rfl
@[simp] theorem itK_none : itK I none st = False := rfl
@[simp] theorem iter_lst {us : List U} : iterOf (.lst us) st = some ⟨us, fun _ => True, none⟩ := rfl
@[simp] theorem iter_fl {us : List U} : iterOf (.fl us) st = some ⟨us, fun _ => True, none⟩ := rfl
@[simp] theorem iter_tup {us : List U} : iterOf (.tup us) st = some ⟨us, fun _ => True, none⟩ := rfl
@[simp] theorem iter_dct {ks : List KK} {us : List U} : iterOf (.dct ks us) st = some ⟨ks.map ofKK, fun _ => True, none⟩ := rfl
@[simp] theorem K0_non : K0.u .non = .non := rfl
@[simp] theorem K0_bl {c : Bool} : K0.u (.bl c) = .bl c := rfl
@[simp] theorem K0_int {i : Int} : K0.u (.int i) = .int i := rfl
@[simp] theorem K0_str {x : Str} : K0.u (.str x) = .str x := rfl
@[simp] theorem isNo_no : isNo .no = true := rfl
@[simp] theorem isNo_cmp {op : CmpOp} {x y : C} : isNo (.cmp op x y) = false := rfl
@[simp] theorem isNo_and {x y : C} : isNo (.and_ x y) = false := rfl
@[simp] theorem isNo_or {x y : C} : isNo (.or_ x y) = false := rfl
@[simp] theorem isNo_not {x : C} : isNo (.not_ x) = false := rfl
@[simp] theorem isNo_v {i : Nat} : isNo (.v i) = false := rfl
@[simp] theorem isNo_k {u : K0} : isNo (.k u) = false := rfl
@[simp] theorem isNo_call {live : Bool} {i n m : Nat} {p : Perm} {l kw : List C} : isNo (.call live i n m p l kw) = false := rfl
@[simp] theorem isNo_bf {live : Bool} {x : Str} {l : List C} : isNo (.bf live x l) = false := rfl
@[simp] theorem isNo_bin {op : Operator} {x y : C} : isNo (.bin op x y) = false := rfl
@[simp] theorem isNo_meth {live : Bool} {x : Str} {ds : List (Nat × Nat × Perm)} {n m : Nat} {o : C} {l kw : List C} : isNo (.meth live x ds n m o l kw) = false := rfl
@[simp] theorem isNo_chain {o1 o2 : CmpOp} {x y z : C} : isNo (.chain o1 o2 x y z) = false := rfl
@[simp] theorem isNo_ix {x y : C} : isNo (.ix x y) = false := rfl
@[simp] theorem isNo_g {x : Str} : isNo (.g x) = false := rfl
@[simp] theorem lck_none : lck none st = st := rfl
@[simp] theorem unl_none : unl none st = some st := rfl
/-! ### calls -/
@[simp] theorem callM_no {F : Fn} {us : List U} : callM false F b us st = leave st.length (F st.length us st) := by unfold callM; rw [if_neg (by decide)]
@[simp] theorem callM_yes {F : Fn} {us : List U} : callM true F b us st = F b us st := by unfold callM; rw [if_pos rfl]
def U.isObj : U → Bool
  | .ref _ => true
  | .lkd _ _ => true
  | _ => false
theorem frz_tree {k n : Nat} {s : List U} {u : U} (h : u.isRef = false) : frz k n s u = some u := by
  cases k <;> cases u <;> first | rfl | cases h
theorem leave_tree {u : U} (h : u.isRef = false) : leave st.length (.ok u st) = .ok u st := by
  simp only [leave, frz_tree h, List.take_length]
@[simp] theorem leave_bl {c : Bool} : leave st.length (.ok (.bl c) st) = .ok (.bl c) st := leave_tree rfl
@[simp] theorem leave_int {i : Int} : leave st.length (.ok (.int i) st) = .ok (.int i) st := leave_tree rfl
@[simp] theorem leave_str {x : Str} : leave st.length (.ok (.str x) st) = .ok (.str x) st := leave_tree rfl
@[simp] theorem leave_non : leave st.length (.ok .non st) = .ok .non st := leave_tree rfl
@[simp] theorem leave_lst {us : List U} : leave st.length (.ok (.lst us) st) = .ok (.lst us) st := leave_tree rfl
@[simp] theorem leave_tup {us : List U} : leave st.length (.ok (.tup us) st) = .ok (.tup us) st := leave_tree rfl
@[simp] theorem leave_dct {ks : List KK} {us : List U} : leave st.length (.ok (.dct ks us) st) = .ok (.dct ks us) st := leave_tree rfl
@[simp] theorem leave_ins {c : Nat} {ns : List Str} {us : List U} : leave st.length (.ok (.ins c ns us) st) = .ok (.ins c ns us) st := leave_tree rfl
def U.objOk : U → Bool
  | .lst us => noref us
  | .dct _ us => noref us
  | .ins _ _ us => noref us
  | _ => false
/-- a new object of trees is laid down -/
theorem leave_ref {n : Nat} {s : List U} {o : U} (h : s[n]? = some o) (ho : o.objOk = true) : leave n (.ok (.ref n) s) = .ok o (s.take n) := by
  have : frz 8 n s (.ref n) = some o := by
    unfold frz
    simp only [Nat.lt_irrefl, if_false, h]
    cases o <;> first | (cases ho; done) | (simp only [U.objOk] at ho; simp only [ho, if_true])
  simp only [leave, this]
/-- what a frame made, laid down as trees -/
def leaveK (n : Nat) (Q : U → List U → Prop) : U → List U → Prop := fun u st => match frz 8 n st u with
  | some w => Q w (st.take n)
  | none => False
theorem run_leave {n : Nat} {r : Res U} : Run NoE (leave n r) Q = Run NoE r (leaveK n Q) := by
  cases r with
  | ok u s =>
    unfold leaveK
    simp only [leave, run_ok]
    cases frz 8 n s u <;> rfl
  | _ => rfl
theorem run_mkBody {c : Nat} {F : Fn} {gu : List U → List U → List U} {us ws : List U} : Run E (mkBody c F gu us ws b st) Q = Run E (F b (gu (.ref st.length :: us) ws) (st ++ [.ins c [] []])) fun u st2 => u = .non ∧ Q (.ref st.length) st2 := by
  simp only [mkBody, run_bind]
  congr 1; funext u st2
  cases u <;> simp
@[simp] theorem mkRun_no {c : Nat} {F : Fn} {gu : List U → List U → List U} {us ws : List U} : mkRun false c F gu us ws b st = leave st.length (mkBody c F gu us ws st.length st) := by unfold mkRun; rw [if_neg (by decide)]
@[simp] theorem mkRun_yes {c : Nat} {F : Fn} {gu : List U → List U → List U} {us ws : List U} : mkRun true c F gu us ws b st = mkBody c F gu us ws b st := by unfold mkRun; rw [if_pos rfl]
/-- an equation, from a run -/
theorem eq_of_run {r : Res U} {v : U} {s : List U} (h : Run NoE r fun u st' => u = v ∧ st' = s) : r = .ok v s := by
  obtain ⟨a, st', e, rfl, rfl⟩ := run_ex h
  exact e
end
end EV

set_option maxRecDepth 100000
/-! Ev3: the built-in operations at values of known kinds. -/
namespace EV
open PySem PySem.Spec PyProof.Rows L2
section
variable {E : U → List U → Prop} {b : Nat} {st : List U} {Q : U → List U → Prop}
variable (T : Tab) (fn : Nat → Fn)
variable {i j : Int} {x y : Str}
/-! ### ints -/
theorem tBin_ii {op : Operator} : tBin T fn op b (.int i) (.int j) st = ofO (pBin op b (.int i) (.int j) st) := rfl
@[simp] theorem i_add : Run E (tBin T fn .Add b (.int i) (.int j) st) Q = Q (.int (i + j)) st := rfl
theorem if_run {p : Prop} [Decidable p] {u : U} : Run E (ofO (if p then some (u, st) else none)) Q = (p ∧ Q u st) := by
  by_cases h : p
  · rw [if_pos h]; simp [h]
  · rw [if_neg h]; simp [h, ofO]
theorem i_int {C : Int → Int → Prop} {g : Int → Int → U} : Run E (ofO (pInt C g b (.int i) (.int j) st)) Q = (C i j ∧ Q (g i j) st) := by
  unfold pInt
  simp only
  by_cases h : C i j
  · rw [if_pos h]; simp [h]
  · rw [if_neg h]; simp [h, ofO]
@[simp] theorem i_sub : Run E (tBin T fn .Sub b (.int i) (.int j) st) Q = Q (.int (i - j)) st := by
  rw [tBin_ii]; simp only [pBin]; rw [i_int]; simp
@[simp] theorem i_mul : Run E (tBin T fn .Mult b (.int i) (.int j) st) Q = (CMul i j ∧ Q (.int (i * j)) st) := by
  show Run E (ofO (pMul b (.int i) (.int j) st)) Q = _
  unfold pMul
  simp only
  by_cases h : CMul i j
  · rw [if_pos h]; simp [h]
  · rw [if_neg h]; simp [h, ofO]
@[simp] theorem i_mod : Run E (tBin T fn .Mod b (.int i) (.int j) st) Q = (0 < j ∧ Q (.int (i % j)) st) := by
  rw [tBin_ii]; simp only [pBin]; exact i_int
@[simp] theorem i_div : Run E (tBin T fn .FloorDiv b (.int i) (.int j) st) Q = (CDiv i j ∧ Q (.int (i / j)) st) := by
  rw [tBin_ii]; simp only [pBin]; exact i_int
@[simp] theorem i_pow : Run E (tBin T fn .Pow b (.int i) (.int j) st) Q = (CPow i j ∧ Q (.int (i ^ j.toNat)) st) := by
  rw [tBin_ii]; simp only [pBin]; exact i_int
@[simp] theorem i_shl : Run E (tBin T fn .LShift b (.int i) (.int j) st) Q = (CPow i j ∧ Q (.int (i * 2 ^ j.toNat)) st) := by
  rw [tBin_ii]; simp only [pBin]; exact i_int
@[simp] theorem i_shr : Run E (tBin T fn .RShift b (.int i) (.int j) st) Q = (0 ≤ j ∧ Q (.int (i / 2 ^ j.toNat)) st) := by
  rw [tBin_ii]; simp only [pBin]; exact i_int
@[simp] theorem i_or : Run E (tBin T fn .BitOr b (.int i) (.int j) st) Q = Q (.int (Builtin.bitOr i j)) st := by
  rw [tBin_ii]; simp only [pBin]; rw [i_int]; simp
@[simp] theorem i_and : Run E (tBin T fn .BitAnd b (.int i) (.int j) st) Q = Q (.int (Builtin.bitAnd i j)) st := by
  rw [tBin_ii]; simp only [pBin]; rw [i_int]; simp
@[simp] theorem i_lt : Run E (tCmp T fn .Lt b (.int i) (.int j) st) Q = Q (.bl (decide (i < j))) st := rfl
@[simp] theorem i_le : Run E (tCmp T fn .LtE b (.int i) (.int j) st) Q = Q (.bl (decide (i ≤ j))) st := rfl
@[simp] theorem i_gt : Run E (tCmp T fn .Gt b (.int i) (.int j) st) Q = Q (.bl (decide (j < i))) st := rfl
@[simp] theorem i_ge : Run E (tCmp T fn .GtE b (.int i) (.int j) st) Q = Q (.bl (decide (j ≤ i))) st := rfl
/-! ### data, compared -/
theorem pEq_d {u w : U} {d e : PyData} (neg : Bool) (h2 : dctAt u st = none) (hu : pdAt u st = some d) (hw : pdAt w st = some e) (s1 : SeqAt.shaped d = true) (s2 : SeqAt.shaped e = true) :
    pEq neg b u w st = some (.bl (PyData.eqv d e != neg), st) := by
  unfold pEq
  split
  · rename_i i j
    obtain rfl : PyData.str i = d := Option.some.inj hu
    obtain rfl : PyData.str j = e := Option.some.inj hw
    show some (U.bl (decide (i = j) != neg), st) = some (U.bl ((i == j) != neg), st)
    rw [show (i == j) = decide (i = j) from by rw [Bool.eq_iff_iff]; simp]
  · unfold pEqD
    simp only [dEq, h2, hu, hw, s1, s2, and_self, if_true]
theorem pEq_c {u w : U} {c : Bool} (neg : Bool) (h : dEq u w st = some c) : pEq neg b u w st = some (.bl (c != neg), st) := by
  unfold pEq
  split
  · cases h
  · unfold pEqD
    simp only [h]
theorem d_eq {u w : U} {d e : PyData} (h0 : insCls u st = none) (h1 : insCls w st = none) (h2 : dctAt u st = none) (hu : pdAt u st = some d) (hw : pdAt w st = some e) (s1 : SeqAt.shaped d = true) (s2 : SeqAt.shaped e = true) :
    Run E (tCmp T fn .Eq b u w st) Q = Q (.bl (PyData.eqv d e)) st := by
  simp only [tCmp, h0, h1, pCmp, pEq_d false h2 hu hw s1 s2]
  cases PyData.eqv d e <;> rfl
theorem d_ne {u w : U} {d e : PyData} (h0 : insCls u st = none) (h1 : insCls w st = none) (h2 : dctAt u st = none) (hu : pdAt u st = some d) (hw : pdAt w st = some e) (s1 : SeqAt.shaped d = true) (s2 : SeqAt.shaped e = true) :
    Run E (tCmp T fn .NotEq b u w st) Q = Q (.bl (!PyData.eqv d e)) st := by
  simp only [tCmp, h0, h1, pCmp, pEq_d true h2 hu hw s1 s2]
  cases PyData.eqv d e <;> rfl
theorem sh_str {x : Str} (h : PyData.strOk x = true) : SeqAt.shaped (.str x) = true := by
  unfold SeqAt.shaped PyData.canLay0
  rw [h]; rfl
@[simp] theorem i_eq : Run E (tCmp T fn .Eq b (.int i) (.int j) st) Q = Q (.bl (decide (i = j))) st := by
  rw [d_eq (d := .int i) (e := .int j) T fn rfl rfl rfl rfl rfl rfl rfl]
  show Q (.bl (i == j)) st = _
  rw [show (i == j) = decide (i = j) from rfl]
@[simp] theorem i_ne : Run E (tCmp T fn .NotEq b (.int i) (.int j) st) Q = Q (.bl (!decide (i = j))) st := by
  rw [d_ne (d := .int i) (e := .int j) T fn rfl rfl rfl rfl rfl rfl rfl]
  show Q (.bl (!(i == j))) st = _
  rw [show (i == j) = decide (i = j) from rfl]
@[simp] theorem s_eq : Run E (tCmp T fn .Eq b (.str x) (.str y) st) Q = Q (.bl (decide (x = y))) st := by
  show Run E (ofO (some (U.bl (decide (x = y) != false), st))) Q = _
  cases decide (x = y) <;> rfl
@[simp] theorem s_ne : Run E (tCmp T fn .NotEq b (.str x) (.str y) st) Q = Q (.bl (!decide (x = y))) st := by
  show Run E (ofO (some (U.bl (decide (x = y) != true), st))) Q = _
  cases decide (x = y) <;> rfl
@[simp] theorem isN {u : U} : Run E (tCmp T fn .Is b u .non st) Q = Q (.bl (isNon u)) st := by
  have : ofO (pCmp .Is b u .non st) = .ok (.bl (isNon u)) st := by
    show ofO (some (U.bl (isNon u != false), st)) = _
    cases isNon u <;> rfl
  unfold tCmp
  cases insCls u st with
  | none => simp only [insCls]; rw [this]; rfl
  | some q => obtain ⟨c, ns⟩ := q; simp only [insCls]; rw [this]; rfl
@[simp] theorem isNotN {u : U} : Run E (tCmp T fn .IsNot b u .non st) Q = Q (.bl (!isNon u)) st := by
  have : ofO (pCmp .IsNot b u .non st) = .ok (.bl (!isNon u)) st := by
    show ofO (some (U.bl (isNon u != true), st)) = _
    cases isNon u <;> rfl
  unfold tCmp
  cases insCls u st with
  | none => simp only [insCls]; rw [this]; rfl
  | some q => obtain ⟨c, ns⟩ := q; simp only [insCls]; rw [this]; rfl
@[simp] theorem s_in : Run E (tCmp T fn .In b (.str x) (.str y) st) Q = Q (.bl (!(Builtin.Str.occurrences y x 0 y.length 1).isEmpty)) st := by
  show Run E (ofO (some (U.bl (_ != false), st))) Q = _
  cases (Builtin.Str.occurrences y x 0 y.length 1).isEmpty <;> rfl
theorem d_in {u w : U} {d : PyData} {ds : List PyData} (h0 : insCls u st = none) (h1 : insCls w st = none) (h2 : dctAt w st = none) (hs : ∀ x y, u = .str x → w ≠ .str y) (hu : pdAt u st = some d) (hw : pdAt w st = some (.list ds)) (s1 : SeqAt.shaped d = true) (s2 : SeqAt.shaped (.list ds) = true) :
    Run E (tCmp T fn .In b u w st) Q = Q (.bl (ds.any fun z => PyData.eqv z d)) st := by
  have e : inU u w st = some (ds.any fun z => PyData.eqv z d) := by
    unfold inU
    split
    · rename_i x y; exact absurd rfl (hs x y rfl)
    · simp only [inD, h2, hu, hw, s1, s2, and_self, if_true]
  simp only [tCmp, h0, h1, pCmp, pIn, e, Option.map_some]
  cases ds.any fun z => PyData.eqv z d <;> rfl
theorem k_in {u w : U} {ks : List KK} {us : List U} {k : KK} (h0 : insCls u st = none) (h1 : insCls w st = none) (h2 : dctAt w st = some (ks, us)) (hu : toKK u = some k) (hk : kindOk ks k = true) :
    Run E (tCmp T fn .In b u w st) Q = Q (.bl (kkget ks us k).isSome) st := by
  have e : inU u w st = some (kkget ks us k).isSome := by
    unfold inU
    split
    · cases h2
    · simp only [inD, h2, hu, hk, if_true]
  simp only [tCmp, h0, h1, pCmp, pIn, e, Option.map_some]
  cases (kkget ks us k).isSome <;> rfl
theorem k_notin {u w : U} {ks : List KK} {us : List U} {k : KK} (h0 : insCls u st = none) (h1 : insCls w st = none) (h2 : dctAt w st = some (ks, us)) (hu : toKK u = some k) (hk : kindOk ks k = true) :
    Run E (tCmp T fn .NotIn b u w st) Q = Q (.bl (!(kkget ks us k).isSome)) st := by
  have e : inU u w st = some (kkget ks us k).isSome := by
    unfold inU
    split
    · cases h2
    · simp only [inD, h2, hu, hk, if_true]
  simp only [tCmp, h0, h1, pCmp, pIn, e, Option.map_some]
  cases (kkget ks us k).isSome <;> rfl
/-! ### texts, lists -/
@[simp] theorem s_add : Run E (tBin T fn .Add b (.str x) (.str y) st) Q = (x.length + y.length ≤ sizeLine ∧ Q (.str (x ++ y)) st) := by
  show Run E (ofO (pAdd b (.str x) (.str y) st)) Q = _
  unfold pAdd
  simp only
  by_cases h : x.length + y.length ≤ sizeLine
  · rw [if_pos h]; simp [h]
  · rw [if_neg h]; simp [h, ofO]
theorem l_add {u w : U} {us ws : List U} (h0 : insCls u st = none) (h1 : insCls w st = none) (hu : lstX u st = some us) (hw : lstX w st = some ws) :
    Run E (tBin T fn .Add b u w st) Q = (us.length + ws.length ≤ sizeLine ∧ noref (us ++ ws) = true ∧ Q (.lst (us ++ ws)) st) := by
  have e : pAdd b u w st = if us.length + ws.length ≤ sizeLine then mk false .lst (us ++ ws) st else none := by
    unfold pAdd
    cases u with
    | int i => cases hu
    | str x => cases hu
    | _ => simp only [hu, hw]
  simp only [tBin, h0, h1, pBin, e]
  by_cases h : us.length + ws.length ≤ sizeLine
  · rw [if_pos h, run_mk]; simp [h, mkK]
  · rw [if_neg h]; simp [h, ofO]
/-! ### subscripts -/
theorem ix_k {u w : U} {ks : List KK} {us : List U} {k : KK} (h0 : insCls u st = none) (h2 : dctAt u st = some (ks, us)) (hw : toKK w = some k) (hk : kindOk ks k = true) :
    Run E (tIxW T fn b u w st) Q = match kkget ks us k with
    | some z => Q z st
    | none => False := by
  have e : pIx b u w st = (kkget ks us k).map fun z => (z, st) := by
    unfold pIx
    split
    · cases h2
    · simp only [h2, hw, hk, if_true]
  simp only [tIxW, h0, e]
  cases kkget ks us k <;> rfl
theorem ix_l {u : U} {us : List U} (h0 : insCls u st = none) (h1 : dctAt u st = none) (hu : sqAt u st = some us) : Run E (tIxW T fn b u (.int i) st) Q = match atI us i with
    | some z => Q z st
    | none => False := by
  have e : pIx b u (.int i) st = (atI us i).map fun z => (z, st) := by
    unfold pIx
    split
    · cases hu
    · simp only [h1, hu]
  simp only [tIxW, h0, e]
  cases atI us i <;> rfl
/-! ### built-in functions -/
variable {live : Bool} {us : List U}
@[simp] theorem f_isinstance : tBf T fn live "isinstance" b us st = ofO (pIsi T.isi b us st) := by unfold tBf; simp only [if_false, if_true]
@[simp] theorem f_repr : tBf T fn live "repr" b us st = tRepr T fn b us st := by unfold tBf; simp only [show (("repr" : Str) = "isinstance") = False from by decide, if_false, if_true]
@[simp] theorem f_len : tBf T fn live "len" b us st = ofO (pLen b us st) := by unfold tBf; simp only [show (("len" : Str) = "isinstance") = False from by decide, show (("len" : Str) = "repr") = False from by decide, if_false, if_true]
@[simp] theorem f_all : tBf T fn live "all" b us st = ofO (pAll (fun bs => bs.all id) b us st) := by unfold tBf; simp only [show (("all" : Str) = "isinstance") = False from by decide, show (("all" : Str) = "repr") = False from by decide, show (("all" : Str) = "len") = False from by decide, if_false, if_true]
@[simp] theorem f_any : tBf T fn live "any" b us st = ofO (pAll (fun bs => bs.any id) b us st) := by unfold tBf; simp only [show (("any" : Str) = "isinstance") = False from by decide, show (("any" : Str) = "repr") = False from by decide, show (("any" : Str) = "len") = False from by decide, show (("any" : Str) = "all") = False from by decide, if_false, if_true]
@[simp] theorem f_sum : tBf T fn live "sum" b us st = ofO (pSum b us st) := by unfold tBf; simp only [show (("sum" : Str) = "isinstance") = False from by decide, show (("sum" : Str) = "repr") = False from by decide, show (("sum" : Str) = "len") = False from by decide, show (("sum" : Str) = "all") = False from by decide, show (("sum" : Str) = "any") = False from by decide, if_false, if_true]
@[simp] theorem f_sorted : tBf T fn live "sorted" b us st = ofO (pSorted live b us st) := by unfold tBf; simp only [show (("sorted" : Str) = "isinstance") = False from by decide, show (("sorted" : Str) = "repr") = False from by decide, show (("sorted" : Str) = "len") = False from by decide, show (("sorted" : Str) = "all") = False from by decide, show (("sorted" : Str) = "any") = False from by decide, show (("sorted" : Str) = "sum") = False from by decide, if_false, if_true]
@[simp] theorem f_max : tBf T fn live "max" b us st = ofO (p2i (fun i j => if j > i then j else i) b us st) := by unfold tBf; simp only [show (("max" : Str) = "isinstance") = False from by decide, show (("max" : Str) = "repr") = False from by decide, show (("max" : Str) = "len") = False from by decide, show (("max" : Str) = "all") = False from by decide, show (("max" : Str) = "any") = False from by decide, show (("max" : Str) = "sum") = False from by decide, show (("max" : Str) = "sorted") = False from by decide, if_false, if_true]
@[simp] theorem f_min : tBf T fn live "min" b us st = ofO (p2i (fun i j => if j < i then j else i) b us st) := by unfold tBf; simp only [show (("min" : Str) = "isinstance") = False from by decide, show (("min" : Str) = "repr") = False from by decide, show (("min" : Str) = "len") = False from by decide, show (("min" : Str) = "all") = False from by decide, show (("min" : Str) = "any") = False from by decide, show (("min" : Str) = "sum") = False from by decide, show (("min" : Str) = "sorted") = False from by decide, show (("min" : Str) = "max") = False from by decide, if_false, if_true]
@[simp] theorem f_abs : tBf T fn live "abs" b us st = ofO (pAbs b us st) := by unfold tBf; simp only [show (("abs" : Str) = "isinstance") = False from by decide, show (("abs" : Str) = "repr") = False from by decide, show (("abs" : Str) = "len") = False from by decide, show (("abs" : Str) = "all") = False from by decide, show (("abs" : Str) = "any") = False from by decide, show (("abs" : Str) = "sum") = False from by decide, show (("abs" : Str) = "sorted") = False from by decide, show (("abs" : Str) = "max") = False from by decide, show (("abs" : Str) = "min") = False from by decide, if_false, if_true]
@[simp] theorem f_divmod : tBf T fn live "divmod" b us st = ofO (pDivmod b us st) := by unfold tBf; simp only [show (("divmod" : Str) = "isinstance") = False from by decide, show (("divmod" : Str) = "repr") = False from by decide, show (("divmod" : Str) = "len") = False from by decide, show (("divmod" : Str) = "all") = False from by decide, show (("divmod" : Str) = "any") = False from by decide, show (("divmod" : Str) = "sum") = False from by decide, show (("divmod" : Str) = "sorted") = False from by decide, show (("divmod" : Str) = "max") = False from by decide, show (("divmod" : Str) = "min") = False from by decide, show (("divmod" : Str) = "abs") = False from by decide, if_false, if_true]
@[simp] theorem f_int : tBf T fn live "int" b us st = ofO (pInt1 b us st) := by unfold tBf; simp only [show (("int" : Str) = "isinstance") = False from by decide, show (("int" : Str) = "repr") = False from by decide, show (("int" : Str) = "len") = False from by decide, show (("int" : Str) = "all") = False from by decide, show (("int" : Str) = "any") = False from by decide, show (("int" : Str) = "sum") = False from by decide, show (("int" : Str) = "sorted") = False from by decide, show (("int" : Str) = "max") = False from by decide, show (("int" : Str) = "min") = False from by decide, show (("int" : Str) = "abs") = False from by decide, show (("int" : Str) = "divmod") = False from by decide, if_false, if_true]
@[simp] theorem f_list : tBf T fn live "list" b us st = ofO (pListOf live b us st) := by unfold tBf; simp only [show (("list" : Str) = "isinstance") = False from by decide, show (("list" : Str) = "repr") = False from by decide, show (("list" : Str) = "len") = False from by decide, show (("list" : Str) = "all") = False from by decide, show (("list" : Str) = "any") = False from by decide, show (("list" : Str) = "sum") = False from by decide, show (("list" : Str) = "sorted") = False from by decide, show (("list" : Str) = "max") = False from by decide, show (("list" : Str) = "min") = False from by decide, show (("list" : Str) = "abs") = False from by decide, show (("list" : Str) = "divmod") = False from by decide, show (("list" : Str) = "int") = False from by decide, if_false, if_true]
@[simp] theorem f_dict : tBf T fn live "dict" b us st = ofO (pDictOf live b us st) := by unfold tBf; simp only [show (("dict" : Str) = "isinstance") = False from by decide, show (("dict" : Str) = "repr") = False from by decide, show (("dict" : Str) = "len") = False from by decide, show (("dict" : Str) = "all") = False from by decide, show (("dict" : Str) = "any") = False from by decide, show (("dict" : Str) = "sum") = False from by decide, show (("dict" : Str) = "sorted") = False from by decide, show (("dict" : Str) = "max") = False from by decide, show (("dict" : Str) = "min") = False from by decide, show (("dict" : Str) = "abs") = False from by decide, show (("dict" : Str) = "divmod") = False from by decide, show (("dict" : Str) = "int") = False from by decide, show (("dict" : Str) = "list") = False from by decide, if_false, if_true]
end
end EV
namespace EV
open PySem PySem.Spec PyProof.Rows L2
section
variable {E : U → List U → Prop} {b : Nat} {st : List U} {ρ : En}
theorem run_eq {α : Type} {r : Res α} {a : α} {s : List U} (h : Run NoE r fun x st1 => x = a ∧ st1 = s) : r = .ok a s := by
  obtain ⟨x, st', e, h1, h2⟩ := run_ex h
  rw [e, h1, h2]
/-- a comprehension whose parts change nothing -/
theorem lc_map {chk : List U → Prop} {s : TgS} {t : Ev Bool} {elt : Ev U} (p : U → Bool) (f : U → U) (hc : chk st) (us : List U) : ∀ (acc : List U), (∀ u ∈ us, ∃ ρ1, tgU s u ρ = some ρ1 ∧ (Run NoE (t b ρ1 st) fun k st1 => k = p u ∧ st1 = st) ∧ (p u = true → Run NoE (elt b ρ1 st) fun y st1 => y = f u ∧ st1 = st)) →
    lcL chk s t elt us acc b ρ st = .ok (acc ++ (us.filter p).map f) st := by
  induction us with
  | nil => intro acc _; simp only [lcL, if_pos hc]; simp
  | cons u us ih =>
    intro acc h
    obtain ⟨ρ1, e1, h1, h2⟩ := h u (List.mem_cons_self ..)
    have et := run_eq h1
    have ih := fun acc => ih acc fun w m => h w (List.mem_cons_of_mem _ m)
    simp only [lcL, if_pos hc, e1, et, Res.bind]
    cases hp : p u with
    | false => rw [if_neg (by decide), ih, List.filter_cons_of_neg (by rw [hp]; decide)]
    | true =>
      have ee := run_eq (h2 hp)
      rw [if_pos rfl, ee, List.filter_cons_of_pos hp]
      simp only
      rw [ih]; simp
/-- .. all taken -/
theorem lc_all {chk : List U → Prop} {s : TgS} {elt : Ev U} (f : U → U) (hc : chk st) {us : List U} (h : ∀ u ∈ us, ∃ ρ1, tgU s u ρ = some ρ1 ∧ Run NoE (elt b ρ1 st) fun y st1 => y = f u ∧ st1 = st) {K : List U → List U → Prop} (hk : K (us.map f) st) :
    Run E (lcL chk s (fun _ _ st => .ok true st) elt us [] b ρ st) K := by
  rw [lc_map (t := fun _ _ st => .ok true st) (fun _ => true) f hc us [] fun u m => let ⟨ρ1, a, e⟩ := h u m; ⟨ρ1, a, And.intro (rfl : true = true) (rfl : st = st), fun _ => e⟩]
  rw [List.filter_eq_self.mpr fun _ _ => rfl, List.nil_append]
  exact hk
theorem lc_some {chk : List U → Prop} {s : TgS} {t : Ev Bool} {elt : Ev U} (p : U → Bool) (f : U → U) (hc : chk st) {us : List U} (h : ∀ u ∈ us, ∃ ρ1, tgU s u ρ = some ρ1 ∧ (Run NoE (t b ρ1 st) fun k st1 => k = p u ∧ st1 = st) ∧ (p u = true → Run NoE (elt b ρ1 st) fun y st1 => y = f u ∧ st1 = st)) {K : List U → List U → Prop} (hk : K ((us.filter p).map f) st) :
    Run E (lcL chk s t elt us [] b ρ st) K := by
  rw [lc_map p f hc us [] h, List.nil_append]
  exact hk
/-- a dict comprehension whose parts change nothing -/
theorem dc_map {chk : List U → Prop} {s : TgS} {t : Ev Bool} {fk fv : Ev U} (p : U → Bool) (f : U → Key) (g : U → U) (hc : chk st) (us : List U) : ∀ (acc : List Key × List U), (∀ u ∈ us, ∃ ρ1, tgU s u ρ = some ρ1 ∧ (Run NoE (t b ρ1 st) fun k st1 => k = p u ∧ st1 = st) ∧ (p u = true → (∃ y, toKey y = some (f u) ∧ Run NoE (fk b ρ1 st) fun y' st1 => y' = y ∧ st1 = st) ∧ Run NoE (fv b ρ1 st) fun y st1 => y = g u ∧ st1 = st)) →
    dcL chk s t fk fv us acc b ρ st = .ok (mergeU acc ((us.filter p).map fun u => (f u, g u))) st := by
  induction us with
  | nil => intro acc _; simp only [dcL, if_pos hc]; rfl
  | cons u us ih =>
    intro acc h
    obtain ⟨ρ1, e1, h1, h2⟩ := h u (List.mem_cons_self ..)
    have et := run_eq h1
    have ih := fun acc => ih acc fun w m => h w (List.mem_cons_of_mem _ m)
    simp only [dcL, if_pos hc, e1, et, Res.bind]
    cases hp : p u with
    | false => rw [if_neg (by decide), ih, List.filter_cons_of_neg (by rw [hp]; decide)]
    | true =>
      obtain ⟨y, ek, ee⟩ := (h2 hp).1
      have ee := run_eq ee
      have ez := run_eq (h2 hp).2
      rw [if_pos rfl, ee, List.filter_cons_of_pos hp]
      simp only [ez, ek]
      rw [ih]; rfl
@[simp] theorem tgU_nm {i : Nat} {u : U} : tgU (.nm i) u ρ = if i < ρ.length then some (ρ.set i (some u)) else none := by unfold tgU; rfl
@[simp] theorem tgU_tp {l : List TgS} {us : List U} : tgU (.tp l) (.tup us) ρ = tgUs l us ρ := by unfold tgU; rfl
@[simp] theorem tgUs_nil : tgUs [] [] ρ = some ρ := by unfold tgUs; rfl
@[simp] theorem tgUs_cons {t : TgS} {r : List TgS} {u : U} {us : List U} : tgUs (t :: r) (u :: us) ρ = (tgU t u ρ).bind fun ρ1 => tgUs r us ρ1 := by rw [tgUs]
@[simp] theorem wipe_nil : wipeE ρ [] = ρ := rfl
@[simp] theorem wipe_cons {v : Nat} {vs : List Nat} : wipeE ρ (v :: vs) = (wipeE ρ vs).set v none := rfl
@[simp] theorem mkK_no {head : List U → U} {Q : U → List U → Prop} {us : List U} : mkK false head Q us st = (noref us = true ∧ Q (head us) st) := by unfold mkK; rw [if_neg (by decide)]
@[simp] theorem mkK_yes {head : List U → U} {Q : U → List U → Prop} {us : List U} : mkK true head Q us st = Q (.ref st.length) (st ++ [head us]) := by unfold mkK; rw [if_pos rfl]
@[simp] theorem lcK_none {live : Bool} {Q : U → List U → Prop} {us : List U} : lcK live none Q us st = mkK live .lst Q us st := rfl
@[simp] theorem dcK_none {live : Bool} {Q : U → List U → Prop} {p : List Key × List U} : dcK live none Q p st = mkK live (.dct (p.1.map KK.a)) Q p.2 st := rfl
theorem noref_map {α : Type} {f : α → U} {l : List α} (h : ∀ a, (f a).isRef = false) : noref (l.map f) = true := by
  unfold noref; simp [h]
theorem noref_all {l : List U} (h : ∀ u ∈ l, u.isRef = false) : noref l = true := by
  unfold noref; simpa using h
theorem all_bl {l : List Bool} : (l.map U.bl).mapM U.bool? = some l := by
  induction l with
  | nil => rfl
  | cons c l ih => rw [List.map_cons, List.mapM_cons, ih]; rfl
theorem all_int {l : List Int} : (l.map U.int).mapM U.int? = some l := by
  induction l with
  | nil => rfl
  | cons c l ih => rw [List.map_cons, List.mapM_cons, ih]; rfl
theorem all_str {l : List Str} : (l.map U.str).mapM U.str? = some l := by
  induction l with
  | nil => rfl
  | cons c l ih => rw [List.map_cons, List.mapM_cons, ih]; rfl
theorem pAll_bl {f : List Bool → Bool} {l : List Bool} : pAll f b [.lst (l.map U.bl)] st = some (.bl (f l), st) := by
  simp only [pAll, lsAt, all_bl, Option.map_some]
end
end EV
namespace EV
open PySem PySem.Spec PyProof.Rows L2
section
variable {b : Nat} {st : List U}
@[simp] theorem int_i {i : Int} : pInt1 b [.int i] st = some (.int i, st) := rfl
@[simp] theorem int_b {c : Bool} : pInt1 b [.bl c] st = some (.int (if c then 1 else 0), st) := rfl
@[simp] theorem p2i_i {f : Int → Int → Int} {i j : Int} : p2i f b [.int i, .int j] st = some (.int (f i j), st) := rfl
@[simp] theorem abs_i {i : Int} : pAbs b [.int i] st = some (.int (if i < 0 then -i else i), st) := rfl
theorem divmod_i {E : U → List U → Prop} {Q : U → List U → Prop} {i j : Int} : Run E (ofO (pDivmod b [.int i, .int j] st)) Q = ((0 < j ∧ j < 1073741824) ∧ Q (.tup [.int (i / j), .int (i % j)]) st) := by
  simp only [pDivmod]
  by_cases h : 0 < j ∧ j < 1073741824
  · rw [if_pos h]; simp [h]
  · rw [if_neg h]; simp [h, ofO]
@[simp] theorem len_lst {us : List U} : pLen b [.lst us] st = some (.int us.length, st) := rfl
@[simp] theorem len_fl {us : List U} : pLen b [.fl us] st = some (.int us.length, st) := rfl
@[simp] theorem len_tup {us : List U} : pLen b [.tup us] st = some (.int us.length, st) := rfl
end
end EV
/-! ### dicts from texts to ints -/
namespace EV
open PySem PySem.Spec PyProof.Rows L2
section
variable {E : U → List U → Prop} {b : Nat} {st : List U} {ρ : En}
theorem fin_all {α : Type} {f : List Bool → Bool} {g : α → Bool} {l : List α} {Q : U → List U → Prop} : lcK false none (fun u st1 => Run E (ofO (pAll f b [u] st1)) Q) (l.map fun a => .bl (g a)) st = Q (.bl (f (l.map g))) st := by
  have e : (l.map fun a => U.bl (g a)) = (l.map g).map U.bl := by rw [List.map_map]; rfl
  have n : noref ((l.map g).map U.bl) = true := noref_map fun _ => rfl
  rw [lcK_none, mkK_no, e, pAll_bl, run_ofO, eq_true n, true_and]
end
end EV

set_option maxRecDepth 100000
/-! Ev4: dicts from texts to ints. -/
namespace EV
open PySem PySem.Spec PyProof.Rows L2 M
section
variable {E : U → List U → Prop} {b : Nat} {st : List U} {ρ : En} {l m : AL Str} {u : U} {k : Str} {v : Int}
def dks (l : AL Str) : List KK := l.map fun p => .a (.inr p.1)
def dkk (l : AL Str) : List Key := l.map fun p => .inr p.1
def dvs (l : AL Str) : List U := l.map fun p => .int p.2
/-- the dict as a tree -/
def D (l : AL Str) : U := .dct (dks l) (dvs l)
theorem dks_a : (dkk l).map KK.a = dks l := by unfold dkk dks; rw [List.map_map]; rfl
theorem kks_d : kks (dks l) = some (dkk l) := by
  induction l with
  | nil => rfl
  | cons p l ih =>
    unfold dks dkk kks at *
    rw [List.map_cons, List.mapM_cons, ih]; rfl
theorem simpleK_d : simpleK (dks l) = true := by unfold simpleK dks; simp
theorem kind_d : kindOk (dks l) (.a (.inr k)) = true := by unfold kindOk dks; simp
theorem dvs_len : (dvs l).length = l.length := by simp [dvs]
theorem dkk_len : (dkk l).length = l.length := by simp [dkk]
theorem noref_d : noref (dvs l) = true := noref_map fun _ => rfl
theorem kkget_d : kkget (dks l) (dvs l) (.a (.inr k)) = (look l k).map .int := by
  unfold kkget
  induction l with
  | nil => rfl
  | cons p l ih =>
    obtain ⟨j, w⟩ := p
    rw [look_cons]
    show ((((KK.a (.inr j), U.int w) :: (dks l).zip (dvs l)).find? fun p => decide (p.1 = .a (.inr k))).map (·.2)) = _
    rw [List.find?_cons]
    by_cases e : j = k
    · subst e; simp
    · rw [if_neg e]
      have : decide (KK.a (Sum.inr j) = KK.a (Sum.inr k)) = false := by simp [e]
      simp only [this]
      exact ih
theorem kget_d : kget (dkk l) (dvs l) (.inr k) = (look l k).map .int := by
  unfold kget
  induction l with
  | nil => rfl
  | cons p l ih =>
    obtain ⟨j, w⟩ := p
    rw [look_cons]
    show (((((Sum.inr j : Key), U.int w) :: (dkk l).zip (dvs l)).find? fun p => decide (p.1 = .inr k)).map (·.2)) = _
    rw [List.find?_cons]
    by_cases e : j = k
    · subst e; simp
    · rw [if_neg e]
      have : decide ((Sum.inr j : Key) = Sum.inr k) = false := by simp [e]
      simp only [this]
      exact ih
theorem kput_d (nd : (keys l).Nodup) : kput (dkk l) (dvs l) (.inr k) (.int v) = (dkk (put l k v), dvs (put l k v)) := by
  have hm : ((Sum.inr k : Key) ∈ dkk l) ↔ k ∈ keys l := by unfold dkk keys; simp
  unfold kput
  by_cases h : k ∈ keys l
  · rw [if_pos (hm.mpr h)]
    have key : ∀ l : AL Str, (keys l).Nodup → k ∈ keys l → dkk (put l k v) = dkk l ∧ List.zipWith (fun k' w => if k' = (Sum.inr k : Key) then U.int v else w) (dkk l) (dvs l) = dvs (put l k v) := by
      intro l
      induction l with
      | nil => intro _ h; cases h
      | cons p l ih =>
        obtain ⟨j, w⟩ := p
        intro nd h
        have nd' : j ∉ keys l ∧ (keys l).Nodup := List.nodup_cons.mp nd
        by_cases e : j = k
        · subst e
          unfold put
          rw [if_pos rfl]
          refine ⟨rfl, ?_⟩
          show (if (Sum.inr j : Key) = Sum.inr j then U.int v else U.int w) :: List.zipWith _ (dkk l) (dvs l) = U.int v :: dvs l
          rw [if_pos rfl]
          congr 1
          have : ∀ l : AL Str, j ∉ keys l → List.zipWith (fun k' w => if k' = (Sum.inr j : Key) then U.int v else w) (dkk l) (dvs l) = dvs l := by
            intro l
            induction l with
            | nil => intro _; rfl
            | cons q l ih2 =>
              intro hn
              show (if (Sum.inr q.1 : Key) = Sum.inr j then U.int v else U.int q.2) :: List.zipWith _ (dkk l) (dvs l) = U.int q.2 :: dvs l
              rw [if_neg (fun z => hn (by rw [← Sum.inr.inj z]; exact List.mem_cons_self ..)), ih2 fun z => hn (List.mem_cons_of_mem _ z)]
          exact this l nd'.1
        · unfold put
          rw [if_neg e]
          have h2 : k ∈ keys l := by
            rcases List.mem_cons.mp h with h | h
            · exact absurd h.symm e
            · exact h
          obtain ⟨i1, i2⟩ := ih nd'.2 h2
          refine ⟨?_, ?_⟩
          · show (Sum.inr j : Key) :: dkk (put l k v) = Sum.inr j :: dkk l
            rw [i1]
          · show (if (Sum.inr j : Key) = Sum.inr k then U.int v else U.int w) :: List.zipWith _ (dkk l) (dvs l) = U.int w :: dvs (put l k v)
            rw [if_neg (fun z => e (Sum.inr.inj z)), i2]
    obtain ⟨k1, k2⟩ := key l nd h
    rw [k1, k2]
  · rw [if_neg fun z => h (hm.mp z), put_new h]
    simp [dkk, dvs]
/-- entries, one behind the other -/
theorem mergeU_d {ps : AL Str} : ∀ {l : AL Str}, (keys l).Nodup → mergeU (dkk l, dvs l) (ps.map fun p => ((Sum.inr p.1 : Key), U.int p.2)) = (dkk (puts l ps), dvs (puts l ps)) := by
  induction ps with
  | nil => intro l _; rfl
  | cons p ps ih =>
    intro l nd
    show mergeU (kput (dkk l) (dvs l) (.inr p.1) (.int p.2)) _ = _
    rw [kput_d nd, ih (nodup_put nd)]
    rfl
theorem merge_new {ps : AL Str} (nd : (keys ps).Nodup) : mergeU ([], []) (ps.map fun p => ((Sum.inr p.1 : Key), U.int p.2)) = (dkk ps, dvs ps) := by
  have := mergeU_d (ps := ps) (l := []) (by simp [keys])
  rw [puts_new (by simpa using nd), List.nil_append] at this
  exact this
theorem zip_d : (dkk l).zip (dvs l) = l.map fun p => ((Sum.inr p.1 : Key), U.int p.2) := by
  unfold dkk dvs
  rw [List.zip_map']
/-! ### where a dict is seen -/
def Dk (u : U) (st : List U) (l : AL Str) : Prop := u = D l ∨ ∃ n, u = .ref n ∧ st[n]? = some (D l)
theorem Dk.tree : Dk (D l) st l := .inl rfl
theorem Dk.at (h : Dk u st l) : dctAt u st = some (dks l, dvs l) := by
  rcases h with rfl | ⟨n, rfl, e⟩
  · rfl
  · unfold dctAt; simp only [e, D]
theorem Dk.noIns (h : Dk u st l) : insCls u st = none := by
  rcases h with rfl | ⟨n, rfl, e⟩
  · rfl
  · unfold insCls; simp only [e, D]
/-- a walk that is sure -/
structure Wk (iv : IV) (st : List U) (us : List U) : Prop where
  us : iv.us = us
  chk : iv.chk (lck iv.lk st)
  unl : unl iv.lk (lck iv.lk st) = some st
theorem lck_get {n j : Nat} (h : n ≠ j) : (lck (some n) st)[j]? = st[j]? := by
  simp only [lck]
  split
  · rw [List.getElem?_set_ne h]
  · rfl
theorem lock_d {n : Nat} (e : st[n]? = some (D l)) : (lck (some n) st)[n]? = some (.lkd (dks l) (dvs l)) ∧ unl (some n) (lck (some n) st) = some st := by
  have hl := (List.getElem?_eq_some_iff.mp e).1
  have e2 : lck (some n) st = st.set n (.lkd (dks l) (dvs l)) := by simp only [lck, e, D]
  rw [e2]
  refine ⟨List.getElem?_set_self hl, ?_⟩
  simp only [EV.unl]
  rw [List.getElem?_set_self hl]
  simp only [List.set_set]
  congr 1
  apply List.ext_getElem?
  intro j
  by_cases hj : n = j
  · subst hj; rw [List.getElem?_set_self hl, e]; rfl
  · rw [List.getElem?_set_ne hj]
theorem Dk.items (h : Dk u st l) : ∃ iv, itemsOf u st = some iv ∧ Wk iv st (l.map fun p => .tup [.str p.1, .int p.2]) ∧ dctAt u (lck iv.lk st) = some (dks l, dvs l) := by
  have ez : List.zipWith (fun k u => U.tup [ofKK k, u]) (dks l) (dvs l) = l.map fun p => .tup [.str p.1, .int p.2] := by
    unfold dks dvs
    rw [List.zipWith_map_left, List.zipWith_map_right, List.zipWith_self]
    rfl
  rcases h with rfl | ⟨n, rfl, e⟩
  · refine ⟨⟨_, fun _ => True, none⟩, by simp only [itemsOf, D, simpleK_d, if_true], ⟨ez, trivial, rfl⟩, rfl⟩
  · obtain ⟨e1, e2⟩ := lock_d e
    have e0 : itemsOf (.ref n) st = some ⟨List.zipWith (fun k u => U.tup [ofKK k, u]) (dks l) (dvs l), fun st' => st'[n]? = some (.lkd (dks l) (dvs l)), some n⟩ := by
      unfold D at e
      simp only [itemsOf, e]
      rw [if_pos ⟨simpleK_d, noref_d⟩]
    exact ⟨_, e0, ⟨ez, e1, e2⟩, by simp only [dctAt, e1]⟩
theorem Dk.iter (h : Dk u st l) : ∃ iv, iterOf u st = some iv ∧ Wk iv st (l.map fun p => .str p.1) ∧ dctAt u (lck iv.lk st) = some (dks l, dvs l) ∧ insCls u (lck iv.lk st) = none := by
  have ez : (dks l).map ofKK = l.map fun p => .str p.1 := by unfold dks; rw [List.map_map]; rfl
  rcases h with rfl | ⟨n, rfl, e⟩
  · exact ⟨⟨_, fun _ => True, none⟩, rfl, ⟨ez, trivial, rfl⟩, rfl, rfl⟩
  · obtain ⟨e1, e2⟩ := lock_d e
    have e0 : iterOf (.ref n) st = some ⟨(dks l).map ofKK, fun st' => st'[n]? = some (.lkd (dks l) (dvs l)), some n⟩ := by
      unfold D at e
      simp only [iterOf, e]
    exact ⟨_, e0, ⟨ez, e1, e2⟩, by simp only [dctAt, e1], by simp only [insCls, e1]⟩
/-- a list made of a walk whose parts change nothing -/
theorem lc_walk {α : Type} {iv : IV} {live : Bool} {s : TgS} {t : Ev Bool} {elt : Ev U} {l : List α} {g : α → U} (p : α → Bool) (f : α → U) (W : Wk iv st (l.map g)) {Q : U → List U → Prop}
    (h : ∀ a ∈ l, ∃ ρ1, tgU s (g a) ρ = some ρ1 ∧ (Run NoE (t b ρ1 (lck iv.lk st)) fun k st1 => k = p a ∧ st1 = lck iv.lk st) ∧ (p a = true → Run NoE (elt b ρ1 (lck iv.lk st)) fun y st1 => y = f a ∧ st1 = lck iv.lk st))
    (hk : mkK live .lst Q ((l.filter p).map f) st) : Run E (lcL iv.chk s t elt iv.us [] b ρ (lck iv.lk st)) (lcK live iv.lk Q) := by
  have key : ∀ (l : List α) (acc : List U), (∀ a ∈ l, ∃ ρ1, tgU s (g a) ρ = some ρ1 ∧ (Run NoE (t b ρ1 (lck iv.lk st)) fun k st1 => k = p a ∧ st1 = lck iv.lk st) ∧ (p a = true → Run NoE (elt b ρ1 (lck iv.lk st)) fun y st1 => y = f a ∧ st1 = lck iv.lk st)) →
      lcL iv.chk s t elt (l.map g) acc b ρ (lck iv.lk st) = .ok (acc ++ (l.filter p).map f) (lck iv.lk st) := by
    intro l
    induction l with
    | nil => intro acc _; simp only [List.map_nil, lcL, if_pos W.chk]; simp
    | cons a l ih =>
      intro acc h
      obtain ⟨ρ1, e1, h1, h2⟩ := h a (List.mem_cons_self ..)
      have et := run_eq h1
      have ih := fun acc => ih acc fun w m => h w (List.mem_cons_of_mem _ m)
      simp only [List.map_cons, lcL, if_pos W.chk, e1, et, Res.bind]
      cases hp : p a with
      | false => rw [if_neg (by decide), ih, List.filter_cons_of_neg (by rw [hp]; decide)]
      | true =>
        have ee := run_eq (h2 hp)
        rw [if_pos rfl, ee, List.filter_cons_of_pos hp]
        simp only
        rw [ih]; simp
  rw [W.us, key l [] h, run_ok]
  unfold lcK
  rw [W.unl]
  simpa using hk
theorem lc_walkA {α : Type} {iv : IV} {live : Bool} {s : TgS} {elt : Ev U} {l : List α} {g : α → U} (f : α → U) (W : Wk iv st (l.map g)) {Q : U → List U → Prop}
    (h : ∀ a ∈ l, ∃ ρ1, tgU s (g a) ρ = some ρ1 ∧ Run NoE (elt b ρ1 (lck iv.lk st)) fun y st1 => y = f a ∧ st1 = lck iv.lk st)
    (hk : mkK live .lst Q (l.map f) st) : Run E (lcL iv.chk s (fun _ _ st => .ok true st) elt iv.us [] b ρ (lck iv.lk st)) (lcK live iv.lk Q) :=
  lc_walk (t := fun _ _ st => .ok true st) (fun _ => true) f W (fun a m => let ⟨ρ1, x, y⟩ := h a m; ⟨ρ1, x, And.intro (rfl : true = true) rfl, fun _ => y⟩) (by rw [List.filter_eq_self.mpr fun _ _ => rfl]; exact hk)
theorem all_mk {α : Type} {f : List Bool → Bool} {g : α → Bool} {l : List α} {Q : U → List U → Prop} (h : Q (.bl (f (l.map g))) st) : mkK false .lst (fun u st1 => Run E (ofO (pAll f b [u] st1)) Q) (l.map fun a => .bl (g a)) st := by
  have := fin_all (E := E) (b := b) (st := st) (f := f) (g := g) (l := l) (Q := Q)
  rw [lcK_none] at this
  rw [this]; exact h
/-- a dict made, its parts changing nothing -/
theorem dc_all {α : Type} {chk : List U → Prop} {s : TgS} {fk fv : Ev U} {l : List α} {g : α → U} (f : α → Key) (h : α → U) (hc : chk st) {K : List Key × List U → List U → Prop}
    (hp : ∀ a ∈ l, ∃ ρ1, tgU s (g a) ρ = some ρ1 ∧ (∃ y, toKey y = some (f a) ∧ Run NoE (fk b ρ1 st) fun y' st1 => y' = y ∧ st1 = st) ∧ Run NoE (fv b ρ1 st) fun y st1 => y = h a ∧ st1 = st)
    (hk : K (mergeU ([], []) (l.map fun a => (f a, h a))) st) : Run E (dcL chk s (fun _ _ st => .ok true st) fk fv (l.map g) ([], []) b ρ st) K := by
  have key : ∀ (l : List α) (acc : List Key × List U), (∀ a ∈ l, ∃ ρ1, tgU s (g a) ρ = some ρ1 ∧ (∃ y, toKey y = some (f a) ∧ Run NoE (fk b ρ1 st) fun y' st1 => y' = y ∧ st1 = st) ∧ Run NoE (fv b ρ1 st) fun y st1 => y = h a ∧ st1 = st) →
      dcL chk s (fun _ _ st => .ok true st) fk fv (l.map g) acc b ρ st = .ok (mergeU acc (l.map fun a => (f a, h a))) st := by
    intro l
    induction l with
    | nil => intro acc _; simp only [List.map_nil, dcL, if_pos hc]; rfl
    | cons a l ih =>
      intro acc hp
      obtain ⟨ρ1, e1, ⟨y, ek, ee⟩, ez⟩ := hp a (List.mem_cons_self ..)
      have ee := run_eq ee
      have ez := run_eq ez
      have ih := fun acc => ih acc fun w m => hp w (List.mem_cons_of_mem _ m)
      simp only [List.map_cons, dcL, if_pos hc, e1, Res.bind]
      rw [if_pos trivial, ee]
      simp only [ez, ek]
      rw [ih]; rfl
  rw [key l _ hp]
  exact hk
theorem sorts_str : Sorts sortStr (fun a c => leS a c = true) := ⟨fun l => List.mergeSort_perm l leS, fun l => List.pairwise_mergeSort leS_trans leS_total l, leS_anti⟩
theorem sorted_str {live : Bool} {xs : List Str} {st : List U} (h : xs.length < 64) : pSorted live b [.lst (xs.map .str)] st = mk live .lst ((sortStr xs).map .str) st := by
  simp only [pSorted, lsAt, all_str, if_pos h]
theorem sorted_dk {live : Bool} (hd : Dk u st l) (h : l.length < 64) : pSorted live b [u] st = mk live .lst ((sortStr (keys l)).map .str) st := by
  have e1 : lsAt u st = none := by
    rcases hd with rfl | ⟨n, rfl, e⟩
    · rfl
    · unfold D at e; simp only [lsAt, e]
  have e2 : (dkk l).mapM keyS = some (keys l) := by
    clear hd h e1
    unfold dkk keys
    induction l with
    | nil => rfl
    | cons p l ih => rw [List.map_cons, List.mapM_cons, ih]; rfl
  simp only [pSorted, e1, hd.at, kks_d, e2]
  rw [if_pos (by simpa [keys] using h)]
/-! ### reading -/
variable (T : Tab) (fn : Nat → Fn)
theorem ix_d {Q : U → List U → Prop} (h0 : insCls u st = none) (h2 : dctAt u st = some (dks l, dvs l)) (hk : k ∈ keys l) : Run E (tIxW T fn b u (.str k) st) Q = Q (.int (M.get l k)) st := by
  rw [ix_k T fn h0 h2 (w := .str k) (k := .a (.inr k)) rfl kind_d, kkget_d, look_some hk]; rfl
@[simp] theorem find_get {p : String → Bool} : (bmTs ("get" : Str)).find? p = if p "dict" = true then some "dict" else none := by
  rw [show bmTs ("get" : Str) = ["dict"] from by decide]
  simp only [List.find?_cons, List.find?_nil]
  cases p "dict" <;> rfl
@[simp] theorem find_pop {p : String → Bool} : (bmTs ("pop" : Str)).find? p = if p "dict" = true then some "dict" else none := by
  rw [show bmTs ("pop" : Str) = ["dict"] from by decide]
  simp only [List.find?_cons, List.find?_nil]
  cases p "dict" <;> rfl
@[simp] theorem find_clear {p : String → Bool} : (bmTs ("clear" : Str)).find? p = if p "dict" = true then some "dict" else none := by
  rw [show bmTs ("clear" : Str) = ["dict"] from by decide]
  simp only [List.find?_cons, List.find?_nil]
  cases p "dict" <;> rfl
@[simp] theorem find_append {p : String → Bool} : (bmTs ("append" : Str)).find? p = if p "list" = true then some "list" else none := by
  rw [show bmTs ("append" : Str) = ["list"] from by decide]
  simp only [List.find?_cons, List.find?_nil]
  cases p "list" <;> rfl
theorem Dk.ty (h : Dk u st l) : tyU "dict" u st = true := by
  rcases h with rfl | ⟨n, rfl, e⟩
  · rfl
  · unfold D at e; simp only [tyU, e]; rfl
theorem pBm_get : pBm ("get" : Str) "dict" = pGetD := by unfold pBm; rw [if_pos ⟨rfl, rfl⟩]
theorem pBm_pop : pBm ("pop" : Str) "dict" = pPopD := by unfold pBm; rw [if_neg (by decide), if_pos ⟨rfl, rfl⟩]
theorem pBm_clear : pBm ("clear" : Str) "dict" = pClear := by unfold pBm; rw [if_neg (by decide), if_neg (by decide), if_pos ⟨rfl, rfl⟩]
theorem pBm_append : pBm ("append" : Str) "list" = pAppend := by unfold pBm; rw [if_neg (by decide), if_neg (by decide), if_neg (by decide), if_pos ⟨rfl, rfl⟩]
/-- d.get(k, 0) -/
theorem get_d {Q : U → List U → Prop} (h2 : dctAt u st = some (dks l, dvs l)) : Run E (ofO (pBm ("get" : Str) "dict" b u [.str k, .int 0] st)) Q = Q (.int (M.get l k)) st := by
  rw [pBm_get]
  simp only [pGetD, h2, toKK, kind_d, if_true, kkget_d]
  unfold M.get
  cases look l k <;> rfl
end
end EV
namespace EV
open PySem PySem.Spec PyProof.Rows L2 M
section
variable {E : U → List U → Prop} {b : Nat} {st : List U} {ρ : En} {l m : AL Str} {u w : U} {k : Str} {v : Int}
theorem dict_dk {live : Bool} (hd : Dk u st l) : pDictOf live b [u] st = mk live (.dct (dks l)) (dvs l) st := by
  simp only [pDictOf, hd.at, kks_d, dks_a]
theorem vals_dk (hd : Dk u st l) : valsAt u st = some (dvs l) := by simp only [valsAt, hd.at, kks_d]
theorem sum_ints {ns : List Int} : pSum b [.lst (ns.map .int)] st = some (.int ns.sum, st) := by
  simp only [pSum, lsAt, all_int, Option.map_some]
theorem dvs_map : dvs l = (l.map (·.2)).map .int := by unfold dvs; rw [List.map_map]; rfl
theorem lst_dk {live : Bool} (hd : Dk u st l) : pListOf live b [u] st = mk live .lst ((keys l).map .str) st := by
  have e1 : sqAt u st = none := by
    rcases hd with rfl | ⟨n, rfl, e⟩
    · rfl
    · unfold D at e; simp only [sqAt, e]
  have e2 : (dkk l).map ofKey = (keys l).map .str := by unfold dkk keys; rw [List.map_map, List.map_map]; rfl
  simp only [pListOf, e1, hd.at, kks_d, e2]
theorem items_zip : List.zipWith (fun k u => U.tup [ofKK k, u]) (dks l) (dvs l) = l.map fun p => .tup [.str p.1, .int p.2] := by
  unfold dks dvs
  rw [List.zipWith_map_left, List.zipWith_map_right, List.zipWith_self]
  rfl
/-- dict(a list of pairs) -/
theorem dict_pairs {live : Bool} (ps : AL Str) : pDictOf live b [.lst (ps.map fun p => .tup [.str p.1, .int p.2])] st = mk live (.dct (dks (puts [] ps))) (dvs (puts [] ps)) st := by
  have e1 : (ps.map fun p => U.tup [.str p.1, .int p.2]).mapM toPair = some (ps.map fun p => ((Sum.inr p.1 : Key), U.int p.2)) := by
    induction ps with
    | nil => rfl
    | cons p ps ih => rw [List.map_cons, List.mapM_cons, ih]; rfl
  have e2 := mergeU_d (ps := ps) (l := []) (by simp [keys])
  have e2 : mergeU ([], []) (ps.map fun p => ((Sum.inr p.1 : Key), U.int p.2)) = (dkk (puts [] ps), dvs (puts [] ps)) := e2
  simp only [pDictOf, dctAt, lsAt, e1, e2, dks_a]
/-- d[k] = v -/
theorem set_d {n : Nat} (hl : st[n]? = some (D l)) (nd : (keys l).Nodup) (hz : l.length < sizeLine) : pSetI b (.ref n) (.str k) (.int v) st = some (st.set n (D (put l k v))) := by
  unfold D at hl
  have hz' : (dks l).length < sizeLine := by simpa [dks] using hz
  simp only [pSetI, U.isRef, or_true, if_true, hl, kks_d, toKey, kput_d nd, hz', dks_a]
  rfl
/-! ### dicts compared -/
def deq (l m : AL Str) : Bool := decide (l.length = m.length) && l.all fun p => match look m p.1 with
  | some v => decide (p.2 = v)
  | none => false
theorem hits_d : ∀ l : AL Str, hitsU (dkk m) (dvs m) (dkk l) (dvs l) = some (l.all fun p => match look m p.1 with
  | some v => decide (p.2 = v)
  | none => false)
  | [] => rfl
  | p :: l => by
    show hitsU (dkk m) (dvs m) ((Sum.inr p.1 : Key) :: dkk l) (U.int p.2 :: dvs l) = _
    rw [hitsU, kget_d, List.all_cons]
    cases e : look m p.1 with
    | none => simp
    | some v =>
      simp only [Option.map_some, pd]
      rw [if_pos ⟨rfl, rfl⟩, hits_d l]
      simp only [Option.map_some]
      congr 1
theorem dEq_d (hu : Dk u st l) (hw : Dk w st m) : dEq u w st = some (deq l m) := by
  simp only [dEq, hu.at, hw.at, kks_d, dkk_len]
  unfold deq
  by_cases h : l.length = m.length
  · rw [if_pos h, hits_d]; simp [h]
  · rw [if_neg h]; simp [h]
variable (T : Tab) (fn : Nat → Fn)
theorem dd_eq {Q : U → List U → Prop} (hu : Dk u st l) (hw : Dk w st m) : Run E (tCmp T fn .Eq b u w st) Q = Q (.bl (deq l m)) st := by
  simp only [tCmp, hu.noIns, hw.noIns, pCmp, pEq_c _ (dEq_d hu hw)]
  cases deq l m <;> rfl
theorem dd_ne {Q : U → List U → Prop} (hu : Dk u st l) (hw : Dk w st m) : Run E (tCmp T fn .NotEq b u w st) Q = Q (.bl (!deq l m)) st := by
  simp only [tCmp, hu.noIns, hw.noIns, pCmp, pEq_c _ (dEq_d hu hw)]
  cases deq l m <;> rfl
theorem deq_refl (nd : (keys l).Nodup) : deq l l = true := by
  unfold deq
  rw [Bool.and_eq_true]
  refine ⟨by simp, List.all_eq_true.mpr fun p hp => ?_⟩
  rw [look_some (List.mem_map.mpr ⟨p, hp, rfl⟩), get_mem nd hp]
  simp
end
end EV
namespace EV
open PySem PySem.Spec PyProof.Rows L2 M
section
variable {E : U → List U → Prop} {b : Nat} {st : List U} {ρ : En} {l m : AL Str} {u w : U} {k : Str} {v : Int}
/-- a call that leaves the store as it was -/
theorem call_app {F : Fn} {us : List U} (h : Run NoE (F st.length us st) fun u st' => u = w ∧ ∃ ex, st' = st ++ ex) (hv : w.isRef = false) : callM false F b us st = .ok w st := by
  obtain ⟨a, s, e, rfl, ex, rfl⟩ := run_ex h
  rw [callM_no, e]
  simp only [leave, frz_tree hv]
  simp
/-! ### texts of dicts -/
def dat (l : AL Str) : PyData := .dict (l.map fun p => (.str p.1, .int p.2))
def sh (l : AL Str) : Str := (dat l).shown
theorem pq_D {n : Nat} : pq (n + 2) st (D l) = some (dat l) := by
  have e : ∀ l : AL Str, (dvs l).mapM (pq (n + 1) st) = some (l.map fun p => PyData.int p.2) := by
    intro l
    induction l with
    | nil => rfl
    | cons p l ih =>
      unfold dvs at *
      rw [List.map_cons, List.mapM_cons, ih]; rfl
  have hl : lsAt (D l) st = none := rfl
  have ht : tpAt (D l) = none := rfl
  have hd : dctAt (D l) st = some (dks l, dvs l) := rfl
  unfold pq
  simp only [D]
  have hl : lsAt (.dct (dks l) (dvs l)) st = none := rfl
  have ht : tpAt (.dct (dks l) (dvs l)) = none := rfl
  have hd : dctAt (.dct (dks l) (dvs l)) st = some (dks l, dvs l) := rfl
  simp only [hl, ht, hd, kks_d, e, Option.map_some]
  unfold dat dkk
  rw [List.map_map, List.zip_map']
  rfl
theorem show_D (nm : ∀ p ∈ l, p.1.cps.size ≤ 6 ∧ ∀ c ∈ p.1.cps.toList, c ≤ 122) (sm : ∀ p ∈ l, p.2.natAbs < 10 ^ 30) (hl : l.length ≤ 1000) : showU st (D l) = some (sh l) ∧ (sh l).length ≤ 400000 := by
  have key : ∀ l : AL Str, (∀ p ∈ l, p.1.cps.size ≤ 6 ∧ ∀ c ∈ p.1.cps.toList, c ≤ 122) → (∀ p ∈ l, p.2.natAbs < 10 ^ 30) →
      PyData.showableKv (l.map fun p => (.str p.1, .int p.2)) = true ∧ noLstKv (l.map fun p => (.str p.1, .int p.2)) = true ∧ PyData.depthKv (l.map fun p => (.str p.1, .int p.2)) = 0 ∧ PyData.leavesShortKv 40 (l.map fun p => (.str p.1, .int p.2)) = true ∧ PyData.bulkKv (l.map fun p => (.str p.1, .int p.2)) ≤ 8 * l.length := by
    intro l
    induction l with
    | nil => intro _ _; exact ⟨rfl, rfl, rfl, rfl, Nat.le_refl _⟩
    | cons p l ih =>
      intro nm sm
      obtain ⟨i1, i2, i3, i4, i5⟩ := ih (fun q mq => nm q (List.mem_cons_of_mem _ mq)) fun q mq => sm q (List.mem_cons_of_mem _ mq)
      obtain ⟨n1, n2⟩ := nm p (List.mem_cons_self ..)
      have s1 := sm p (List.mem_cons_self ..)
      have h2 : p.2.natAbs.log2 < 1920 := by
        rcases Nat.eq_zero_or_pos p.2.natAbs with z | z
        · rw [z]; decide
        · have := Nat.log2_self_le (Nat.pos_iff_ne_zero.mp z)
          rcases Nat.lt_or_ge p.2.natAbs.log2 1920 with h | h
          · exact h
          · have h3 : 2 ^ 1920 ≤ 2 ^ p.2.natAbs.log2 := Nat.pow_le_pow_right (by decide) h
            have h4 : (10 : Nat) ^ 30 < 2 ^ 1920 := by decide +kernel
            omega
      have h3 : (PyData.shown (.int p.2)).length ≤ 40 := by
        have e := int_text_length_le10 (k := 30) (by decide) s1
        show (Str.ofString (toString p.2)).length ≤ 40
        rw [PySem.ofString_length]; omega
      refine ⟨?_, ?_, ?_, ?_, ?_⟩
      · simp only [List.map_cons, PyData.showableKv, PyData.showable, Bool.true_and, i1, Bool.and_true, decide_eq_true_eq]; exact h2
      · simp only [List.map_cons, noLstKv, noLst, i2, Bool.and_self]
      · simp only [List.map_cons, PyData.depthKv, PyData.depth, i3]; rfl
      · simp only [List.map_cons, PyData.leavesShortKv, PyData.leavesShort, i4, Bool.and_true, Bool.and_eq_true, decide_eq_true_eq, List.all_eq_true]
        exact ⟨fun c hc => by have := n2 c hc; have : (122 : Nat) < 16 ^ 8 := by decide
                              omega, h3⟩
      · simp only [List.map_cons, PyData.bulkKv, PyData.bulk, List.length_cons]; omega
  obtain ⟨k1, k2, k3, k4, k5⟩ := key l nm sm
  have hb : (dat l).shown.length ≤ 42 * (8 * 1000) + 40 := by
    have := PyData.shown_le_bulk 40 (by decide) (dat l) (by unfold dat PyData.leavesShort; exact k4)
    have h2 : (dat l).bulk ≤ 8 * 1000 := by unfold dat PyData.bulk; omega
    omega
  refine ⟨?_, by unfold sh; omega⟩
  have e : pq 9 st (D l) = some (dat l) := pq_D
  simp only [showU, e]
  rw [if_pos]
  · rfl
  · refine ⟨by unfold dat PyData.showable; exact k1, .inr (by unfold dat noLst; exact k2), by rw [sizeLine_eq]; omega, by unfold dat PyData.depth; rw [k3]; decide⟩
/-! ### lists of pairs, compared -/
theorem eqv_pairs : ∀ l : AL Str, PyData.eqvAll (l.map fun p => .tuple [.str p.1, .int p.2]) (l.map fun p => .tuple [.str p.1, .int p.2]) = true
  | [] => rfl
  | p :: l => by
    rw [List.map_cons, PyData.eqvAll, eqv_pairs l]
    simp [PyData.eqv, PyData.eqvAll]
theorem pds_pairs : ∀ l : AL Str, pds (l.map fun p => .tup [.str p.1, .int p.2]) = some (l.map fun p => .tuple [.str p.1, .int p.2])
  | [] => rfl
  | p :: l => by
    rw [List.map_cons, pds, pds_pairs l]; rfl
theorem lay_pairs : ∀ l : AL Str, (∀ p ∈ l, PyData.strOk p.1 = true) → PyData.canLayAll0 (l.map fun p => .tuple [.str p.1, .int p.2]) = true ∧ PyData.depthAll (l.map fun p => .tuple [.str p.1, .int p.2]) ≤ 1
  | [], _ => ⟨rfl, by decide⟩
  | p :: l, h => by
    obtain ⟨i1, i2⟩ := lay_pairs l fun q m => h q (List.mem_cons_of_mem _ m)
    have h1 := h p (List.mem_cons_self ..)
    refine ⟨?_, ?_⟩
    · simp only [List.map_cons, PyData.canLayAll0, PyData.canLay0, h1, i1, Bool.and_self]
    · simp only [List.map_cons, PyData.depthAll, PyData.depth]; omega
variable (T : Tab) (fn : Nat → Fn)
theorem pairs_ne {Q : U → List U → Prop} (h : ∀ p ∈ l, PyData.strOk p.1 = true) : Run E (tCmp T fn .NotEq b (.lst (l.map fun p => .tup [.str p.1, .int p.2])) (.lst (l.map fun p => .tup [.str p.1, .int p.2])) st) Q = Q (.bl false) st := by
  obtain ⟨h1, h2⟩ := lay_pairs l h
  have e : pdAt (.lst (l.map fun p => .tup [.str p.1, .int p.2])) st = some (.list (l.map fun p => .tuple [.str p.1, .int p.2])) := by
    simp only [pdAt, pd, pds_pairs, Option.map_some]
  have s : SeqAt.shaped (.list (l.map fun p => PyData.tuple [.str p.1, .int p.2])) = true := by
    unfold SeqAt.shaped
    rw [Bool.and_eq_true, decide_eq_true_eq]
    exact ⟨by unfold PyData.canLay0; exact h1, by unfold PyData.depth; omega⟩
  rw [d_ne T fn rfl rfl rfl e e s s]
  simp only [PyData.eqv, eqv_pairs, Bool.not_true]
theorem pds_ints : ∀ ns : List Int, pds (ns.map .int) = some (ns.map .int)
  | [] => rfl
  | n :: ns => by rw [List.map_cons, pds, pds_ints ns]; rfl
theorem lay_ints : ∀ ns : List Int, PyData.canLayAll0 (ns.map .int) = true ∧ PyData.depthAll (ns.map .int) = 0
  | [] => ⟨rfl, rfl⟩
  | n :: ns => by
    obtain ⟨i1, i2⟩ := lay_ints ns
    exact ⟨by simp only [List.map_cons, PyData.canLayAll0, PyData.canLay0, i1, Bool.and_self], by simp only [List.map_cons, PyData.depthAll, PyData.depth, i2]; rfl⟩
theorem eqv_ints : ∀ ns ms : List Int, PyData.eqvAll (ns.map .int) (ms.map .int) = decide (ns = ms)
  | [], [] => rfl
  | [], _ :: _ => rfl
  | _ :: _, [] => rfl
  | n :: ns, m :: ms => by
    rw [List.map_cons, List.map_cons, PyData.eqvAll, eqv_ints ns ms]
    simp only [PyData.eqv, List.cons.injEq]
    by_cases h : n = m <;> simp [h]
theorem ints_ne {Q : U → List U → Prop} {ns ms : List Int} : Run E (tCmp T fn .NotEq b (.lst (ns.map .int)) (.lst (ms.map .int)) st) Q = Q (.bl (!decide (ns = ms))) st := by
  have e : ∀ ns : List Int, pdAt (.lst (ns.map .int)) st = some (.list (ns.map .int)) := fun ns => by simp only [pdAt, pd, pds_ints, Option.map_some]
  have s : ∀ ns : List Int, SeqAt.shaped (.list (ns.map PyData.int)) = true := fun ns => by
    unfold SeqAt.shaped
    rw [Bool.and_eq_true, decide_eq_true_eq]
    exact ⟨by unfold PyData.canLay0; exact (lay_ints ns).1, by unfold PyData.depth; rw [(lay_ints ns).2]; decide⟩
  rw [d_ne T fn rfl rfl rfl (e ns) (e ms) (s ns) (s ms)]
  simp only [PyData.eqv, eqv_ints]
/-- d.pop(k, None), of a dict that may change -/
theorem pop_d {n : Nat} {Q : U → List U → Prop} (h : st[n]? = some (D l)) (hQ : ∀ u o, Q u (st.set n o)) (hQ2 : Q .non st) : Run E (ofO (pBm ("pop" : Str) "dict" b (.ref n) [.str k, .non] st)) Q := by
  rw [pBm_pop]
  unfold D at h
  simp only [pPopD, lvD, h, kks_d, Option.map_some, toKey]
  cases kget (dkk l) (dvs l) (.inr k) with
  | none => exact hQ2
  | some z => exact hQ _ _
theorem str_app {x y : Str} : (x ++ y).length = x.length + y.length := by
  show (x.cps ++ y.cps).size = _
  rw [Array.size_append]; rfl
theorem set_app {o o' : U} {s : List U} : (s ++ [o]).set s.length o' = s ++ [o'] := by simp
theorem ints_dvs : (dvs l).mapM U.int? = some (l.map (·.2)) := by rw [dvs_map, all_int]
theorem noref_items : noref (l.map fun p => U.tup [.str p.1, .int p.2]) = true := noref_map fun _ => rfl
end
end EV

set_option maxRecDepth 100000
/-! the cores of K21; printed by cores.sh -/
namespace K21
open PySem PySem.Spec PyProof.Rows L2 EV
/-- "is_integer" -/
def b0 : S :=
  (.seq (.ret (.and_ (.bf false "isinstance" [(.v 0), (.g "int")]) (.not_ (.bf false "isinstance" [(.v 0), (.g "bool")]))))
  .nil)
/-- "is_count" -/
def b1 : S :=
  (.seq (.ret (.and_ (.call false 0 1 0 [.inl 0] [(.v 0)] []) (.cmp .GtE (.v 0) (.k (.int 0)))))
  .nil)
/-- "is_name" -/
def b2 : S :=
  (.seq (.ife (.or_ (.not_ (.bf false "isinstance" [(.v 0), (.g "str")])) (.not_ (.chain .LtE .LtE (.k (.int 1)) (.bf false "len" [(.v 0)]) (.g "MOST_LETTERS")))) (.seq (.ret (.k (.bl false)))
  .nil) .nil)
  (.seq (.ret (.bf false "all" [(.lc false [1] (.v 0) (.nm 1) .no (.cmp .In (.v 1) (.g "LETTERS")))]))
  .nil))
/-- "are_counts" -/
def b3 : S :=
  (.seq (.ret (.and_ (.bf false "isinstance" [(.v 0), (.g "dict")]) (.bf false "all" [(.lc false [1, 2] (.items (.v 0)) (.tp [(.nm 1), (.nm 2)]) .no (.and_ (.call false 2 1 0 [.inl 0] [(.v 1)] []) (.call false 1 1 0 [.inl 0] [(.v 2)] [])))])))
  .nil)
/-- "want_clock" -/
def b4 : S :=
  (.seq (.ife (.not_ (.bf false "isinstance" [(.v 0), (.g "Clock")])) (.seq .stuck
  .nil) .nil)
  .nil)
/-- "Clock.__init__" -/
def b5 : S :=
  (.seq (.asg (.nm 2) (.ife (.cmp .Is (.v 1) (.k .non)) (.dct0 false) (.v 1)))
  (.seq (.ife (.not_ (.call false 3 1 0 [.inl 0] [(.v 2)] [])) (.seq .stuck
  .nil) .nil)
  (.seq (.asg (.nm 3) (.bf false "sorted" [(.lc false [4] (.v 2) (.nm 4) (.cmp .Gt (.ix (.v 2) (.v 4)) (.k (.int 0))) (.v 4))]))
  (.seq (.fld (.v 0) "own_counts" (.dc false [4] (.v 3) (.nm 4) .no (.v 4) (.ix (.v 2) (.v 4))))
  .nil))))
/-- "Clock.__getitem__" -/
def b6 : S :=
  (.seq (.ife (.not_ (.call false 2 1 0 [.inl 0] [(.v 1)] [])) (.seq .stuck
  .nil) .nil)
  (.seq (.ret (.bm false "get" (.fld (.v 0) "own_counts") [(.v 1), (.k (.int 0))]))
  .nil))
/-- "Clock.__iter__" -/
def b7 : S :=
  (.seq .stuck
  .nil)
/-- "Clock.counts" -/
def b8 : S :=
  (.seq (.ret (.bf true "dict" [(.fld (.v 0) "own_counts")]))
  .nil)
/-- "Clock.total" -/
def b9 : S :=
  (.seq (.ret (.bf false "sum" [(.lvals false (.fld (.v 0) "own_counts"))]))
  .nil)
/-- "Clock.count_of" -/
def b10 : S :=
  (.seq (.ret (.bm false "get" (.fld (.v 0) "own_counts") [(.v 1), (.k (.int 0))]))
  .nil)
/-- "Clock.__le__" -/
def b11 : S :=
  (.seq (.expr (.call false 4 1 0 [.inl 0] [(.v 1)] []))
  (.seq (.ret (.call false 19 2 0 [.inl 0, .inl 1] [(.v 0), (.v 1)] []))
  .nil))
/-- "Clock.__ge__" -/
def b12 : S :=
  (.seq (.expr (.call false 4 1 0 [.inl 0] [(.v 1)] []))
  (.seq (.ret (.call false 19 2 0 [.inl 0, .inl 1] [(.v 1), (.v 0)] []))
  .nil))
/-- "Clock.__or__" -/
def b13 : S :=
  (.seq (.expr (.call false 4 1 0 [.inl 0] [(.v 1)] []))
  (.seq (.ret (.make false 0 5 1 0 [.inl 0, .inl 1] [(.call false 20 2 0 [.inl 0, .inl 1] [(.fld (.v 0) "own_counts"), (.fld (.v 1) "own_counts")] [])] []))
  .nil))
/-- "Clock.__and__" -/
def b14 : S :=
  (.seq (.expr (.call false 4 1 0 [.inl 0] [(.v 1)] []))
  (.seq (.ret (.make false 0 5 1 0 [.inl 0, .inl 1] [(.call false 21 2 0 [.inl 0, .inl 1] [(.fld (.v 0) "own_counts"), (.fld (.v 1) "own_counts")] [])] []))
  .nil))
/-- "Clock.__add__" -/
def b15 : S :=
  (.seq (.ife (.not_ (.call false 2 1 0 [.inl 0] [(.v 1)] [])) (.seq .stuck
  .nil) .nil)
  (.seq (.ret (.make false 0 5 1 0 [.inl 0, .inl 1] [(.dctm false (.fld (.v 0) "own_counts") (.v 1) (.bin .Add (.bm false "get" (.fld (.v 0) "own_counts") [(.v 1), (.k (.int 0))]) (.k (.int 1))))] []))
  .nil))
/-- "Clock.__radd__" -/
def b16 : S :=
  (.seq (.ret (.bin .Add (.v 0) (.v 1)))
  .nil)
/-- "Clock.__eq__" -/
def b17 : S :=
  (.seq (.ret (.and_ (.bf false "isinstance" [(.v 1), (.g "Clock")]) (.cmp .Eq (.fld (.v 0) "own_counts") (.fld (.v 1) "own_counts"))))
  .nil)
/-- "Clock.__repr__" -/
def b18 : S :=
  (.seq (.ret (.js [(.k (.str "Clock(")), (.rep (.fld (.v 0) "own_counts")), (.k (.str ")"))]))
  .nil)
/-- "is_at_most" -/
def b19 : S :=
  (.seq (.ret (.bf false "all" [(.lc false [2, 3] (.items (.fld (.v 0) "own_counts")) (.tp [(.nm 2), (.nm 3)]) .no (.cmp .LtE (.bf false "int" [(.v 3)]) (.bf false "int" [(.meth false "count_of" [(0, 10, [.inl 0, .inl 1])] 1 0 (.v 1) [(.v 2)] [])])))]))
  .nil)
/-- "greatest_of" -/
def b20 : S :=
  (.seq (.asg (.nm 2) (.bf true "dict" [(.v 0)]))
  (.seq (.for_ (.items (.v 1)) (.tp [(.nm 3), (.nm 4)]) (.seq (.ife (.cmp .Gt (.bf false "int" [(.v 4)]) (.bf false "int" [(.bm false "get" (.v 2) [(.v 3), (.k (.int 0))])])) (.seq (.asg (.sub (.v 2) (.v 3)) (.v 4))
  .nil) .nil)
  .nil))
  (.seq (.ret (.v 2))
  .nil)))
/-- "least_of" -/
def b21 : S :=
  (.seq (.asg (.nm 2) (.dct0 true))
  (.seq (.for_ (.items (.v 0)) (.tp [(.nm 3), (.nm 4)]) (.seq (.asg (.nm 5) (.bm false "get" (.v 1) [(.v 3), (.k (.int 0))]))
  (.seq (.asg (.sub (.v 2) (.v 3)) (.ife (.cmp .Gt (.bf false "int" [(.v 4)]) (.bf false "int" [(.v 5)])) (.v 5) (.v 4)))
  .nil)))
  (.seq (.ret (.v 2))
  .nil)))
/-- "_law_pot" -/
def b22 : S :=
  (.seq (.asg (.nm 2) (.bin .Add (.bin .Mult (.k (.int 59)) (.v 1)) (.k (.int 37))))
  (.seq (.ife (.cmp .Lt (.v 1) (.bf false "len" [(.v 0)])) (.seq (.asg (.nm 2) (.bf false "abs" [(.ix (.v 0) (.v 1))]))
  .nil) .nil)
  (.seq (.ret (.lst true [(.bf false "max" [(.k (.int 0)), (.bin .Sub (.v 2) (.bin .Pow (.k (.int 10)) (.k (.int 18))))]), (.bin .Add (.bin .Mod (.bf false "int" [(.bin .Add (.bin .Add (.bin .Mult (.bin .Mod (.bf false "int" [(.v 2)]) (.k (.int 2147483549))) (.k (.int 48271))) (.bin .Mult (.k (.int 9173)) (.v 1))) (.k (.int 43)))]) (.k (.int 2147483497))) (.k (.int 1)))]))
  .nil)))
/-- "_law_draw" -/
def b23 : S :=
  (.seq (.ife (.cmp .Gt (.ix (.v 0) (.k (.int 0))) (.k (.int 0))) (.seq (.asg (.tp [(.sub (.v 0) (.k (.int 0))), (.nm 2)]) (.bf false "divmod" [(.ix (.v 0) (.k (.int 0))), (.v 1)]))
  (.seq (.ret (.v 2))
  .nil)) .nil)
  (.seq (.asg (.sub (.v 0) (.k (.int 1))) (.bin .Mod (.bf false "int" [(.bin .Add (.bin .Mult (.ix (.v 0) (.k (.int 1))) (.k (.int 48271))) (.k (.int 20011)))]) (.k (.int 2147483497))))
  (.seq (.ret (.bin .Mod (.bf false "int" [(.bin .FloorDiv (.bin .Mod (.bf false "int" [(.bin .Mult (.ix (.v 0) (.k (.int 1))) (.ix (.v 0) (.k (.int 1))))]) (.k (.int 2147483549))) (.k (.int 19)))]) (.v 1)))
  .nil)))
/-- "_law_among" -/
def b24 : S :=
  (.seq (.ret (.ix (.v 1) (.call false 23 2 0 [.inl 0, .inl 1] [(.v 0), (.bf false "len" [(.v 1)])] [])))
  .nil)
/-- "_law_counts" -/
def b25 : S :=
  (.seq (.asg (.nm 1) (.dct0 true))
  (.seq (.for_ (.sl false (.sl false (.lst false [(.k (.str "a")), (.k (.str "b")), (.k (.str "zz")), (.k (.str "abcdef"))]) (.call false 23 2 0 [.inl 0, .inl 1] [(.v 0), (.k (.int 2))] []) .no) .no (.call false 23 2 0 [.inl 0, .inl 1] [(.v 0), (.k (.int 4))] [])) (.nm 2) (.seq (.asg (.sub (.v 1) (.v 2)) (.call false 24 2 0 [.inl 0, .inl 1] [(.v 0), (.lst false [(.k (.int 0)), (.k (.int 1)), (.k (.int 1)), (.k (.int 2)), (.k (.int 3)), (.k (.int 4)), (.bin .Pow (.k (.int 10)) (.k (.int 29)))])] []))
  .nil))
  (.seq (.ret (.v 1))
  .nil)))
/-- "_law_plain" -/
def b26 : S :=
  (.seq (.ret (.bf false "dict" [(.lc false [1] (.bf false "sorted" [(.v 0)]) (.nm 1) (.cmp .Gt (.ix (.v 0) (.v 1)) (.k (.int 0))) (.tup [(.v 1), (.ix (.v 0) (.v 1))]))]))
  .nil)
/-- "_law_most" -/
def b27 : S :=
  (.seq (.ret (.call false 26 1 0 [.inl 0] [(.bf false "dict" [(.lc false [2] (.bin .Add (.bf false "list" [(.v 0)]) (.bf false "list" [(.v 1)])) (.nm 2) .no (.tup [(.v 2), (.bf false "max" [(.bm false "get" (.v 0) [(.v 2), (.k (.int 0))]), (.bm false "get" (.v 1) [(.v 2), (.k (.int 0))])])]))])] []))
  .nil)
/-- "_law_least" -/
def b28 : S :=
  (.seq (.ret (.call false 26 1 0 [.inl 0] [(.bf false "dict" [(.lc false [2] (.bin .Add (.bf false "list" [(.v 0)]) (.bf false "list" [(.v 1)])) (.nm 2) .no (.tup [(.v 2), (.bf false "min" [(.bm false "get" (.v 0) [(.v 2), (.k (.int 0))]), (.bm false "get" (.v 1) [(.v 2), (.k (.int 0))])])]))])] []))
  .nil)
/-- "_law_is_at_most" -/
def b29 : S :=
  (.seq (.ret (.bf false "all" [(.lc false [2] (.v 0) (.nm 2) .no (.cmp .LtE (.ix (.v 0) (.v 2)) (.bm false "get" (.v 1) [(.v 2), (.k (.int 0))])))]))
  .nil)
/-- "_law_told_right" -/
def b30 : S :=
  (.seq (.for_ (.rng1 (.k (.int 2))) (.nm 2) (.seq (.asg (.nm 3) (.meth true "counts" [(0, 8, [.inl 0])] 0 0 (.v 0) [] []))
  (.seq (.ife (.or_ (.cmp .NotEq (.litems false (.v 3)) (.litems false (.call false 26 1 0 [.inl 0] [(.v 1)] []))) (.cmp .NotEq (.meth false "total" [(0, 9, [.inl 0])] 0 0 (.v 0) [] []) (.sumv (.v 1)))) (.seq (.ret (.k (.bl false)))
  .nil) .nil)
  (.seq (.asg (.sub (.v 3) (.k (.str "zzz"))) (.k (.int 5)))
  (.seq (.expr (.bm false "pop" (.v 3) [(.k (.str "a")), (.k .non)]))
  .nil)))))
  (.seq (.asg (.nm 4) (.lst false [(.k (.str "a")), (.k (.str "b")), (.k (.str "zz")), (.k (.str "abcdef")), (.k (.str "q"))]))
  (.seq (.ife (.cmp .NotEq (.lc false [5] (.v 4) (.nm 5) .no (.ix (.v 0) (.v 5))) (.lc false [5] (.v 4) (.nm 5) .no (.bm false "get" (.v 1) [(.v 5), (.k (.int 0))]))) (.seq (.ret (.k (.bl false)))
  .nil) .nil)
  (.seq (.ret (.cmp .Eq (.bf false "repr" [(.v 0)]) (.bin .Add (.bin .Add (.k (.str "Clock(")) (.bf false "repr" [(.call false 26 1 0 [.inl 0] [(.v 1)] [])])) (.k (.str ")")))))
  .nil))))
/-- "_law_pair_right" -/
def b31 : S :=
  (.seq (.par [4, 5] [(.bin .BitOr (.v 2) (.v 3)), (.bin .BitAnd (.v 2) (.v 3))])
  (.seq (.ife (.or_ (.cmp .NotEq (.meth false "counts" [(0, 8, [.inl 0])] 0 0 (.v 4) [] []) (.call false 27 2 0 [.inl 0, .inl 1] [(.v 0), (.v 1)] [])) (.cmp .NotEq (.meth false "counts" [(0, 8, [.inl 0])] 0 0 (.v 5) [] []) (.call false 28 2 0 [.inl 0, .inl 1] [(.v 0), (.v 1)] []))) (.seq (.ret (.k (.bl false)))
  .nil) .nil)
  (.seq (.asg (.nm 6) (.lst false [(.cmp .LtE (.v 2) (.v 3)), (.cmp .GtE (.v 2) (.v 3)), (.cmp .Eq (.v 2) (.v 3)), (.cmp .NotEq (.v 2) (.v 3))]))
  (.seq (.asg (.nm 7) (.cmp .Eq (.call false 26 1 0 [.inl 0] [(.v 0)] []) (.call false 26 1 0 [.inl 0] [(.v 1)] [])))
  (.seq (.ife (.cmp .NotEq (.bf false "repr" [(.v 6)]) (.bf false "repr" [(.lst false [(.call false 29 2 0 [.inl 0, .inl 1] [(.v 0), (.v 1)] []), (.call false 29 2 0 [.inl 0, .inl 1] [(.v 1), (.v 0)] []), (.v 7), (.not_ (.v 7))])])) (.seq (.ret (.k (.bl false)))
  .nil) .nil)
  (.seq (.ife (.not_ (.and_ (.cmp .LtE (.v 5) (.v 2)) (.and_ (.cmp .LtE (.v 5) (.v 3)) (.and_ (.cmp .LtE (.v 2) (.v 4)) (.cmp .LtE (.v 3) (.v 4)))))) (.seq (.ret (.k (.bl false)))
  .nil) .nil)
  (.seq (.ret (.and_ (.cmp .Eq (.v 4) (.bin .BitOr (.v 3) (.v 2))) (.and_ (.cmp .Eq (.v 5) (.bin .BitAnd (.v 3) (.v 2))) (.and_ (.cmp .Eq (.bin .BitOr (.v 2) (.v 5)) (.v 2)) (.cmp .Eq (.bin .BitAnd (.v 2) (.v 4)) (.v 2))))))
  .nil)))))))
/-- "_law_more_right" -/
def b32 : S :=
  (.seq (.for_ (.lst false [(.k (.str "a")), (.k (.str "q")), (.k (.str "zzzzzz"))]) (.nm 2) (.seq (.asg (.nm 3) (.call false 26 1 0 [.inl 0] [(.bf false "dict" [(.bin .Add (.litems false (.v 1)) (.lst false [(.tup [(.v 2), (.bin .Add (.bm false "get" (.v 1) [(.v 2), (.k (.int 0))]) (.k (.int 1)))])]))])] []))
  (.seq (.ife (.or_ (.cmp .NotEq (.meth false "counts" [(0, 8, [.inl 0])] 0 0 (.bin .Add (.v 0) (.v 2)) [] []) (.v 3)) (.or_ (.cmp .NotEq (.meth false "counts" [(0, 8, [.inl 0])] 0 0 (.bin .Add (.v 2) (.v 0)) [] []) (.v 3)) (.or_ (.not_ (.cmp .LtE (.v 0) (.bin .Add (.v 0) (.v 2)))) (.cmp .LtE (.bin .Add (.v 0) (.v 2)) (.v 0))))) (.seq (.ret (.k (.bl false)))
  .nil) .nil)
  (.seq (.ife (.or_ (.cmp .NotEq (.meth false "total" [(0, 9, [.inl 0])] 0 0 (.bin .Add (.v 2) (.v 0)) [] []) (.bin .Add (.meth false "total" [(0, 9, [.inl 0])] 0 0 (.v 0) [] []) (.k (.int 1)))) (.cmp .NotEq (.bin .Add (.bin .Add (.v 0) (.v 2)) (.k (.str "b"))) (.bin .Add (.k (.str "b")) (.bin .Add (.v 2) (.v 0))))) (.seq (.ret (.k (.bl false)))
  .nil) .nil)
  .nil))))
  (.seq (.ret (.k (.bl true)))
  .nil))
/-- "_law_right" -/
def b33 : S :=
  (.seq (.asg (.nm 1) (.lc false [2] (.rng1 (.k (.int 3))) (.nm 2) .no (.call false 25 1 0 [.inl 0] [(.v 0)] [])))
  (.seq (.asg (.nm 3) (.lc true [4] (.v 1) (.nm 4) .no (.bf true "dict" [(.litems false (.v 4))])))
  (.seq (.asg (.nm 5) (.lc false [4] (.v 3) (.nm 4) .no (.make false 0 5 1 0 [.inl 0, .inl 1] [(.v 4)] [])))
  (.seq (.for_ (.v 3) (.nm 4) (.seq (.expr (.bm false "clear" (.v 4) []))
  (.seq (.asg (.sub (.v 4) (.k (.str "a"))) (.k (.int 77)))
  .nil)))
  (.seq (.asg (.nm 6) (.lc false [7] (.v 5) (.nm 7) .no (.bf false "repr" [(.v 7)])))
  (.seq (.for_ (.rng1 (.k (.int 3))) (.nm 8) (.seq (.ife (.or_ (.not_ (.call false 30 2 0 [.inl 0, .inl 1] [(.ix (.v 5) (.v 8)), (.ix (.v 1) (.v 8))] [])) (.not_ (.call false 32 2 0 [.inl 0, .inl 1] [(.ix (.v 5) (.v 8)), (.ix (.v 1) (.v 8))] []))) (.seq (.ret (.k (.bl false)))
  .nil) .nil)
  (.seq (.for_ (.rng1 (.k (.int 3))) (.nm 9) (.seq (.ife (.not_ (.call false 31 4 0 [.inl 0, .inl 1, .inl 2, .inl 3] [(.ix (.v 1) (.v 8)), (.ix (.v 1) (.v 9)), (.ix (.v 5) (.v 8)), (.ix (.v 5) (.v 9))] [])) (.seq (.ret (.k (.bl false)))
  .nil) .nil)
  .nil))
  .nil)))
  (.seq (.asg (.tp [(.nm 10), (.nm 11), (.nm 12)]) (.v 5))
  (.seq (.ife (.or_ (.cmp .NotEq (.bin .BitOr (.bin .BitOr (.v 10) (.v 11)) (.v 12)) (.bin .BitOr (.v 10) (.bin .BitOr (.v 11) (.v 12)))) (.cmp .NotEq (.bin .BitAnd (.bin .BitAnd (.v 10) (.v 11)) (.v 12)) (.bin .BitAnd (.v 10) (.bin .BitAnd (.v 11) (.v 12))))) (.seq (.ret (.k (.bl false)))
  .nil) .nil)
  (.seq (.ife (.cmp .NotEq (.bin .BitAnd (.v 10) (.bin .BitOr (.v 11) (.v 12))) (.bin .BitOr (.bin .BitAnd (.v 10) (.v 11)) (.bin .BitAnd (.v 10) (.v 12)))) (.seq (.ret (.k (.bl false)))
  .nil) .nil)
  (.seq (.ife (.or_ (.cmp .In (.v 10) (.tup [(.k .non), (.k (.int 0)), (.ix (.v 1) (.k (.int 0))), (.bf false "repr" [(.v 10)])])) (.cmp .NotEq (.v 10) (.make false 0 5 0 1 [.inl 0, .inl 1] [] [(.bf false "dict" [(.rev false (.litems false (.ix (.v 1) (.k (.int 0)))))])]))) (.seq (.ret (.k (.bl false)))
  .nil) .nil)
  (.seq (.ret (.cmp .Eq (.lc false [7] (.v 5) (.nm 7) .no (.bf false "repr" [(.v 7)])) (.v 6)))
  .nil)))))))))))
/-- "law" -/
def b34 : S :=
  (.seq (.ret (.bf false "all" [(.lc false [1] (.rng1 (.bf false "max" [(.k (.int 1)), (.bf false "min" [(.k (.int 4)), (.bf false "len" [(.v 0)])])])) (.nm 1) .no (.call false 33 1 0 [.inl 0] [(.call true 22 2 0 [.inl 0, .inl 1] [(.v 0), (.v 1)] [])] []))]))
  .nil)
theorem bd0 : tab.bd d0 = b0 := by kernel_rfl
abbrev f_is_integer : Nat := 0
theorem fn0 (n b : Nat) (us st : List U) : fnL tab (n + 1) 0 b us st = fnE (pgOf T0 (fnL tab n)) d0.N b0 b us st := by rw [← bd0]; rfl
theorem bd1 : tab.bd d1 = b1 := by kernel_rfl
abbrev f_is_count : Nat := 1
theorem fn1 (n b : Nat) (us st : List U) : fnL tab (n + 1) 1 b us st = fnE (pgOf T0 (fnL tab n)) d1.N b1 b us st := by rw [← bd1]; rfl
theorem bd2 : tab.bd d2 = b2 := by kernel_rfl
abbrev f_is_name : Nat := 2
theorem fn2 (n b : Nat) (us st : List U) : fnL tab (n + 1) 2 b us st = fnE (pgOf T0 (fnL tab n)) d2.N b2 b us st := by rw [← bd2]; rfl
theorem bd3 : tab.bd d3 = b3 := by kernel_rfl
abbrev f_are_counts : Nat := 3
theorem fn3 (n b : Nat) (us st : List U) : fnL tab (n + 1) 3 b us st = fnE (pgOf T0 (fnL tab n)) d3.N b3 b us st := by rw [← bd3]; rfl
theorem bd4 : tab.bd d4 = b4 := by kernel_rfl
abbrev f_want_clock : Nat := 4
theorem fn4 (n b : Nat) (us st : List U) : fnL tab (n + 1) 4 b us st = fnE (pgOf T0 (fnL tab n)) d4.N b4 b us st := by rw [← bd4]; rfl
theorem bd5 : tab.bd d5 = b5 := by kernel_rfl
abbrev f_Clock___init__ : Nat := 5
theorem fn5 (n b : Nat) (us st : List U) : fnL tab (n + 1) 5 b us st = fnE (pgOf T0 (fnL tab n)) d5.N b5 b us st := by rw [← bd5]; rfl
theorem bd6 : tab.bd d6 = b6 := by kernel_rfl
abbrev f_Clock___getitem__ : Nat := 6
theorem fn6 (n b : Nat) (us st : List U) : fnL tab (n + 1) 6 b us st = fnE (pgOf T0 (fnL tab n)) d6.N b6 b us st := by rw [← bd6]; rfl
theorem bd7 : tab.bd d7 = b7 := by kernel_rfl
abbrev f_Clock___iter__ : Nat := 7
theorem fn7 (n b : Nat) (us st : List U) : fnL tab (n + 1) 7 b us st = fnE (pgOf T0 (fnL tab n)) d7.N b7 b us st := by rw [← bd7]; rfl
theorem bd8 : tab.bd d8 = b8 := by kernel_rfl
abbrev f_Clock_counts : Nat := 8
theorem fn8 (n b : Nat) (us st : List U) : fnL tab (n + 1) 8 b us st = fnE (pgOf T0 (fnL tab n)) d8.N b8 b us st := by rw [← bd8]; rfl
theorem bd9 : tab.bd d9 = b9 := by kernel_rfl
abbrev f_Clock_total : Nat := 9
theorem fn9 (n b : Nat) (us st : List U) : fnL tab (n + 1) 9 b us st = fnE (pgOf T0 (fnL tab n)) d9.N b9 b us st := by rw [← bd9]; rfl
theorem bd10 : tab.bd d10 = b10 := by kernel_rfl
abbrev f_Clock_count_of : Nat := 10
theorem fn10 (n b : Nat) (us st : List U) : fnL tab (n + 1) 10 b us st = fnE (pgOf T0 (fnL tab n)) d10.N b10 b us st := by rw [← bd10]; rfl
theorem bd11 : tab.bd d11 = b11 := by kernel_rfl
abbrev f_Clock___le__ : Nat := 11
theorem fn11 (n b : Nat) (us st : List U) : fnL tab (n + 1) 11 b us st = fnE (pgOf T0 (fnL tab n)) d11.N b11 b us st := by rw [← bd11]; rfl
theorem bd12 : tab.bd d12 = b12 := by kernel_rfl
abbrev f_Clock___ge__ : Nat := 12
theorem fn12 (n b : Nat) (us st : List U) : fnL tab (n + 1) 12 b us st = fnE (pgOf T0 (fnL tab n)) d12.N b12 b us st := by rw [← bd12]; rfl
theorem bd13 : tab.bd d13 = b13 := by kernel_rfl
abbrev f_Clock___or__ : Nat := 13
theorem fn13 (n b : Nat) (us st : List U) : fnL tab (n + 1) 13 b us st = fnE (pgOf T0 (fnL tab n)) d13.N b13 b us st := by rw [← bd13]; rfl
theorem bd14 : tab.bd d14 = b14 := by kernel_rfl
abbrev f_Clock___and__ : Nat := 14
theorem fn14 (n b : Nat) (us st : List U) : fnL tab (n + 1) 14 b us st = fnE (pgOf T0 (fnL tab n)) d14.N b14 b us st := by rw [← bd14]; rfl
theorem bd15 : tab.bd d15 = b15 := by kernel_rfl
abbrev f_Clock___add__ : Nat := 15
theorem fn15 (n b : Nat) (us st : List U) : fnL tab (n + 1) 15 b us st = fnE (pgOf T0 (fnL tab n)) d15.N b15 b us st := by rw [← bd15]; rfl
theorem bd16 : tab.bd d16 = b16 := by kernel_rfl
abbrev f_Clock___radd__ : Nat := 16
theorem fn16 (n b : Nat) (us st : List U) : fnL tab (n + 1) 16 b us st = fnE (pgOf T0 (fnL tab n)) d16.N b16 b us st := by rw [← bd16]; rfl
theorem bd17 : tab.bd d17 = b17 := by kernel_rfl
abbrev f_Clock___eq__ : Nat := 17
theorem fn17 (n b : Nat) (us st : List U) : fnL tab (n + 1) 17 b us st = fnE (pgOf T0 (fnL tab n)) d17.N b17 b us st := by rw [← bd17]; rfl
theorem bd18 : tab.bd d18 = b18 := by kernel_rfl
abbrev f_Clock___repr__ : Nat := 18
theorem fn18 (n b : Nat) (us st : List U) : fnL tab (n + 1) 18 b us st = fnE (pgOf T0 (fnL tab n)) d18.N b18 b us st := by rw [← bd18]; rfl
theorem bd19 : tab.bd d19 = b19 := by kernel_rfl
abbrev f_is_at_most : Nat := 19
theorem fn19 (n b : Nat) (us st : List U) : fnL tab (n + 1) 19 b us st = fnE (pgOf T0 (fnL tab n)) d19.N b19 b us st := by rw [← bd19]; rfl
theorem bd20 : tab.bd d20 = b20 := by kernel_rfl
abbrev f_greatest_of : Nat := 20
theorem fn20 (n b : Nat) (us st : List U) : fnL tab (n + 1) 20 b us st = fnE (pgOf T0 (fnL tab n)) d20.N b20 b us st := by rw [← bd20]; rfl
theorem bd21 : tab.bd d21 = b21 := by kernel_rfl
abbrev f_least_of : Nat := 21
theorem fn21 (n b : Nat) (us st : List U) : fnL tab (n + 1) 21 b us st = fnE (pgOf T0 (fnL tab n)) d21.N b21 b us st := by rw [← bd21]; rfl
theorem bd22 : tab.bd d22 = b22 := by kernel_rfl
abbrev f__law_pot : Nat := 22
theorem fn22 (n b : Nat) (us st : List U) : fnL tab (n + 1) 22 b us st = fnE (pgOf T0 (fnL tab n)) d22.N b22 b us st := by rw [← bd22]; rfl
theorem bd23 : tab.bd d23 = b23 := by kernel_rfl
abbrev f__law_draw : Nat := 23
theorem fn23 (n b : Nat) (us st : List U) : fnL tab (n + 1) 23 b us st = fnE (pgOf T0 (fnL tab n)) d23.N b23 b us st := by rw [← bd23]; rfl
theorem bd24 : tab.bd d24 = b24 := by kernel_rfl
abbrev f__law_among : Nat := 24
theorem fn24 (n b : Nat) (us st : List U) : fnL tab (n + 1) 24 b us st = fnE (pgOf T0 (fnL tab n)) d24.N b24 b us st := by rw [← bd24]; rfl
theorem bd25 : tab.bd d25 = b25 := by kernel_rfl
abbrev f__law_counts : Nat := 25
theorem fn25 (n b : Nat) (us st : List U) : fnL tab (n + 1) 25 b us st = fnE (pgOf T0 (fnL tab n)) d25.N b25 b us st := by rw [← bd25]; rfl
theorem bd26 : tab.bd d26 = b26 := by kernel_rfl
abbrev f__law_plain : Nat := 26
theorem fn26 (n b : Nat) (us st : List U) : fnL tab (n + 1) 26 b us st = fnE (pgOf T0 (fnL tab n)) d26.N b26 b us st := by rw [← bd26]; rfl
theorem bd27 : tab.bd d27 = b27 := by kernel_rfl
abbrev f__law_most : Nat := 27
theorem fn27 (n b : Nat) (us st : List U) : fnL tab (n + 1) 27 b us st = fnE (pgOf T0 (fnL tab n)) d27.N b27 b us st := by rw [← bd27]; rfl
theorem bd28 : tab.bd d28 = b28 := by kernel_rfl
abbrev f__law_least : Nat := 28
theorem fn28 (n b : Nat) (us st : List U) : fnL tab (n + 1) 28 b us st = fnE (pgOf T0 (fnL tab n)) d28.N b28 b us st := by rw [← bd28]; rfl
theorem bd29 : tab.bd d29 = b29 := by kernel_rfl
abbrev f__law_is_at_most : Nat := 29
theorem fn29 (n b : Nat) (us st : List U) : fnL tab (n + 1) 29 b us st = fnE (pgOf T0 (fnL tab n)) d29.N b29 b us st := by rw [← bd29]; rfl
theorem bd30 : tab.bd d30 = b30 := by kernel_rfl
abbrev f__law_told_right : Nat := 30
theorem fn30 (n b : Nat) (us st : List U) : fnL tab (n + 1) 30 b us st = fnE (pgOf T0 (fnL tab n)) d30.N b30 b us st := by rw [← bd30]; rfl
theorem bd31 : tab.bd d31 = b31 := by kernel_rfl
abbrev f__law_pair_right : Nat := 31
theorem fn31 (n b : Nat) (us st : List U) : fnL tab (n + 1) 31 b us st = fnE (pgOf T0 (fnL tab n)) d31.N b31 b us st := by rw [← bd31]; rfl
theorem bd32 : tab.bd d32 = b32 := by kernel_rfl
abbrev f__law_more_right : Nat := 32
theorem fn32 (n b : Nat) (us st : List U) : fnL tab (n + 1) 32 b us st = fnE (pgOf T0 (fnL tab n)) d32.N b32 b us st := by rw [← bd32]; rfl
theorem bd33 : tab.bd d33 = b33 := by kernel_rfl
abbrev f__law_right : Nat := 33
theorem fn33 (n b : Nat) (us st : List U) : fnL tab (n + 1) 33 b us st = fnE (pgOf T0 (fnL tab n)) d33.N b33 b us st := by rw [← bd33]; rfl
theorem bd34 : tab.bd d34 = b34 := by kernel_rfl
abbrev f_law : Nat := 34
theorem fn34 (n b : Nat) (us st : List U) : fnL tab (n + 1) 34 b us st = fnE (pgOf T0 (fnL tab n)) d34.N b34 b us st := by rw [← bd34]; rfl
@[simp] theorem gl_Clock : T0.glob.lookup ("Clock" : Str) = some (U.cl 0) := by kernel_rfl
@[simp] theorem gl_LETTERS : T0.glob.lookup ("LETTERS" : Str) = some (U.str "abcdefghijklmnopqrstuvwxyz") := by kernel_rfl
@[simp] theorem gl_MOST_LETTERS : T0.glob.lookup ("MOST_LETTERS" : Str) = some (U.int 6) := by kernel_rfl
@[simp] theorem gl_int : T0.glob.lookup ("int" : Str) = some (U.ty "int") := by kernel_rfl
@[simp] theorem gl_list : T0.glob.lookup ("list" : Str) = some (U.ty "list") := by kernel_rfl
@[simp] theorem gl_dict : T0.glob.lookup ("dict" : Str) = some (U.ty "dict") := by kernel_rfl
@[simp] theorem gl_bool : T0.glob.lookup ("bool" : Str) = some (U.ty "bool") := by kernel_rfl
@[simp] theorem gl_str : T0.glob.lookup ("str" : Str) = some (U.ty "str") := by kernel_rfl
@[simp] theorem gl_range : T0.glob.lookup ("range" : Str) = some (U.ty "range") := by kernel_rfl
@[simp] theorem isi_NoneType_0 {b : Nat} {st : List U} : pIsi T0.isi b [.non, .cl 0] st = some (.bl false, st) := by rfl
@[simp] theorem isi_bool_0 {b : Nat} {st : List U} {c : Bool} : pIsi T0.isi b [.bl c, .cl 0] st = some (.bl false, st) := by rfl
@[simp] theorem isi_int_0 {b : Nat} {st : List U} {i : Int} : pIsi T0.isi b [.int i, .cl 0] st = some (.bl false, st) := by rfl
@[simp] theorem isi_str_0 {b : Nat} {st : List U} {x : Str} : pIsi T0.isi b [.str x, .cl 0] st = some (.bl false, st) := by rfl
@[simp] theorem isi_list_0 {b : Nat} {st : List U} {us : List U} : pIsi T0.isi b [.lst us, .cl 0] st = some (.bl false, st) := by rfl
@[simp] theorem isir_list_0 {b n : Nat} {st : List U} {us : List U} (h : st[n]? = some (.lst us)) : pIsi T0.isi b [.ref n, .cl 0] st = some (.bl false, st) := by
  simp only [pIsi, tyOfU, h, kdU]; rfl
@[simp] theorem isi_tuple_0 {b : Nat} {st : List U} {us : List U} : pIsi T0.isi b [.tup us, .cl 0] st = some (.bl false, st) := by rfl
@[simp] theorem isi_dict_0 {b : Nat} {st : List U} {ks : List KK} {us : List U} (h : (kks ks).isSome = true) : pIsi T0.isi b [.dct ks us, .cl 0] st = some (.bl false, st) := by
  obtain ⟨kk, e⟩ := Option.isSome_iff_exists.mp h
  simp only [pIsi, tyOfU, e, kdU]; rfl
@[simp] theorem isir_dict_0 {b n : Nat} {st : List U} {ks : List KK} {us : List U} (h : st[n]? = some (.dct ks us)) : pIsi T0.isi b [.ref n, .cl 0] st = some (.bl false, st) := by
  simp only [pIsi, tyOfU, h, kdU]; rfl
@[simp] theorem isi_0_0 {b : Nat} {st : List U} {ns : List Str} {us : List U} : pIsi T0.isi b [.ins 0 ns us, .cl 0] st = some (.bl true, st) := by rfl
@[simp] theorem isi_NoneType_bool {b : Nat} {st : List U} : pIsi T0.isi b [.non, .ty "bool"] st = some (.bl false, st) := by rfl
@[simp] theorem isi_bool_bool {b : Nat} {st : List U} {c : Bool} : pIsi T0.isi b [.bl c, .ty "bool"] st = some (.bl true, st) := by rfl
@[simp] theorem isi_int_bool {b : Nat} {st : List U} {i : Int} : pIsi T0.isi b [.int i, .ty "bool"] st = some (.bl false, st) := by rfl
@[simp] theorem isi_str_bool {b : Nat} {st : List U} {x : Str} : pIsi T0.isi b [.str x, .ty "bool"] st = some (.bl false, st) := by rfl
@[simp] theorem isi_list_bool {b : Nat} {st : List U} {us : List U} : pIsi T0.isi b [.lst us, .ty "bool"] st = some (.bl false, st) := by rfl
@[simp] theorem isir_list_bool {b n : Nat} {st : List U} {us : List U} (h : st[n]? = some (.lst us)) : pIsi T0.isi b [.ref n, .ty "bool"] st = some (.bl false, st) := by
  simp only [pIsi, tyOfU, h, kdU]; rfl
@[simp] theorem isi_tuple_bool {b : Nat} {st : List U} {us : List U} : pIsi T0.isi b [.tup us, .ty "bool"] st = some (.bl false, st) := by rfl
@[simp] theorem isi_dict_bool {b : Nat} {st : List U} {ks : List KK} {us : List U} (h : (kks ks).isSome = true) : pIsi T0.isi b [.dct ks us, .ty "bool"] st = some (.bl false, st) := by
  obtain ⟨kk, e⟩ := Option.isSome_iff_exists.mp h
  simp only [pIsi, tyOfU, e, kdU]; rfl
@[simp] theorem isir_dict_bool {b n : Nat} {st : List U} {ks : List KK} {us : List U} (h : st[n]? = some (.dct ks us)) : pIsi T0.isi b [.ref n, .ty "bool"] st = some (.bl false, st) := by
  simp only [pIsi, tyOfU, h, kdU]; rfl
@[simp] theorem isi_0_bool {b : Nat} {st : List U} {ns : List Str} {us : List U} : pIsi T0.isi b [.ins 0 ns us, .ty "bool"] st = some (.bl false, st) := by rfl
@[simp] theorem isi_NoneType_dict {b : Nat} {st : List U} : pIsi T0.isi b [.non, .ty "dict"] st = some (.bl false, st) := by rfl
@[simp] theorem isi_bool_dict {b : Nat} {st : List U} {c : Bool} : pIsi T0.isi b [.bl c, .ty "dict"] st = some (.bl false, st) := by rfl
@[simp] theorem isi_int_dict {b : Nat} {st : List U} {i : Int} : pIsi T0.isi b [.int i, .ty "dict"] st = some (.bl false, st) := by rfl
@[simp] theorem isi_str_dict {b : Nat} {st : List U} {x : Str} : pIsi T0.isi b [.str x, .ty "dict"] st = some (.bl false, st) := by rfl
@[simp] theorem isi_list_dict {b : Nat} {st : List U} {us : List U} : pIsi T0.isi b [.lst us, .ty "dict"] st = some (.bl false, st) := by rfl
@[simp] theorem isir_list_dict {b n : Nat} {st : List U} {us : List U} (h : st[n]? = some (.lst us)) : pIsi T0.isi b [.ref n, .ty "dict"] st = some (.bl false, st) := by
  simp only [pIsi, tyOfU, h, kdU]; rfl
@[simp] theorem isi_tuple_dict {b : Nat} {st : List U} {us : List U} : pIsi T0.isi b [.tup us, .ty "dict"] st = some (.bl false, st) := by rfl
@[simp] theorem isi_dict_dict {b : Nat} {st : List U} {ks : List KK} {us : List U} (h : (kks ks).isSome = true) : pIsi T0.isi b [.dct ks us, .ty "dict"] st = some (.bl true, st) := by
  obtain ⟨kk, e⟩ := Option.isSome_iff_exists.mp h
  simp only [pIsi, tyOfU, e, kdU]; rfl
@[simp] theorem isir_dict_dict {b n : Nat} {st : List U} {ks : List KK} {us : List U} (h : st[n]? = some (.dct ks us)) : pIsi T0.isi b [.ref n, .ty "dict"] st = some (.bl true, st) := by
  simp only [pIsi, tyOfU, h, kdU]; rfl
@[simp] theorem isi_0_dict {b : Nat} {st : List U} {ns : List Str} {us : List U} : pIsi T0.isi b [.ins 0 ns us, .ty "dict"] st = some (.bl false, st) := by rfl
@[simp] theorem isi_NoneType_int {b : Nat} {st : List U} : pIsi T0.isi b [.non, .ty "int"] st = some (.bl false, st) := by rfl
@[simp] theorem isi_bool_int {b : Nat} {st : List U} {c : Bool} : pIsi T0.isi b [.bl c, .ty "int"] st = some (.bl true, st) := by rfl
@[simp] theorem isi_int_int {b : Nat} {st : List U} {i : Int} : pIsi T0.isi b [.int i, .ty "int"] st = some (.bl true, st) := by rfl
@[simp] theorem isi_str_int {b : Nat} {st : List U} {x : Str} : pIsi T0.isi b [.str x, .ty "int"] st = some (.bl false, st) := by rfl
@[simp] theorem isi_list_int {b : Nat} {st : List U} {us : List U} : pIsi T0.isi b [.lst us, .ty "int"] st = some (.bl false, st) := by rfl
@[simp] theorem isir_list_int {b n : Nat} {st : List U} {us : List U} (h : st[n]? = some (.lst us)) : pIsi T0.isi b [.ref n, .ty "int"] st = some (.bl false, st) := by
  simp only [pIsi, tyOfU, h, kdU]; rfl
@[simp] theorem isi_tuple_int {b : Nat} {st : List U} {us : List U} : pIsi T0.isi b [.tup us, .ty "int"] st = some (.bl false, st) := by rfl
@[simp] theorem isi_dict_int {b : Nat} {st : List U} {ks : List KK} {us : List U} (h : (kks ks).isSome = true) : pIsi T0.isi b [.dct ks us, .ty "int"] st = some (.bl false, st) := by
  obtain ⟨kk, e⟩ := Option.isSome_iff_exists.mp h
  simp only [pIsi, tyOfU, e, kdU]; rfl
@[simp] theorem isir_dict_int {b n : Nat} {st : List U} {ks : List KK} {us : List U} (h : st[n]? = some (.dct ks us)) : pIsi T0.isi b [.ref n, .ty "int"] st = some (.bl false, st) := by
  simp only [pIsi, tyOfU, h, kdU]; rfl
@[simp] theorem isi_0_int {b : Nat} {st : List U} {ns : List Str} {us : List U} : pIsi T0.isi b [.ins 0 ns us, .ty "int"] st = some (.bl false, st) := by rfl
@[simp] theorem isi_NoneType_str {b : Nat} {st : List U} : pIsi T0.isi b [.non, .ty "str"] st = some (.bl false, st) := by rfl
@[simp] theorem isi_bool_str {b : Nat} {st : List U} {c : Bool} : pIsi T0.isi b [.bl c, .ty "str"] st = some (.bl false, st) := by rfl
@[simp] theorem isi_int_str {b : Nat} {st : List U} {i : Int} : pIsi T0.isi b [.int i, .ty "str"] st = some (.bl false, st) := by rfl
@[simp] theorem isi_str_str {b : Nat} {st : List U} {x : Str} : pIsi T0.isi b [.str x, .ty "str"] st = some (.bl true, st) := by rfl
@[simp] theorem isi_list_str {b : Nat} {st : List U} {us : List U} : pIsi T0.isi b [.lst us, .ty "str"] st = some (.bl false, st) := by rfl
@[simp] theorem isir_list_str {b n : Nat} {st : List U} {us : List U} (h : st[n]? = some (.lst us)) : pIsi T0.isi b [.ref n, .ty "str"] st = some (.bl false, st) := by
  simp only [pIsi, tyOfU, h, kdU]; rfl
@[simp] theorem isi_tuple_str {b : Nat} {st : List U} {us : List U} : pIsi T0.isi b [.tup us, .ty "str"] st = some (.bl false, st) := by rfl
@[simp] theorem isi_dict_str {b : Nat} {st : List U} {ks : List KK} {us : List U} (h : (kks ks).isSome = true) : pIsi T0.isi b [.dct ks us, .ty "str"] st = some (.bl false, st) := by
  obtain ⟨kk, e⟩ := Option.isSome_iff_exists.mp h
  simp only [pIsi, tyOfU, e, kdU]; rfl
@[simp] theorem isir_dict_str {b n : Nat} {st : List U} {ks : List KK} {us : List U} (h : st[n]? = some (.dct ks us)) : pIsi T0.isi b [.ref n, .ty "str"] st = some (.bl false, st) := by
  simp only [pIsi, tyOfU, h, kdU]; rfl
@[simp] theorem isi_0_str {b : Nat} {st : List U} {ns : List Str} {us : List U} : pIsi T0.isi b [.ins 0 ns us, .ty "str"] st = some (.bl false, st) := by rfl
end K21

set_option maxRecDepth 100000
namespace K21
open PySem PySem.Spec PyProof.Rows L2 EV M
theorem e_is_integer (n b : Nat) (i : Int) (st : List U) : fnL tab (n + 1) f_is_integer b [.int i] st = .ok (.bl true) st := by kernel_rfl
theorem e_is_count (n b : Nat) (i : Int) (st : List U) : fnL tab (n + 2) f_is_count b [.int i] st = .ok (.bl (decide (0 ≤ i))) st := by
  refine eq_of_run ?_
  rw [fn1, run_fnE]
  simp [b1, d1, e_is_integer]
/-- a name: one to six small letters -/
def isNm (x : Str) : Bool := decide (1 ≤ x.length ∧ x.length ≤ 6) && x.cps.toList.all fun c => decide (97 ≤ c ∧ c ≤ 122)
theorem occ_letter {c : Nat} (h : 97 ≤ c ∧ c ≤ 122) : (Builtin.Str.occurrences "abcdefghijklmnopqrstuvwxyz" ⟨#[c]⟩ 0 ("abcdefghijklmnopqrstuvwxyz" : Str).length 1).isEmpty = false := by
  obtain ⟨k, rfl⟩ : ∃ k, c = 97 + k := ⟨c - 97, by omega⟩
  have : ∀ k, k < 26 → (Builtin.Str.occurrences "abcdefghijklmnopqrstuvwxyz" ⟨#[97 + k]⟩ 0 ("abcdefghijklmnopqrstuvwxyz" : Str).length 1).isEmpty = false := by decide +kernel
  exact this k (by omega)
theorem e_is_name (n b : Nat) (x : Str) (st : List U) (h : isNm x = true) : fnL tab (n + 1) f_is_name b [.str x] st = .ok (.bl true) st := by
  unfold isNm at h
  simp only [Bool.and_eq_true, decide_eq_true_eq, List.all_eq_true] at h
  obtain ⟨⟨h1, h2⟩, h3⟩ := h
  have hx : x.length ≤ sizeLine := by rw [sizeLine_eq]; omega
  refine eq_of_run ?_
  rw [fn2, run_fnE]
  simp [b2, d2, pLen, hx, iterOf]
  refine ⟨by omega, by omega, ?_⟩
  refine lc_all (fun _ => .bl true) trivial (fun u m => ?_) ?_
  · obtain ⟨c, hc, rfl⟩ := List.mem_map.mp m
    simp [occ_letter (h3 c hc)]
  · rw [lcK_none]
    refine all_mk (g := fun _ => true) ?_
    simp
/-- a dict of names to counts -/
structure Gd (k : Nat) (l : AL Str) : Prop where
  nd : (keys l).Nodup
  nm : ∀ p ∈ l, isNm p.1 = true
  nn : ∀ p ∈ l, 0 ≤ p.2
  le : l.length ≤ k
theorem e_are_counts (n b k : Nat) (u : U) (l : AL Str) (st : List U) (hd : Dk u st l) (g : Gd k l) : fnL tab (n + 3) f_are_counts b [u] st = .ok (.bl true) st := by
  have hi : pIsi T0.isi b [u, .ty "dict"] st = some (.bl true, st) := by
    rcases hd with rfl | ⟨m, rfl, e⟩
    · exact isi_dict_dict (by rw [kks_d]; rfl)
    · unfold D at e
      simp [pIsi, tyOfU, e, kdU]; rfl
  refine eq_of_run ?_
  rw [fn3, run_fnE]
  obtain ⟨iv, e1, W, _⟩ := hd.items
  simp [b3, d3, hi, e1]
  refine lc_walkA (fun _ => .bl true) W (fun p m => ?_) ?_
  · simp [e_is_name _ _ _ _ (g.nm p m), e_is_count, g.nn p m]
  · refine all_mk (g := fun _ => true) ?_
    simp
/-- a clock -/
def CK (l : AL Str) : U := .ins 0 ["own_counts"] [D l]
abbrev cn (l : AL Str) : AL Str := canon sortStr l
theorem Gd.get {k : Nat} {l : AL Str} (g : Gd k l) (x : Str) : 0 ≤ M.get l x := nonneg g.nn x
theorem e_init (n b k m : Nat) (u : U) (l : AL Str) (st : List U) (hd : Dk u st l) (g : Gd k l) (hk : k < 64) (hm : st[m]? = some (.ins 0 [] [])) (hb : b ≤ m) :
    fnL tab (n + 4) f_Clock___init__ b [.ref m, u] st = .ok .non (st.set m (CK (cn l))) := by
  have hn : isNon u = false := by
    rcases hd with rfl | ⟨m, rfl, e⟩ <;> rfl
  refine eq_of_run ?_
  rw [fn5, run_fnE]
  obtain ⟨iv, e1, W, e2, e3⟩ := hd.iter
  simp [b5, d5, hn, e_are_counts _ _ _ _ _ _ hd g, e1]
  refine lc_walk (l := l) (fun p => decide (0 < p.2)) (fun p => .str p.1) W (fun p mp => ?_) ?_
  · have hg := get_mem g.nd mp
    simp [ix_d T0 (fnL tab (n + 3)) e3 e2 (List.mem_map.mpr ⟨p, mp, rfl⟩), hg]
  · rw [mkK_no]
    refine ⟨noref_map fun _ => rfl, ?_⟩
    have el : (List.filter (fun p : Str × Int => decide (0 < p.2)) l).map (fun p => U.str p.1) = (pos l).map .str := by
      rw [← pos_eq g.nd, List.map_map]; rfl
    have hl : (pos l).length < 64 := by
      have := List.length_filter_le (fun k => decide (0 < M.get l k)) (keys l)
      have h2 : (keys l).length = l.length := by simp [keys]
      have h3 := g.le
      unfold pos
      omega
    rw [el, sorted_str hl, run_mk, mkK_no]
    refine ⟨noref_map fun _ => rfl, ?_⟩
    simp
    refine dc_all (fun x => .inr x) (fun x => .int (M.get l x)) trivial (fun x mx => ?_) ?_
    · have hx : x ∈ keys l := by
        have := (sorts_str.perm (pos l)).mem_iff.mp mx
        exact (List.mem_filter.mp this).1
      simp [ix_d T0 (fnL tab (n + 3)) hd.noIns hd.at hx]
      rfl
    · have e : (List.map (fun a => ((Sum.inr a : Key), U.int (M.get l a))) (sortStr (pos l))) = (cn l).map fun p => ((Sum.inr p.1 : Key), U.int p.2) := by
        unfold cn canon; rw [List.map_map]; rfl
      rw [e, merge_new (nodup_canon sorts_str g.nd)]
      simp [noref_d, sfldK, hm, hb, putE, dks_a]
      rfl
/-- a clock made -/
theorem e_make (n b k : Nat) (u : U) (l : AL Str) (st : List U) (hd : Dk u st l) (g : Gd k l) (hk : k < 64) : mkRun false 0 (fnL tab (n + 4) 5) (Perm.fill [.inl 0, .inl 1]) [u] [] b st = .ok (CK (cn l)) st := by
  have hd' : Dk u (st ++ [.ins 0 [] []]) l := by
    rcases hd with rfl | ⟨j, rfl, e⟩
    · exact .inl rfl
    · exact .inr ⟨j, rfl, by rw [List.getElem?_append_left (List.getElem?_eq_some_iff.mp e).1]; exact e⟩
  rw [mkRun_no]
  have hm : (st ++ [U.ins 0 [] []])[st.length]? = some (.ins 0 [] []) := by simp
  have e := e_init n st.length k st.length u l _ hd' g hk hm (Nat.le_refl _)
  simp only [mkBody, fill_inl, fill_nil, List.cons_append, List.nil_append, List.getElem?_cons_zero, List.getElem?_cons_succ, Option.getD_some, e, Res.bind]
  have h2 : ((st ++ [U.ins 0 [] []]).set st.length (CK (cn l)))[st.length]? = some (CK (cn l)) := by rw [List.getElem?_set_self (by simp)]
  rw [leave_ref h2 rfl]
  simp
theorem fldK_ck {Q : U → List U → Prop} {l : AL Str} {st : List U} : fldK "own_counts" Q (CK l) st = Q (D l) st := rfl
theorem isi_ck {b : Nat} {l : AL Str} {st : List U} : pIsi T0.isi b [CK l, .cl 0] st = some (.bl true, st) := rfl
theorem e_want (n b : Nat) (l : AL Str) (st : List U) : fnL tab (n + 1) f_want_clock b [CK l] st = .ok .non st := by
  refine eq_of_run ?_
  rw [fn4, run_fnE]
  simp [b4, d4, isi_ck]
theorem e_count_of (n b : Nat) (l : AL Str) (x : Str) (st : List U) : fnL tab (n + 1) f_Clock_count_of b [CK l, .str x] st = .ok (.int (M.get l x)) st := by
  refine eq_of_run ?_
  rw [fn10, run_fnE]
  simp [b10, d10, fldK_ck, Dk.tree.ty, get_d (Dk.tree (l := l)).at]
theorem e_counts (n b : Nat) (l : AL Str) (st : List U) : fnL tab (n + 1) f_Clock_counts b [CK l] st = .ok (.ref st.length) (st ++ [D l]) := by
  refine eq_of_run ?_
  rw [fn8, run_fnE]
  simp [b8, d8, fldK_ck, dict_dk (Dk.tree (l := l)), run_mk, noref_d]
  rfl
theorem leave_D {l : AL Str} (s : List U) : leave s.length (.ok (.ref s.length) (s ++ [D l])) = .ok (D l) s := by rw [leave_ref (o := D l) (by simp) noref_d]; simp
theorem e_total (n b : Nat) (l : AL Str) (st : List U) : fnL tab (n + 1) f_Clock_total b [CK l] st = .ok (.int (l.map (·.2)).sum) st := by
  refine eq_of_run ?_
  rw [fn9, run_fnE]
  simp only [b9, d9, rs_seq, rs_ret, r_bf, r_cons, r_nil, r_lvals, r_fld, r_v, List.map_cons, List.map_nil, List.length_cons, List.length_nil, List.cons_append, List.getElem?_cons_zero, fldK_ck, vals_dk (Dk.tree (l := l)), mkK_no, noref_d, true_and, f_sum]
  rw [dvs_map, sum_ints]
  simp
/-- the greater counts -/
def gstep (acc : AL Str) (p : Str × Int) : AL Str := if M.get acc p.1 < p.2 then put acc p.1 p.2 else acc
theorem gstep_nd {acc : AL Str} {p : Str × Int} (h : (keys acc).Nodup) : (keys (gstep acc p)).Nodup := by
  unfold gstep; split
  · exact nodup_put h
  · exact h
theorem put_len {κ : Type} [DecidableEq κ] {l : AL κ} {k : κ} {v : Int} : (put l k v).length ≤ l.length + 1 := by
  induction l with
  | nil => simp [put]
  | cons p l ih => unfold put; split <;> simp <;> omega
theorem gstep_len {acc : AL Str} {p : Str × Int} : (gstep acc p).length ≤ acc.length + 1 := by
  unfold gstep; split
  · exact put_len
  · omega
def GJ (l m : AL Str) (f : AL Str → Str × Int → AL Str) (r : AL Str) (st : List U) (w : Nat) (bd : Nat) (rest : List U) (ρ : En) (s : List U) : Prop :=
  ∃ (acc ps : AL Str) (z : List (Option U)), rest = ps.map (fun p => .tup [.str p.1, .int p.2]) ∧ z.length = w ∧ ρ = [some (D l), some (D m), some (.ref st.length)] ++ z ∧ s = st ++ [D acc] ∧ (keys acc).Nodup ∧ acc.length + ps.length ≤ bd ∧ ps.foldl f acc = r
theorem e_greatest (n b : Nat) (l m : AL Str) (st : List U) (hn : (keys l).Nodup) (hz : l.length + m.length < sizeLine) : fnL tab (n + 1) f_greatest_of b [D l, D m] st = .ok (.ref st.length) (st ++ [D (m.foldl gstep l)]) := by
  refine eq_of_run ?_
  rw [fn20, run_fnE]
  obtain ⟨iv, e1, W, _⟩ := (Dk.tree (l := m) (st := st ++ [D l])).items
  have el : iv.lk = none := by simp only [itemsOf, D, simpleK_d, if_true, Option.some.injEq] at e1; rw [← e1]
  have eu := W.us
  have ec := W.chk
  rw [el] at ec
  simp [b20, d20, dict_dk (Dk.tree (l := l)), run_mk]
  rw [show U.dct (dks l) (dvs l) = D l from rfl, e1, itK_some]
  unfold forK
  rw [el]
  simp only
  rw [eu]
  have hchk : ∀ s, iv.chk s := by simp only [itemsOf, D, simpleK_d, if_true, Option.some.injEq] at e1; rw [← e1]; exact fun _ => trivial
  refine for_inv (GJ l m gstep (m.foldl gstep l) st 2 (l.length + m.length)) ?_ ?_ _ _ _ ⟨l, m, [none, none], rfl, rfl, rfl, rfl, hn, Nat.le_refl _, rfl⟩
  · rintro u us ρ s ⟨acc, ps, z, e, hz2, rfl, rfl, nd, hl, hf⟩
    obtain ⟨x, y, rfl⟩ : ∃ x y, z = [x, y] := by
      match z, hz2 with
      | [x, y], _ => exact ⟨x, y, rfl⟩
    cases ps with
    | nil => cases e
    | cons p ps =>
      rw [List.map_cons] at e
      injection e with e2 e3
      subst e2
      have hs : (st ++ [D acc])[st.length]? = some (D acc) := by simp
      have hd : Dk (.ref st.length) (st ++ [D acc]) acc := .inr ⟨_, rfl, hs⟩
      refine ⟨hchk _, ?_⟩
      have hl' : acc.length < sizeLine := by rw [List.length_cons] at hl; omega
      have hl2 : (gstep acc p).length + ps.length ≤ l.length + m.length := by have := gstep_len (acc := acc) (p := p); rw [List.length_cons] at hl; omega
      have J : ∀ s, s = st ++ [D (gstep acc p)] → GJ l m gstep (m.foldl gstep l) st 2 (l.length + m.length) us [some (D l), some (D m), some (.ref st.length), some (.str p.1), some (.int p.2)] s := fun s hs =>
        ⟨gstep acc p, ps, [some (.str p.1), some (.int p.2)], e3, rfl, rfl, hs, gstep_nd nd, hl2, hf⟩
      simp [hd.ty, get_d hd.at]
      split
      · rename_i hlt
        simp [set_d hs nd hl']
        exact J _ (by unfold gstep; rw [if_pos hlt])
      · rename_i hlt
        exact J _ (by unfold gstep; rw [if_neg hlt])
  · rintro ρ s ⟨acc, ps, z, e, hz2, rfl, rfl, nd, hl, hf⟩
    cases ps with
    | cons _ _ => cases e
    | nil =>
      refine ⟨hchk _, ?_⟩
      simp [← hf]
/-- the lesser counts -/
def lstep (m acc : AL Str) (p : Str × Int) : AL Str := put acc p.1 (if M.get m p.1 < p.2 then M.get m p.1 else p.2)
theorem e_least (n b : Nat) (l m : AL Str) (st : List U) (hz : l.length < sizeLine) : fnL tab (n + 1) f_least_of b [D l, D m] st = .ok (.ref st.length) (st ++ [D (l.foldl (lstep m) [])]) := by
  refine eq_of_run ?_
  rw [fn21, run_fnE]
  obtain ⟨iv, e1, W, _⟩ := (Dk.tree (l := l) (st := st ++ [D []])).items
  have el : iv.lk = none := by simp only [itemsOf, D, simpleK_d, if_true, Option.some.injEq] at e1; rw [← e1]
  have eu := W.us
  have hchk : ∀ s, iv.chk s := by simp only [itemsOf, D, simpleK_d, if_true, Option.some.injEq] at e1; rw [← e1]; exact fun _ => trivial
  simp [b21, d21]
  rw [show U.dct [] [] = D [] from rfl, e1, itK_some]
  unfold forK
  rw [el]
  simp only
  rw [eu]
  refine for_inv (GJ l m (lstep m) (l.foldl (lstep m) []) st 3 l.length) ?_ ?_ _ _ _ ⟨[], l, [none, none, none], rfl, rfl, rfl, rfl, by simp [keys], by simp, rfl⟩
  · rintro u us ρ s ⟨acc, ps, z, e, hz2, rfl, rfl, nd, hl, hf⟩
    obtain ⟨x, y, w, rfl⟩ : ∃ x y w, z = [x, y, w] := by
      match z, hz2 with
      | [x, y, w], _ => exact ⟨x, y, w, rfl⟩
    cases ps with
    | nil => cases e
    | cons p ps =>
      rw [List.map_cons] at e
      injection e with e2 e3
      subst e2
      have hs : (st ++ [D acc])[st.length]? = some (D acc) := by simp
      refine ⟨hchk _, ?_⟩
      have hl' : acc.length < sizeLine := by rw [List.length_cons] at hl; omega
      have hl2 : (lstep m acc p).length + ps.length ≤ l.length := by have := put_len (l := acc) (k := p.1) (v := if M.get m p.1 < p.2 then M.get m p.1 else p.2); rw [List.length_cons] at hl; unfold lstep; omega
      have J : ∀ s, s = st ++ [D (lstep m acc p)] → GJ l m (lstep m) (l.foldl (lstep m) []) st 3 l.length us [some (D l), some (D m), some (.ref st.length), some (.str p.1), some (.int p.2), some (.int (M.get m p.1))] s := fun s hs =>
        ⟨lstep m acc p, ps, [some (.str p.1), some (.int p.2), some (.int (M.get m p.1))], e3, rfl, rfl, hs, nodup_put nd, hl2, hf⟩
      simp [(Dk.tree (l := m)).ty, get_d (Dk.tree (l := m)).at]
      split
      · rename_i hlt
        simp [set_d hs nd hl']
        exact J _ (by unfold lstep; rw [if_pos hlt])
      · rename_i hlt
        simp [set_d hs nd hl']
        exact J _ (by unfold lstep; rw [if_neg hlt])
  · rintro ρ s ⟨acc, ps, z, e, hz2, rfl, rfl, nd, hl, hf⟩
    cases ps with
    | cons _ _ => cases e
    | nil =>
      refine ⟨hchk _, ?_⟩
      simp [← hf]
theorem get_gfold {x : Str} : ∀ {ps acc : AL Str}, (keys ps).Nodup → M.get (ps.foldl gstep acc) x = if x ∈ keys ps then (if M.get acc x < M.get ps x then M.get ps x else M.get acc x) else M.get acc x := by
  intro ps
  induction ps with
  | nil => intro acc _; rfl
  | cons p ps ih =>
    intro acc nd
    obtain ⟨j, v⟩ := p
    have nd' : j ∉ keys ps ∧ (keys ps).Nodup := List.nodup_cons.mp nd
    rw [List.foldl_cons, ih nd'.2]
    have hm : x ∈ keys ((j, v) :: ps) ↔ x = j ∨ x ∈ keys ps := List.mem_cons
    have hg : M.get (gstep acc (j, v)) x = if j = x then (if M.get acc x < v then v else M.get acc x) else M.get acc x := by
      unfold gstep
      simp only
      by_cases e : j = x
      · subst e
        rw [if_pos rfl]
        split
        · rw [get_put, if_pos rfl]
        · rfl
      · rw [if_neg e]
        split
        · rw [get_put, if_neg e]
        · rfl
    rw [hg, get_cons]
    by_cases e : j = x
    · subst e
      rw [if_neg nd'.1, if_pos rfl, if_pos rfl, if_pos (hm.mpr (.inl rfl))]
    · rw [if_neg e, if_neg e]
      by_cases h : x ∈ keys ps
      · rw [if_pos h, if_pos (hm.mpr (.inr h))]
      · rw [if_neg h, if_neg (fun z => (hm.mp z).elim (fun z => e z.symm) h)]
theorem get_lfold {m : AL Str} {x : Str} : ∀ {ps acc : AL Str}, (keys ps).Nodup → M.get (ps.foldl (lstep m) acc) x = if x ∈ keys ps then (if M.get m x < M.get ps x then M.get m x else M.get ps x) else M.get acc x := by
  intro ps
  induction ps with
  | nil => intro acc _; rfl
  | cons p ps ih =>
    intro acc nd
    obtain ⟨j, v⟩ := p
    have nd' : j ∉ keys ps ∧ (keys ps).Nodup := List.nodup_cons.mp nd
    rw [List.foldl_cons, ih nd'.2]
    have hm : x ∈ keys ((j, v) :: ps) ↔ x = j ∨ x ∈ keys ps := List.mem_cons
    have hg : M.get (lstep m acc (j, v)) x = if j = x then (if M.get m x < v then M.get m x else v) else M.get acc x := by
      unfold lstep
      simp only
      rw [get_put]
      by_cases e : j = x
      · subst e; rfl
      · rw [if_neg e, if_neg e]
    rw [hg, get_cons]
    by_cases e : j = x
    · subst e
      rw [if_neg nd'.1, if_pos rfl, if_pos rfl, if_pos (hm.mpr (.inl rfl))]
    · rw [if_neg e, if_neg e]
      by_cases h : x ∈ keys ps
      · rw [if_pos h, if_pos (hm.mpr (.inr h))]
      · rw [if_neg h, if_neg (fun z => (hm.mp z).elim (fun z => e z.symm) h)]
theorem keys_gfold {x : Str} : ∀ {ps acc : AL Str}, x ∈ keys (ps.foldl gstep acc) → x ∈ keys acc ∨ x ∈ keys ps := by
  intro ps
  induction ps with
  | nil => intro acc h; exact .inl h
  | cons p ps ih =>
    intro acc h
    rcases ih h with h | h
    · unfold gstep at h
      split at h
      · rcases mem_keys_put.mp h with h | h
        · exact .inr (by rw [h]; exact List.mem_cons_self ..)
        · exact .inl h
      · exact .inl h
    · exact .inr (List.mem_cons_of_mem _ h)
theorem keys_lfold {m : AL Str} {x : Str} : ∀ {ps acc : AL Str}, x ∈ keys (ps.foldl (lstep m) acc) → x ∈ keys acc ∨ x ∈ keys ps := by
  intro ps
  induction ps with
  | nil => intro acc h; exact .inl h
  | cons p ps ih =>
    intro acc h
    rcases ih h with h | h
    · rcases mem_keys_put.mp h with h | h
      · exact .inr (by rw [h]; exact List.mem_cons_self ..)
      · exact .inl h
    · exact .inr (List.mem_cons_of_mem _ h)
theorem nd_gfold : ∀ {ps acc : AL Str}, (keys acc).Nodup → (keys (ps.foldl gstep acc)).Nodup := by
  intro ps
  induction ps with
  | nil => intro acc h; exact h
  | cons p ps ih => intro acc h; exact ih (gstep_nd h)
theorem nd_lfold {m : AL Str} : ∀ {ps acc : AL Str}, (keys acc).Nodup → (keys (ps.foldl (lstep m) acc)).Nodup := by
  intro ps
  induction ps with
  | nil => intro acc h; exact h
  | cons p ps ih => intro acc h; exact ih (nodup_put h)
theorem len_gfold : ∀ {ps acc : AL Str}, (ps.foldl gstep acc).length ≤ acc.length + ps.length := by
  intro ps
  induction ps with
  | nil => intro acc; simp
  | cons p ps ih => intro acc; have := ih (acc := gstep acc p); have := gstep_len (acc := acc) (p := p); rw [List.foldl_cons, List.length_cons]; omega
theorem len_lfold {m : AL Str} : ∀ {ps acc : AL Str}, (ps.foldl (lstep m) acc).length ≤ acc.length + ps.length := by
  intro ps
  induction ps with
  | nil => intro acc; simp
  | cons p ps ih => intro acc; have := ih (acc := lstep m acc p); have := put_len (l := acc) (k := p.1) (v := if M.get m p.1 < p.2 then M.get m p.1 else p.2); rw [List.foldl_cons, List.length_cons]; unfold lstep at *; omega
theorem Gd.of {k : Nat} {l : AL Str} (nd : (keys l).Nodup) (nm : ∀ x ∈ keys l, isNm x = true) (nn : ∀ x, 0 ≤ M.get l x) (le : l.length ≤ k) : Gd k l :=
  ⟨nd, fun p hp => nm _ (List.mem_map.mpr ⟨p, hp, rfl⟩), fun p hp => by have := nn p.1; rw [get_mem nd hp] at this; exact this, le⟩
theorem Gd.nmk {k : Nat} {l : AL Str} (g : Gd k l) {x : Str} (h : x ∈ keys l) : isNm x = true := by
  obtain ⟨p, hp, rfl⟩ := List.mem_map.mp h
  exact g.nm p hp
theorem Gd.mono {k j : Nat} {l : AL Str} (g : Gd k l) (h : k ≤ j) : Gd j l := ⟨g.nd, g.nm, g.nn, Nat.le_trans g.le h⟩
theorem Gd.cn {k : Nat} {l : AL Str} (g : Gd k l) : Gd k (cn l) := by
  refine .of (nodup_canon sorts_str g.nd) (fun x hx => ?_) (fun x => by rw [get_canon sorts_str g.get]; exact g.get x) ?_
  · obtain ⟨p, hp, rfl⟩ := List.mem_map.mp hx
    exact g.nmk (canon_pos sorts_str hp).2.2
  · have h1 : (K21.cn l).length = (pos l).length := by
      unfold K21.cn canon; rw [List.length_map]; exact (sorts_str.perm _).length_eq
    have h2 : (pos l).length ≤ (keys l).length := List.length_filter_le _ _
    have h3 : (keys l).length = l.length := by simp [keys]
    have := g.le
    omega
theorem Gd.gfold {j k : Nat} {l m : AL Str} (gl : Gd j l) (gm : Gd k m) : Gd (j + k) (m.foldl gstep l) := by
  refine .of (nd_gfold gl.nd) (fun x hx => (keys_gfold hx).elim gl.nmk gm.nmk) (fun x => ?_) (Nat.le_trans len_gfold (Nat.add_le_add gl.le gm.le))
  have h1 := gl.get x
  have h2 := gm.get x
  rw [get_gfold gm.nd]
  split
  · split <;> assumption
  · exact h1
theorem Gd.lfold {j k : Nat} {l m : AL Str} (gl : Gd j l) (gm : Gd k m) : Gd j (l.foldl (lstep m) []) := by
  refine .of (nd_lfold (by simp [keys])) (fun x hx => (keys_lfold hx).elim (fun z => by cases z) gl.nmk) (fun x => ?_) (Nat.le_trans len_lfold (by simpa using gl.le))
  have h1 := gl.get x
  have h2 := gm.get x
  rw [get_lfold gl.nd]
  split
  · split <;> assumption
  · rw [get_nil]; exact Int.le_refl 0
/-- a clock's own counts -/
structure Ck (k : Nat) (l : AL Str) : Prop extends Gd k l where
  cn : cn l = l
theorem Gd.ck {k : Nat} {l : AL Str} (g : Gd k l) : Ck k (K21.cn l) := ⟨g.cn, canon_canon sorts_str g.nd g.get⟩
theorem Ck.ext {j k : Nat} {l m : AL Str} (a : Ck j l) (c : Ck k m) (h : ∀ x, M.get l x = M.get m x) : l = m := by
  rw [← a.cn, ← c.cn]; exact canon_ext sorts_str a.nd c.nd h
def gmax (l m : AL Str) : AL Str := cn (m.foldl gstep l)
def gmin (l m : AL Str) : AL Str := cn (l.foldl (lstep m) [])
def inc (l : AL Str) (x : Str) : AL Str := cn (put l x (M.get l x + 1))
theorem Ck.gmax {j k : Nat} {l m : AL Str} (a : Ck j l) (c : Ck k m) : Ck (j + k) (gmax l m) := (a.toGd.gfold c.toGd).ck
theorem Ck.gmin {j k : Nat} {l m : AL Str} (a : Ck j l) (c : Ck k m) : Ck j (gmin l m) := (a.toGd.lfold c.toGd).ck
theorem Gd.put {k : Nat} {l : AL Str} (a : Gd k l) {x : Str} {v : Int} (hx : isNm x = true) (hv : 0 ≤ v) : Gd (k + 1) (M.put l x v) := by
  refine .of (nodup_put a.nd) (fun y hy => ?_) (fun y => ?_) (Nat.le_trans put_len (Nat.add_le_add_right a.le 1))
  · rcases mem_keys_put.mp hy with rfl | hy
    · exact hx
    · exact a.nmk hy
  · rw [get_put]; split
    · exact hv
    · exact a.get y
theorem Ck.inc {k : Nat} {l : AL Str} (a : Ck k l) {x : Str} (hx : isNm x = true) : Ck (k + 1) (inc l x) := (a.toGd.put hx (by have := a.get x; omega)).ck
theorem get_gmax {j k : Nat} {l m : AL Str} (a : Gd j l) (c : Gd k m) (x : Str) : M.get (gmax l m) x = if M.get l x < M.get m x then M.get m x else M.get l x := by
  unfold gmax
  rw [get_canon sorts_str (a.gfold c).get, get_gfold c.nd]
  by_cases h : x ∈ keys m
  · rw [if_pos h]
  · rw [if_neg h, get_none h, if_neg (by have := a.get x; omega)]
theorem get_gmin {j k : Nat} {l m : AL Str} (a : Gd j l) (c : Gd k m) (x : Str) : M.get (gmin l m) x = if M.get m x < M.get l x then M.get m x else M.get l x := by
  unfold gmin
  rw [get_canon sorts_str (a.lfold c).get, get_lfold a.nd]
  by_cases h : x ∈ keys l
  · rw [if_pos h]
  · rw [if_neg h, get_nil, get_none h, if_neg (by have := c.get x; omega)]
theorem get_inc {k : Nat} {l : AL Str} (a : Gd k l) {x y : Str} (hx : isNm x = true) : M.get (inc l x) y = if x = y then M.get l y + 1 else M.get l y := by
  unfold inc
  rw [get_canon sorts_str (a.put hx (by have := a.get x; omega)).get, get_put]
  split
  · rename_i e; rw [e]
  · rfl
/-! ### the operators -/
theorem e_or (n b j k : Nat) (l m : AL Str) (st : List U) (a : Ck j l) (c : Ck k m) (h : j + k < 64) : fnL tab (n + 5) f_Clock___or__ b [CK l, CK m] st = .ok (CK (gmax l m)) st := by
  refine eq_of_run ?_
  rw [fn13, run_fnE]
  have hz : l.length + m.length < sizeLine := by have := a.le; have := c.le; rw [sizeLine_eq]; omega
  have h2 : ∀ s : List U, leave s.length (.ok (.ref s.length) (s ++ [D (m.foldl gstep l)])) = .ok (D (m.foldl gstep l)) s := fun s => by rw [leave_ref (o := D (m.foldl gstep l)) (by simp) noref_d]; simp
  simp [b13, d13, e_want, fldK_ck, e_greatest _ _ _ _ _ a.nd hz, h2]
  rw [← mkRun_no, e_make n b (j + k) _ _ _ Dk.tree (a.toGd.gfold c.toGd) h]
  exact ⟨rfl, rfl⟩
theorem e_and (n b j k : Nat) (l m : AL Str) (st : List U) (a : Ck j l) (c : Ck k m) (h : j < 64) : fnL tab (n + 5) f_Clock___and__ b [CK l, CK m] st = .ok (CK (gmin l m)) st := by
  refine eq_of_run ?_
  rw [fn14, run_fnE]
  have hz : l.length < sizeLine := by have := a.le; rw [sizeLine_eq]; omega
  have h2 : ∀ s : List U, leave s.length (.ok (.ref s.length) (s ++ [D (l.foldl (lstep m) [])])) = .ok (D (l.foldl (lstep m) [])) s := fun s => by rw [leave_ref (o := D (l.foldl (lstep m) [])) (by simp) noref_d]; simp
  simp [b14, d14, e_want, fldK_ck, e_least _ _ _ _ _ hz, h2]
  rw [← mkRun_no, e_make n b j _ _ _ Dk.tree (a.toGd.lfold c.toGd) h]
  exact ⟨rfl, rfl⟩
def leq (l m : AL Str) : Bool := l.all fun p => decide (p.2 ≤ M.get m p.1)
theorem e_is_at_most (n b : Nat) (l m : AL Str) (st : List U) : fnL tab (n + 2) f_is_at_most b [CK l, CK m] st = .ok (.bl (leq l m)) st := by
  refine eq_of_run ?_
  rw [fn19, run_fnE]
  obtain ⟨iv, e1, W, _⟩ := (Dk.tree (l := l) (st := st)).items
  have hi : ∀ s : List U, insCls (CK m) s = some ((0 : Nat), ([("own_counts" : Str)] : List Str)) := fun _ => rfl
  simp [b19, d19, fldK_ck, e1]
  refine lc_walkA (fun p => .bl (decide (p.2 ≤ M.get m p.1))) W (fun p mp => ?_) ?_
  · simp [hi, e_count_of]
    decide
  · refine all_mk (g := fun p : Str × Int => decide (p.2 ≤ M.get m p.1)) ?_
    simp [leq, List.all_map, Function.comp_def]
theorem e_le (n b : Nat) (l m : AL Str) (st : List U) : fnL tab (n + 3) f_Clock___le__ b [CK l, CK m] st = .ok (.bl (leq l m)) st := by
  refine eq_of_run ?_
  rw [fn11, run_fnE]
  simp [b11, d11, e_want, e_is_at_most]
theorem e_ge (n b : Nat) (l m : AL Str) (st : List U) : fnL tab (n + 3) f_Clock___ge__ b [CK l, CK m] st = .ok (.bl (leq m l)) st := by
  refine eq_of_run ?_
  rw [fn12, run_fnE]
  simp [b12, d12, e_want, e_is_at_most]
theorem e_eq (n b : Nat) (l m : AL Str) (st : List U) : fnL tab (n + 1) f_Clock___eq__ b [CK l, CK m] st = .ok (.bl (deq l m)) st := by
  refine eq_of_run ?_
  rw [fn17, run_fnE]
  simp [b17, d17, isi_ck, fldK_ck, dd_eq T0 (fnL tab n) (Dk.tree (l := l)) (Dk.tree (l := m))]
theorem e_add (n b k : Nat) (l : AL Str) (x : Str) (st : List U) (a : Ck k l) (hx : isNm x = true) (h : k + 1 < 64) : fnL tab (n + 5) f_Clock___add__ b [CK l, .str x] st = .ok (CK (inc l x)) st := by
  refine eq_of_run ?_
  rw [fn15, run_fnE]
  have hz : l.length < sizeLine := by have := a.le; rw [sizeLine_eq]; omega
  simp [b15, d15, e_is_name _ _ _ _ hx, fldK_ck, (Dk.tree (l := l)).at, (Dk.tree (l := l)).ty, kks_d, get_d (Dk.tree (l := l)).at, toKey, zip_d, merge_new a.nd, kput_d a.nd, dkk_len, hz, dks_a, noref_d]
  rw [← mkRun_no]
  have e := e_make n b (k + 1) _ (M.put l x (M.get l x + 1)) st Dk.tree (a.toGd.put hx (by have := a.toGd.get x; omega)) h
  unfold D at e
  rw [e]
  exact ⟨rfl, rfl⟩
/-- + of a clock and a name -/
theorem op_add {F : Nat → Fn} {b : Nat} {l : AL Str} {x : Str} {st : List U} : tBin T0 F .Add b (CK l) (.str x) st = callM false (F 15) b [CK l, .str x] st := by kernel_rfl
theorem op_radd {F : Nat → Fn} {b : Nat} {l : AL Str} {x : Str} {st : List U} : tBin T0 F .Add b (.str x) (CK l) st = callM false (F 16) b [CK l, .str x] st := by kernel_rfl
theorem op_or {F : Nat → Fn} {b : Nat} {l m : AL Str} {st : List U} : tBin T0 F .BitOr b (CK l) (CK m) st = callM false (F 13) b [CK l, CK m] st := by kernel_rfl
theorem op_and {F : Nat → Fn} {b : Nat} {l m : AL Str} {st : List U} : tBin T0 F .BitAnd b (CK l) (CK m) st = callM false (F 14) b [CK l, CK m] st := by kernel_rfl
theorem op_le {F : Nat → Fn} {b : Nat} {l m : AL Str} {st : List U} : tCmp T0 F .LtE b (CK l) (CK m) st = callM false (F 11) b [CK l, CK m] st := by kernel_rfl
theorem op_ge {F : Nat → Fn} {b : Nat} {l m : AL Str} {st : List U} : tCmp T0 F .GtE b (CK l) (CK m) st = callM false (F 12) b [CK l, CK m] st := by kernel_rfl
theorem op_eq {F : Nat → Fn} {b : Nat} {l m : AL Str} {st : List U} : tCmp T0 F .Eq b (CK l) (CK m) st = callM false (F 17) b [CK l, CK m] st := by kernel_rfl
theorem op_ne {F : Nat → Fn} {b : Nat} {l m : AL Str} {st : List U} : tCmp T0 F .NotEq b (CK l) (CK m) st = notR (callM false (F 17) b [CK l, CK m] st) := by kernel_rfl
theorem op_ix {F : Nat → Fn} {b : Nat} {l : AL Str} {x : Str} {st : List U} : tIxW T0 F b (CK l) (.str x) st = callM false (F 6) b [CK l, .str x] st := by kernel_rfl
theorem e_radd (n b k : Nat) (l : AL Str) (x : Str) (st : List U) (a : Ck k l) (hx : isNm x = true) (h : k + 1 < 64) : fnL tab (n + 6) f_Clock___radd__ b [CK l, .str x] st = .ok (CK (inc l x)) st := by
  refine eq_of_run ?_
  rw [fn16, run_fnE]
  simp [b16, d16, op_add, e_add _ _ _ _ _ _ a hx h]
  rw [show CK (inc l x) = .ins 0 ["own_counts"] [D (inc l x)] from rfl]
  simp
theorem e_ix (n b : Nat) (l : AL Str) (x : Str) (st : List U) (hx : isNm x = true) : fnL tab (n + 2) f_Clock___getitem__ b [CK l, .str x] st = .ok (.int (M.get l x)) st := by
  refine eq_of_run ?_
  rw [fn6, run_fnE]
  simp [b6, d6, e_is_name _ _ _ _ hx, fldK_ck, Dk.tree.ty, get_d (Dk.tree (l := l)).at]
/-! ### the law's own defs -/
theorem e_plain (n b k : Nat) (u : U) (l : AL Str) (st : List U) (hd : Dk u st l) (g : Gd k l) (hk : k < 64) : fnL tab (n + 1) f__law_plain b [u] st = .ok (D (cn l)) st := by
  refine eq_of_run ?_
  rw [fn26, run_fnE]
  have hl : l.length < 64 := by have := g.le; omega
  simp only [b26, d26, rs_seq, rs_ret, r_bf, r_cons, r_nil, r_lc, it_bf, r_v, List.map_cons, List.map_nil, List.length_cons, List.length_nil, List.cons_append, List.getElem?_cons_zero, f_sorted, sorted_dk hd hl, run_mk, mkK_no]
  refine ⟨noref_map fun _ => rfl, ?_⟩
  simp
  refine lc_walk (iv := ⟨_, fun _ => True, none⟩) (l := sortStr (keys l)) (g := .str) (fun x => decide (0 < M.get l x)) (fun x => .tup [.str x, .int (M.get l x)]) ⟨rfl, trivial, rfl⟩ (fun x hx => ?_) ?_
  · have hm : x ∈ keys l := (sorts_str.perm _).mem_iff.mp hx
    simp [ix_d T0 (fnL tab n) hd.noIns hd.at hm, noref, U.isRef]
    intro _
    rw [sizeLine_eq]; omega
  · rw [mkK_no]
    refine ⟨noref_map fun _ => rfl, ?_⟩
    have e : ((sortStr (keys l)).filter fun x => decide (0 < M.get l x)).map (fun x => U.tup [.str x, .int (M.get l x)]) = (cn l).map fun p => .tup [.str p.1, .int p.2] := by
      rw [sorts_str.filter]; unfold cn canon pos; rw [List.map_map]; rfl
    rw [e]
    simp only [f_dict, dict_pairs, run_mk, mkK_no]
    rw [puts_new (by simpa using nodup_canon sorts_str g.nd), List.nil_append]
    refine ⟨noref_d, ?_⟩
    simp [D]
theorem get_pairs {l : List Str} {f : Str → Int} {x : Str} : M.get (puts [] (l.map fun y => (y, f y))) x = if x ∈ l then f x else 0 := by
  have e : keys (l.map fun y => (y, f y)) = l := by unfold keys; rw [List.map_map]; simp [Function.comp_def]
  rw [get_puts (f := f) (fun p hp => by obtain ⟨y, _, rfl⟩ := List.mem_map.mp hp; rfl), e, get_nil]
theorem nd_pairs {l : List Str} {f : Str → Int} : (keys (puts [] (l.map fun y => (y, f y)))).Nodup := nodup_puts (by simp [keys])
theorem len_puts {ps : AL Str} : ∀ {l : AL Str}, (puts l ps).length ≤ l.length + ps.length := by
  induction ps with
  | nil => intro l; simp [puts]
  | cons p ps ih => intro l; have := ih (l := put l p.1 p.2); have := put_len (l := l) (k := p.1) (v := p.2); rw [puts_cons, List.length_cons]; omega
/-- a dict by the names of two -/
theorem pairs_Gd {j k : Nat} {l m : AL Str} (a : Gd j l) (c : Gd k m) (f : Str → Int) (hf : ∀ x, 0 ≤ f x) : Gd (j + k) (puts [] ((keys l ++ keys m).map fun y => (y, f y))) := by
  refine .of nd_pairs (fun x hx => ?_) (fun x => ?_) ?_
  · rcases keys_puts.mp hx with h | h
    · cases h
    · have e : keys ((keys l ++ keys m).map fun y => (y, f y)) = keys l ++ keys m := by
        show List.map (fun p : Str × Int => p.1) (List.map (fun y => (y, f y)) (keys l ++ keys m)) = _
        rw [List.map_map]; simp [Function.comp_def]
      rw [e] at h
      exact (List.mem_append.mp h).elim a.nmk c.nmk
  · rw [get_pairs]; split
    · exact hf x
    · exact Int.le_refl 0
  · refine Nat.le_trans len_puts ?_
    have h1 : (keys l).length = l.length := by simp [keys]
    have h2 : (keys m).length = m.length := by simp [keys]
    have := a.le
    have := c.le
    simp only [List.length_nil, List.length_map, List.length_append]
    omega
theorem most_eq {j k : Nat} {l m : AL Str} (a : Gd j l) (c : Gd k m) : cn (puts [] ((keys l ++ keys m).map fun y => (y, if M.get m y > M.get l y then M.get m y else M.get l y))) = gmax (cn l) (cn m) := by
  have g := pairs_Gd a c (fun y => if M.get m y > M.get l y then M.get m y else M.get l y) (fun x => by have := a.get x; have := c.get x; split <;> assumption)
  refine Ck.ext g.ck (a.ck.gmax c.ck) fun x => ?_
  rw [get_canon sorts_str g.get, get_pairs, get_gmax a.cn c.cn, get_canon sorts_str a.get, get_canon sorts_str c.get]
  by_cases h : x ∈ keys l ++ keys m
  · rw [if_pos h]
  · rw [if_neg h]
    rw [List.mem_append, not_or] at h
    rw [get_none h.1, get_none h.2]; simp
theorem least_eq {j k : Nat} {l m : AL Str} (a : Gd j l) (c : Gd k m) : cn (puts [] ((keys l ++ keys m).map fun y => (y, if M.get m y < M.get l y then M.get m y else M.get l y))) = gmin (cn l) (cn m) := by
  have g := pairs_Gd a c (fun y => if M.get m y < M.get l y then M.get m y else M.get l y) (fun x => by have := a.get x; have := c.get x; split <;> assumption)
  refine Ck.ext g.ck (a.ck.gmin c.ck) fun x => ?_
  rw [get_canon sorts_str g.get, get_pairs, get_gmin a.cn c.cn, get_canon sorts_str a.get, get_canon sorts_str c.get]
  by_cases h : x ∈ keys l ++ keys m
  · rw [if_pos h]
  · rw [if_neg h]
    rw [List.mem_append, not_or] at h
    rw [get_none h.1, get_none h.2]; simp
theorem e_most (n b j k : Nat) (l m : AL Str) (st : List U) (a : Gd j l) (c : Gd k m) (h : j + k < 64) : fnL tab (n + 2) f__law_most b [D l, D m] st = .ok (D (gmax (cn l) (cn m))) st := by
  refine eq_of_run ?_
  rw [fn27, run_fnE]
  have hz : (keys l).length + (keys m).length ≤ sizeLine := by
    have := a.le; have := c.le
    rw [sizeLine_eq]; simp only [keys, List.length_map]; omega
  simp [b27, d27, lst_dk (Dk.tree (l := l)), lst_dk (Dk.tree (l := m)), run_mk, noref_map, U.isRef]
  rw [l_add T0 (fnL tab (n + 1)) (us := (keys l).map .str) (ws := (keys m).map .str) rfl rfl rfl rfl]
  rw [← List.map_append]
  refine ⟨noref_map fun _ => rfl, noref_map fun _ => rfl, by simpa using hz, noref_map fun _ => rfl, ?_⟩
  refine lc_walkA (iv := ⟨_, fun _ => True, none⟩) (l := keys l ++ keys m) (g := .str) (fun x => .tup [.str x, .int (if M.get m x > M.get l x then M.get m x else M.get l x)]) ⟨rfl, trivial, rfl⟩ (fun x hx => ?_) ?_
  · simp [(Dk.tree (l := l)).ty, (Dk.tree (l := m)).ty, get_d (Dk.tree (l := l)).at, get_d (Dk.tree (l := m)).at, noref, U.isRef]
    rw [sizeLine_eq]; omega
  · rw [mkK_no]
    refine ⟨noref_map fun _ => rfl, ?_⟩
    have g := pairs_Gd a c (fun y => if M.get m y > M.get l y then M.get m y else M.get l y) (fun x => by have := a.get x; have := c.get x; split <;> assumption)
    have e : ((keys l ++ keys m).map fun x => U.tup [.str x, .int (if M.get m x > M.get l x then M.get m x else M.get l x)]) = ((keys l ++ keys m).map fun y => (y, if M.get m y > M.get l y then M.get m y else M.get l y)).map fun p => .tup [.str p.1, .int p.2] := by rw [List.map_map]; rfl
    rw [e]
    simp only [f_dict, dict_pairs, run_mk, mkK_no]
    have hm := most_eq a c
    clear e
    revert g hm
    generalize puts ([] : AL Str) _ = P
    intro g hm
    refine ⟨noref_d, ?_⟩
    have e2 := e_plain n st.length _ _ _ st (Dk.tree (st := st)) g h
    unfold D at e2
    simp [e2]
    rw [hm]
    rfl
theorem e_lmin (n b j k : Nat) (l m : AL Str) (st : List U) (a : Gd j l) (c : Gd k m) (h : j + k < 64) : fnL tab (n + 2) f__law_least b [D l, D m] st = .ok (D (gmin (cn l) (cn m))) st := by
  refine eq_of_run ?_
  rw [fn28, run_fnE]
  have hz : (keys l).length + (keys m).length ≤ sizeLine := by
    have := a.le; have := c.le
    rw [sizeLine_eq]; simp only [keys, List.length_map]; omega
  simp [b28, d28, lst_dk (Dk.tree (l := l)), lst_dk (Dk.tree (l := m)), run_mk, noref_map, U.isRef]
  rw [l_add T0 (fnL tab (n + 1)) (us := (keys l).map .str) (ws := (keys m).map .str) rfl rfl rfl rfl]
  rw [← List.map_append]
  refine ⟨noref_map fun _ => rfl, noref_map fun _ => rfl, by simpa using hz, noref_map fun _ => rfl, ?_⟩
  refine lc_walkA (iv := ⟨_, fun _ => True, none⟩) (l := keys l ++ keys m) (g := .str) (fun x => .tup [.str x, .int (if M.get m x < M.get l x then M.get m x else M.get l x)]) ⟨rfl, trivial, rfl⟩ (fun x hx => ?_) ?_
  · simp [(Dk.tree (l := l)).ty, (Dk.tree (l := m)).ty, get_d (Dk.tree (l := l)).at, get_d (Dk.tree (l := m)).at, noref, U.isRef]
    rw [sizeLine_eq]; omega
  · rw [mkK_no]
    refine ⟨noref_map fun _ => rfl, ?_⟩
    have g := pairs_Gd a c (fun y => if M.get m y < M.get l y then M.get m y else M.get l y) (fun x => by have := a.get x; have := c.get x; split <;> assumption)
    have e : ((keys l ++ keys m).map fun x => U.tup [.str x, .int (if M.get m x < M.get l x then M.get m x else M.get l x)]) = ((keys l ++ keys m).map fun y => (y, if M.get m y < M.get l y then M.get m y else M.get l y)).map fun p => .tup [.str p.1, .int p.2] := by rw [List.map_map]; rfl
    rw [e]
    simp only [f_dict, dict_pairs, run_mk, mkK_no]
    have hm := least_eq a c
    clear e
    revert g hm
    generalize puts ([] : AL Str) _ = P
    intro g hm
    refine ⟨noref_d, ?_⟩
    have e2 := e_plain n st.length _ _ _ st (Dk.tree (st := st)) g h
    unfold D at e2
    simp [e2]
    rw [hm]
    rfl
theorem leq_iff {j : Nat} {l m : AL Str} (a : Gd j l) (hm : ∀ x, 0 ≤ M.get m x) : leq l m = true ↔ ∀ x, M.get l x ≤ M.get m x := by
  unfold leq
  rw [List.all_eq_true]
  refine ⟨fun h x => ?_, fun h p hp => ?_⟩
  · by_cases hx : x ∈ keys l
    · have := h _ (mem_get hx)
      simpa using this
    · rw [get_none hx]; exact hm x
  · have := h p.1
    rw [get_mem a.nd hp] at this
    simpa using this
theorem e_atmost (n b j k : Nat) (l m : AL Str) (st : List U) (a : Gd j l) (c : Gd k m) : fnL tab (n + 1) f__law_is_at_most b [D l, D m] st = .ok (.bl (leq (cn l) (cn m))) st := by
  have he : (l.map fun p => decide (M.get l p.1 ≤ M.get m p.1)).all id = leq (cn l) (cn m) := by
    rw [Bool.eq_iff_iff, leq_iff a.cn (c.cn).get]
    simp only [List.all_map, Function.comp_def, id, List.all_eq_true, decide_eq_true_eq]
    refine ⟨fun h x => ?_, fun h p hp => ?_⟩
    · rw [get_canon sorts_str a.get, get_canon sorts_str c.get]
      by_cases hx : x ∈ keys l
      · exact h _ (mem_get hx)
      · rw [get_none hx]; exact c.get x
    · have := h p.1
      rwa [get_canon sorts_str a.get, get_canon sorts_str c.get] at this
  refine eq_of_run ?_
  rw [fn29, run_fnE]
  obtain ⟨iv, e1, W, e2, e3⟩ := (Dk.tree (l := l) (st := st)).iter
  simp [b29, d29, e1]
  refine lc_walkA (fun p => .bl (decide (M.get l p.1 ≤ M.get m p.1))) W (fun p mp => ?_) ?_
  · simp [ix_d T0 (fnL tab n) e3 e2 (List.mem_map.mpr ⟨p, mp, rfl⟩), (Dk.tree (l := m)).ty, get_d (Dk.tree (l := m)).at]
  · refine all_mk (g := fun p : Str × Int => decide (M.get l p.1 ≤ M.get m p.1)) ?_
    simp only [seqK_rt, fnK_rt, and_true]
    rw [he]
end K21

set_option maxRecDepth 100000
namespace K21
open PySem PySem.Spec PyProof.Rows L2 EV M
theorem isNm_sz {x : Str} (h : isNm x = true) : x.cps.size ≤ 6 ∧ ∀ c ∈ x.cps.toList, c ≤ 122 := by
  unfold isNm at h
  simp only [Bool.and_eq_true, decide_eq_true_eq, List.all_eq_true] at h
  exact ⟨h.1.2, fun c hc => (h.2 c hc).2⟩
theorem isNm_ok {x : Str} (h : isNm x = true) : PyData.strOk x = true := by
  have := (isNm_sz h).2
  unfold PyData.strOk
  rw [← Array.all_toList, List.all_eq_true]
  intro c hc
  have := this c hc
  exact decide_eq_true (by omega)
/-- as the law draws them -/
structure Rw (l : AL Str) : Prop extends Gd 4 l where
  sm : ∀ p ∈ l, p.2 < 10 ^ 30
theorem Rw.show {l : AL Str} {st : List U} (r : Rw l) : showU st (D (cn l)) = some (sh (cn l)) ∧ (sh (cn l)).length ≤ 400000 := by
  refine show_D (fun p hp => isNm_sz (r.toGd.cn.nm p hp)) (fun p hp => ?_) (Nat.le_trans r.toGd.cn.le (by decide))
  obtain ⟨h1, h2, h3⟩ := canon_pos sorts_str hp
  have h4 := r.sm _ (mem_get h3)
  simp only at h4
  rw [← h2] at h4
  omega
def rp (l : AL Str) : Str := "Clock(" ++ sh l ++ ")"
theorem e_repr (n b : Nat) (l : AL Str) (st : List U) (r : Rw l) : fnL tab (n + 1) f_Clock___repr__ b [CK (cn l)] st = .ok (.str (rp (cn l))) st := by
  refine eq_of_run ?_
  rw [fn18, run_fnE]
  have h := (r.show (st := st))
  have e1 : (Str.empty ++ ("Clock(" : Str)) = ("Clock(" : Str) := by decide
  have l1 : ("Clock(" : Str).length = 6 := by decide
  have l2 : (")" : Str).length = 1 := by decide
  have l0 : Str.empty.length = 0 := rfl
  simp [b18, d18, strK, fldK_ck, h.1, e1, str_app, l1, l2, l0]
  rw [sizeLine_eq]
  have := h.2
  refine ⟨by omega, by omega, by omega, rfl⟩
theorem c_of {F : Fn} {us : List U} {v : U} {b : Nat} {st : List U} (h : F st.length us st = .ok v st) (hv : v.isRef = false) : callM false F b us st = .ok v st := by
  rw [callM_no, h]; exact leave_tree hv
section
variable {n b j k : Nat} {l m : AL Str} {x : Str} {st : List U}
theorem c_plain (g : Gd k l) (hk : k < 64) : callM false (fnL tab (n + 1) 26) b [D l] st = .ok (D (cn l)) st := c_of (e_plain n _ k _ l st Dk.tree g hk) rfl
theorem c_total : callM false (fnL tab (n + 1) 9) b [CK l] st = .ok (.int (l.map (·.2)).sum) st := c_of (e_total n _ l st) rfl
theorem c_most (a : Gd j l) (c : Gd k m) (h : j + k < 64) : callM false (fnL tab (n + 2) 27) b [D l, D m] st = .ok (D (gmax (cn l) (cn m))) st := c_of (e_most n _ j k l m st a c h) rfl
theorem c_lmin (a : Gd j l) (c : Gd k m) (h : j + k < 64) : callM false (fnL tab (n + 2) 28) b [D l, D m] st = .ok (D (gmin (cn l) (cn m))) st := c_of (e_lmin n _ j k l m st a c h) rfl
theorem c_atmost (a : Gd j l) (c : Gd k m) : callM false (fnL tab (n + 1) 29) b [D l, D m] st = .ok (.bl (leq (cn l) (cn m))) st := c_of (e_atmost n _ j k l m st a c) rfl
theorem c_le : callM false (fnL tab (n + 3) 11) b [CK l, CK m] st = .ok (.bl (leq l m)) st := c_of (e_le n _ l m st) rfl
theorem c_ge : callM false (fnL tab (n + 3) 12) b [CK l, CK m] st = .ok (.bl (leq m l)) st := c_of (e_ge n _ l m st) rfl
theorem c_eq : callM false (fnL tab (n + 1) 17) b [CK l, CK m] st = .ok (.bl (deq l m)) st := c_of (e_eq n _ l m st) rfl
theorem c_or (a : Ck j l) (c : Ck k m) (h : j + k < 64) : callM false (fnL tab (n + 5) 13) b [CK l, CK m] st = .ok (CK (gmax l m)) st := c_of (e_or n _ j k l m st a c h) rfl
theorem c_and (a : Ck j l) (c : Ck k m) (h : j < 64) : callM false (fnL tab (n + 5) 14) b [CK l, CK m] st = .ok (CK (gmin l m)) st := c_of (e_and n _ j k l m st a c h) rfl
theorem c_add (a : Ck k l) (hx : isNm x = true) (h : k + 1 < 64) : callM false (fnL tab (n + 5) 15) b [CK l, .str x] st = .ok (CK (inc l x)) st := c_of (e_add n _ k l x st a hx h) rfl
theorem c_radd (a : Ck k l) (hx : isNm x = true) (h : k + 1 < 64) : callM false (fnL tab (n + 6) 16) b [CK l, .str x] st = .ok (CK (inc l x)) st := c_of (e_radd n _ k l x st a hx h) rfl
theorem c_ix (hx : isNm x = true) : callM false (fnL tab (n + 2) 6) b [CK l, .str x] st = .ok (.int (M.get l x)) st := c_of (e_ix n _ l x st hx) rfl
theorem c_repr (r : Rw l) : callM false (fnL tab (n + 1) 18) b [CK (cn l)] st = .ok (.str (rp (cn l))) st := c_of (e_repr n _ l st r) rfl
theorem c_counts : callM false (fnL tab (n + 1) 8) b [CK l] st = .ok (D l) st := by
  rw [callM_no, e_counts]; exact leave_D st
end
theorem t_repr {F : Nat → Fn} {b : Nat} {l : AL Str} {st : List U} : tRepr T0 F b [CK l] st = (callM false (F 18) b [CK l] st).bind fun z st1 => (match z with
  | .str y => .ok (.str y) st1
  | _ => .stuck) := rfl
theorem t_reprD {F : Nat → Fn} {b : Nat} {l : AL Str} {st : List U} : tRepr T0 F b [D l] st = ofO (pRepr b [D l] st) := rfl
/-! ### _law_told_right -/
def TJ (c d : U) (st : List U) (ρ : En) (s : List U) : Prop := ∃ x y ex, ρ = [some c, some d, x, y, none, none] ∧ s = st ++ ex
theorem e_told (n b : Nat) (l : AL Str) (st : List U) (r : Rw l) : callM false (fnL tab (n + 6) f__law_told_right) b [CK (cn l), D l] st = .ok (.bl true) st := by
  refine call_app ?_ rfl
  rw [fn30, run_fnE]
  have gc := r.toGd.cn
  have hi : ∀ s : List U, insCls (CK (cn l)) s = some ((0 : Nat), ([("own_counts" : Str)] : List Str)) := fun _ => rfl
  have hty : ∀ (s : List U) (l : AL Str), tyU "dict" (.ref s.length) (s ++ [D l]) = true := fun s l => Dk.ty (l := l) (.inr ⟨_, rfl, by simp⟩)
  have hlook : ∀ s : List U, (s ++ [D (cn l)])[s.length]? = some (D (cn l)) := fun s => by simp
  have hd : ∀ s : List U, Dk (.ref s.length) (s ++ [D (cn l)]) (cn l) := fun s => .inr ⟨_, rfl, hlook s⟩
  simp [b30, d30]
  refine for_inv (fun _ ρ s => TJ (CK (cn l)) (D l) st ρ s) ?_ ?_ _ _ _ ⟨none, none, [], rfl, by simp⟩
  · rintro u us ρ s ⟨x, y, ex, rfl, hs⟩
    refine ⟨trivial, ?_⟩
    have c1 : ¬ (("counts" : Str) = "own_counts") := by decide
    have c2 : ¬ (("total" : Str) = "own_counts") := by decide
    simp [-callM_no, hi, c1, c2, e_counts, c_plain r.toGd, c_total, (hd s).at, (Dk.tree (l := cn l)).at, vals_dk (Dk.tree (l := l)), kks_d, noref_d, noref_items, items_zip, pairs_ne T0 (fnL tab (n + 5)) (l := cn l) (fun p hp => isNm_ok (gc.nm p hp)), ints_dvs, sum_canon sorts_str r.nd r.nn, (hd s).ty, hty, set_d (hlook s) gc.nd (by have := gc.le; rw [sizeLine_eq]; omega)]
    have hs2 : ∀ o, ((s ++ [D (cn l)]).set s.length o)[s.length]? = some o := fun o => by simp
    refine pop_d (l := put (cn l) "zzz" 5) (by simp) (fun u o => ?_) ?_
    · exact ⟨_, _, ex ++ [o], rfl, by rw [hs]; simp⟩
    · exact ⟨_, _, ex ++ [D (put (cn l) "zzz" 5)], rfl, by rw [hs]; simp⟩
  · rintro ρ s ⟨x, y, ex, rfl, hs⟩
    refine ⟨trivial, ?_⟩
    have hn : ∀ t ∈ ([("a" : Str), "b", "zz", "abcdef", "q"] : List Str), isNm t = true := by decide
    simp [-callM_no]
    refine ⟨by rw [sizeLine_eq]; omega, by decide, ?_⟩
    refine lc_walkA (iv := ⟨_, fun _ => True, none⟩) (l := [("a" : Str), "b", "zz", "abcdef", "q"]) (g := .str) (fun t => .int (M.get (cn l) t)) ⟨rfl, trivial, rfl⟩ (fun t ht => ?_) ?_
    · simp [-callM_no, op_ix, c_ix (hn t ht)]
    · rw [mkK_no]
      refine ⟨noref_map fun _ => rfl, ?_⟩
      refine lc_walkA (iv := ⟨_, fun _ => True, none⟩) (l := [("a" : Str), "b", "zz", "abcdef", "q"]) (g := .str) (fun t => .int (M.get l t)) ⟨rfl, trivial, rfl⟩ (fun t ht => ?_) ?_
      · simp [-callM_no, (Dk.tree (l := l)).ty, get_d (Dk.tree (l := l)).at]
      · rw [mkK_no]
        refine ⟨noref_map fun _ => rfl, ?_⟩
        have e1 : ∀ f : Str → Int, ([("a" : Str), "b", "zz", "abcdef", "q"].map fun t => U.int (f t)) = ([("a" : Str), "b", "zz", "abcdef", "q"].map f).map .int := fun f => by rw [List.map_map]; rfl
        have e2 : [("a" : Str), "b", "zz", "abcdef", "q"].map (M.get (cn l)) = [("a" : Str), "b", "zz", "abcdef", "q"].map (M.get l) := List.map_congr_left fun t _ => get_canon sorts_str r.get t
        rw [e1, e1, ints_ne, e2]
        have h := (r.show (st := s))
        have l1 : ("Clock(" : Str).length = 6 := by decide
        have l2 : (")" : Str).length = 1 := by decide
        have hr := h.2
        simp [-callM_no, t_repr, t_reprD, c_repr r, c_plain r.toGd, pRepr, h.1, str_app, l1, l2, Res.bind]
        rw [sizeLine_eq]
        refine ⟨by omega, by omega, ?_⟩
        exact ⟨rfl, ex, hs⟩
end K21

set_option maxRecDepth 100000
namespace K21
open PySem PySem.Spec PyProof.Rows L2 EV M
theorem ck_ref {l : AL Str} : (CK l).isRef = false := rfl
theorem ck_ins {l : AL Str} {st : List U} : insCls (CK l) st = some ((0 : Nat), ([("own_counts" : Str)] : List Str)) := rfl
theorem notR_bl {c : Bool} {st : List U} : notR (.ok (.bl c) st) = .ok (.bl (!c)) st := rfl
theorem t_reprL {F : Nat → Fn} {b : Nat} {us st : List U} : tRepr T0 F b [.lst us] st = ofO (pRepr b [.lst us] st) := rfl
theorem show4 {p q r s : Bool} {st : List U} : ∃ t, showU st (.lst [.bl p, .bl q, .bl r, .bl s]) = some t := by
  have e : pq 9 st (.lst [.bl p, .bl q, .bl r, .bl s]) = some (.list [.bool p, .bool q, .bool r, .bool s]) := rfl
  simp only [showU, e]
  rw [if_pos (by clear e; revert p q r s; decide +kernel)]
  exact ⟨_, rfl⟩
theorem noref4 {p q r s : Bool} : noref [.bl p, .bl q, .bl r, .bl s] = true := rfl
theorem sz4 : 4 ≤ sizeLine := by rw [sizeLine_eq]; omega
theorem leq_pi {j : Nat} {l m : AL Str} (a : Gd j l) (hm : ∀ x, 0 ≤ M.get m x) (h : ∀ x, M.get l x ≤ M.get m x) : leq l m = true := (leq_iff a hm).mpr h
theorem e_pair (n b : Nat) (l m : AL Str) (st : List U) (r : Rw l) (s : Rw m) : callM false (fnL tab (n + 6) f__law_pair_right) b [D l, D m, CK (cn l), CK (cn m)] st = .ok (.bl true) st := by
  refine call_app ?_ rfl
  rw [fn31, run_fnE]
  have a := r.toGd.ck
  have c := s.toGd.ck
  have g1 := a.gmax c
  have g2 := a.gmin c
  have h1 := get_gmax a.toGd c.toGd
  have h2 := get_gmin a.toGd c.toGd
  have l1 : leq (gmin (cn l) (cn m)) (cn l) = true := leq_pi g2.toGd a.get fun x => by rw [h2]; split <;> omega
  have l2 : leq (gmin (cn l) (cn m)) (cn m) = true := leq_pi g2.toGd c.get fun x => by rw [h2]; split <;> omega
  have l3 : leq (cn l) (gmax (cn l) (cn m)) = true := leq_pi a.toGd g1.get fun x => by rw [h1]; split <;> omega
  have l4 : leq (cn m) (gmax (cn l) (cn m)) = true := leq_pi c.toGd g1.get fun x => by rw [h1]; split <;> omega
  have x1 : gmax (cn m) (cn l) = gmax (cn l) (cn m) := (c.gmax a).ext g1 fun x => by rw [h1, get_gmax c.toGd a.toGd]; split <;> split <;> omega
  have x2 : gmin (cn m) (cn l) = gmin (cn l) (cn m) := (c.gmin a).ext g2 fun x => by rw [h2, get_gmin c.toGd a.toGd]; split <;> split <;> omega
  have x3 : gmax (cn l) (gmin (cn l) (cn m)) = cn l := (a.gmax g2).ext a fun x => by rw [get_gmax a.toGd g2.toGd, h2]; split <;> split at * <;> omega
  have x4 : gmin (cn l) (gmax (cn l) (cn m)) = cn l := (a.gmin g1).ext a fun x => by rw [get_gmin a.toGd g1.toGd, h1]; split <;> split at * <;> omega
  have c1 : ¬ (("counts" : Str) = "own_counts") := by decide
  obtain ⟨t, ht⟩ := show4 (p := leq (cn l) (cn m)) (q := leq (cn m) (cn l)) (r := deq (cn l) (cn m)) (s := !deq (cn l) (cn m)) (st := st)
  simp [-callM_no, setAll, b31, d31, op_or, op_and, op_le, op_ge, op_eq, op_ne, c_or a c, c_and a c, c_or c a, c_and c a, c_or a g2, c_and a g1, ck_ref, ck_ins, c1, c_counts, c_most r.toGd s.toGd, c_lmin r.toGd s.toGd, c_le, c_ge, c_eq, c_plain r.toGd, c_plain s.toGd, dd_ne T0 (fnL tab (n + 5)) Dk.tree Dk.tree, deq_refl g1.nd, deq_refl g2.nd, deq_refl a.nd, notR_bl, t_reprL, pRepr, ht, noref4, sz4, dd_eq T0 (fnL tab (n + 5)) Dk.tree Dk.tree, c_atmost r.toGd s.toGd, c_atmost s.toGd r.toGd, l1, l2, l3, l4, x1, x2, x3, x4]
end K21

set_option maxRecDepth 100000
namespace K21
open PySem PySem.Spec PyProof.Rows L2 EV M
theorem sum_put {l : AL Str} {x : Str} {v : Int} : (keys l).Nodup → ((put l x v).map (·.2)).sum = (l.map (·.2)).sum + (v - M.get l x) := by
  induction l with
  | nil => intro _; show v + 0 = 0 + (v - 0); omega
  | cons p l ih =>
    intro nd
    obtain ⟨j, w⟩ := p
    have nd' : j ∉ keys l ∧ (keys l).Nodup := List.nodup_cons.mp nd
    rw [get_cons]
    unfold put
    by_cases e : j = x
    · subst e
      rw [if_pos rfl, if_pos rfl]
      simp only [List.map_cons, List.sum_cons]; omega
    · rw [if_neg e, if_neg e]
      simp only [List.map_cons, List.sum_cons, ih nd'.2]; omega
theorem sum_inc {k : Nat} {l : AL Str} {x : Str} (a : Ck k l) (hx : isNm x = true) : ((inc l x).map (·.2)).sum = (l.map (·.2)).sum + 1 := by
  have g := a.toGd.put hx (v := M.get l x + 1) (by have := a.get x; omega)
  unfold inc
  rw [sum_canon sorts_str g.nd g.nn, sum_put a.nd]; omega
theorem leq_inc {k : Nat} {l : AL Str} {x : Str} (a : Ck k l) (hx : isNm x = true) : leq l (inc l x) = true := leq_pi a.toGd (a.inc hx).get fun y => by rw [get_inc a.toGd hx]; split <;> omega
theorem inc_leq {k : Nat} {l : AL Str} {x : Str} (a : Ck k l) (hx : isNm x = true) : leq (inc l x) l = false := by
  rw [Bool.eq_false_iff]
  intro h
  have := (leq_iff (a.inc hx).toGd a.get).mp h x
  rw [get_inc a.toGd hx, if_pos rfl] at this
  omega
theorem due_eq {k : Nat} {l : AL Str} {x : Str} (g : Gd k l) (hx : isNm x = true) : cn (put l x (M.get l x + 1)) = inc (cn l) x := by
  have p := g.put hx (v := M.get l x + 1) (by have := g.get x; omega)
  refine p.ck.ext (g.ck.inc hx) fun y => ?_
  rw [get_canon sorts_str p.get, get_put, get_inc g.cn hx, get_canon sorts_str g.get]
  split
  · rename_i e; rw [e]
  · rfl
def MJ (c d : U) (st : List U) (us : List U) (ρ : En) (s : List U) : Prop := (∀ u ∈ us, ∃ x, isNm x = true ∧ u = .str x) ∧ (∃ x y, ρ = [some c, some d, x, y]) ∧ s = st
theorem e_more (n b : Nat) (l : AL Str) (st : List U) (r : Rw l) : callM false (fnL tab (n + 7) f__law_more_right) b [CK (cn l), D l] st = .ok (.bl true) st := by
  refine call_app ?_ rfl
  rw [fn32, run_fnE]
  have a := r.toGd.ck
  have c1 : ¬ (("counts" : Str) = "own_counts") := by decide
  have c2 : ¬ (("total" : Str) = "own_counts") := by decide
  have hb : isNm ("b" : Str) = true := by decide
  simp [-callM_no, b32, d32]
  refine ⟨by rw [sizeLine_eq]; omega, rfl, ?_⟩
  refine for_inv (MJ (CK (cn l)) (D l) st) ?_ ?_ _ _ _ ⟨?_, ⟨none, none, rfl⟩, rfl⟩
  · rintro u us ρ s ⟨hu, ⟨x, y, rfl⟩, rfl⟩
    obtain ⟨t, ht, rfl⟩ := hu u (List.mem_cons_self ..)
    have hp := r.toGd.put ht (v := M.get l t + 1) (by have := r.toGd.get t; omega)
    have i1 := a.inc ht
    refine ⟨trivial, ?_⟩
    simp [-callM_no, op_add, op_radd, op_le, op_ne, c_add a ht, c_radd a ht, c_add i1 hb, c_radd i1 hb, ck_ref, ck_ins, c1, c2, c_counts, c_total, c_le, c_eq, c_plain hp, notR_bl, (Dk.tree (l := l)).ty, (Dk.tree (l := l)).at, items_zip, get_d (Dk.tree (l := l)).at, sum_inc a ht, leq_inc a ht, inc_leq a ht]
    simp only [kks_d]
    have hl := r.le
    have hz := sizeLine_eq
    refine ⟨noref_d, noref_items, rfl, by omega, by omega, rfl, ?_⟩
    rw [l_add T0 _ (us := l.map fun p => U.tup [U.str p.1, U.int p.2]) (ws := [U.tup [U.str t, U.int (M.get l t + 1)]]) rfl rfl rfl rfl]
    refine ⟨by simp only [List.length_map, List.length_cons, List.length_nil]; omega, ?_, ?_⟩
    · exact noref_all fun u m => by
        rcases List.mem_append.mp m with m | m
        · obtain ⟨p, _, rfl⟩ := List.mem_map.mp m; rfl
        · obtain rfl := List.mem_singleton.mp m; rfl
    have e : (l.map fun p => U.tup [U.str p.1, U.int p.2]) ++ [U.tup [U.str t, U.int (M.get l t + 1)]] = (l ++ [(t, M.get l t + 1)]).map fun p => U.tup [U.str p.1, U.int p.2] := by rw [List.map_append]; rfl
    have e2 : puts [] (l ++ [(t, M.get l t + 1)]) = put l t (M.get l t + 1) := by
      unfold puts; rw [List.foldl_append]; show put (puts [] l) _ _ = _; rw [puts_new (by simpa using r.nd)]; rfl
    rw [e]
    simp only [dict_pairs, run_mk, mkK_no, e2]
    refine ⟨noref_d, ?_⟩
    rw [show U.dct (dks (put l t (M.get l t + 1))) (dvs (put l t (M.get l t + 1))) = D (put l t (M.get l t + 1)) from rfl]
    simp only [c_plain hp (by omega : 4 + 1 < 64), run_ok, dd_ne T0 (fnL tab (n + 6)) Dk.tree Dk.tree, bK_bl, due_eq r.toGd ht, deq_refl i1.nd, deq_refl (i1.inc hb).nd, Bool.not_true, true_and]
    exact ⟨fun u m => hu u (List.mem_cons_of_mem _ m), ⟨_, _, rfl⟩, rfl⟩
  · rintro ρ s ⟨hu, ⟨x, y, rfl⟩, rfl⟩
    simp
  · intro u m
    simp only [List.mem_cons, List.not_mem_nil, or_false] at m
    rcases m with rfl | rfl | rfl <;> exact ⟨_, by decide, rfl⟩
end K21

set_option maxRecDepth 100000
namespace K21
open PySem PySem.Spec PyProof.Rows L2 EV M
def Pt (d r : Int) : U := .lst [.int d, .int r]
section
variable {E : U → List U → Prop} {Q : U → List U → Prop} {F : Nat → Fn} {b m : Nat} {s : List U} {d r v : Int}
theorem pt_at (hm : m < s.length) : (s.set m (Pt d r))[m]? = some (Pt d r) := by rw [List.getElem?_set_self hm]
theorem pt_ix (hm : m < s.length) {i : Int} : Run E (tIxW T0 F b (.ref m) (.int i) (s.set m (Pt d r))) Q = match atI [U.int d, U.int r] i with
    | some z => Q z (s.set m (Pt d r))
    | none => False := by
  have h := pt_at (d := d) (r := r) hm
  unfold Pt at h
  exact ix_l T0 F (by simp only [insCls, h, Pt]) (by simp only [dctAt, h, Pt]) (by simp only [sqAt, h, Pt])
theorem pt_ix0 (hm : m < s.length) : Run E (tIxW T0 F b (.ref m) (.int 0) (s.set m (Pt d r))) Q = Q (.int d) (s.set m (Pt d r)) := by rw [pt_ix hm]; rfl
theorem pt_ix1 (hm : m < s.length) : Run E (tIxW T0 F b (.ref m) (.int 1) (s.set m (Pt d r))) Q = Q (.int r) (s.set m (Pt d r)) := by rw [pt_ix hm]; rfl
theorem pt_set0 (hm : m < s.length) : pSetI b (.ref m) (.int 0) (.int v) (s.set m (Pt d r)) = some (s.set m (Pt v r)) := by
  have h := pt_at (d := d) (r := r) hm
  unfold Pt at h
  simp only [pSetI, U.isRef, or_true, if_true, h, Pt]
  show some ((s.set m _).set m _) = _
  rw [List.set_set]; rfl
theorem pt_set1 (hm : m < s.length) : pSetI b (.ref m) (.int 1) (.int v) (s.set m (Pt d r)) = some (s.set m (Pt d v)) := by
  have h := pt_at (d := d) (r := r) hm
  unfold Pt at h
  simp only [pSetI, U.isRef, or_true, if_true, h, Pt]
  show some ((s.set m _).set m _) = _
  rw [List.set_set]; rfl
end
structure Po (d r : Int) : Prop where
  d0 : 0 ≤ d
  r0 : 0 ≤ r
  r1 : r ≤ 2147483497
theorem e_draw (n b m : Nat) (d r k : Int) (s : List U) (hm : m < s.length) (h : Po d r) (hk : 0 < k) (hk2 : k ≤ 64) :
    Run NoE (fnL tab (n + 1) f__law_draw b [.ref m, .int k] (s.set m (Pt d r))) fun u s' => ∃ d' r' v : Int, u = .int v ∧ 0 ≤ v ∧ v < k ∧ s' = s.set m (Pt d' r') ∧ Po d' r' := by
  obtain ⟨h1, h2, h3⟩ := h
  rw [fn23, run_fnE]
  simp [b23, d23, pt_ix0 hm, pt_ix1 hm, pt_set0 hm, pt_set1 hm, divmod_i, setK]
  have k0 : k ≠ 0 := by omega
  have q0 : 0 ≤ (r * 48271 + 20011) % 2147483497 := Int.emod_nonneg _ (by decide)
  have q1 : (r * 48271 + 20011) % 2147483497 < 2147483497 := Int.emod_lt_of_pos _ (by decide)
  split
  · rename_i hd
    exact ⟨⟨hk, by omega⟩, Int.emod_nonneg _ k0, Int.emod_lt_of_pos _ hk, _, _, rfl, Int.ediv_nonneg h1 (by omega), h2, h3⟩
  · refine ⟨.inr (by decide), .inl ⟨by omega, by omega⟩, ⟨by decide, by decide⟩, hk, Int.emod_nonneg _ k0, Int.emod_lt_of_pos _ hk, _, _, rfl, h1, q0, by omega⟩
theorem call_tree {E : U → List U → Prop} {R Q : U → List U → Prop} {F : Fn} {b : Nat} {us st : List U} (h : Run NoE (F st.length us st) R) (k : ∀ u s', R u s' → u.isRef = false ∧ Q u (s'.take st.length)) : Run E (callM false F b us st) Q := by
  obtain ⟨u, s', e, r⟩ := run_ex h
  obtain ⟨h1, h2⟩ := k u s' r
  rw [callM_no, e]
  simp only [leave, frz_tree h1]
  exact h2
theorem call_obj {E : U → List U → Prop} {R Q : U → List U → Prop} {F : Fn} {b : Nat} {us st : List U} (h : Run NoE (F st.length us st) R) (k : ∀ u s', R u s' → ∃ o, u = .ref st.length ∧ s'[st.length]? = some o ∧ o.objOk = true ∧ Q o (s'.take st.length)) : Run E (callM false F b us st) Q := by
  obtain ⟨u, s', e, r⟩ := run_ex h
  obtain ⟨o, rfl, h1, h2, h3⟩ := k u s' r
  rw [callM_no, e, leave_ref h1 h2]
  exact h3
theorem c_draw {E : U → List U → Prop} {Q : U → List U → Prop} (n b m : Nat) (d r k : Int) (s : List U) (hm : m < s.length) (h : Po d r) (hk : 0 < k) (hk2 : k ≤ 64) (q : ∀ d' r' v : Int, 0 ≤ v → v < k → Po d' r' → Q (.int v) (s.set m (Pt d' r'))) :
    Run E (callM false (fnL tab (n + 1) 23) b [.ref m, .int k] (s.set m (Pt d r))) Q :=
  call_tree (e_draw n _ m d r k s hm h hk hk2) fun u s' ⟨d', r', v, e, v0, v1, e2, hp⟩ => by
    subst e; subst e2
    refine ⟨rfl, ?_⟩
    have : (s.set m (Pt d' r')).take (s.set m (Pt d r)).length = s.set m (Pt d' r') := by rw [List.length_set, ← List.length_set (as := s) (i := m) (a := Pt d' r'), List.take_length]
    rw [this]
    exact q d' r' v v0 v1 hp
theorem e_among (n b m : Nat) (d r : Int) (us : List U) (s : List U) (hm : m < s.length) (h : Po d r) (hk : 0 < us.length) (hk2 : us.length ≤ 64) :
    Run NoE (fnL tab (n + 2) f__law_among b [.ref m, .lst us] (s.set m (Pt d r))) fun u s' => ∃ d' r' : Int, u ∈ us ∧ s' = s.set m (Pt d' r') ∧ Po d' r' := by
  rw [fn24, run_fnE]
  simp [-callM_no, b24, d24]
  refine c_draw n _ m d r _ s hm h (by omega) (by omega) fun d' r' v v0 v1 hp => ?_
  rw [ix_l T0 _ (u := .lst us) (us := us) rfl rfl rfl]
  obtain ⟨j, rfl⟩ := Int.eq_ofNat_of_zero_le v0
  have hj : j < us.length := by omega
  have e : atI us (j : Int) = some us[j] := by
    unfold atI ixN
    simp [hj]
  rw [e]
  exact ⟨List.getElem_mem hj, _, _, rfl, hp⟩
theorem c_among {E : U → List U → Prop} {Q : U → List U → Prop} (n b m : Nat) (d r : Int) (us s : List U) (hm : m < s.length) (h : Po d r) (hk : 0 < us.length) (hk2 : us.length ≤ 64) (hu : noref us = true) (q : ∀ d' r' u, u ∈ us → Po d' r' → Q u (s.set m (Pt d' r'))) :
    Run E (callM false (fnL tab (n + 2) 24) b [.ref m, .lst us] (s.set m (Pt d r))) Q :=
  call_tree (e_among n _ m d r us s hm h hk hk2) fun u s' ⟨d', r', mu, e2, hp⟩ => by
    subst e2
    refine ⟨by have := List.all_eq_true.mp hu u mu; simpa using this, ?_⟩
    have : (s.set m (Pt d' r')).take (s.set m (Pt d r)).length = s.set m (Pt d' r') := by rw [List.length_set, ← List.length_set (as := s) (i := m) (a := Pt d' r'), List.take_length]
    rw [this]
    exact q d' r' u mu hp
theorem cut_map {α : Type} {f : α → U} {l : List α} {lo hi : Option Int} : ∃ l' : List α, cutU (l.map f) lo hi = l'.map f ∧ l'.Sublist l := by
  refine ⟨_, by unfold cutU; rw [← List.map_drop, ← List.map_take], ?_⟩
  exact (List.take_sublist _ _).trans (List.drop_sublist _ _)
def nms : List Str := ["a", "b", "zz", "abcdef"]
def LJ (m : Nat) (s : List U) (rest : List U) (ρ : En) (st : List U) : Prop :=
  ∃ (d r : Int) (acc : AL Str) (xs : List Str) (z : Option U), rest = xs.map .str ∧ Po d r ∧ ρ = [some (.ref m), some (.ref s.length), z] ∧ st = s.set m (Pt d r) ++ [D acc] ∧ (∀ x ∈ xs, isNm x = true) ∧ Gd (4 - xs.length) acc ∧ xs.length ≤ 4 ∧ ∀ x, M.get acc x < 10 ^ 30
theorem e_lcounts (n b m : Nat) (d r : Int) (s : List U) (hm : m < s.length) (h : Po d r) :
    Run NoE (fnL tab (n + 3) f__law_counts b [.ref m] (s.set m (Pt d r))) fun u s' => ∃ (d' r' : Int) (l : AL Str), u = .ref s.length ∧ s' = s.set m (Pt d' r') ++ [D l] ∧ Rw l ∧ Po d' r' := by
  rw [fn25, run_fnE]
  simp [-callM_no, b25, d25]
  refine ⟨by rw [sizeLine_eq]; omega, rfl, ?_⟩
  have ap : ∀ d r o, s.set m (Pt d r) ++ [o] = (s ++ [o]).set m (Pt d r) := fun d r o => by rw [List.set_append_left _ _ hm]
  have hm2 : ∀ o : U, m < (s ++ [o]).length := fun o => by simp; omega
  simp only [partK, isNo, if_true, Bool.false_eq_true, if_false]
  rw [show U.dct [] [] = D [] from rfl, ap]
  simp [-callM_no]
  refine c_draw (n + 1) _ m d r 2 _ (hm2 _) h (by decide) (by decide) fun d1 r1 v1 _ _ hp1 => ?_
  obtain ⟨l1, e1, sb1⟩ := cut_map (f := U.str) (l := nms) (lo := some v1) (hi := none)
  have e1 : pSl false (.lst [U.str (Str.ofString "a"), U.str (Str.ofString "b"), U.str (Str.ofString "zz"), U.str (Str.ofString "abcdef")]) (some v1) none ((s ++ [D []]).set m (Pt d1 r1)) = mk false .lst (l1.map .str) ((s ++ [D []]).set m (Pt d1 r1)) := by
    rw [← e1]; rfl
  simp only [e1, run_mk, mkK_no]
  refine ⟨noref_map fun _ => rfl, ?_⟩
  refine c_draw (n + 1) _ m d1 r1 4 _ (hm2 _) hp1 (by decide) (by decide) fun d2 r2 v2 _ _ hp2 => ?_
  obtain ⟨l2, e2, sb2⟩ := cut_map (f := U.str) (l := l1) (lo := none) (hi := some v2)
  have e2 : pSl false (.lst (l1.map .str)) none (some v2) ((s ++ [D []]).set m (Pt d2 r2)) = mk false .lst (l2.map .str) ((s ++ [D []]).set m (Pt d2 r2)) := by
    rw [← e2]; rfl
  simp only [e2, run_mk, mkK_no]
  refine ⟨noref_map fun _ => rfl, ?_⟩
  have sb := sb2.trans sb1
  have hn : ∀ x ∈ nms, isNm x = true := by decide
  have hl : l2.length ≤ 4 := sb.length_le
  refine for_inv (LJ m s) ?_ ?_ _ _ _ ⟨d2, r2, [], l2, none, rfl, hp2, rfl, (ap _ _ _).symm, fun x hx => hn x (sb.subset hx), ⟨by simp [keys], fun _ h => (by cases h), fun _ h => (by cases h), by simp⟩, hl, fun x => by rw [get_nil]; decide⟩
  · rintro u us ρ st ⟨d, r, acc, xs, z, e, hp, rfl, rfl, hx, g, hl, sm⟩
    cases xs with
    | nil => cases e
    | cons x xs =>
      rw [List.map_cons] at e
      injection e with e3 e4
      subst e3
      refine ⟨trivial, ?_⟩
      simp [-callM_no, setK]
      refine ⟨by unfold CPow; decide, by rw [sizeLine_eq]; omega, rfl, ?_⟩
      rw [ap]
      refine c_among n _ m d r _ _ (hm2 _) hp (by simp) (by simp) rfl fun d3 r3 u mu hp3 => ?_
      obtain ⟨v, rfl, v0, v1⟩ : ∃ v : Int, u = .int v ∧ 0 ≤ v ∧ v < 10 ^ 30 := by
        simp only [List.mem_cons, List.not_mem_nil, or_false] at mu
        rcases mu with rfl | rfl | rfl | rfl | rfl | rfl | rfl <;> exact ⟨_, rfl, by decide, by decide⟩
      rw [← ap]
      have hs : (s.set m (Pt d3 r3) ++ [D acc])[s.length]? = some (D acc) := by simp
      have gl := g.le
      have hz := sizeLine_eq
      rw [List.length_cons] at gl hl g
      rw [set_d hs g.nd (by omega)]
      refine ⟨d3, r3, put acc x v, xs, _, e4, hp3, rfl, ?_, fun y hy => hx y (List.mem_cons_of_mem _ hy), (g.put (hx x (List.mem_cons_self ..)) v0).mono (by omega), by omega, fun y => ?_⟩
      · simp
      · rw [get_put]; split
        · exact v1
        · exact sm y
  · rintro ρ st ⟨d, r, acc, xs, z, e, hp, rfl, rfl, hx, g, hl, sm⟩
    cases xs with
    | cons _ _ => cases e
    | nil =>
      refine ⟨trivial, ?_⟩
      simp
      exact ⟨_, _, _, ⟨rfl, rfl⟩, ⟨g.mono (by omega), fun p hp => by rw [← get_mem g.nd hp]; exact sm _⟩, hp⟩
end K21

set_option maxRecDepth 100000
namespace K21
open PySem PySem.Spec PyProof.Rows L2 EV M
theorem e_pot (n b : Nat) (ns : List Int) (k : Int) (st : List U) (hk : 0 ≤ k) (hk2 : k < 4) :
    Run NoE (fnL tab (n + 1) f__law_pot b [.fl (ns.map .int), .int k] st) fun u s' => ∃ d r : Int, u = .ref st.length ∧ s' = st ++ [Pt d r] ∧ Po d r := by
  rw [fn22, run_fnE]
  simp [b22, d22]
  have key : ∀ c : Int, 0 ≤ c → Po (if 1000000000000000000 < c then c - 1000000000000000000 else 0) ((c % 2147483549 * 48271 + 9173 * k + 43) % 2147483497 + 1) := fun c hc => by
    have q0 : 0 ≤ (c % 2147483549 * 48271 + 9173 * k + 43) % 2147483497 := Int.emod_nonneg _ (by decide)
    have q1 : (c % 2147483549 * 48271 + 9173 * k + 43) % 2147483497 < 2147483497 := Int.emod_lt_of_pos _ (by decide)
    exact ⟨by split <;> omega, by omega, by omega⟩
  have hz : 2 ≤ sizeLine := by rw [sizeLine_eq]; omega
  have p10 : CPow 10 18 := by unfold CPow; decide
  refine ⟨.inl (by decide), ?_⟩
  split
  · rename_i hlt
    obtain ⟨j, rfl⟩ := Int.eq_ofNat_of_zero_le hk
    have hj : j < ns.length := by omega
    rw [ix_l T0 _ (us := ns.map .int) rfl rfl rfl]
    have e : atI (ns.map U.int) (j : Int) = some (.int ns[j]) := by
      unfold atI ixN
      simp [hj]
    rw [e]
    simp
    refine ⟨p10, .inr (by decide), .inl (by decide), hz, _, _, rfl, key _ (by split <;> omega)⟩
  · refine ⟨p10, .inr (by decide), .inl (by decide), hz, _, _, rfl, key _ (by omega)⟩
end K21

set_option maxRecDepth 100000
namespace K21
open PySem PySem.Spec PyProof.Rows L2 EV M
theorem c_lcounts {E : U → List U → Prop} {Q : U → List U → Prop} (n b m : Nat) (d r : Int) (s : List U) (hm : m < s.length) (h : Po d r) (q : ∀ (d' r' : Int) (l : AL Str), Rw l → Po d' r' → Q (D l) (s.set m (Pt d' r'))) :
    Run E (callM false (fnL tab (n + 3) 25) b [.ref m] (s.set m (Pt d r))) Q :=
  call_obj (e_lcounts n _ m d r s hm h) fun u s' ⟨d', r', l, e, e2, hl, hp⟩ => by
    subst e; subst e2
    refine ⟨D l, by simp, by simp, noref_d, ?_⟩
    have : (s.set m (Pt d' r') ++ [D l]).take (s.set m (Pt d r)).length = s.set m (Pt d' r') := by
      rw [List.length_set, ← List.length_set (as := s) (i := m) (a := Pt d' r'), List.take_left]
    rw [this]
    exact q d' r' l hl hp
theorem rng3 : rngU 0 3 = [.int 0, .int 1, .int 2] := by rfl
def tl : S → S
  | .seq _ b => b
  | x => x
/-- what stands when the clocks are made -/
theorem right1 (n b m : Nat) (d r : Int) (s : List U) (hm : m < s.length) (h : Po d r) {K : Fl → En → List U → Prop}
    (q : ∀ (d' r' : Int) (l0 l1 l2 : AL Str), Rw l0 → Rw l1 → Rw l2 → Po d' r' → RS NoE (evS (pgOf T0 (fnL tab (n + 7))) (tl b33) b [some (U.ref m), some (.lst [D l0, D l1, D l2]), none, none, none, none, none, none, none, none, none, none, none] (s.set m (Pt d' r'))) K) :
    RS NoE (evS (pgOf T0 (fnL tab (n + 7))) b33 b [some (U.ref m), none, none, none, none, none, none, none, none, none, none, none, none] (s.set m (Pt d r))) K := by
  rw [show b33 = .seq (.asg (.nm 1) (.lc false [2] (.rng1 (.k (.int 3))) (.nm 2) .no (.call false 25 1 0 [.inl 0] [(.v 0)] []))) (tl b33) from rfl]
  generalize tl b33 = t at q ⊢
  simp [-callM_no, lc_cons, lc_nil, rng3]
  refine c_lcounts (n + 4) _ m d r s hm h fun d1 r1 l0 w0 p1 => ?_
  refine c_lcounts (n + 4) _ m d1 r1 s hm p1 fun d2 r2 l1 w1 p2 => ?_
  refine c_lcounts (n + 4) _ m d2 r2 s hm p2 fun d3 r3 l2 w2 p3 => ?_
  exact ⟨rfl, q d3 r3 l0 l1 l2 w0 w1 w2 p3⟩
theorem dict_live {E : U → List U → Prop} {Q : U → List U → Prop} {b : Nat} {l : AL Str} {st : List U} (nd : (keys l).Nodup) : Run E (ofO (pDictOf true b [.lst (l.map fun p => .tup [.str p.1, .int p.2])] st)) Q = Q (.ref st.length) (st ++ [D l]) := by
  rw [dict_pairs, run_mk, mkK_yes, puts_new (by simpa using nd), List.nil_append]; rfl
theorem dct_D {l : AL Str} {st : List U} : dctAt (D l) st = some (dks l, dvs l) := rfl
/-- the handed dicts -/
def hst (st : List U) (x y z : AL Str) : List U := st ++ [D x, D y, D z, .lst [.ref st.length, .ref (st.length + 1), .ref (st.length + 2)]]
theorem right2 (n b m : Nat) (u : Option U) (st : List U) (hb : b ≤ st.length) (l0 l1 l2 : AL Str) (w0 : Rw l0) (w1 : Rw l1) (w2 : Rw l2) {K : Fl → En → List U → Prop}
    (q : RS NoE (evS (pgOf T0 (fnL tab (n + 7))) (tl (tl b33)) b [u, some (.lst [D l0, D l1, D l2]), none, some (.ref (st.length + 3)), none, none, none, none, none, none, none, none, none] (hst st l0 l1 l2)) K) :
    RS NoE (evS (pgOf T0 (fnL tab (n + 7))) (tl b33) b [u, some (.lst [D l0, D l1, D l2]), none, none, none, none, none, none, none, none, none, none, none] st) K := by
  rw [show tl b33 = .seq (.asg (.nm 3) (.lc true [4] (.v 1) (.nm 4) .no (.bf true "dict" [(.litems false (.v 4))]))) (tl (tl b33)) from rfl]
  generalize tl (tl b33) = t at q ⊢
  simp [-callM_no, lc_cons, lc_nil, iterOf, lsAt, sqAt]
  simp only [dct_D, kks_d, items_zip, noref_d, noref_items, true_and, dict_live w0.nd, dict_live w1.nd, dict_live w2.nd]
  unfold hst at q
  simpa using q
section
variable {st : List U} {x y z : AL Str}
theorem hst0 : (hst st x y z)[st.length]? = some (D x) := by unfold hst; simp
theorem hst1 : (hst st x y z)[st.length + 1]? = some (D y) := by unfold hst; rw [List.getElem?_append_right (by omega)]; simp
theorem hst2 : (hst st x y z)[st.length + 2]? = some (D z) := by unfold hst; rw [List.getElem?_append_right (by omega)]; simp
theorem hst3 : (hst st x y z)[st.length + 3]? = some (.lst [.ref st.length, .ref (st.length + 1), .ref (st.length + 2)]) := by unfold hst; rw [List.getElem?_append_right (by omega)]; simp
theorem hset0 {w : AL Str} : (hst st x y z).set st.length (D w) = hst st w y z := by unfold hst; rw [List.set_append_right _ _ (by omega)]; simp
theorem hset1 {w : AL Str} : (hst st x y z).set (st.length + 1) (D w) = hst st x w z := by unfold hst; rw [List.set_append_right _ _ (by omega)]; simp
theorem hset2 {w : AL Str} : (hst st x y z).set (st.length + 2) (D w) = hst st x y w := by unfold hst; rw [List.set_append_right _ _ (by omega)]; simp
end
theorem it_hst {st : List U} {x y z : AL Str} : iterOf (.ref (st.length + 3)) (hst st x y z) = some ⟨[.ref st.length, .ref (st.length + 1), .ref (st.length + 2)], fun st' => st'[st.length + 3]? = some (.lst [.ref st.length, .ref (st.length + 1), .ref (st.length + 2)]), none⟩ := by
  simp only [iterOf, hst3]
theorem right3 (n b : Nat) (u v : Option U) (st : List U) (l0 l1 l2 : AL Str) (w0 : Rw l0) (w1 : Rw l1) (w2 : Rw l2) {K : Fl → En → List U → Prop}
    (q : RS NoE (evS (pgOf T0 (fnL tab (n + 7))) (tl (tl (tl b33))) b [u, v, none, some (.ref (st.length + 3)), none, some (.lst [CK (cn l0), CK (cn l1), CK (cn l2)]), none, none, none, none, none, none, none] (hst st l0 l1 l2)) K) :
    RS NoE (evS (pgOf T0 (fnL tab (n + 7))) (tl (tl b33)) b [u, v, none, some (.ref (st.length + 3)), none, none, none, none, none, none, none, none, none] (hst st l0 l1 l2)) K := by
  rw [show tl (tl b33) = .seq (.asg (.nm 5) (.lc false [4] (.v 3) (.nm 4) .no (.make false 0 5 1 0 [.inl 0, .inl 1] [(.v 4)] []))) (tl (tl (tl b33))) from rfl]
  generalize tl (tl (tl b33)) = t at q ⊢
  have d0 : Dk (.ref st.length) (hst st l0 l1 l2) l0 := .inr ⟨_, rfl, hst0⟩
  have d1 : Dk (.ref (st.length + 1)) (hst st l0 l1 l2) l1 := .inr ⟨_, rfl, hst1⟩
  have d2 : Dk (.ref (st.length + 2)) (hst st l0 l1 l2) l2 := .inr ⟨_, rfl, hst2⟩
  simp [-callM_no, -mkRun_no, lc_cons, lc_nil, it_hst, hst3, e_make (n + 3) b 4 _ l0 _ d0 w0.toGd (by decide), e_make (n + 3) b 4 _ l1 _ d1 w1.toGd (by decide), e_make (n + 3) b 4 _ l2 _ d2 w2.toGd (by decide)]
  exact ⟨rfl, q⟩
theorem clear_d {E : U → List U → Prop} {Q : U → List U → Prop} {b n : Nat} {l : AL Str} {st : List U} (h : st[n]? = some (D l)) : Run E (ofO (pBm ("clear" : Str) "dict" b (.ref n) [] st)) Q = Q .non (st.set n (D [])) := by
  rw [pBm_clear]
  unfold D at h
  simp only [pClear, lvD, h, kks_d, Option.map_some]
  rfl
theorem ty_d {n : Nat} {l : AL Str} {st : List U} (h : st[n]? = some (D l)) : tyU "dict" (.ref n) st = true := Dk.ty (l := l) (.inr ⟨_, rfl, h⟩)
theorem right4 (n b : Nat) (u v w : Option U) (st : List U) (l0 l1 l2 : AL Str) (w0 : Rw l0) (w1 : Rw l1) (w2 : Rw l2) {K : Fl → En → List U → Prop}
    (q : ∀ z, RS NoE (evS (pgOf T0 (fnL tab (n + 7))) (tl (tl (tl (tl b33)))) b [u, v, none, some (.ref (st.length + 3)), z, w, none, none, none, none, none, none, none] (hst st [("a", 77)] [("a", 77)] [("a", 77)])) K) :
    RS NoE (evS (pgOf T0 (fnL tab (n + 7))) (tl (tl (tl b33))) b [u, v, none, some (.ref (st.length + 3)), none, w, none, none, none, none, none, none, none] (hst st l0 l1 l2)) K := by
  rw [show tl (tl (tl b33)) = .seq (.for_ (.v 3) (.nm 4) (.seq (.expr (.bm false "clear" (.v 4) [])) (.seq (.asg (.sub (.v 4) (.k (.str "a"))) (.k (.int 77))) .nil))) (tl (tl (tl (tl b33)))) from rfl]
  generalize tl (tl (tl (tl b33))) = t at q ⊢
  have hz : ([] : AL Str).length < sizeLine := by rw [sizeLine_eq]; decide
  have nd : (keys ([] : AL Str)).Nodup := by simp [keys]
  have z0 : ∀ x y z : AL Str, pSetI b (.ref st.length) (.str "a") (.int 77) (hst st [] y z) = some (hst st [("a", 77)] y z) := fun x y z => by rw [set_d hst0 nd hz, hset0]; rfl
  have z1 : ∀ x y z : AL Str, pSetI b (.ref (st.length + 1)) (.str "a") (.int 77) (hst st x [] z) = some (hst st x [("a", 77)] z) := fun x y z => by rw [set_d hst1 nd hz, hset1]; rfl
  have z2 : ∀ x y z : AL Str, pSetI b (.ref (st.length + 2)) (.str "a") (.int 77) (hst st x y []) = some (hst st x y [("a", 77)]) := fun x y z => by rw [set_d hst2 nd hz, hset2]; rfl
  simp [-callM_no, it_hst, fl_cons, fl_nil, hst3, ty_d (hst0 (st := st)), ty_d (hst1 (st := st)), ty_d (hst2 (st := st)), clear_d (hst0 (st := st)), clear_d (hst1 (st := st)), clear_d (hst2 (st := st)), hset0, hset1, hset2, z0 [], z1 _ [], z2 _ _ []]
  exact q _
end K21

set_option maxRecDepth 100000
namespace K21
open PySem PySem.Spec PyProof.Rows L2 EV M
def tms (l0 l1 l2 : AL Str) : U := .lst [CK (cn l0), CK (cn l1), CK (cn l2)]
def sms (l0 l1 l2 : AL Str) : U := .lst [D l0, D l1, D l2]
def shs (l0 l1 l2 : AL Str) : U := .lst [.str (rp (cn l0)), .str (rp (cn l1)), .str (rp (cn l2))]
theorem t_reprC {n b : Nat} {l : AL Str} {st : List U} (r : Rw l) : tRepr T0 (fnL tab (n + 7)) b [CK (cn l)] st = .ok (.str (rp (cn l))) st := by rw [t_repr, c_repr (n := n + 6) r]; rfl
theorem right5 (n b : Nat) (u v w x z : Option U) (st : List U) (l0 l1 l2 : AL Str) (w0 : Rw l0) (w1 : Rw l1) (w2 : Rw l2) {K : Fl → En → List U → Prop}
    (q : RS NoE (evS (pgOf T0 (fnL tab (n + 7))) (tl (tl (tl (tl (tl b33))))) b [u, v, w, x, z, some (tms l0 l1 l2), some (shs l0 l1 l2), none, none, none, none, none, none] st) K) :
    RS NoE (evS (pgOf T0 (fnL tab (n + 7))) (tl (tl (tl (tl b33)))) b [u, v, w, x, z, some (tms l0 l1 l2), none, none, none, none, none, none, none] st) K := by
  rw [show tl (tl (tl (tl b33))) = .seq (.asg (.nm 6) (.lc false [7] (.v 5) (.nm 7) .no (.bf false "repr" [(.v 7)]))) (tl (tl (tl (tl (tl b33))))) from rfl]
  generalize tl (tl (tl (tl (tl b33)))) = t at q ⊢
  unfold tms shs at *
  simp [-callM_no, lc_cons, lc_nil, iterOf, t_reprC w0, t_reprC w1, t_reprC w2]
  exact ⟨rfl, q⟩
def pick (l0 l1 l2 : AL Str) (j : Int) : AL Str := if j = 0 then l0 else if j = 1 then l1 else l2
theorem pick_rw {l0 l1 l2 : AL Str} (w0 : Rw l0) (w1 : Rw l1) (w2 : Rw l2) (j : Int) : Rw (pick l0 l1 l2 j) := by
  unfold pick; split
  · exact w0
  · split
    · exact w1
    · exact w2
def isJ (j : Int) : Prop := j = 0 ∨ j = 1 ∨ j = 2
section
variable {E : U → List U → Prop} {Q : U → List U → Prop} {F : Nat → Fn} {b : Nat} {l0 l1 l2 : AL Str} {j : Int} {st : List U}
theorem ix_t (hj : isJ j) : Run E (tIxW T0 F b (tms l0 l1 l2) (.int j) st) Q = Q (CK (cn (pick l0 l1 l2 j))) st := by
  unfold tms
  rw [ix_l T0 F (us := [CK (cn l0), CK (cn l1), CK (cn l2)]) rfl rfl rfl]
  rcases hj with rfl | rfl | rfl <;> rfl
theorem ix_s (hj : isJ j) : Run E (tIxW T0 F b (sms l0 l1 l2) (.int j) st) Q = Q (D (pick l0 l1 l2 j)) st := by
  unfold sms
  rw [ix_l T0 F (us := [D l0, D l1, D l2]) rfl rfl rfl]
  rcases hj with rfl | rfl | rfl <;> rfl
end
def fr (u w x z : Option U) (l0 l1 l2 : AL Str) (p q : Option U) : En := [u, some (sms l0 l1 l2), w, x, z, some (tms l0 l1 l2), some (shs l0 l1 l2), none, p, q, none, none, none]
def OJ (u w x z : Option U) (l0 l1 l2 : AL Str) (st : List U) (us : List U) (ρ : En) (s : List U) : Prop := (∀ t ∈ us, ∃ j, isJ j ∧ t = .int j) ∧ (∃ p q, ρ = fr u w x z l0 l1 l2 p q) ∧ s = st
def IJ (u w x z : Option U) (l0 l1 l2 : AL Str) (st : List U) (i : Int) (us : List U) (ρ : En) (s : List U) : Prop := (∀ t ∈ us, ∃ j, isJ j ∧ t = .int j) ∧ (∃ q, ρ = fr u w x z l0 l1 l2 (some (.int i)) q) ∧ s = st
theorem allJ : ∀ t ∈ rngU 0 3, ∃ j, isJ j ∧ t = .int j := by
  rw [rng3]
  intro t m
  simp only [List.mem_cons, List.not_mem_nil, or_false] at m
  rcases m with rfl | rfl | rfl
  · exact ⟨0, .inl rfl, rfl⟩
  · exact ⟨1, .inr (.inl rfl), rfl⟩
  · exact ⟨2, .inr (.inr rfl), rfl⟩
theorem right6 (n b : Nat) (u w x z : Option U) (st : List U) (l0 l1 l2 : AL Str) (w0 : Rw l0) (w1 : Rw l1) (w2 : Rw l2) {K : Fl → En → List U → Prop}
    (q : ∀ p q, RS NoE (evS (pgOf T0 (fnL tab (n + 7))) (tl (tl (tl (tl (tl (tl b33)))))) b (fr u w x z l0 l1 l2 p q) st) K) :
    RS NoE (evS (pgOf T0 (fnL tab (n + 7))) (tl (tl (tl (tl (tl b33))))) b (fr u w x z l0 l1 l2 none none) st) K := by
  rw [show tl (tl (tl (tl (tl b33)))) = .seq (.for_ (.rng1 (.k (.int 3))) (.nm 8) (.seq (.ife (.or_ (.not_ (.call false 30 2 0 [.inl 0, .inl 1] [(.ix (.v 5) (.v 8)), (.ix (.v 1) (.v 8))] [])) (.not_ (.call false 32 2 0 [.inl 0, .inl 1] [(.ix (.v 5) (.v 8)), (.ix (.v 1) (.v 8))] []))) (.seq (.ret (.k (.bl false)))
  .nil) .nil)
  (.seq (.for_ (.rng1 (.k (.int 3))) (.nm 9) (.seq (.ife (.not_ (.call false 31 4 0 [.inl 0, .inl 1, .inl 2, .inl 3] [(.ix (.v 1) (.v 8)), (.ix (.v 1) (.v 9)), (.ix (.v 5) (.v 8)), (.ix (.v 5) (.v 9))] [])) (.seq (.ret (.k (.bl false)))
  .nil) .nil)
  .nil))
  .nil))) (tl (tl (tl (tl (tl (tl b33)))))) from rfl]
  generalize tl (tl (tl (tl (tl (tl b33))))) = t at q ⊢
  simp [-callM_no]
  refine for_inv (OJ u w x z l0 l1 l2 st) ?_ ?_ _ _ _ ⟨allJ, ⟨none, none, rfl⟩, rfl⟩
  · rintro i us ρ s ⟨hu, ⟨p, q, rfl⟩, rfl⟩
    obtain ⟨i, hi, rfl⟩ := hu _ (List.mem_cons_self ..)
    refine ⟨trivial, ?_⟩
    have wi := pick_rw w0 w1 w2 i
    simp [-callM_no, fr, ix_t hi, ix_s hi, e_told (n + 1) b _ s wi, e_more n b _ s wi]
    refine for_inv (IJ u w x z l0 l1 l2 s i) ?_ ?_ _ _ _ ⟨allJ, ⟨_, rfl⟩, rfl⟩
    · rintro j vs ρ s ⟨hv, ⟨q, rfl⟩, rfl⟩
      obtain ⟨j, hj, rfl⟩ := hv _ (List.mem_cons_self ..)
      refine ⟨trivial, ?_⟩
      have wj := pick_rw w0 w1 w2 j
      simp [-callM_no, fr, ix_t hi, ix_s hi, ix_t hj, ix_s hj, e_pair (n + 1) b _ _ s wi wj]
      exact ⟨fun t ht => hv t (List.mem_cons_of_mem _ ht), ⟨_, rfl⟩, rfl⟩
    · rintro ρ s ⟨hv, ⟨q, rfl⟩, rfl⟩
      refine ⟨trivial, ?_⟩
      simp
      exact ⟨fun t ht => hu t (List.mem_cons_of_mem _ ht), ⟨_, _, rfl⟩, rfl⟩
  · rintro ρ s ⟨hu, ⟨p, q', rfl⟩, rfl⟩
    refine ⟨trivial, ?_⟩
    simp
    exact q _ _
end K21

set_option maxRecDepth 100000
namespace K21
open PySem PySem.Spec PyProof.Rows L2 EV M
theorem ok_all {x : Str} : PyData.strOk x = true ↔ ∀ c ∈ x.cps.toList, c < 1114112 := by
  unfold PyData.strOk
  rw [← Array.all_toList, List.all_eq_true]
  simp
theorem ok_app {x y : Str} (h1 : PyData.strOk x = true) (h2 : PyData.strOk y = true) : PyData.strOk (x ++ y) = true := by
  rw [ok_all] at *
  intro c hc
  have e : (x ++ y).cps.toList = x.cps.toList ++ y.cps.toList := by
    show (x.cps ++ y.cps).toList = _
    simp
  rw [e] at hc
  exact (List.mem_append.mp hc).elim (h1 c) (h2 c)
theorem chr_lt (c : Char) : c.toNat < 1114112 := by
  have := c.valid
  rcases this with h | h
  · have h : c.val.toNat < 55296 := h
    show c.val.toNat < _; omega
  · have h : c.val.toNat < 1114112 := h.2
    exact h
theorem ok_of {s : String} : PyData.strOk (Str.ofString s) = true := by
  rw [ok_all, signs_ofString]
  intro c hc
  obtain ⟨d, _, rfl⟩ := List.mem_map.mp hc
  exact chr_lt d
theorem ok_join {sep : Str} (hs : PyData.strOk sep = true) : ∀ {ps : List Str}, (∀ p ∈ ps, PyData.strOk p = true) → PyData.strOk (Str.join sep ps) = true
  | [], _ => ok_all.mpr fun c m => by cases m
  | [x], h => h x (List.mem_cons_self ..)
  | x :: y :: r, h => ok_app (ok_app (h x (List.mem_cons_self ..)) hs) (ok_join hs fun p m => h p (List.mem_cons_of_mem _ m))
theorem ok_chr {q c : Nat} (hq : q < 1114112) (hc : c < 1114112) : ∀ x ∈ Builtin.Str.reprChar q c, x < 1114112 := by
  have hex : ∀ w : Nat, ∀ x ∈ List.replicate (w - ((Nat.toDigits 16 c).map Char.toNat).length) 48 ++ (Nat.toDigits 16 c).map Char.toNat, x < 1114112 := fun w x hx => by
    rcases List.mem_append.mp hx with h | h
    · rw [List.eq_of_mem_replicate h]; decide
    · obtain ⟨d, _, rfl⟩ := List.mem_map.mp h; exact chr_lt d
  unfold Builtin.Str.reprChar
  intro x hx
  simp only at hx
  repeat' split at hx
  all_goals
    first
      | (simp only [List.mem_cons, List.not_mem_nil, or_false] at hx; omega)
      | (rcases List.mem_append.mp hx with h | h
         · simp only [List.mem_cons, List.not_mem_nil, or_false] at h; omega
         · exact hex _ x h)
theorem ok_repr {x : Str} (h : PyData.strOk x = true) : PyData.strOk (reprText x) = true := by
  have hq : reprQuote x < 1114112 := by unfold reprQuote; split <;> omega
  rw [ok_all] at h ⊢
  have key : ∀ (l : List Nat) (acc : Array Nat), (∀ c ∈ l, c < 1114112) → (∀ c ∈ acc.toList, c < 1114112) → ∀ c ∈ (l.foldl (fun out c => out ++ (Builtin.Str.reprChar (reprQuote x) c).toArray) acc).toList, c < 1114112 := by
    intro l
    induction l with
    | nil => intro acc _ ha; exact ha
    | cons d l ih =>
      intro acc hl ha
      refine ih _ (fun c m => hl c (List.mem_cons_of_mem _ m)) fun c m => ?_
      rw [Array.toList_append, List.mem_append] at m
      exact m.elim (ha c) (ok_chr hq (hl d (List.mem_cons_self ..)) c)
  intro c hc
  unfold reprText at hc
  rw [← Array.foldl_toList] at hc
  simp only [Array.toList_push, List.mem_append, List.mem_singleton] at hc
  rcases hc with hc | rfl
  · exact key _ _ h (by intro c m; simp only [List.mem_singleton] at m; subst m; exact hq) c hc
  · exact hq
theorem ok_sh {l : AL Str} (h : ∀ p ∈ l, PyData.strOk p.1 = true) : PyData.strOk (sh l) = true := by
  have hs : ∀ (ps : List Str), (∀ p ∈ ps, PyData.strOk p = true) → PyData.strOk (dictText ps) = true := fun ps hp => ok_app (ok_app ok_of (ok_join ok_of hp)) ok_of
  unfold sh dat PyData.shown
  refine hs _ ?_
  induction l with
  | nil => intro p m; cases m
  | cons q l ih =>
    intro p m
    rw [List.map_cons, PyData.shownKv] at m
    rcases List.mem_cons.mp m with rfl | m
    · refine ok_app (ok_app ?_ ok_of) ?_
      · unfold PyData.shown; exact ok_repr (h q (List.mem_cons_self ..))
      · unfold PyData.shown; exact ok_of
    · exact ih (fun p m => h p (List.mem_cons_of_mem _ m)) p m
theorem ok_rp {l : AL Str} (r : Rw l) : PyData.strOk (rp (cn l)) = true := ok_app (ok_app ok_of (ok_sh fun p m => isNm_ok (r.toGd.cn.nm p m))) ok_of
end K21

set_option maxRecDepth 100000
namespace K21
open PySem PySem.Spec PyProof.Rows L2 EV M
theorem op_in {F : Nat → Fn} {b : Nat} {l : AL Str} {ws st : List U} : tCmp T0 F .In b (CK l) (.tup ws) st = inOwn 0 (F 17) b (CK l) ws st := by kernel_rfl
/-- == with what is no clock -/
theorem c_eqN {n b : Nat} {l : AL Str} {w : U} {st : List U} (h : ∀ b s, pIsi T0.isi b [w, .cl 0] s = some (.bl false, s)) : callM false (fnL tab (n + 1) 17) b [CK l, w] st = .ok (.bl false) st := by
  refine c_of (eq_of_run ?_) rfl
  rw [fn17, run_fnE]
  simp [b17, d17, h]
theorem inOwn_false {c : Nat} {F : Fn} {b : Nat} {u : U} {st : List U} (hu : (insCls u st).map (·.1) = some c) : ∀ {ws : List U}, (∀ w ∈ ws, okIn w = true ∧ callM false F b [u, w] st = .ok (.bl false) st) → inOwn c F b u ws st = .ok (.bl false) st
  | [], _ => rfl
  | w :: ws, h => by
    obtain ⟨h1, h2⟩ := h w (List.mem_cons_self ..)
    unfold inOwn
    rw [if_pos ⟨hu, h1⟩, h2]
    exact inOwn_false hu fun w m => h w (List.mem_cons_of_mem _ m)
theorem isi_D {b : Nat} {l : AL Str} {s : List U} : pIsi T0.isi b [D l, .cl 0] s = some (.bl false, s) := isi_dict_0 (by rw [kks_d]; rfl)
theorem in_no {l l0 : AL Str} {y : Str} {s : List U} {b n : Nat} : inOwn 0 (fnL tab (n + 1) 17) b (CK l) [.non, .int 0, D l0, .str y] s = .ok (.bl false) s := by
  refine inOwn_false rfl fun w m => ?_
  simp only [List.mem_cons, List.not_mem_nil, or_false] at m
  rcases m with rfl | rfl | rfl | rfl
  · exact ⟨rfl, c_eqN fun _ _ => rfl⟩
  · exact ⟨rfl, c_eqN fun _ _ => rfl⟩
  · exact ⟨by show (kks (dks l0)).isSome = true; rw [kks_d]; rfl, c_eqN fun _ _ => isi_D⟩
  · exact ⟨rfl, c_eqN fun _ _ => rfl⟩
theorem mk_kw {F : Fn} {u : U} {b : Nat} {st : List U} : mkRun false 0 F (Perm.fill [.inl 0, .inl 1]) [] [u] b st = mkRun false 0 F (Perm.fill [.inl 0, .inl 1]) [u] [] b st := rfl
theorem get_rev {l : AL Str} (nd : (keys l).Nodup) (x : Str) : M.get l.reverse x = M.get l x := by
  have nd' : (keys l.reverse).Nodup := by
    have : keys l.reverse = (keys l).reverse := by unfold keys; rw [List.map_reverse]
    rw [this]; exact (List.reverse_perm _).nodup_iff.mpr nd
  by_cases h : x ∈ keys l
  · obtain ⟨p, hp, rfl⟩ := List.mem_map.mp h
    rw [get_mem nd hp, get_mem nd' (List.mem_reverse.mpr hp)]
  · rw [get_none h, get_none]
    intro z
    obtain ⟨p, hp, e⟩ := List.mem_map.mp z
    exact h (List.mem_map.mpr ⟨p, List.mem_reverse.mp hp, e⟩)
theorem Gd.rev {k : Nat} {l : AL Str} (g : Gd k l) : Gd k l.reverse := by
  have e : keys l.reverse = (keys l).reverse := by unfold keys; rw [List.map_reverse]
  refine .of ?_ (fun x hx => ?_) (fun x => ?_) (by rw [List.length_reverse]; exact g.le)
  · rw [e]; exact (List.reverse_perm _).nodup_iff.mpr g.nd
  · rw [e] at hx; exact g.nmk (List.mem_reverse.mp hx)
  · rw [get_rev g.nd]; exact g.get x
theorem cn_rev {k : Nat} {l : AL Str} (g : Gd k l) : cn l.reverse = cn l := canon_ext sorts_str g.rev.nd g.nd fun x => get_rev g.nd x
theorem lay_strs : ∀ {xs : List Str}, (∀ x ∈ xs, PyData.strOk x = true) → SeqAt.shaped (.list (xs.map .str)) = true := by
  intro xs h
  have key : ∀ xs : List Str, (∀ x ∈ xs, PyData.strOk x = true) → PyData.canLayAll0 (xs.map .str) = true ∧ PyData.depthAll (xs.map .str) = 0 := by
    intro xs
    induction xs with
    | nil => intro _; exact ⟨rfl, rfl⟩
    | cons x xs ih =>
      intro h
      obtain ⟨i1, i2⟩ := ih fun y m => h y (List.mem_cons_of_mem _ m)
      have h1 := h x (List.mem_cons_self ..)
      exact ⟨by simp only [List.map_cons, PyData.canLayAll0, PyData.canLay0, h1, i1, Bool.and_self], by simp only [List.map_cons, PyData.depthAll, PyData.depth, i2]; rfl⟩
  obtain ⟨h1, h2⟩ := key xs h
  unfold SeqAt.shaped
  rw [Bool.and_eq_true, decide_eq_true_eq]
  exact ⟨by unfold PyData.canLay0; exact h1, by unfold PyData.depth; rw [h2]; decide⟩
theorem shs_eq {E : U → List U → Prop} {Q : U → List U → Prop} {F : Nat → Fn} {b : Nat} {st : List U} {l0 l1 l2 : AL Str} (w0 : Rw l0) (w1 : Rw l1) (w2 : Rw l2) : Run E (tCmp T0 F .Eq b (shs l0 l1 l2) (shs l0 l1 l2) st) Q = Q (.bl true) st := by
  have h := lay_strs (xs := [rp (cn l0), rp (cn l1), rp (cn l2)]) fun x m => by
    simp only [List.mem_cons, List.not_mem_nil, or_false] at m
    rcases m with rfl | rfl | rfl
    · exact ok_rp w0
    · exact ok_rp w1
    · exact ok_rp w2
  unfold shs
  rw [d_eq (d := .list [.str (rp (cn l0)), .str (rp (cn l1)), .str (rp (cn l2))]) (e := .list [.str (rp (cn l0)), .str (rp (cn l1)), .str (rp (cn l2))]) T0 F rfl rfl rfl rfl rfl h h]
  simp [PyData.eqv, PyData.eqvAll]
section
variable {j k i : Nat} {a c d : AL Str}
theorem max_assoc (A : Ck j a) (C : Ck k c) (G : Ck i d) : gmax (gmax a c) d = gmax a (gmax c d) :=
  ((A.gmax C).gmax G).ext (A.gmax (C.gmax G)) fun x => by
    rw [get_gmax (A.gmax C).toGd G.toGd, get_gmax A.toGd C.toGd, get_gmax A.toGd (C.gmax G).toGd, get_gmax C.toGd G.toGd]
    repeat' split
    all_goals omega
theorem min_assoc (A : Ck j a) (C : Ck k c) (G : Ck i d) : gmin (gmin a c) d = gmin a (gmin c d) :=
  ((A.gmin C).gmin G).ext (A.gmin (C.gmin G)) fun x => by
    rw [get_gmin (A.gmin C).toGd G.toGd, get_gmin A.toGd C.toGd, get_gmin A.toGd (C.gmin G).toGd, get_gmin C.toGd G.toGd]
    repeat' split
    all_goals omega
theorem min_max (A : Ck j a) (C : Ck k c) (G : Ck i d) : gmax (gmin a c) (gmin a d) = gmin a (gmax c d) :=
  ((A.gmin C).gmax (A.gmin G)).ext (A.gmin (C.gmax G)) fun x => by
    rw [get_gmax (A.gmin C).toGd (A.gmin G).toGd, get_gmin A.toGd C.toGd, get_gmin A.toGd G.toGd, get_gmin A.toGd (C.gmax G).toGd, get_gmax C.toGd G.toGd]
    repeat' split
    all_goals omega
end
end K21

set_option maxRecDepth 100000
namespace K21
open PySem PySem.Spec PyProof.Rows L2 EV M
theorem ix_s0 {E : U → List U → Prop} {Q : U → List U → Prop} {F : Nat → Fn} {b : Nat} {l0 l1 l2 : AL Str} {st : List U} : Run E (tIxW T0 F b (.lst [D l0, D l1, D l2]) (.int 0) st) Q = Q (D l0) st := ix_s (l0 := l0) (l1 := l1) (l2 := l2) (.inl rfl)
theorem nr4 {l0 : AL Str} {y : Str} : noref [.non, .int 0, D l0, .str y] = true := rfl
theorem right7 (n b : Nat) (u w x z p p' : Option U) (st : List U) (l0 l1 l2 : AL Str) (w0 : Rw l0) (w1 : Rw l1) (w2 : Rw l2) {K : Fl → En → List U → Prop} (q : ∀ ρ, K (.rt (.bl true)) ρ st) :
    RS NoE (evS (pgOf T0 (fnL tab (n + 7))) (tl (tl (tl (tl (tl (tl b33)))))) b (fr u w x z l0 l1 l2 p p') st) K := by
  have a0 := w0.toGd.ck
  have a1 := w1.toGd.ck
  have a2 := w2.toGd.ck
  have o01 := a0.gmax a1
  have o12 := a1.gmax a2
  have m01 := a0.gmin a1
  have m12 := a1.gmin a2
  have m02 := a0.gmin a2
  have e1 := max_assoc a0 a1 a2
  have e2 := min_assoc a0 a1 a2
  have e3 := min_max a0 a1 a2
  have f1 := a0.gmax o12
  have f2 := a0.gmin m12
  have f3 := a0.gmin o12
  have hz := sizeLine_eq
  simp [-callM_no, -mkRun_no, b33, tl, fr, tms, sms]
  simp [-callM_no, -mkRun_no, op_or, op_and, op_ne, c_or a0 a1, c_or o01 a2, c_or a1 a2, c_or a0 o12, c_and a0 a1, c_and m01 a2, c_and a1 a2, c_and a0 m12, c_and a0 o12, c_and a0 a2, c_or m01 m02, c_eq, notR_bl, e1, e2, e3, deq_refl f1.nd, deq_refl f2.nd, deq_refl f3.nd]
  have g0 := w0.toGd.rev
  have pu : puts [] l0.reverse = l0.reverse := by rw [puts_new (by simpa using g0.nd), List.nil_append]
  have er : (l0.map fun p => U.tup [U.str p.1, U.int p.2]).reverse = l0.reverse.map fun p => U.tup [U.str p.1, U.int p.2] := by rw [List.map_reverse]
  have mk1 := e_make (n + 3) b 4 _ l0.reverse st Dk.tree g0 (by decide)
  simp only [ix_s0, t_reprC w0, run_ok, nr4, true_and, op_in, in_no, bK_bl, dct_D, kks_d, noref_d, noref_items, items_zip, Bool.false_eq_true, if_false]
  refine ⟨by omega, ?_⟩
  have prv : ∀ us : List U, pRevL false b (.lst us) st = mk false .lst us.reverse st := fun _ => rfl
  have ppr := dict_pairs (b := b) (live := false) (st := st) l0.reverse
  rw [pu] at ppr
  simp only [run_ok, bK_bl, Bool.false_eq_true, if_false, prv, er, run_mk, mkK_no, noref_items, true_and, ppr, noref_d, mk_kw]
  rw [show U.dct (dks l0.reverse) (dvs l0.reverse) = D l0.reverse from rfl, show fnL tab (n + 7) = fnL tab (n + 3 + 4) from rfl, mk1]
  simp only [run_ok, op_ne]
  rw [show fnL tab (n + 3 + 4) = fnL tab (n + 6 + 1) from rfl, c_eq, notR_bl, cn_rev w0.toGd, deq_refl a0.nd]
  simp [-callM_no, lc_cons, lc_nil, t_reprC w0, t_reprC w1, t_reprC w2]
  refine ⟨rfl, ?_⟩
  rw [show U.lst [.str (rp (cn l0)), .str (rp (cn l1)), .str (rp (cn l2))] = shs l0 l1 l2 from rfl, shs_eq w0 w1 w2]
  exact q _
theorem e_right (n b m : Nat) (d r : Int) (s : List U) (hm : m < s.length) (hb : b ≤ s.length) (h : Po d r) :
    Run NoE (fnL tab (n + 8) f__law_right b [.ref m] (s.set m (Pt d r))) fun u s' => u = .bl true ∧ ∃ d' r' ex, s' = s.set m (Pt d' r') ++ ex := by
  rw [fn33, run_fnE]
  show RS NoE (evS (pgOf T0 (fnL tab (n + 7))) b33 b [some (U.ref m), none, none, none, none, none, none, none, none, none, none, none, none] (s.set m (Pt d r))) _
  refine right1 n b m d r s hm h fun d' r' l0 l1 l2 w0 w1 w2 hp => ?_
  refine right2 n b m _ _ (by rw [List.length_set]; exact hb) l0 l1 l2 w0 w1 w2 ?_
  refine right3 n b _ _ _ l0 l1 l2 w0 w1 w2 ?_
  refine right4 n b _ _ _ _ l0 l1 l2 w0 w1 w2 fun z => ?_
  refine right5 n b _ _ _ _ _ _ l0 l1 l2 w0 w1 w2 ?_
  refine right6 n b _ _ _ _ _ l0 l1 l2 w0 w1 w2 fun p p' => ?_
  refine right7 n b _ _ _ _ _ _ _ l0 l1 l2 w0 w1 w2 fun ρ => ?_
  exact ⟨rfl, d', r', _, rfl⟩
end K21

set_option maxRecDepth 100000
namespace K21
open PySem PySem.Spec PyProof.Rows L2 EV M
theorem lc_inv {E : U → List U → Prop} {b : Nat} {ρ : En} {chk : List U → Prop} {s : TgS} {elt : Ev U} {K : List U → List U → Prop} (J : List U → List U → List U → Prop)
    (turn : ∀ u us acc st, J (u :: us) acc st → chk st ∧ ∃ ρ1, tgU s u ρ = some ρ1 ∧ Run E (elt b ρ1 st) fun y st2 => J us (acc ++ [y]) st2)
    (fin : ∀ acc st, J [] acc st → chk st ∧ K acc st) : ∀ us acc st, J us acc st → Run E (lcL chk s (fun _ _ st => .ok true st) elt us acc b ρ st) K
  | [], acc, st, h => by rw [lc_nil]; exact fin acc st h
  | u :: us, acc, st, h => by
    obtain ⟨h1, ρ1, h2, h3⟩ := turn u us acc st h
    rw [lc_cons]
    refine ⟨h1, ?_⟩
    rw [h2]
    simp only [run_ok, if_true]
    exact h3.mono fun y st2 q => lc_inv J turn fin us _ _ q
def WJ (us acc : List U) (_ : List U) : Prop := (∀ u ∈ us, ∃ k : Int, 0 ≤ k ∧ k < 4 ∧ u = .int k) ∧ ∃ j, acc = (List.replicate j true).map .bl
theorem e_law (n b : Nat) (ns : List Int) (st : List U) : Run NoE (fnL tab (n + 9) f_law b [.fl (ns.map .int)] st) fun u _ => u = .bl true := by
  rw [fn34, run_fnE]
  simp [-callM_no, b34, d34]
  have hk : ∃ k : Int, (if 1 < (if (ns.length : Int) < 4 then (ns.length : Int) else 4) then (if (ns.length : Int) < 4 then (ns.length : Int) else 4) else 1) = k ∧ 1 ≤ k ∧ k ≤ 4 := ⟨_, rfl, by split <;> omega, by split <;> split <;> omega⟩
  obtain ⟨k, ek, k1, k4⟩ := hk
  rw [ek]
  refine ⟨⟨by omega, by omega⟩, ?_⟩
  refine lc_inv WJ ?_ ?_ _ _ _ ⟨fun u m => ?_, 0, rfl⟩
  · rintro u us acc s ⟨hu, j, rfl⟩
    obtain ⟨i, i0, i4, rfl⟩ := hu u (List.mem_cons_self ..)
    refine ⟨trivial, _, rfl, ?_⟩
    simp [-callM_no]
    refine (e_pot (n + 7) b ns i s i0 i4).mono fun w s1 q => ?_
    obtain ⟨d, r, rfl, rfl, hp⟩ := q
    have e : s ++ [Pt d r] = (s ++ [Pt d r]).set s.length (Pt d r) := by simp
    rw [e]
    refine call_tree (e_right n _ s.length d r (s ++ [Pt d r]) (by simp) (by simp) hp) fun v s2 q => ?_
    obtain ⟨rfl, d', r', ex, rfl⟩ := q
    refine ⟨rfl, fun u m => hu u (List.mem_cons_of_mem _ m), j + 1, ?_⟩
    simp [List.replicate_succ']
  · rintro acc s ⟨_, j, rfl⟩
    refine ⟨trivial, ?_⟩
    rw [lcK_none, mkK_no, pAll_bl]
    exact ⟨noref_map fun _ => rfl, by simp⟩
  · unfold rngU at m
    obtain ⟨i, hi, rfl⟩ := List.mem_map.mp m
    have := List.mem_range.mp hi
    exact ⟨_, by omega, by omega, rfl⟩
end K21
namespace K21
open PySem PySem.Spec PyProof.Rows L2 EV M
theorem holds : PySem.Challenge.rw_heardlogs_k21_whole_clocks_by_dicts.Holds := law_of 9 ⟨rfl, by decide +kernel, by decide +kernel⟩ fun ns _ => by
  obtain ⟨u, st, e, rfl⟩ := run_ex (e_law 0 0 ns [])
  exact ⟨st, e⟩
end K21

theorem PySem.Challenge.cw_heardlogs_k21_whole_clocks_by_dicts_holds : PySem.Challenge.rw_heardlogs_k21_whole_clocks_by_dicts.Holds :=
  K21.holds
