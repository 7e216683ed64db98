import PyProof.Rows.All
import Wide.All
import OpenK.AllK
import Wide.FinOn
import HandS.ForMost
import HandS.IsInst
import HandS.StrMore
import HandS.Replace
import HandS.ReplaceLit
import HandS.Wide
import HandS.TupAny
import HandS.Walk
import HandS.EndBits
import HandS.Exc
import HandS.HeadHook4
import HandS.ExcValue
import HandS.Lambda
import HandS.ExcOwn
import HandS.ExcInit
import HandS.RaiseMore
import KE.KExcIs
import HandS.Conv
import KE.KUnpackStar
import HandS.Defaults
import HandS.HeadEnd
import HandS.HeadWalk
import HandS.Codes
import HandS.HeadHook2
import HandS.NestedK
import HandS.ReplaceList
import KE.IntTextLaws
import PyProof.StrLawsTight
import PyProof.Rows.StrItems
import PyProof.Rows.StrSplitAre
import PyProof.Rows.StrJoinRep
import Lean
import HandS.Head0
import HandS.Head1
import HandS.Head2
import HandS.HeadHook1
import PySem.Challenge.RW_rolltally_k77_boards_of_rows
set_option Elab.async false
set_option linter.all false
set_option autoImplicit false
set_option maxRecDepth 100000
set_option maxHeartbeats 4000000
namespace MI
open PySem PySem.Spec PyProof.Rows L2

/-- plain data: a list here is a snapshot of a list that nobody changes; ref i is the i-th object of the store -/
inductive D where
  | non | bl (b : Bool) | int (i : Int) | str (s : Str) | ty (n : String)
  | tup (ds : List D) | lst (ds : List D)
  | ref (i : Nat)
  | scr (ds : List D)
  | exn (c : Str) (ns : List Str) (ds : List D)
  | edic
  | lit (v : V)
/-- what may change and is shared -/
inductive Ob where
  | lst (ds : List D)
abbrev Store := List Ob
/-- a slot: unknown, a value, or a list of its own that the slot alone holds -/
inductive Sl where
  | no | v (d : D) | own (ds : List D)
abbrev Env := List Sl
inductive Res (α : Type) where
  | ok (a : α) (st : Store) | exc (c : Str) (ns : List Str) (ds : List D) (st : Store) | stuck

abbrev Mu := Addr → Prop
/-- a list that stands still: known to the object, or written -/
def SqF (K : PySem.W.Frag) (H : Hp) (a : Addr) (xs : List V) : Prop :=
  (∃ o, H a = some (.frz o (.lst xs))) ∨
    ∃ (o : Obj) (its : Array Value) (n : Nat), K.lookup a = some o ∧ o.cls = .type "list" ∧ o.dict = none ∧ o.data = .seq its n ∧ its.size ≤ sizeLine ∧ Vals xs its.toList
theorem SqF.sq {K : PySem.W.Frag} {H : Hp} {a : Addr} {xs : List V} (h : SqF K H a xs) : SqL K H a xs := by
  rcases h with ⟨o, h⟩ | h
  · exact .inl (.inr ⟨o, h⟩)
  · exact .inr h
theorem SqF.of {K : PySem.W.Frag} {H : Hp} {a : Addr} {xs : List V} (h : SqL K H a xs) (n : H a ≠ some (.lst xs)) : SqF K H a xs := by
  rcases h with (h | h) | h
  · exact absurd h n
  · exact .inl h
  · exact .inr h
/-- a caught exception at a: its class, its dict -/
def ExK (cls : Value) (d : Option Addr) (a : Addr) : HO := .ext fun h => ∃ (oe : Obj) (vs : Array Value), h.get? a = some oe ∧ Zc cls d oe ∧ oe.data = .fields vs
section
variable (K : PySem.W.Frag)
mutual
/-- the heap bears d at v -/
def RepV (M : Mu) (r : List Addr) (H : Hp) : D → V → Prop
  | .non, v => v = .non
  | .bl b, v => v = .bl b
  | .int i, v => v = .int i
  | .str s, v => v = .str s
  | .ty n, v => v = .ty n
  | .tup ds, v => ∃ a xs, v = .ref a ∧ SqT K H a xs ∧ RepL M r H ds xs
  | .lst ds, v => ∃ a xs, v = .ref a ∧ ¬ M a ∧ H a = some (.lst xs) ∧ RepL M r H ds xs
  | .ref i, v => ∃ a, v = .ref a ∧ r[i]? = some a
  | .scr ds, v => ∃ a xs, v = .ref a ∧ (SqF K H a xs ∨ (¬ M a ∧ H a = some (.lst xs))) ∧ RepL M r H ds xs
  | .exn c ns ds, v => ∃ a d dd xs, v = .ref a ∧ ¬ M a ∧ H a = some (ExK (.ref (He.ga K c)) d a) ∧ ((ns = [] ∧ d = none) ∨ (d = some dd ∧ ¬ M dd ∧ H dd = some (.xd (ns.zip xs)))) ∧ RepL M r H ds xs
  | .edic, v => ∃ a, v = .ref a ∧ ¬ M a ∧ H a = some (.dK [])
  | .lit x, v => v = x ∧ x ≠ .non
def RepL (M : Mu) (r : List Addr) (H : Hp) : List D → List V → Prop
  | [], xs => xs = []
  | d :: ds, xs => ∃ x ys, xs = x :: ys ∧ RepV M r H d x ∧ RepL M r H ds ys
end
end

/-- no table of code objects -/
def NTb (o : HO) : Prop := ∀ ps, o ≠ .tbl ps
theorem nfr {H : Hp} {a : Addr} {o : HO} (h : H a = some o) (n : NTb o) : ¬ Fr0 H a := fun f => by
  obtain ⟨ps, e⟩ := f o h
  exact n ps e
theorem ntb_lst {xs : List V} : NTb (.lst xs) := fun ps z => by cases z
theorem ntb_tup {xs : List V} : NTb (.tup xs) := fun ps z => by cases z
theorem ntb_xd {fs : List (Str × V)} : NTb (.xd fs) := fun ps z => by cases z
theorem ntb_dK {fs : List (Key × V)} : NTb (.dK fs) := fun ps z => by cases z
theorem ntb_exK {c : Value} {d : Option Addr} {a : Addr} : NTb (ExK c d a) := fun ps z => by
  unfold ExK at z
  cases z
/-- from one time to a later one -/
structure Ext (M : Mu) (r : List Addr) (H : Hp) (M' : Mu) (r' : List Addr) (H' : Hp) : Prop where
  pre : ∃ q, r' = r ++ q
  mono : ∀ a, M a → M' a
  new : ∀ a, M' a → M a ∨ Fr0 H a
  fresh : ∀ a ∈ r', a ∈ r ∨ Fr0 H a
  keep : ∀ a o, a ∉ r → NTb o → H a = some o → H' a = some o
  liv : ∀ a, Fr0 H' a → Fr0 H a
  tup : ∀ a xs, H a = some (.tup xs) → H' a = some (.tup xs)
  frz : ∀ a o u, H a = some (.frz o u) → H' a = some (.frz o u)

section
variable {K : PySem.W.Frag} {M M' M'' : Mu} {r r' r'' : List Addr} {H H' H'' : Hp}
theorem Ext.refl : Ext M r H M r H := ⟨⟨[], by simp⟩, fun _ h => h, fun _ h => .inl h, fun _ h => .inl h, fun _ _ _ _ h => h, fun _ h => h, fun _ _ h => h, fun _ _ _ h => h⟩
theorem Ext.trans (x : Ext M r H M' r' H') (y : Ext M' r' H' M'' r'' H'') : Ext M r H M'' r'' H'' := by
  refine ⟨?_, fun a h => y.mono a (x.mono a h), fun a h => ?_, fun a h => ?_, fun a o n nt h => ?_, fun a h => x.liv a (y.liv a h), fun a xs h => y.tup a xs (x.tup a xs h), fun a o u h => y.frz a o u (x.frz a o u h)⟩
  · obtain ⟨q, e⟩ := x.pre
    obtain ⟨q', e'⟩ := y.pre
    exact ⟨q ++ q', by rw [e', e, List.append_assoc]⟩
  · rcases y.new a h with h | h
    · exact x.new a h
    · exact .inr (x.liv a h)
  · rcases y.fresh a h with h | h
    · exact x.fresh a h
    · exact .inr (x.liv a h)
  · refine y.keep a o (fun hm => ?_) nt (x.keep a o n nt h)
    rcases x.fresh a hm with z | z
    · exact n z
    · exact nfr h nt z
theorem Ext.get (x : Ext M r H M' r' H') {i : Nat} {a : Addr} (h : r[i]? = some a) : r'[i]? = some a := by
  obtain ⟨q, e⟩ := x.pre
  rw [e, List.getElem?_append_left (List.getElem?_eq_some_iff.mp h).1]
  exact h
theorem Ext.sqT (x : Ext M r H M' r' H') {a : Addr} {xs : List V} (h : SqT K H a xs) : SqT K H' a xs := by
  rcases h with (h | ⟨o, h⟩) | h
  · exact .inl (.inl (x.tup a xs h))
  · exact .inl (.inr ⟨o, x.frz a o _ h⟩)
  · exact .inr h
theorem Ext.sqF (x : Ext M r H M' r' H') {a : Addr} {xs : List V} (h : SqF K H a xs) : SqF K H' a xs := by
  rcases h with ⟨o, h⟩ | h
  · exact .inl ⟨o, x.frz a o _ h⟩
  · exact .inr h
/-- a list that is not of the store stays -/
theorem Ext.notM (x : Ext M r H M' r' H') {a : Addr} {o : HO} (n : ¬ M a) (h : H a = some o) (nt : NTb o) : ¬ M' a := fun m => by
  rcases x.new a m with z | z
  · exact n z
  · exact nfr h nt z

mutual
theorem RepV.mono (sub : ∀ a ∈ r, M a) (x : Ext M r H M' r' H') : ∀ (d : D) (v : V), RepV K M r H d v → RepV K M' r' H' d v
  | .non, _, h => h
  | .bl _, _, h => h
  | .int _, _, h => h
  | .str _, _, h => h
  | .ty _, _, h => h
  | .tup ds, v, h => by
    unfold RepV at h ⊢
    obtain ⟨a, xs, e, q, l⟩ := h
    exact ⟨a, xs, e, x.sqT q, RepL.mono sub x ds xs l⟩
  | .lst ds, v, h => by
    unfold RepV at h ⊢
    obtain ⟨a, xs, e, n, q, l⟩ := h
    exact ⟨a, xs, e, x.notM n q ntb_lst, x.keep a _ (fun z => n (sub a z)) ntb_lst q, RepL.mono sub x ds xs l⟩
  | .lit _, _, h => h
  | .ref i, v, h => by
    unfold RepV at h ⊢
    obtain ⟨a, e, q⟩ := h
    exact ⟨a, e, x.get q⟩
  | .scr ds, v, h => by
    unfold RepV at h ⊢
    obtain ⟨a, xs, e, q, l⟩ := h
    exact ⟨a, xs, e, q.imp x.sqF fun ⟨n, q⟩ => ⟨x.notM n q ntb_lst, x.keep a _ (fun z => n (sub a z)) ntb_lst q⟩, RepL.mono sub x ds xs l⟩
  | .exn c ns ds, v, h => by
    unfold RepV at h ⊢
    obtain ⟨a, d, dd, xs, e, n, q, f, l⟩ := h
    exact ⟨a, d, dd, xs, e, x.notM n q ntb_exK, x.keep a _ (fun z => n (sub a z)) ntb_exK q, f.imp id fun ⟨e1, n1, q1⟩ => ⟨e1, x.notM n1 q1 ntb_xd, x.keep dd _ (fun z => n1 (sub dd z)) ntb_xd q1⟩, RepL.mono sub x ds xs l⟩
  | .edic, v, h => by
    unfold RepV at h ⊢
    obtain ⟨a, e, n, q⟩ := h
    exact ⟨a, e, x.notM n q ntb_dK, x.keep a _ (fun z => n (sub a z)) ntb_dK q⟩
theorem RepL.mono (sub : ∀ a ∈ r, M a) (x : Ext M r H M' r' H') : ∀ (ds : List D) (xs : List V), RepL K M r H ds xs → RepL K M' r' H' ds xs
  | [], _, h => h
  | d :: ds, xs, h => by
    unfold RepL at h ⊢
    obtain ⟨y, ys, e, h1, h2⟩ := h
    exact ⟨y, ys, e, RepV.mono sub x d y h1, RepL.mono sub x ds ys h2⟩
end
theorem RepL.length : ∀ {ds : List D} {xs : List V}, RepL K M r H ds xs → xs.length = ds.length
  | [], xs, h => by unfold RepL at h; rw [h]; rfl
  | d :: ds, xs, h => by
    unfold RepL at h
    obtain ⟨y, ys, e, _, h2⟩ := h
    rw [e, List.length_cons, List.length_cons, RepL.length h2]
theorem RepL.get : ∀ {ds : List D} {xs : List V} {i : Nat} {d : D}, RepL K M r H ds xs → ds[i]? = some d → ∃ x, xs[i]? = some x ∧ RepV K M r H d x
  | [], _, _, _, _, e => by simp at e
  | d :: ds, xs, 0, d', h, e => by
    unfold RepL at h
    obtain ⟨y, ys, e1, h1, _⟩ := h
    simp at e; subst e
    exact ⟨y, by rw [e1]; rfl, h1⟩
  | d :: ds, xs, i + 1, d', h, e => by
    unfold RepL at h
    obtain ⟨y, ys, e1, _, h2⟩ := h
    obtain ⟨x, hx, hr⟩ := RepL.get (i := i) h2 (by simpa using e)
    exact ⟨x, by rw [e1]; simpa using hx, hr⟩
theorem RepL.get' {ds : List D} {xs : List V} {i : Nat} {x : V} (h : RepL K M r H ds xs) (e : xs[i]? = some x) : ∃ d, ds[i]? = some d ∧ RepV K M r H d x := by
  have hl := h.length
  have hi : i < ds.length := by rw [← hl]; exact (List.getElem?_eq_some_iff.mp e).1
  obtain ⟨y, hy, hr⟩ := h.get (List.getElem?_eq_getElem hi)
  rw [e] at hy; cases hy
  exact ⟨_, List.getElem?_eq_getElem hi, hr⟩
theorem RepL.nil : RepL K M r H [] [] := by unfold RepL; rfl
theorem RepL.cons {d : D} {ds : List D} {x : V} {xs : List V} (h1 : RepV K M r H d x) (h2 : RepL K M r H ds xs) : RepL K M r H (d :: ds) (x :: xs) := by
  unfold RepL
  exact ⟨x, xs, rfl, h1, h2⟩
theorem RepL.app : ∀ {ds es : List D} {xs ys : List V}, RepL K M r H ds xs → RepL K M r H es ys → RepL K M r H (ds ++ es) (xs ++ ys)
  | [], es, xs, ys, h, h' => by
    unfold RepL at h; subst h; exact h'
  | d :: ds, es, xs, ys, h, h' => by
    unfold RepL at h
    obtain ⟨y, zs, e, h1, h2⟩ := h
    subst e
    exact RepL.cons h1 (RepL.app h2 h')
theorem RepL.take : ∀ {ds : List D} {xs : List V} (n : Nat), RepL K M r H ds xs → RepL K M r H (ds.take n) (xs.take n)
  | ds, xs, 0, h => by simp only [List.take_zero]; exact RepL.nil
  | [], xs, n + 1, h => by unfold RepL at h; subst h; exact RepL.nil
  | d :: ds, xs, n + 1, h => by
    unfold RepL at h
    obtain ⟨y, ys, e, h1, h2⟩ := h
    subst e
    exact RepL.cons h1 (RepL.take n h2)
theorem RepL.drop : ∀ {ds : List D} {xs : List V} (n : Nat), RepL K M r H ds xs → RepL K M r H (ds.drop n) (xs.drop n)
  | ds, xs, 0, h => by simpa using h
  | [], xs, n + 1, h => by unfold RepL at h; subst h; exact RepL.nil
  | d :: ds, xs, n + 1, h => by
    unfold RepL at h
    obtain ⟨y, ys, e, h1, h2⟩ := h
    subst e
    exact RepL.drop n h2
theorem RepL.set : ∀ {ds : List D} {xs : List V} {d : D} {x : V} (n : Nat), RepL K M r H ds xs → RepV K M r H d x → RepL K M r H (ds.set n d) (xs.set n x)
  | [], xs, d, x, n, h, _ => by unfold RepL at h; subst h; exact RepL.nil
  | _ :: ds, xs, d, x, 0, h, hd => by
    unfold RepL at h
    obtain ⟨y, ys, e, h1, h2⟩ := h
    subst e
    exact RepL.cons hd h2
  | _ :: ds, xs, d, x, n + 1, h, hd => by
    unfold RepL at h
    obtain ⟨y, ys, e, h1, h2⟩ := h
    subst e
    exact RepL.cons h1 (RepL.set n h2 hd)
end

/-- what data lean on, at a later time -/
structure LV (M : Mu) (r : List Addr) (H : Hp) (M' : Mu) (r' : List Addr) (H' : Hp) : Prop where
  pre : ∃ q, r' = r ++ q
  new : ∀ a, M' a → M a ∨ Fr0 H a
  keep : ∀ a o, ¬ M a → NTb o → H a = some o → H' a = some o
  liv : ∀ a, Fr0 H' a → Fr0 H a
  tup : ∀ a xs, H a = some (.tup xs) → H' a = some (.tup xs)
  frz : ∀ a o u, H a = some (.frz o u) → H' a = some (.frz o u)
theorem Ext.lv {M M' : Mu} {r r' : List Addr} {H H' : Hp} (x : Ext M r H M' r' H') (sub : ∀ a ∈ r, M a) : LV M r H M' r' H' :=
  ⟨x.pre, x.new, fun a o n nt e => x.keep a o (fun z => n (sub a z)) nt e, x.liv, x.tup, x.frz⟩
section
variable {K : PySem.W.Frag} {M M' M'' : Mu} {r r' r'' : List Addr} {H H' H'' : Hp}
theorem LV.refl : LV M r H M r H := ⟨⟨[], by simp⟩, fun _ h => .inl h, fun _ _ _ _ h => h, fun _ h => h, fun _ _ h => h, fun _ _ _ h => h⟩
theorem LV.trans (x : LV M r H M' r' H') (y : LV M' r' H' M'' r'' H'') : LV M r H M'' r'' H'' := by
  refine ⟨?_, fun a h => ?_, fun a o n nt h => ?_, fun a h => x.liv a (y.liv a h), fun a xs h => y.tup a xs (x.tup a xs h), fun a o u h => y.frz a o u (x.frz a o u h)⟩
  · obtain ⟨q, e⟩ := x.pre
    obtain ⟨q', e'⟩ := y.pre
    exact ⟨q ++ q', by rw [e', e, List.append_assoc]⟩
  · rcases y.new a h with h | h
    · exact x.new a h
    · exact .inr (x.liv a h)
  · refine y.keep a o (fun hm => ?_) nt (x.keep a o n nt h)
    rcases x.new a hm with z | z
    · exact n z
    · exact nfr h nt z
theorem LV.get (x : LV M r H M' r' H') {i : Nat} {a : Addr} (h : r[i]? = some a) : r'[i]? = some a := by
  obtain ⟨q, e⟩ := x.pre
  rw [e, List.getElem?_append_left (List.getElem?_eq_some_iff.mp h).1]
  exact h
theorem LV.sqT (x : LV M r H M' r' H') {a : Addr} {xs : List V} (h : SqT K H a xs) : SqT K H' a xs := by
  rcases h with (h | ⟨o, h⟩) | h
  · exact .inl (.inl (x.tup a xs h))
  · exact .inl (.inr ⟨o, x.frz a o _ h⟩)
  · exact .inr h
theorem LV.sqF (x : LV M r H M' r' H') {a : Addr} {xs : List V} (h : SqF K H a xs) : SqF K H' a xs := by
  rcases h with ⟨o, h⟩ | h
  · exact .inl ⟨o, x.frz a o _ h⟩
  · exact .inr h
theorem LV.notM (x : LV M r H M' r' H') {a : Addr} {o : HO} (n : ¬ M a) (h : H a = some o) (nt : NTb o) : ¬ M' a := fun m => by
  rcases x.new a m with z | z
  · exact n z
  · exact nfr h nt z
mutual
theorem RepV.late (x : LV M r H M' r' H') : ∀ (d : D) (v : V), RepV K M r H d v → RepV K M' r' H' d v
  | .non, _, h => h
  | .bl _, _, h => h
  | .int _, _, h => h
  | .str _, _, h => h
  | .ty _, _, h => h
  | .tup ds, v, h => by
    unfold RepV at h ⊢
    obtain ⟨a, xs, e, q, l⟩ := h
    exact ⟨a, xs, e, x.sqT q, RepL.late x ds xs l⟩
  | .lst ds, v, h => by
    unfold RepV at h ⊢
    obtain ⟨a, xs, e, n, q, l⟩ := h
    exact ⟨a, xs, e, x.notM n q ntb_lst, x.keep a _ n ntb_lst q, RepL.late x ds xs l⟩
  | .lit _, _, h => h
  | .ref i, v, h => by
    unfold RepV at h ⊢
    obtain ⟨a, e, q⟩ := h
    exact ⟨a, e, x.get q⟩
  | .scr ds, v, h => by
    unfold RepV at h ⊢
    obtain ⟨a, xs, e, q, l⟩ := h
    exact ⟨a, xs, e, q.imp x.sqF fun ⟨n, q⟩ => ⟨x.notM n q ntb_lst, x.keep a _ n ntb_lst q⟩, RepL.late x ds xs l⟩
  | .exn c ns ds, v, h => by
    unfold RepV at h ⊢
    obtain ⟨a, d, dd, xs, e, n, q, f, l⟩ := h
    exact ⟨a, d, dd, xs, e, x.notM n q ntb_exK, x.keep a _ n ntb_exK q, f.imp id fun ⟨e1, n1, q1⟩ => ⟨e1, x.notM n1 q1 ntb_xd, x.keep dd _ n1 ntb_xd q1⟩, RepL.late x ds xs l⟩
  | .edic, v, h => by
    unfold RepV at h ⊢
    obtain ⟨a, e, n, q⟩ := h
    exact ⟨a, e, x.notM n q ntb_dK, x.keep a _ n ntb_dK q⟩
theorem RepL.late (x : LV M r H M' r' H') : ∀ (ds : List D) (xs : List V), RepL K M r H ds xs → RepL K M' r' H' ds xs
  | [], _, h => h
  | d :: ds, xs, h => by
    unfold RepL at h ⊢
    obtain ⟨y, ys, e, h1, h2⟩ := h
    exact ⟨y, ys, e, RepV.late x d y h1, RepL.late x ds ys h2⟩
end
end
/-- fewer may change: the same is borne -/
theorem RepV.anti_aux : True := trivial
section
variable {K : PySem.W.Frag} {M M' : Mu} {r : List Addr} {H : Hp}
mutual
theorem RepV.anti (m : ∀ a, M' a → M a) : ∀ (d : D) (v : V), RepV K M r H d v → RepV K M' r H d v
  | .non, _, h => h
  | .bl _, _, h => h
  | .int _, _, h => h
  | .str _, _, h => h
  | .ty _, _, h => h
  | .tup ds, v, h => by
    unfold RepV at h ⊢
    obtain ⟨a, xs, e, q, l⟩ := h
    exact ⟨a, xs, e, q, RepL.anti m ds xs l⟩
  | .lst ds, v, h => by
    unfold RepV at h ⊢
    obtain ⟨a, xs, e, n, q, l⟩ := h
    exact ⟨a, xs, e, fun z => n (m a z), q, RepL.anti m ds xs l⟩
  | .lit _, _, h => h
  | .ref i, v, h => h
  | .scr ds, v, h => by
    unfold RepV at h ⊢
    obtain ⟨a, xs, e, q, l⟩ := h
    exact ⟨a, xs, e, q.imp id fun ⟨n, q⟩ => ⟨fun z => n (m a z), q⟩, RepL.anti m ds xs l⟩
  | .exn c ns ds, v, h => by
    unfold RepV at h ⊢
    obtain ⟨a, d, dd, xs, e, n, q, f, l⟩ := h
    exact ⟨a, d, dd, xs, e, fun z => n (m a z), q, f.imp id fun ⟨e1, n1, q1⟩ => ⟨e1, fun z => n1 (m dd z), q1⟩, RepL.anti m ds xs l⟩
  | .edic, v, h => by
    unfold RepV at h ⊢
    obtain ⟨a, e, n, q⟩ := h
    exact ⟨a, e, fun z => n (m a z), q⟩
theorem RepL.anti (m : ∀ a, M' a → M a) : ∀ (ds : List D) (xs : List V), RepL K M r H ds xs → RepL K M' r H ds xs
  | [], _, h => h
  | d :: ds, xs, h => by
    unfold RepL at h ⊢
    obtain ⟨y, ys, e, h1, h2⟩ := h
    exact ⟨y, ys, e, RepV.anti m d y h1, RepL.anti m ds ys h2⟩
end
end
/-- an exception in the air -/
structure ExcV (K : PySem.W.Frag) (M : Mu) (r : List Addr) (H : Hp) (c : Str) (ns : List Str) (ds : List D) (cls : Value) (d : Option Addr) : Prop where
  cl : cls = .ref (He.ga K c)
  fs : ∃ dd xs, ((ns = [] ∧ d = none) ∨ (d = some dd ∧ ¬ M dd ∧ H dd = some (.xd (ns.zip xs)))) ∧ RepL K M r H ds xs
theorem ExcV.late {K : PySem.W.Frag} {M M' : Mu} {r r' : List Addr} {H H' : Hp} {c : Str} {ns : List Str} {ds : List D} {cls : Value} {d : Option Addr} (h : ExcV K M r H c ns ds cls d) (x : LV M r H M' r' H') : ExcV K M' r' H' c ns ds cls d := by
  obtain ⟨h1, dd, xs, f, l⟩ := h
  exact ⟨h1, dd, xs, f.imp id fun ⟨e1, n1, q1⟩ => ⟨e1, x.notM n1 q1 ntb_xd, x.keep dd _ n1 ntb_xd q1⟩, RepL.late x ds xs l⟩
/-- the defs that make lambdas, with the lambda's name -/
class LamDefs where
  ls : List ((Str × Option Str) × Str)
/-- their tables of code objects -/
def TK [L : LamDefs] (K : PySem.W.Frag) : List (Addr × Str) := L.ls.map fun p => ((He.cT K p.1).2, p.2)
variable [LD : LamDefs]
/-- the store is borne -/
structure RelS (K : PySem.W.Frag) (M : Mu) (r : List Addr) (H : Hp) (st : Store) : Prop where
  len : r.length = st.length
  nd : r.Nodup
  sub : ∀ a ∈ r, M a
  ob : ∀ (i : Nat) (ds : List D), st[i]? = some (Ob.lst ds) → ∃ a xs, r[i]? = some a ∧ H a = some (.lst xs) ∧ RepL K M r H ds xs
  liv : ∀ a, M a → ¬ Fr0 H a
  tabs : LamX.Tabs (TK K) H
/-- an object that is no table and no code changes -/
theorem tabs_upd {T : List (Addr × Str)} {H : Hp} {p : Addr} {u o : HO} (t : LamX.Tabs T H) (h : H p = some u) (nt : NTb u) (nc : ∀ c q, u ≠ LamX.CodeO c q) : LamX.Tabs T (upd H p o) := fun x hx => by
  obtain ⟨ps, h1, h2, h3⟩ := t x hx
  refine ⟨ps, by rw [upd_ne (fun z => by rw [z, h] at h1; exact nt ps (Option.some.inj h1))]; exact h1, h2, fun pos cv hc => ?_⟩
  obtain ⟨c, e1, e2⟩ := h3 pos cv hc
  exact ⟨c, e1, by rw [upd_ne (fun z => by rw [z, h] at e2; exact nc _ _ (Option.some.inj e2))]; exact e2⟩
theorem tabs_lst {T : List (Addr × Str)} {H : Hp} {p : Addr} {xs : List V} {o : HO} (t : LamX.Tabs T H) (h : H p = some (.lst xs)) : LamX.Tabs T (upd H p o) := tabs_upd t h ntb_lst fun c q z => by
  unfold LamX.CodeO at z
  cases z
/-- the slots are borne; O: the lists that slots hold alone -/
structure RelE (K : PySem.W.Frag) (M O : Mu) (r : List Addr) (H : Hp) (σ : L2.St) (env : Env) : Prop where
  val : ∀ (i : Nat) (d : D), env[i]? = some (Sl.v d) → ∃ x, σ[i]? = some (some x) ∧ RepV K M r H d x
  own : ∀ (i : Nat) (ds : List D), env[i]? = some (Sl.own ds) → ∃ a xs, σ[i]? = some (some (V.ref a)) ∧ O a ∧ H a = some (.lst xs) ∧ RepL K M r H ds xs
  inj : ∀ (i j : Nat) (ds es : List D) (a : Addr), env[i]? = some (Sl.own ds) → env[j]? = some (Sl.own es) → σ[i]? = some (some (V.ref a)) → σ[j]? = some (some (V.ref a)) → i = j
  nor : ∀ a, O a → a ∉ r
  sub : ∀ a, O a → M a
  len : env.length = σ.length
section
variable {K : PySem.W.Frag} {M M' O : Mu} {r r' : List Addr} {H H' : Hp} {σ : L2.St} {env : Env} {st : Store}
theorem RelE.mono (e : RelE K M O r H σ env) (s : RelS K M r H st) (x : Ext M r H M' r' H') : RelE K M' O r' H' σ env where
  val := fun i d h => by
    obtain ⟨v, h1, h2⟩ := e.val i d h
    exact ⟨v, h1, RepV.mono s.sub x d v h2⟩
  own := fun i ds h => by
    obtain ⟨a, xs, h1, h2, h4, h5⟩ := e.own i ds h
    exact ⟨a, xs, h1, h2, x.keep a _ (e.nor a h2) ntb_lst h4, RepL.mono s.sub x ds xs h5⟩
  inj := e.inj
  nor := fun a h z => by
    rcases x.fresh a z with q | q
    · exact e.nor a h q
    · exact s.liv a (e.sub a h) q
  sub := fun a h => x.mono a (e.sub a h)
  len := e.len
end
end MI

set_option maxRecDepth 100000
set_option maxHeartbeats 4000000
namespace MI
open PySem PySem.Spec PyProof.Rows L2

def big : Nat := 16777216
def Res.bind {α β : Type} (x : Res α) (f : α → Store → Res β) : Res β := match x with
  | .ok a st => f a st
  | .exc c ns ds st => .exc c ns ds st
  | .stuck => .stuck
/-- where nothing may be raised -/
def Res.tame {α : Type} (x : Res α) : Res α := match x with
  | .ok a st => .ok a st
  | _ => .stuck
def Res.of {α : Type} (x : Option α) (st : Store) : Res α := match x with
  | some a => .ok a st
  | none => .stuck

def opI (op : Operator) (i j : Int) : Option D := match op with
  | .Add => some (.int (i + j))
  | .Sub => some (.int (i - j))
  | .Mult => if i.natAbs.log2 + j.natAbs.log2 < 1000000 then some (.int (i * j)) else none
  | .FloorDiv => if 0 < j ∧ j.natAbs.log2 < 9000 then some (.int (i / j)) else none
  | .Mod => if 0 < j then some (.int (i % j)) else none
  | .Pow => if 0 ≤ j ∧ j ≤ 1000000 ∧ i.natAbs < 2 ^ 64 then some (.int (i ^ j.toNat)) else none
  | .BitAnd => some (.int (Builtin.bitAnd i j))
  | .RShift => if 0 ≤ j then some (.int (i / 2 ^ j.toNat)) else none
  | .LShift => if 0 ≤ j ∧ j ≤ 1000000 ∧ i.natAbs < 2 ^ 64 then some (.int (i * 2 ^ j.toNat)) else none
  | _ => none
def opD (op : Operator) (x y : D) : Option D := match x, y with
  | .int i, .int j => opI op i j
  | .str a, .str b => (match op with
    | .Add => if a.length + b.length ≤ big then some (.str (a ++ b)) else none
    | _ => none)
  | .str a, .int n => (match op with
    | .Mult => if a.length ≤ 16 ∧ 0 ≤ n ∧ n ≤ 1000000 then some (.str (Txt.mul a n)) else none
    | _ => none)
  | .lst a, .lst b => (match op with
    | .Add => if a.length + b.length ≤ big then some (.lst (a ++ b)) else none
    | _ => none)
  | .tup a, .tup b => (match op with
    | .Add => if a.length + b.length ≤ big then some (.tup (a ++ b)) else none
    | _ => none)
  | .scr a, .lst b => (match op with
    | .Add => if a.length + b.length ≤ big then some (.lst (a ++ b)) else none
    | _ => none)
  | _, _ => none

mutual
def toP : D → Option PyData
  | .non => some .none
  | .bl b => some (.bool b)
  | .int i => some (.int i)
  | .str s => some (.str s)
  | .tup ds => (toPs ds).map .tuple
  | .lst ds => (toPs ds).map .list
  | .ty _ => none
  | .ref _ => none
  | .scr _ => none
  | .exn _ _ _ => none
  | .edic => none
  | .lit _ => none
def toPs : List D → Option (List PyData)
  | [] => some []
  | d :: ds => match toP d, toPs ds with
    | some p, some ps => some (p :: ps)
    | _, _ => none
end
def flat : D → Bool
  | .non => true
  | .bl _ => true
  | .int _ => true
  | .str _ => true
  | _ => false
def eqF : D → D → Bool
  | .non, .non => true
  | .bl a, .bl b => a == b
  | .bl a, .int b => (if a then 1 else 0) == b
  | .int a, .bl b => a == (if b then 1 else 0)
  | .int a, .int b => a == b
  | .str a, .str b => a == b
  | _, _ => false
/-- == of data -/
def eqD (x y : D) : Option Bool := match x, y with
  | .int a, .int b => some (a == b)
  | .str a, .str b => some (a == b)
  | .bl a, .bl b => some (a == b)
  | .non, .non => some true
  | .non, .int _ => some false
  | .int _, .non => some false
  | .non, .str _ => some false
  | .str _, .non => some false
  | x, y => match toP x, toP y with
    | some p, some q => if SeqAt.shaped p = true ∧ SeqAt.shaped q = true then some (PyData.eqv p q) else none
    | _, _ => none
def itemsOf : D → Option (List D)
  | .tup ds => some ds
  | .lst ds => some ds
  | _ => none
/-- x in y -/
def inD (x y : D) : Option Bool := match y with
  | .str z => (match x with
    | .str s => (match s.cps.toList with
      | [c] => some (decide (c ∈ z.cps.toList))
      | _ => none)
    | _ => none)
  | .tup ds => if flat x = true ∧ ds.all flat = true then some (ds.any fun d => eqF d x) else none
  | .lst ds => if flat x = true ∧ ds.all flat = true then some (ds.any fun d => eqF d x) else none
  | _ => none
def isN : D → Bool
  | .non => true
  | _ => false
def cmpD (op : CmpOp) (x y : D) : Option Bool := match op with
  | .Eq => eqD x y
  | .NotEq => (eqD x y).map not
  | .In => inD x y
  | .NotIn => (inD x y).map not
  | .Is => if isN y then some (isN x) else none
  | .IsNot => if isN y then some (!isN x) else none
  | .Lt => (match x, y with
    | .int i, .int j => some (decide (i < j))
    | .str a, .str b => some (decide (a.cps.toList < b.cps.toList))
    | _, _ => none)
  | .LtE => (match x, y with
    | .int i, .int j => some (decide (i ≤ j))
    | .str a, .str b => some (!decide (b.cps.toList < a.cps.toList))
    | _, _ => none)
  | .Gt => (match x, y with
    | .int i, .int j => some (decide (j < i))
    | _, _ => none)
  | .GtE => (match x, y with
    | .int i, .int j => some (decide (j ≤ i))
    | _, _ => none)
def unD (op : UnaryOp) (x : D) : Option D := match op, x with
  | .USub, .int i => some (.int (-i))
  | _, _ => none
/-- xs[i] -/
def ixD (x i : D) (st : Store) : Option D := match x, i with
  | .lst ds, .int k => L2.atI ds k
  | .tup ds, .int k => L2.atI ds k
  | .str z, .int k => if z.length ≤ big then (L2.atI z.cps.toList k).map fun c => .str ⟨#[c]⟩ else none
  | .ref j, .int k => (match st[j]? with
    | some (.lst ds) => L2.atI ds k
    | _ => none)
  | _, _ => none
def cutL (ds : List D) (lo hi : Option Int) : List D := (ds.drop (HT.sIx ds.length 0 lo)).take (HT.sIx ds.length ds.length hi - HT.sIx ds.length 0 lo)
/-- a part of a slice -/
def partD : D → Option Int
  | .int i => some i
  | _ => none
def slD (x : D) (lo hi : Option Int) : Option D := match x with
  | .str z => if z.length ≤ big then some (.str (L2.cutS z lo hi)) else none
  | .lst ds => some (.lst (cutL ds lo hi))
  | .tup ds => some (.tup (cutL ds lo hi))
  | _ => none
def lenD (x : D) (st : Store) : Option Nat := match x with
  | .str z => if z.length ≤ big then some z.length else none
  | .tup ds => some ds.length
  | .lst ds => some ds.length
  | .scr ds => some ds.length
  | .ref j => (match st[j]? with
    | some (.lst ds) => some ds.length
    | _ => none)
  | _ => none
def tyN : D → Option String
  | .non => some "NoneType"
  | .bl _ => some "bool"
  | .int _ => some "int"
  | .str _ => some "str"
  | .tup _ => some "tuple"
  | .lst _ => some "list"
  | .edic => some "dict"
  | _ => none
def tyNS (x : D) (st : Store) : Option String := match x with
  | .ref j => (match st[j]? with
    | some (.lst _) => some "list"
    | _ => none)
  | x => tyN x
def tyNames : List String := ["int", "bool", "str", "list", "tuple", "dict"]
def sub1 (a b : String) : Bool := a == b || (a == "bool" && b == "int")
def isTy (x : D) (st : Store) (ts : List String) : Option Bool := (tyNS x st).map fun a => ts.any fun b => sub1 a b
def strsOf : List D → Option (List Str)
  | [] => some []
  | .str s :: r => (strsOf r).map fun l => s :: l
  | _ => none
/-- sep.join(xs) -/
def joinD (a : Str) (ds : List D) : Option D := match strsOf ds with
  | some ys => if (ys.map (·.length)).sum + ys.length * a.length ≤ 16777216 then some (.str (Txt.join a ys)) else none
  | none => none
def lenF (args : List D) (st : Store) : Option D := match args with
  | [d] => (lenD d st).map fun n => .int (n : Nat)
  | _ => none
def intF (args : List D) : Option D := match args with
  | [.int i] => some (.int i)
  | [.bl b] => some (.int (if b then 1 else 0))
  | [.str s] => if s.length ≤ 640 then (PySem.intText? s).map fun n => .int n else none
  | _ => none
def strF (args : List D) : Option D := match args with
  | [.int i] => if i.natAbs.log2 < 1920 then some (.str (Str.ofString (toString i))) else none
  | _ => none
def tupF (args : List D) : Option D := match args with
  | [.lst ds] => some (.tup ds)
  | [.tup ds] => some (.tup ds)
  | _ => none
def lstF (args : List D) : Option D := match args with
  | [.lst ds] => some (.lst ds)
  | [.tup ds] => some (.lst ds)
  | _ => none
def maxF (args : List D) : Option D := match args with
  | [.int i, .int j] => some (.int (if j > i then j else i))
  | _ => none
def minF (args : List D) : Option D := match args with
  | [.int i, .int j] => some (.int (if j < i then j else i))
  | _ => none
/-- a built-in by its name -/
def bltD (x : Str) (args : List D) (st : Store) : Option D :=
  if x = "len" then lenF args st else if x = "int" then intF args else if x = "str" then strF args else if x = "tuple" then tupF args
  else if x = "list" then lstF args else if x = "max" then maxF args else if x = "min" then minF args else none

/-- what den knows of the module: constants, own functions, built-in names that are free -/
structure Glb where
  const : Str → Option D
  isFn : Str → Bool
  free : Str → Bool
  exc : Str → Option (List Str) := fun _ => none
  sub : Str → Str → Bool := fun _ _ => false
  told : Str → Bool := fun _ => false
  lamOk : Bool := false
abbrev Tab := Str → List D → Store → Res D
def ixOf (N : List Str) (x : Str) : Option Nat := N.findIdx? (fun y => y == x)
def visB (sc : Scope) (x : Str) : Bool := match sc.names.lookup x with
  | some .local => true
  | some .cell => true
  | some .free => true
  | _ => false
def locB (sc : Scope) (x : Str) : Bool := match sc.names.lookup x with
  | some .local => true
  | some .cell => true
  | _ => false
def glB (sc : Scope) (x : Str) : Bool := match sc.names.lookup x with
  | some .globalImplicit => true
  | _ => false
def dunder (x : Str) : Bool := x == "__debug__" || x == "__classdict__" || x == "__name__"

abbrev EX := Env → Store → Res D
abbrev TX := Env → Store → Res Bool
abbrev AX := Env → Store → Res (List D)
def stuckE {α : Type} : Env → Store → Res α := fun _ _ => .stuck
def constD : Const → Option D
  | .none => some .non
  | .bool b => some (.bl b)
  | .int i => some (.int i)
  | .str s => some (.str s)
  | _ => none
def truth : D → Option Bool
  | .bl b => some b
  | .int i => some (i != 0)
  | _ => none
def isStar : Expr → Bool
  | .Starred _ _ => true
  | _ => false
/-- arguments from the left -/
def denA (f : Expr → EX) : List Expr → AX
  | [] => fun _ st => .ok [] st
  | e :: es => if (isStar e || es.any isStar) = true then stuckE else fun env st => (f e env st).bind fun d st1 => (denA f es env st1).bind fun ds st2 => .ok (d :: ds) st2
/-- e as a list to be read, of its own too -/
def borrow (f : Expr → EX) (N : List Str) (sc : Scope) (e : Expr) : EX := match e with
  | .Name x _ => if visB sc x && !dunder x then (match ixOf N x with
    | some i => fun env st => (match env[i]? with
      | some (.v d) => .ok d st
      | some (.own ds) => .ok (.lst ds) st
      | _ => .stuck)
    | none => stuckE) else f e
  | _ => f e
def typeNames (G : Glb) (sc : Scope) : List Expr → Option (List String)
  | [] => some []
  | .Name x _ :: r => if glB sc x && G.free x && !dunder x then (match tyNames.find? (fun n => Str.ofString n == x) with
    | some n => (typeNames G sc r).map fun l => n :: l
    | none => none) else none
  | _ => none
/-- what an expression gives, what a test answers: for shorter syntax -/
structure Dn where
  E : List Str → Scope → Expr → EX
  T : List Str → Scope → Expr → TX
def boolOf {α : Type} (f : D → Option α) (g : EX) : Env → Store → Res α := fun env st => (g env st).bind fun d st1 => Res.of (f d) st1
def blOf : D → Option Bool
  | .bl b => some b
  | _ => none
def cmpX (r : Dn) (N : List Str) (sc : Scope) (op : CmpOp) (a b : Expr) : TX := fun env st =>
  (borrow (r.E N sc) N sc a env st).bind fun x st1 => (borrow (r.E N sc) N sc b env st1).bind fun y st2 => Res.of (cmpD op x y) st2
def chainX (r : Dn) (N : List Str) (sc : Scope) (op op' : CmpOp) (a b c : Expr) : TX := fun env st =>
  (r.E N sc a env st).bind fun x st1 => (r.E N sc b env st1).bind fun y st2 => (Res.of (cmpD op x y) st2).bind fun k st3 =>
    if k = true then (r.E N sc c env st3).bind fun z st4 => Res.of (cmpD op' y z) st4 else .ok false st3
def noMark (op : CmpOp) (b : Expr) : Bool := !behindInMarks op b

/-- the slots of a name, or of a tuple of names -/
def tgOne (N : List Str) (sc : Scope) : Expr → Option (Str × Nat)
  | .Name x _ => if locB sc x && !dunder x then (ixOf N x).map fun i => (x, i) else none
  | _ => none
def tgMany (N : List Str) (sc : Scope) : List Expr → Option (List (Str × Nat))
  | [] => some []
  | e :: es => match tgOne N sc e, tgMany N sc es with
    | some p, some ps => some (p :: ps)
    | _, _ => none
def setMany : List (Str × Nat) → List D → Env → Option Env
  | [], [], env => some env
  | p :: ps, d :: ds, env => setMany ps ds (env.set p.2 (.v d))
  | _, _, _ => none
/-- stores into a target -/
def bindT (N : List Str) (sc : Scope) (tg : Expr) (d : D) (env : Env) : Option Env := match tg with
  | .Name x p => (tgOne N sc (.Name x p)).map fun q => env.set q.2 (.v d)
  | .Tuple es _ _ => (match tgMany N sc es, d with
    | some ps, .tup ds => setMany ps ds env
    | _, _ => none)
  | _ => none
def tgOwn (N : List Str) (sc : Scope) (tg : Expr) : Option (List (Str × Nat)) := match tg with
  | .Name x p => (tgOne N sc (.Name x p)).map fun q => [q]
  | .Tuple es _ _ => tgMany N sc es
  | _ => none

def ownSlot (env : Env) (i : Nat) : Option (List D) := match env[i]? with
  | some (.own ds) => some ds
  | _ => none
def rangeD (lo : Int) (n : Nat) : List D := (List.range n).map fun i => .int (lo + (i : Nat))
def smallI (j : Int) : Bool := decide (-(2 ^ 62) ≤ j) && decide (j < 2 ^ 62)
def rangeOne : D → Option (List D)
  | .int j => if smallI j = true then some (rangeD 0 j.toNat) else none
  | _ => none
def rangeTwo : D → D → Option (List D)
  | .int i, .int j => if smallI i = true ∧ smallI j = true then some (rangeD i (j - i).toNat) else none
  | _, _ => none
def enumD (ds : List D) : List D := (List.range ds.length).zipWith (fun i d => .tup [.int (i : Nat), d]) ds
def isTup : Expr → Bool
  | .Tuple _ _ _ => true
  | _ => false
def seqOf : D → Option (List D)
  | .lst ds => some ds
  | .tup ds => some ds
  | .str z => some (z.cps.toList.map fun c => .str ⟨#[c]⟩)
  | _ => none
def lstOf : D → Option (List D)
  | .lst ds => some ds
  | _ => none
def plainIter : Expr → Bool
  | .Set _ _ _ => false
  | _ => true
/-- the items that a loop over iter meets -/
def srcX (G : Glb) (r : Dn) (N : List Str) (sc : Scope) (tg iter : Expr) : AX := match iter with
  | .Call (.Name f p) args [] q =>
    if glB sc f = true ∧ G.free f = true ∧ G.isFn f = false ∧ f = "range" then (match args with
      | [a] => if isStar a then stuckE else fun env st => (r.E N sc a env st).bind fun d st1 => Res.of (rangeOne d) st1
      | [a, b] => if isStar a || isStar b then stuckE else fun env st => (r.E N sc a env st).bind fun d st1 => (r.E N sc b env st1).bind fun e st2 => Res.of (rangeTwo d e) st2
      | _ => stuckE)
    else if glB sc f = true ∧ G.free f = true ∧ G.isFn f = false ∧ f = "enumerate" then (match args with
      | [a] => if isStar a || !isTup tg then stuckE else fun env st => (r.E N sc a env st).bind fun d st1 => (Res.of (lstOf d) st1).bind fun ds st2 => .ok (enumD ds) st2
      | _ => stuckE)
    else fun env st => (r.E N sc (.Call (.Name f p) args [] q) env st).bind fun d st1 => Res.of (seqOf d) st1
  | e => if plainIter e then fun env st => (r.E N sc e env st).bind fun d st1 => Res.of (seqOf d) st1 else stuckE
/-- .. of a list of one's own too -/
def srcB (G : Glb) (r : Dn) (N : List Str) (sc : Scope) (tg iter : Expr) : AX := match iter with
  | .Name x p => if visB sc x && !dunder x then (match ixOf N x with
    | some i => fun env st => (match ownSlot env i with
      | some ds => .ok ds st
      | none => srcX G r N sc tg (.Name x p) env st)
    | none => stuckE) else srcX G r N sc tg (.Name x p)
  | e => srcX G r N sc tg e

def wipeE (env : Env) : List Nat → Env
  | [] => env
  | v :: vs => (wipeE env vs).set v .no
def compL (f : D → Store → Res (Option D)) : List D → List D → Store → Res (List D)
  | [], acc, st => .ok acc st
  | d :: ds, acc, st => (f d st).bind fun o st1 => match o with
    | some x => compL f ds (acc ++ [x]) st1
    | none => compL f ds acc st1
def testsX (r : Dn) (N : List Str) (sc : Scope) : List Expr → TX
  | [] => fun _ st => .ok true st
  | [c] => r.T N sc c
  | _ => stuckE
def compX (G : Glb) (r : Dn) (N : List Str) (sc : Scope) (elt tg iter : Expr) (ifs : List Expr) (scope : Scope) : AX := match tgOwn N scope tg with
  | some own => if blkC N sc scope own = true then fun env st => (srcB G r N sc tg iter env st).bind fun ds st1 =>
      if ds.length ≤ big then compL (fun d st2 => Res.tame (match bindT N scope tg d (wipeE env (own.map (·.2))) with
        | some env1 => (testsX r N (relS scope sc) ifs env1 st2).bind fun k st3 => if k = true then (r.E N (relS scope sc) elt env1 st3).bind fun x st4 => .ok (some x) st4 else .ok none st3
        | none => .stuck)) ds [] st1 else .stuck
    else stuckE
  | none => stuckE

/-- c + o.replace(y, z).replace(y', z') -/
def replOf : Expr → Option (Str × Expr × Str × Str × Str × Str)
  | .BinOp (.Constant (.str c) _ _) .Add (.Call (.Attribute (.Call (.Attribute o m ap) [.Constant (.str y) _ _, .Constant (.str z) _ _] [] cp) m' ap') [.Constant (.str y') _ _, .Constant (.str z') _ _] [] cp') _ =>
    if m = "replace" ∧ m' = "replace" ∧ (y == z) = false ∧ (y' == z') = false ∧ (ap.endLine == cp.line) = true ∧ (ap'.endLine == cp'.line) = true then some (c, o, y, z, y', z') else none
  | _ => none
def replD (x y z : Str) : Option Str := if x.length + (x.length + 1) * z.length ≤ 16777216 then some (Txt.replace x y z) else none
/-- tuple(range(b)) -/
def tupRgOf : Expr → Option Expr
  | .Call (.Name f _) [.Call (.Name g _) [b] [] _] [] _ => if f == "tuple" && g == "range" && !isStar b then some b else none
  | _ => none
def tupRgD : D → Option D
  | .int n => if 0 ≤ n ∧ n ≤ 16777216 then some (.tup (rangeD 0 n.toNat)) else none
  | _ => none
def strD : D → Option Str
  | .str s => some s
  | _ => none
def noCallBase : Expr → Bool
  | .Call (.Name _ _) [] [] _ => false
  | _ => true
/-- a method of a text -/
def methD (m : Str) (o : D) (args : List D) : Option D :=
  if m = "lstrip" then (match o, args with
    | .str a, [.str b] => if a.length ≤ big then some (.str (Txt.lstripChars a b)) else none
    | _, _ => none)
  else if m = "join" then (match o, args with
    | .str a, [.lst ds] => joinD a ds
    | .str a, [.tup ds] => joinD a ds
    | _, _ => none)
  else if m = "split" then (match o, args with
    | .str a, [.str b] => if a.length + 2 ≤ big ∧ b.length ≠ 0 then some (.lst ((Txt.split a b).map D.str)) else none
    | _, _ => none)
  else none
/-- a method of a list -/
def lmethD (m : Str) (ds : List D) (x : D) : Option D := if flat x = true ∧ ds.all flat = true then
      (if m = "count" then some (.int (ds.countP fun d => eqF d x : Nat)) else if m = "index" then (ds.findIdx? fun d => eqF d x).map fun i => .int (i : Nat) else none) else none
/-- a class in isinstance(exception, class) -/
def exT (G : Glb) (sc : Scope) (t : Str) : Bool := glB sc t && !dunder t && ((G.exc t).isSome || (G.free t && t == Str.ofString "ValueError"))
def isExn (G : Glb) (t : Str) : D → Option Bool
  | .exn c _ _ => if (G.exc c).isSome = true then some (if (G.exc t).isSome = true then G.sub c t else true) else none
  | _ => none
/-- a field of an exception -/
def fldD (G : Glb) (n : Str) : D → Option D
  | .exn c [m] [d] => if m = n ∧ G.exc c = some [n] then some d else none
  | _ => none
/-- f(lambda: ..): f goes on from what the lambda gives -/
def lamX (g : EX) (t : List D → Store → Res D) : EX := fun env st => match g env st with
  | .ok d st1 => (t [.tup [d]] st1).tame
  | .exc c ns ds st1 => (t [.exn c ns ds] st1).tame
  | .stuck => .stuck
def noArgs (a : Arguments) : Bool := a.posonlyargs.isEmpty && a.args.isEmpty && a.vararg.isNone && a.kwonlyargs.isEmpty && a.kw_defaults.isEmpty && a.kwarg.isNone && a.defaults.isEmpty

def bltNames : List Str := ["len", "int", "str", "tuple", "list", "max", "min"]
/-- a part of a slice -/
def partX (f : Expr → EX) (o : Option Expr) : Env → Store → Res (Option Int) := match o with
  | none => fun _ st => .ok none st
  | some l => fun env st => (f l env st).bind fun d st1 => Res.of ((partD d).map some) st1
/-- one turn of den; L: what lambdas' bodies give -/
def stepE (T : Tab) (L : Dn) (G : Glb) (r : Dn) (N : List Str) (sc : Scope) (e : Expr) : EX := match replOf e with
  | some (c, o, y, z, y', z') => if noCallBase o = true then fun env st => (r.E N sc o env st).bind fun d st1 => (Res.of (strD d) st1).bind fun x st2 => (Res.of (replD x y z) st2).bind fun x1 st3 => (Res.of (replD x1 y' z') st3).bind fun x2 st4 => Res.of (opD .Add (.str c) (.str x2)) st4 else stuckE
  | none => match tupRgOf e with
  | some b => if glB sc "tuple" && glB sc "range" && G.free "tuple" && G.free "range" then fun env st => (r.E N sc b env st).bind fun d st1 => Res.of (tupRgD d) st1 else stuckE
  | none => match e with
  | .Name x _ => if dunder x then stuckE else if visB sc x then (match ixOf N x with
      | some i => fun env st => (match env[i]? with
        | some (.v d) => .ok d st
        | _ => .stuck)
      | none => stuckE)
    else if glB sc x then fun _ st => Res.of (G.const x) st else stuckE
  | .Constant c _ _ => fun _ st => Res.of (constD c) st
  | .BinOp a op b _ => fun env st => (r.E N sc a env st).bind fun x st1 => (r.E N sc b env st1).bind fun y st2 => Res.of (opD op x y) st2
  | .UnaryOp .Not a _ => boolOf (fun d => (blOf d).map fun b => .bl (!b)) (r.E N sc a)
  | .UnaryOp .USub a _ => boolOf (unD .USub) (r.E N sc a)
  | .BoolOp _ [a] _ => r.E N sc a
  | .BoolOp .And (a :: b :: rest) p => fun env st => (boolOf blOf (r.E N sc a) env st).bind fun k st1 => if k = true then r.E N sc (.BoolOp .And (b :: rest) p) env st1 else .ok (.bl false) st1
  | .BoolOp .Or (a :: b :: rest) p => fun env st => (boolOf blOf (r.E N sc a) env st).bind fun k st1 => if k = true then .ok (.bl true) st1 else r.E N sc (.BoolOp .Or (b :: rest) p) env st1
  | .Compare a [op] [b] _ => if noMark op b then fun env st => (cmpX r N sc op a b env st).bind fun k st1 => .ok (.bl k) st1 else stuckE
  | .Compare a [op, op'] [b, c] _ => if noMark op' c then fun env st => (chainX r N sc op op' a b c env st).bind fun k st1 => .ok (.bl k) st1 else stuckE
  | .IfExp c a b _ => fun env st => (r.T N sc c env st).bind fun k st1 => if k = true then r.E N sc a env st1 else r.E N sc b env st1
  | .Tuple es _ _ => if es.length ≤ 1000 then fun env st => (denA (r.E N sc) es env st).bind fun ds st1 => .ok (.tup ds) st1 else stuckE
  | .List es _ => if es.length ≤ 1000 then fun env st => (denA (r.E N sc) es env st).bind fun ds st1 => .ok (.lst ds) st1 else stuckE
  | .Subscript a (.Slice lo hi none _) _ => fun env st => (borrow (r.E N sc) N sc a env st).bind fun x st1 =>
      (partX (r.E N sc) lo env st1).bind fun i st2 => (partX (r.E N sc) hi env st2).bind fun j st3 => Res.of (slD x i j) st3
  | .Subscript a i _ => (match i with
    | .Slice _ _ _ _ => stuckE
    | .Tuple _ _ _ => stuckE
    | i => fun env st => (borrow (r.E N sc) N sc a env st).bind fun x st1 => (r.E N sc i env st1).bind fun k st2 => Res.of (ixD x k st2) st2)
  | .Dict [] [] _ => fun _ st => .ok .edic st
  | .Attribute o n _ => if noCallBase o then fun env st => (r.E N sc o env st).bind fun x st1 => Res.of (fldD G n x) st1 else stuckE
  | .Call (.Name f _) [.Lambda ps body lsc _] [] _ => if G.told f && G.lamOk && glB sc f && !dunder f && LamX.lamSB sc lsc && noArgs ps then lamX (L.E N lsc body) (T f) else stuckE
  | .Call (.Name f _) args [] _ => if dunder f then stuckE else if glB sc f then
      (if G.isFn f then fun env st => (denA (r.E N sc) args env st).bind fun ds st1 => T f ds st1
      else if G.free f then
        (if f = "isinstance" then (match args with
          | [a, .Name t p] => if isStar a then stuckE else if exT G sc t then fun env st => (r.E N sc a env st).bind fun x st1 => (Res.of (isExn G t x) st1).bind fun k st2 => .ok (.bl k) st2 else (match typeNames G sc [.Name t p] with
            | some [n] => fun env st => (r.E N sc a env st).bind fun x st1 => (Res.of (isTy x st1 [n]) st1).bind fun k st2 => .ok (.bl k) st2
            | _ => stuckE)
          | [a, .Tuple ts _ _] => if isStar a then stuckE else (match typeNames G sc ts with
            | some ns => if ts.length ≤ 100 then fun env st => (r.E N sc a env st).bind fun x st1 => (Res.of (isTy x st1 ns) st1).bind fun k st2 => .ok (.bl k) st2 else stuckE
            | none => stuckE)
          | _ => stuckE)
        else if bltNames.contains f then (match args with
          | [a] => if isStar a then stuckE else fun env st => (borrow (r.E N sc) N sc a env st).bind fun x st1 => Res.of (bltD f [x] st1) st1
          | a :: as => fun env st => (denA (r.E N sc) (a :: as) env st).bind fun ds st1 => Res.of (bltD f ds st1) st1
          | [] => stuckE)
        else stuckE)
      else stuckE) else stuckE
  | .Call (.Attribute o m ap) [a] [] cp => if m == "count" || m == "index" then (if isStar a || !noCallBase o || !(ap.endLine == cp.line) then stuckE else fun env st => (borrow (r.E N sc) N sc o env st).bind fun x st1 => (Res.of (lstOf x) st1).bind fun ds st1 => (r.E N sc a env st1).bind fun y st2 => Res.of (lmethD m ds y) st2)
      else if isStar a || !noCallBase o || !(ap.endLine == cp.line) || !(m == "lstrip" || m == "join" || m == "split") then stuckE else fun env st => (r.E N sc o env st).bind fun x st1 => (Res.of (strD x) st1).bind fun _ st1 => (borrow (r.E N sc) N sc a env st1).bind fun y st2 => Res.of (methD m x [y]) st2
  | .ListComp elt [⟨tg, iter, ifs, 0⟩] scope _ => fun env st => (compX G r N sc elt tg iter ifs scope env st).bind fun ds st1 => .ok (.lst ds) st1
  | _ => stuckE
def stepT (r : Dn) (self : EX) (N : List Str) (sc : Scope) (e : Expr) : TX := match e with
  | .UnaryOp .Not a _ => fun env st => (r.T N sc a env st).bind fun k st1 => .ok (!k) st1
  | .BoolOp _ [a] _ => r.T N sc a
  | .BoolOp .And (a :: b :: rest) p => fun env st => (r.T N sc a env st).bind fun k st1 => if k = true then r.T N sc (.BoolOp .And (b :: rest) p) env st1 else .ok false st1
  | .BoolOp .Or (a :: b :: rest) p => fun env st => (r.T N sc a env st).bind fun k st1 => if k = true then .ok true st1 else r.T N sc (.BoolOp .Or (b :: rest) p) env st1
  | .BoolOp _ [] _ => stuckE
  | .IfExp _ _ _ _ => stuckE
  | .Compare a [op] [b] _ => if noMark op b then cmpX r N sc op a b else stuckE
  | .Compare a [op, op'] [b, c] _ => if noMark op' c then chainX r N sc op op' a b c else stuckE
  | .Compare _ _ _ _ => stuckE
  | _ => boolOf truth self
def stuckDn : Dn := ⟨fun _ _ _ => stuckE, fun _ _ _ => stuckE⟩
def den (T : Tab) (L : Dn) (G : Glb) : Nat → Dn
  | 0 => stuckDn
  | n + 1 => ⟨fun N sc e => stepE T L G (den T L G n) N sc e, fun N sc e => stepT (den T L G n) (stepE T L G (den T L G n) N sc e) N sc e⟩

inductive RS where
  | next (env : Env) (st : Store) | ret (d : D) (st : Store) | brk (env : Env) (st : Store) | cont (env : Env) (st : Store) | exc (c : Str) (ns : List Str) (ds : List D) (env : Env) (st : Store) | stuck
abbrev SX := Env → Store → RS
def stuckS : SX := fun _ _ => .stuck
def Res.toS {α : Type} (x : Res α) (env : Env) (f : α → Store → RS) : RS := match x with
  | .ok a st => f a st
  | .exc c ns ds st => .exc c ns ds env st
  | .stuck => .stuck
def RS.then (x : RS) (f : SX) : RS := match x with
  | .next env st => f env st
  | r => r
def denSs (f : Stmt → SX) : List Stmt → SX
  | [] => fun env st => .next env st
  | s :: ss => fun env st => (f s env st).then (denSs f ss)
/-- a for: over the items -/
def forL (bind : D → Env → Option Env) (body : SX) : List D → SX
  | [], env, st => .next env st
  | d :: ds, env, st => match bind d env with
    | none => .stuck
    | some env1 => match body env1 st with
      | .next env2 st2 => forL bind body ds env2 st2
      | .cont env2 st2 => forL bind body ds env2 st2
      | .brk env2 st2 => .next env2 st2
      | .ret d st2 => .ret d st2
      | .exc c ns es env2 st2 => .exc c ns es env2 st2
      | .stuck => .stuck
/-- a while: m turns at most -/
def whileF (c : TX) (body : SX) : Nat → SX
  | 0, _, _ => .stuck
  | m + 1, env, st => (c env st).toS env fun k st1 => if k = true then (match body env st1 with
      | .next env2 st2 => whileF c body m env2 st2
      | .cont env2 st2 => whileF c body m env2 st2
      | .brk env2 st2 => .next env2 st2
      | .ret d st2 => .ret d st2
      | .exc c ns es env2 st2 => .exc c ns es env2 st2
      | .stuck => .stuck) else .next env st1
def lots : Nat := 100000000
/-- the names that a loop walks -/
def iterNames : Expr → List Str
  | .Name x _ => [x]
  | .Call _ args _ _ => args.filterMap fun
    | .Name x _ => some x
    | _ => none
  | _ => []
/-- lists of one's own that are let go: values from now on -/
def freed : List Nat → Env → Env
  | [], env => env
  | i :: is, env => freed is (match env[i]? with
    | some (.own ds) => env.set i (.v (.lst ds))
    | _ => env)
def relIx (N : List Str) (ow : List Str) (iter : Expr) : List Nat := (iterNames iter).filterMap fun x => if ow.contains x then ixOf N x else none
def catD (x y : D) : Option (List D) := match x, y with
  | .lst a, .lst b => if a.length + b.length ≤ big then some (a ++ b) else none
  | _, _ => none
/-- a list that is new -/
def newList (T : Tab) (G : Glb) (r : Dn) (N : List Str) (sc : Scope) (e : Expr) : Option AX := match e with
  | .List es _ => some (if es.length ≤ 1000 then denA (r.E N sc) es else stuckE)
  | .ListComp elt [⟨tg, iter, ifs, 0⟩] scope _ => some (compX G r N sc elt tg iter ifs scope)
  | .BinOp a .Add b _ => some fun env st => (borrow (r.E N sc) N sc a env st).bind fun x st1 => (r.E N sc b env st1).bind fun y st2 => Res.of (catD x y) st2
  | _ => none
/-- [..] may be given to the name y at once -/
def swapOk (sc : Scope) (y : Str) (py : Pos) (e : Expr) : Bool := match e with
  | .ListComp _ _ scope pos => (match sc.names.lookup y with
    | some .local => (py.line == pos.line) && !(scope.names.any fun (n, k) => n == y && (k == .local || k == .cell))
    | _ => false)
  | .SetComp _ _ _ _ => false
  | .DictComp _ _ _ _ _ => false
  | _ => true
def isComp : Expr → Bool
  | .ListComp _ _ _ _ => true
  | .SetComp _ _ _ _ => true
  | .DictComp _ _ _ _ _ => true
  | _ => false
def isName : Expr → Bool
  | .Name _ _ => true
  | _ => false
def notTupDisp : Expr → Bool
  | .Tuple _ _ _ => false
  | _ => true
def valSlot (env : Env) (i : Nat) : Option D := match env[i]? with
  | some (.v d) => some d
  | _ => none
def known (env : Env) (i : Nat) : Bool := match env[i]? with
  | some (.v _) => true
  | some (.own _) => true
  | _ => false
/-- a op= d -/
def augI (op : Operator) (a : Int) (d : D) : Option Int := match d with
  | .int b => (match op with
    | .Add => some (a + b)
    | .Sub => some (a - b)
    | _ => none)
  | _ => none
/-- a, b = .., ..: nothing is made of both -/
def parOk (sc : Scope) (x y : Str) (px py : Pos) (a b : Expr) : Bool :=
  decide (sc.names.lookup x = some .local) && decide (sc.names.lookup y = some .local) && !dunder x && !dunder y && (px.line == py.line) && !(x == y) && !isStar a && !isStar b && !isComp a && !isComp b &&
    !(foldedForSure 8 a && foldedForSure 8 b) && !(constantsAlone 8 a && constantsAlone 8 b)
def allConst (a b : Expr) : Bool := foldedForSure 8 a && foldedForSure 8 b && !isStar a && !isStar b
/-- except c as n: z = n -/
def keepOk (G : Glb) (sc : Scope) (c n m z : Str) : Bool := glB sc c && !dunder c && (G.exc c).isSome && (n == m) && decide (sc.names.lookup n = some .local) && locB sc z && !dunder n && !dunder z
/-- *a, b = a list -/
def starD (i j : Nat) (d : D) (env : Env) : Option Env := match d with
  | .lst ds => (match ds.getLast? with
    | some z => some ((env.set i (.v (.lst ds.dropLast))).set j (.v z))
    | none => none)
  | _ => none
/-- one turn of denS; ow: the names whose lists are their own -/
def stepS (T : Tab) (L : Dn) (G : Glb) (r : Dn) (N : List Str) (sc : Scope) (ow : List Str) (rs : Stmt → SX) (s : Stmt) : SX := match s with
  | .Pass _ => fun env st => .next env st
  | .Break _ => fun env st => .brk env st
  | .Continue _ => fun env st => .cont env st
  | .Return none _ => fun _ st => .ret .non st
  | .Return (some e) _ => (match e with
    | .Name x p => if visB sc x && !dunder x then (match ixOf N x with
        | some i => fun env st => (match env[i]? with
          | some (.v d) => .ret d st
          | some (.own ds) => .ret (.lst ds) st
          | _ => .stuck)
        | none => stuckS) else fun env st => (r.E N sc (.Name x p) env st).toS env fun d st1 => .ret d st1
    | .List es p => if ow.contains "return" then (if es.length ≤ 1000 then fun env st => (denA (r.E N sc) es env st).toS env fun ds st1 => .ret (.ref st1.length) (st1 ++ [.lst ds]) else stuckS) else fun env st => (r.E N sc (.List es p) env st).toS env fun d st1 => .ret d st1
    | e => fun env st => (r.E N sc e env st).toS env fun d st1 => .ret d st1)
  | .If c a b _ => fun env st => (r.T N sc c env st).toS env fun k st1 => if k = true then denSs rs a env st1 else denSs rs b env st1
  | .While c body [] _ => fun env st => whileF (r.T N sc c) (denSs rs body) lots env st
  | .For tg iter body [] _ => if (tgOwn N sc tg).isSome then fun env st => (srcX G r N sc tg iter (freed (relIx N ow iter) env) st).toS (freed (relIx N ow iter) env) fun ds st1 => forL (bindT N sc tg) (denSs rs body) ds (freed (relIx N ow iter) env) st1 else stuckS
  | .Assign [.Name y py] e _ => if locB sc y && !dunder y && swapOk sc y py e then (match ixOf N y with
      | some i => if ow.contains y then (match newList T G r N sc e with
          | some f => fun env st => (f env st).toS env fun ds st1 => .next (env.set i (.own ds)) st1
          | none => stuckS)
        else (match e with
          | .ListComp elt [⟨tg, iter, ifs, 0⟩] scope _ => fun env st => (compX G r N sc elt tg iter ifs scope env st).toS env fun ds st1 => .next (env.set i (.v (.lst ds))) st1
          | e => if isComp e then stuckS else fun env st => (r.E N sc e env st).toS env fun d st1 => .next (env.set i (.v d)) st1)
      | none => stuckS) else stuckS
  | .Assign [.Tuple [.Name x px, .Name y py] k p] (.Tuple [a, b] k2 p2) _ => (match ixOf N x, ixOf N y with
      | some i, some j =>
        if parOk sc x y px py a b then (if ow.contains x then stuckS else if ow.contains y then (match newList T G r N sc b with
            | some f => fun env st => (r.E N sc a env st).toS env fun d st1 => (f env st1).toS env fun ds st2 => .next ((env.set i (.v d)).set j (.own ds)) st2
            | none => stuckS)
          else fun env st => (denA (r.E N sc) [a, b] env st).toS env fun ds st1 => (match ds with
            | [d, e] => .next ((env.set i (.v d)).set j (.v e)) st1
            | _ => .stuck))
        else if allConst a b && locB sc x && locB sc y && !dunder x && !dunder y && !ow.contains x && !ow.contains y then fun env st => (r.E N sc (.Tuple [a, b] k2 p2) env st).toS env fun d st1 => (match bindT N sc (.Tuple [.Name x px, .Name y py] k p) d env with
          | some env1 => .next env1 st1
          | none => .stuck)
        else stuckS
      | _, _ => stuckS)
  | .Assign [.Tuple [.Starred (.Name x _) _, .Name y _] _ _] e _ => if notTupDisp e && !isComp e && locB sc x && locB sc y && !dunder x && !dunder y then (match ixOf N x, ixOf N y with
      | some i, some j => fun env st => (r.E N sc e env st).toS env fun d st1 => (match starD i j d env with
        | some env1 => .next env1 st1
        | none => .stuck)
      | _, _ => stuckS) else stuckS
  | .Assign [.Tuple es k p] e _ => if notTupDisp e && !isComp e && (tgMany N sc es).isSome then fun env st => (r.E N sc e env st).toS env fun d st1 => (match bindT N sc (.Tuple es k p) d env with
      | some env1 => .next env1 st1
      | none => .stuck) else stuckS
  | .Assign [.Subscript (.Name x px) i _] e _ => if isComp e || isTup i || !visB sc x || dunder x then stuckS else (match i with
    | .Slice _ _ _ _ => stuckS
    | i => (match ixOf N x with
      | some j => fun env st => (r.E N sc e env st).toS env fun d st1 => if known env j = true then (r.E N sc i env st1).toS env fun k st2 => (match env[j]?, k with
        | some (.v (.ref q)), .int z => (match st2[q]? with
          | some (.lst ds) => (match ixN ds.length z with
            | some w => .next env (st2.set q (.lst (ds.set w d)))
            | none => .stuck)
          | _ => .stuck)
        | some (.own ds), .int z => (match ixN ds.length z with
            | some w => .next (env.set j (.own (ds.set w d))) st2
            | none => .stuck)
        | _, _ => .stuck) else .stuck
      | none => stuckS))
  | .AugAssign (.Name x _) op e _ => if locB sc x && !dunder x then (match ixOf N x with
      | some i => fun env st => (match env[i]? with
        | some (.v (.int a)) => (r.E N sc e env st).toS env fun d st1 => (match augI op a d with
          | some c => .next (env.set i (.v (.int c))) st1
          | none => .stuck)
        | _ => .stuck)
      | none => stuckS) else stuckS
  | .Expr (.Call (.Attribute (.Name x px) m ap) [a] [] cp) _ => if m = "append" then (if isStar a || !visB sc x || dunder x || !(ap.endLine == cp.line) then stuckS else (match ixOf N x with
      | some i => fun env st => (match ownSlot env i with
        | some ds => (r.E N sc a env st).toS env fun d st1 => if ds.length < big then .next (env.set i (.own (ds ++ [d]))) st1 else .stuck
        | none => .stuck)
      | none => stuckS)) else stuckS
  | .Expr (.Constant (.str _) _ _) _ => fun env st => .next env st
  | .Raise (some (.Call (.Name x _) [a] [] _)) none _ => if glB sc x && !dunder x && !isStar a then (match G.exc x with
      | some [] => fun env st => (r.E N sc a env st).toS env fun _ st1 => .exc x [] [] env st1
      | some [f] => fun env st => (r.E N sc a env st).toS env fun d st1 => .exc x [f] [d] env st1
      | _ => stuckS) else stuckS
  | .Try body [.ExceptHandler (some (.Name c _)) (some n) [.Assign [.Name z _] (.Name m _) _] _] [] [] _ => (match ixOf N n, ixOf N z with
      | some i, some j => if keepOk G sc c n m z && !(i == j) then fun env st => (match denSs rs body env st with
          | .exc x ns es env1 st1 => if (G.exc x).isSome = true then (if G.sub x c = true then .next ((env1.set j (.v (.exn x ns es))).set i .no) st1 else .exc x ns es env1 st1) else .stuck
          | o => o) else stuckS
      | _, _ => stuckS)
  | _ => stuckS
def denS (T : Tab) (L : Dn) (G : Glb) (N : List Str) (sc : Scope) (ow : List Str) : Nat → Stmt → SX
  | 0 => fun _ => stuckS
  | n + 1 => stepS T L G (den T L G 40) N sc ow (denS T L G N sc ow n)
def bodyX (T : Tab) (L : Dn) (G : Glb) (N : List Str) (sc : Scope) (ow : List Str) (body : List Stmt) (ds : List D) (st : Store) : Res D :=
  match denSs (denS T L G N sc ow 12) body (ds.map Sl.v ++ List.replicate (N.length - ds.length) Sl.no) st with
  | .next _ st1 => .ok .non st1
  | .ret d st1 => .ok d st1
  | .exc c ns es _ st1 => .exc c ns es st1
  | _ => .stuck
end MI

set_option maxRecDepth 100000
set_option maxHeartbeats 4000000
namespace MI
open PySem PySem.Spec PyProof.Rows L2
variable [LD : LamDefs]

theorem big_eq : sizeLine = big := by rw [sizeLine_eq]; rfl
section
variable {K : PySem.W.Frag} {M M' O : Mu} {r r' : List Addr} {H H' : Hp} {σ : L2.St} {env : Env} {st st' : Store}
/-- a new object is laid -/
theorem Ext.lay {p : Addr} {o : HO} (h : H p = none) : Ext M r H M r (upd H p o) where
  pre := ⟨[], by simp⟩
  mono := fun _ h => h
  new := fun _ h => .inl h
  fresh := fun _ h => .inl h
  keep := fun a o' _ _ e => by rw [upd_ne (ne_of_none e h)]; exact e
  liv := fun a f o' e => f o' (by rw [upd_ne (ne_of_none e h)]; exact e)
  tup := fun a xs e => by rw [upd_ne (ne_of_none e h)]; exact e
  frz := fun a o' u e => by rw [upd_ne (ne_of_none e h)]; exact e
/-- all that was is as it was -/
theorem Ext.same (h : ∀ a o, H a = some o → H' a = some o) : Ext M r H M r H' where
  pre := ⟨[], by simp⟩
  mono := fun _ h => h
  new := fun _ h => .inl h
  fresh := fun _ h => .inl h
  keep := fun a o _ _ e => h a o e
  liv := fun a f o e => f o (h a o e)
  tup := fun a xs e => h _ _ e
  frz := fun a o u e => h _ _ e
theorem RelS.same (s : RelS K M r H st) (h : ∀ a o, H a = some o → H' a = some o) : RelS K M r H' st where
  len := s.len
  nd := s.nd
  sub := s.sub
  ob := fun i ds e => by
    obtain ⟨a, xs, h1, h2, h3⟩ := s.ob i ds e
    exact ⟨a, xs, h1, h a _ h2, RepL.mono s.sub (Ext.same h) ds xs h3⟩
  liv := fun a m f => s.liv a m fun o e => f o (h a o e)
  tabs := s.tabs.ext h
theorem keep_lay {p : Addr} {o : HO} (h : H p = none) : ∀ a u, H a = some u → upd H p o a = some u := fun a u e => by rw [upd_ne (ne_of_none e h)]; exact e
theorem RelS.lay (s : RelS K M r H st) {p : Addr} {o : HO} (h : H p = none) : RelS K M r (upd H p o) st := s.same (keep_lay h)
theorem RelS.notM (s : RelS K M r H st) {p : Addr} (h : H p = none) : ¬ M p := fun m => s.liv p m (fr0_none h)
theorem RelS.notF (s : RelS K M r H st) {p : Addr} (h : Fr0 H p) : ¬ M p := fun m => s.liv p m h
theorem RepV.lay_lst (s : RelS K M r H st) {p : Addr} {ds : List D} {xs : List V} (h : H p = none) (l : RepL K M r H ds xs) : RepV K M r (upd H p (.lst xs)) (.lst ds) (.ref p) := by
  unfold RepV
  exact ⟨p, xs, rfl, s.notM h, upd_same, RepL.mono s.sub (Ext.lay h) ds xs l⟩
theorem RepV.lay_tup (s : RelS K M r H st) {p : Addr} {ds : List D} {xs : List V} (h : H p = none) (l : RepL K M r H ds xs) : RepV K M r (upd H p (.tup xs)) (.tup ds) (.ref p) := by
  unfold RepV
  exact ⟨p, xs, rfl, SqT.of upd_same, RepL.mono s.sub (Ext.lay h) ds xs l⟩
/-- what a later time wants, from an earlier one -/
def Ok {α β : Type} (Rp : Mu → List Addr → Hp → α → β → Prop) (K : PySem.W.Frag) (W : XK) (M : Mu) (r : List Addr) (H : Hp) (x : Res α) (Q : β → Hp → Prop) : Prop := match x with
  | .ok a st' => ∀ b M' r' H', Ext M r H M' r' H' → RelS K M' r' H' st' → Rp M' r' H' a b → Q b H'
  | .exc c ns ds st' => ∀ cls d M' r' H', Ext M r H M' r' H' → RelS K M' r' H' st' → ExcV K M' r' H' c ns ds cls d → W cls d H'
  | .stuck => False
section
variable {W : XK} {α β γ δ : Type} {Rp : Mu → List Addr → Hp → α → β → Prop} {Rq : Mu → List Addr → Hp → γ → δ → Prop} {Q : β → Hp → Prop} {x : Res α}
theorem Ok.later (h : Ok Rp K W M r H x Q) (e : Ext M r H M' r' H') : Ok Rp K W M' r' H' x Q := by
  cases x with
  | ok a st => exact fun b M2 r2 H2 e2 s q => h b M2 r2 H2 (e.trans e2) s q
  | exc c ns ds st => exact fun cls d M2 r2 H2 e2 s q => h cls d M2 r2 H2 (e.trans e2) s q
  | stuck => exact h
theorem Ok.bind {g : Res γ} {f : γ → Store → Res α} {R : δ → Hp → Prop} (E : RelE K M O r H σ env) (S : RelS K M r H st) (h : Ok Rp K W M r H (g.bind f) Q)
    (next : ∀ a st1 b M1 r1 H1, g = .ok a st1 → Ext M r H M1 r1 H1 → RelS K M1 r1 H1 st1 → RelE K M1 O r1 H1 σ env → Rq M1 r1 H1 a b → Ok Rp K W M1 r1 H1 (f a st1) Q → R b H1) : Ok Rq K W M r H g R := by
  cases g with
  | stuck => exact h
  | exc c ns ds st1 => exact h
  | ok a st1 => exact fun b M1 r1 H1 e s q => next a st1 b M1 r1 H1 rfl e s (E.mono S e) q (Ok.later h e)
theorem Ok.re {ε : Type} {Rw : Mu → List Addr → Hp → α → ε → Prop} {R : ε → Hp → Prop} (h : Ok Rp K W M r H x Q) (next : ∀ a st1 b M1 r1 H1, x = .ok a st1 → Ext M r H M1 r1 H1 → RelS K M1 r1 H1 st1 → Rw M1 r1 H1 a b → (∀ b', Rp M1 r1 H1 a b' → Q b' H1) → R b H1) : Ok Rw K W M r H x R := by
  cases x with
  | stuck => exact h
  | exc c ns ds st => exact h
  | ok a st => exact fun b M1 r1 H1 e s q => next a st b M1 r1 H1 rfl e s q fun b' q' => h b' M1 r1 H1 e s q'
theorem Ok.of {o : Option α} (h : Ok Rp K W M r H (Res.of o st) Q) : ∃ a, o = some a ∧ Ok Rp K W M r H (.ok a st) Q := by
  cases o with
  | none => exact h.elim
  | some a => exact ⟨a, rfl, h⟩
theorem Ok.done {a : α} (S : RelS K M r H st) (h : Ok Rp K W M r H (.ok a st) Q) {b : β} (q : Rp M r H a b) : Q b H := h b M r H Ext.refl S q
end
/-- what may be read as a list for a while, a list of its own too -/
def RepB (K : PySem.W.Frag) (M : Mu) (r : List Addr) (H : Hp) (d : D) (v : V) : Prop :=
  RepV K M r H d v ∨ ∃ ds a xs, d = .lst ds ∧ v = .ref a ∧ a ∉ r ∧ H a = some (.lst xs) ∧ RepL K M r H ds xs
theorem RepB.mono {d : D} {v : V} (s : RelS K M r H st) (x : Ext M r H M' r' H') (h : RepB K M r H d v) : RepB K M' r' H' d v := by
  rcases h with h | ⟨ds, a, xs, e1, e2, n, q, l⟩
  · exact .inl (RepV.mono s.sub x d v h)
  · refine .inr ⟨ds, a, xs, e1, e2, fun z => ?_, x.keep a _ n ntb_lst q, RepL.mono s.sub x ds xs l⟩
    rcases x.fresh a z with w | w
    · exact n w
    · exact nfr q ntb_lst w
theorem RepB.lst {ds : List D} {v : V} (h : RepB K M r H (.lst ds) v) : ∃ a xs, v = .ref a ∧ H a = some (.lst xs) ∧ RepL K M r H ds xs := by
  rcases h with h | ⟨ds', a, xs, e1, e2, _, q, l⟩
  · unfold RepV at h
    obtain ⟨a, xs, e, _, q, l⟩ := h
    exact ⟨a, xs, e, q, l⟩
  · cases e1
    exact ⟨a, xs, e2, q, l⟩
theorem RepB.val {d : D} {v : V} (h : RepB K M r H d v) (n : ∀ ds, d ≠ .lst ds) : RepV K M r H d v := by
  rcases h with h | ⟨ds, a, xs, e1, _⟩
  · exact h
  · exact absurd e1 (n ds)
theorem RepV.tup_ {ds : List D} {v : V} (h : RepV K M r H (.tup ds) v) : ∃ a xs, v = .ref a ∧ SqT K H a xs ∧ RepL K M r H ds xs := by
  unfold RepV at h
  exact h
theorem RepV.lst_ {ds : List D} {v : V} (h : RepV K M r H (.lst ds) v) : ∃ a xs, v = .ref a ∧ ¬ M a ∧ H a = some (.lst xs) ∧ RepL K M r H ds xs := by
  unfold RepV at h
  exact h
theorem RepV.scr_ {ds : List D} {v : V} (h : RepV K M r H (.scr ds) v) : ∃ a xs, v = .ref a ∧ SqL K H a xs ∧ RepL K M r H ds xs := by
  unfold RepV at h
  obtain ⟨a, xs, e, q, l⟩ := h
  exact ⟨a, xs, e, q.elim SqF.sq fun q => SqL.of q.2, l⟩
theorem RepV.ref_ {i : Nat} {v : V} (h : RepV K M r H (.ref i) v) : ∃ a, v = .ref a ∧ r[i]? = some a := by
  unfold RepV at h
  exact h
theorem RepV.int_ {i : Int} {v : V} (h : RepV K M r H (.int i) v) : v = .int i := by unfold RepV at h; exact h
theorem RepV.str_ {i : Str} {v : V} (h : RepV K M r H (.str i) v) : v = .str i := by unfold RepV at h; exact h
theorem RepV.bl_ {i : Bool} {v : V} (h : RepV K M r H (.bl i) v) : v = .bl i := by unfold RepV at h; exact h
theorem RepV.non_ {v : V} (h : RepV K M r H .non v) : v = .non := by unfold RepV at h; exact h
theorem RepV.int (i : Int) : RepV K M r H (.int i) (.int i) := by unfold RepV; rfl
theorem RepV.str (i : Str) : RepV K M r H (.str i) (.str i) := by unfold RepV; rfl
theorem RepV.bl (i : Bool) : RepV K M r H (.bl i) (.bl i) := by unfold RepV; rfl
theorem RepV.non : RepV K M r H .non .non := by unfold RepV; rfl
end

abbrev E0 : XK := fun _ _ _ => False
def rD (K : PySem.W.Frag) (f : D → D → Option D) : R2 := fun x y H Q => ∃ M r st dx dy d, RelS K M r H st ∧ RepV K M r H dx x ∧ RepV K M r H dy y ∧ f dx dy = some d ∧ Ok (RepV K) K E0 M r H (.ok d st) Q
section
variable {X : Cx}
theorem mulOk_of {a : Str} {n : Int} (h1 : a.length ≤ 16) (h2 : 0 ≤ n) (h3 : n ≤ 1000000) : MulOk a n := by
  have hp : (2 : Int) ^ 63 = 9223372036854775808 := by decide
  refine ⟨?_, fun hn _ => ?_, fun hn _ => ?_⟩
  · rw [hp, Bool.or_eq_false_iff]
    exact ⟨decide_eq_false (by omega), decide_eq_false (by omega)⟩
  · rw [hp]
    have h4 : (9223372036854775808 - 1 : Int) / n ≥ 16 := by
      have : (16 : Int) ≤ (9223372036854775808 - 1) / n := by
        rw [Int.le_ediv_iff_mul_le (by omega)]
        omega
      exact this
    omega
  · unfold Builtin.Str.tooLong
    refine decide_eq_false ?_
    have : a.length * n.toNat ≤ 16 * 1000000 := Nat.mul_le_mul h1 (by omega)
    unfold sizeLine
    have e : (2 : Nat) ^ 24 = 16777216 := by decide
    omega
/-- + of two lists, wherever they stand -/
theorem op_catS : OpR X (binaryOp .Add) (fun x y H Q => ∃ l b xs zs, x = .ref l ∧ y = .ref b ∧ SqL X.K H l xs ∧ SqL X.K H b zs ∧ xs.length + zs.length ≤ sizeLine ∧ ∀ p, H p = none → Q (.ref p) (upd H p (.lst (xs ++ zs)))) := by
  intro pins s σ H x y v u Q I rx ry h
  obtain ⟨l, b, xs, zs, rfl, rfl, hH, hB, hz, q⟩ := h
  cases rx
  cases ry
  obtain ⟨its, r1, p1, z1⟩ := I.list hH
  obtain ⟨its2, r2, p2, z2⟩ := I.list hB
  have hl := r1.length
  have hl2 := r2.length
  obtain ⟨⟨cls, dd, data, sl⟩, ho, hc, n, hd⟩ := id p1.isList
  obtain ⟨⟨cls2, dd2, data2, sl2⟩, ho2, hc2, n2, hd2⟩ := id p2.isList
  simp only at hc hd hc2 hd2
  subst hc hd hc2 hd2
  have e : its.toArray ++ its2.toArray = (its ++ its2).toArray := by simp
  refine concat_meets ⟨_, ho, rfl⟩ ⟨_, ho2, rfl⟩ noFill_list_add seq_list_add PySem.F.slot_list_add PySem.F.entry_list_add (PySem.F.args_list_add_2 _ _) (PyProof.Rows.list_addW l b its.toArray its2.toArray n n2 dd dd2 sl sl2 (by simp; omega)) ⟨ho, ho2, ?_⟩
  rw [e]
  exact ⟨.ref _, _, I.lnew (t' := s.toks) (r1.append r2) (by rw [List.length_append]; omega), rfl, q _ I.fresh⟩
theorem op_rD {op : Operator} : OpR X (binaryOp op) (rD X.K (opD op)) := by
  intro pins s σ H x y v u Q I rx ry h
  obtain ⟨M, r, st, dx, dy, d, S, hx, hy, hf, ok⟩ := h
  cases dx with
  | int i =>
    cases dy with
    | int j =>
      obtain rfl := hx.int_
      obtain rfl := hy.int_
      have hf' : opI op i j = some d := hf
      cases op <;> unfold opI at hf' <;> simp only at hf' <;> (first | (cases hf'; done) | skip)
      case Add => cases hf'; exact op_add pins s σ H _ _ v u Q I rx ry ⟨i, j, rfl, rfl, ok.done S (RepV.int _)⟩
      case Sub => cases hf'; exact op_sub pins s σ H _ _ v u Q I rx ry ⟨i, j, rfl, rfl, ok.done S (RepV.int _)⟩
      case Mult =>
        split at hf'
        · cases hf'; exact op_mulW pins s σ H _ _ v u Q I rx ry ⟨i, j, rfl, rfl, by assumption, ok.done S (RepV.int _)⟩
        · cases hf'
      case Mod =>
        split at hf'
        · cases hf'; exact op_mod pins s σ H _ _ v u Q I rx ry ⟨i, j, rfl, rfl, by assumption, ok.done S (RepV.int _)⟩
        · cases hf'
      case Pow =>
        split at hf'
        · cases hf'; exact op_pow pins s σ H _ _ v u Q I rx ry ⟨i, j, rfl, rfl, by assumption, ok.done S (RepV.int _)⟩
        · cases hf'
      case LShift =>
        split at hf'
        · cases hf'; exact op_shl pins s σ H _ _ v u Q I rx ry ⟨i, j, rfl, rfl, by assumption, ok.done S (RepV.int _)⟩
        · cases hf'
      case RShift =>
        split at hf'
        · cases hf'; exact op_shr pins s σ H _ _ v u Q I rx ry ⟨i, j, rfl, rfl, by assumption, ok.done S (RepV.int _)⟩
        · cases hf'
      case BitAnd => cases hf'; exact op_and pins s σ H _ _ v u Q I rx ry ⟨i, j, rfl, rfl, ok.done S (RepV.int _)⟩
      case FloorDiv =>
        split at hf'
        · cases hf'; exact op_fdivW pins s σ H _ _ v u Q I rx ry ⟨i, j, rfl, rfl, by assumption, ok.done S (RepV.int _)⟩
        · cases hf'
    | _ => cases op <;> cases hf
  | str a =>
    cases dy with
    | str b =>
      obtain rfl := hx.str_
      obtain rfl := hy.str_
      cases op <;> unfold opD at hf <;> simp only at hf <;> (first | (cases hf; done) | skip)
      split at hf
      · cases hf; exact op_add_str pins s σ H _ _ v u Q I rx ry ⟨a, b, rfl, rfl, by rw [big_eq]; assumption, ok.done S (RepV.str _)⟩
      · cases hf
    | int n =>
      obtain rfl := hx.str_
      obtain rfl := hy.int_
      cases op <;> unfold opD at hf <;> simp only at hf <;> (first | (cases hf; done) | skip)
      split at hf
      · rename_i hc
        cases hf
        obtain ⟨t, rfl⟩ := rx
        obtain ⟨t', rfl⟩ := ry
        exact SB.mul (mulOk_of hc.1 hc.2.1 hc.2.2) fun t'' k => ⟨.str _, H, I.tok _, ⟨_, rfl⟩, ok.done S (RepV.str _)⟩
      · cases hf
    | _ => cases op <;> cases hf
  | lst a =>
    cases dy with
    | lst b =>
      obtain ⟨p, xs, rfl, n, hp, lp⟩ := hx.lst_
      obtain ⟨q, ys, rfl, n', hq, lq⟩ := hy.lst_
      cases op <;> unfold opD at hf <;> simp only at hf <;> (first | (cases hf; done) | skip)
      split at hf
      · rename_i hc
        cases hf
        refine op_cat pins s σ H _ _ v u Q I rx ry ⟨p, q, xs, ys, rfl, rfl, hp, hq, by rw [big_eq, lp.length, lq.length]; exact hc, fun l hl => ?_⟩
        exact ok (.ref l) M r _ (Ext.lay hl) (S.lay hl) (RepV.lay_lst S hl (lp.app lq))
      · cases hf
    | _ => cases op <;> cases hf
  | tup a =>
    cases dy with
    | tup b =>
      obtain ⟨p, xs, rfl, hp, lp⟩ := hx.tup_
      obtain ⟨q, ys, rfl, hq, lq⟩ := hy.tup_
      cases op <;> unfold opD at hf <;> simp only at hf <;> (first | (cases hf; done) | skip)
      split at hf
      · rename_i hc
        cases hf
        refine op_catA pins s σ H _ _ v u Q I rx ry ⟨p, q, xs, ys, rfl, rfl, hp, hq, by rw [big_eq, lp.length, lq.length]; exact hc, fun e => ?_, fun e e' => ?_, fun e e' l hl => ?_⟩
        · refine ok.done S ?_
          unfold RepV
          have l2 := lp.app lq
          rw [e] at l2
          exact ⟨q, ys, rfl, hq, l2⟩
        · refine ok.done S ?_
          unfold RepV
          have l2 := lp.app lq
          rw [e', List.append_nil] at l2
          exact ⟨p, xs, rfl, hp, l2⟩
        · exact ok (.ref l) M r _ (Ext.lay hl) (S.lay hl) (RepV.lay_tup S hl (lp.app lq))
      · cases hf
    | _ => cases op <;> cases hf
  | scr a =>
    cases dy with
    | lst b =>
      obtain ⟨p, xs, rfl, hp, lp⟩ := hx.scr_
      obtain ⟨q, ys, rfl, n', hq, lq⟩ := hy.lst_
      cases op <;> unfold opD at hf <;> simp only at hf <;> (first | (cases hf; done) | skip)
      split at hf
      · rename_i hc
        cases hf
        refine op_catS pins s σ H _ _ v u Q I rx ry ⟨p, q, xs, ys, rfl, rfl, hp, SqL.of hq, by rw [big_eq, lp.length, lq.length]; exact hc, fun l hl => ?_⟩
        exact ok (.ref l) M r _ (Ext.lay hl) (S.lay hl) (RepV.lay_lst S hl (lp.app lq))
      · cases hf
    | _ => cases op <;> cases hf
  | _ => cases dy <;> cases op <;> cases hf
theorem un_neg_rD : UnR X (unaryOp .USub) (fun x H Q => ∃ M r st dx d, RelS X.K M r H st ∧ RepV X.K M r H dx x ∧ unD .USub dx = some d ∧ Ok (RepV X.K) X.K E0 M r H (.ok d st) Q) := by
  intro pins s σ H x v Q I rx h
  obtain ⟨M, r, st, dx, d, S, hx, hf, ok⟩ := h
  cases dx with
  | int i =>
    obtain rfl := hx.int_
    cases hf
    exact un_neg pins s σ H _ v Q I rx ⟨i, rfl, ok.done S (RepV.int _)⟩
  | _ => cases hf

mutual
theorem dp_of {K : PySem.W.Frag} {M : Mu} {r : List Addr} {H : Hp} : ∀ (d : D) (p : PyData) (v : V), toP d = some p → RepV K M r H d v → Dp K H v p
  | .non, p, v, e, h => by cases e; obtain rfl := h.non_; exact .non
  | .bl b, p, v, e, h => by cases e; obtain rfl := h.bl_; exact .bl b
  | .int i, p, v, e, h => by cases e; obtain rfl := h.int_; exact .int i
  | .str z, p, v, e, h => by cases e; obtain rfl := h.str_; exact .str z
  | .ty _, p, v, e, h => by cases e
  | .ref _, p, v, e, h => by cases e
  | .scr _, p, v, e, h => by cases e
  | .exn _ _ _, p, v, e, h => by cases e
  | .edic, p, v, e, h => by cases e
  | .tup ds, p, v, e, h => by
    obtain ⟨a, xs, rfl, q, l⟩ := h.tup_
    unfold toP at e
    cases e2 : toPs ds with
    | none => rw [e2] at e; cases e
    | some ps =>
      rw [e2] at e; cases e
      exact .tup q (dps_of ds ps xs e2 l)
  | .lst ds, p, v, e, h => by
    obtain ⟨a, xs, rfl, _, q, l⟩ := h.lst_
    unfold toP at e
    cases e2 : toPs ds with
    | none => rw [e2] at e; cases e
    | some ps =>
      rw [e2] at e; cases e
      exact .lst (SqL.of q) (dps_of ds ps xs e2 l)
theorem dps_of {K : PySem.W.Frag} {M : Mu} {r : List Addr} {H : Hp} : ∀ (ds : List D) (ps : List PyData) (xs : List V), toPs ds = some ps → RepL K M r H ds xs → DpAll K H xs ps
  | [], ps, xs, e, h => by
    cases e
    unfold RepL at h
    subst h
    exact .nil
  | d :: ds, ps, xs, e, h => by
    unfold RepL at h
    obtain ⟨y, ys, rfl, h1, h2⟩ := h
    unfold toPs at e
    cases e1 : toP d with
    | none => rw [e1] at e; cases e
    | some p =>
      cases e2 : toPs ds with
      | none => rw [e1, e2] at e; cases e
      | some q =>
        rw [e1, e2] at e; cases e
        exact .cons (dp_of d p y e1 h1) (dps_of ds q ys e2 h2)
end
theorem dpB_of {K : PySem.W.Frag} {M : Mu} {r : List Addr} {H : Hp} {d : D} {p : PyData} {v : V} (e : toP d = some p) (h : RepB K M r H d v) : Dp K H v p := by
  rcases h with h | ⟨ds, a, xs, rfl, rfl, _, q, l⟩
  · exact dp_of d p v e h
  · unfold toP at e
    cases e2 : toPs ds with
    | none => rw [e2] at e; cases e
    | some ps =>
      rw [e2] at e; cases e
      exact .lst (SqL.of q) (dps_of ds ps xs e2 l)
/-- flat values -/
def vOf : D → V
  | .non => .non
  | .bl b => .bl b
  | .int i => .int i
  | .str s => .str s
  | _ => .non
theorem vOf_flat {d : D} (f : flat d = true) : flatV (vOf d) = true := by cases d <;> first | rfl | cases f
theorem vOf_rep {K : PySem.W.Frag} {M : Mu} {r : List Addr} {H : Hp} {d : D} {v : V} (f : flat d = true) (h : RepV K M r H d v) : v = vOf d := by
  cases d <;> first | (unfold RepV at h; exact h) | cases f
theorem vOf_eq {d e : D} (f : flat d = true) (g : flat e = true) : eqV (vOf d) (vOf e) = eqF d e := by
  cases d <;> cases e <;> first | rfl | (exact Bool.noConfusion f) | (exact Bool.noConfusion g)
theorem repL_flat {K : PySem.W.Frag} {M : Mu} {r : List Addr} {H : Hp} : ∀ {ds : List D} {xs : List V}, ds.all flat = true → RepL K M r H ds xs → xs = ds.map vOf
  | [], xs, _, h => by unfold RepL at h; exact h
  | d :: ds, xs, f, h => by
    unfold RepL at h
    obtain ⟨y, ys, rfl, h1, h2⟩ := h
    simp only [List.all_cons, Bool.and_eq_true] at f
    rw [vOf_rep f.1 h1, repL_flat f.2 h2]
    rfl
theorem all_vOf : ∀ {ds : List D}, ds.all flat = true → (ds.map vOf).all flatV = true
  | [], _ => rfl
  | d :: ds, f => by
    simp only [List.all_cons, Bool.and_eq_true] at f
    simp only [List.map_cons, List.all_cons, Bool.and_eq_true]
    exact ⟨vOf_flat f.1, all_vOf f.2⟩
theorem inV_vOf {x : D} (fx : flat x = true) : ∀ {ds : List D}, ds.all flat = true → inV (vOf x) (ds.map vOf) = ds.any fun d => eqF d x
  | [], _ => rfl
  | d :: ds, f => by
    simp only [List.all_cons, Bool.and_eq_true] at f
    have ih := inV_vOf fx f.2
    unfold inV at ih ⊢
    simp only [List.map_cons, List.any_cons]
    rw [ih, vOf_eq f.1 fx]
def rC (K : PySem.W.Frag) (f : D → D → Option Bool) : R2 := fun x y H Q => ∃ M r st dx dy k, RelS K M r H st ∧ RepB K M r H dx x ∧ RepB K M r H dy y ∧ f dx dy = some k ∧ Q (.bl k) H
theorem eqD_cases {dx dy : D} {k : Bool} (h : eqD dx dy = some k) :
    (∃ a b, dx = .int a ∧ dy = .int b ∧ k = (a == b)) ∨ (∃ a b, dx = .str a ∧ dy = .str b ∧ k = (a == b)) ∨ (∃ a b, dx = .bl a ∧ dy = .bl b ∧ k = (a == b)) ∨ (dx = .non ∧ dy = .non ∧ k = true) ∨
    ((dx = .non ∧ ∃ i, dy = .int i) ∧ k = false) ∨ ((dy = .non ∧ ∃ i, dx = .int i) ∧ k = false) ∨ ((dx = .non ∧ ∃ i, dy = .str i) ∧ k = false) ∨ ((dy = .non ∧ ∃ i, dx = .str i) ∧ k = false) ∨
    ∃ p q, toP dx = some p ∧ toP dy = some q ∧ SeqAt.shaped p = true ∧ SeqAt.shaped q = true ∧ k = PyData.eqv p q := by
  unfold eqD at h
  split at h
  · cases h; exact .inl ⟨_, _, rfl, rfl, rfl⟩
  · cases h; exact .inr (.inl ⟨_, _, rfl, rfl, rfl⟩)
  · cases h; exact .inr (.inr (.inl ⟨_, _, rfl, rfl, rfl⟩))
  · cases h; exact .inr (.inr (.inr (.inl ⟨rfl, rfl, rfl⟩)))
  · cases h; exact .inr (.inr (.inr (.inr (.inl ⟨⟨rfl, _, rfl⟩, rfl⟩))))
  · cases h; exact .inr (.inr (.inr (.inr (.inr (.inl ⟨⟨rfl, _, rfl⟩, rfl⟩)))))
  · cases h; exact .inr (.inr (.inr (.inr (.inr (.inr (.inl ⟨⟨rfl, _, rfl⟩, rfl⟩))))))
  · cases h; exact .inr (.inr (.inr (.inr (.inr (.inr (.inr (.inl ⟨⟨rfl, _, rfl⟩, rfl⟩)))))))
  · split at h
    · split at h
      · rename_i hs
        cases h
        exact .inr (.inr (.inr (.inr (.inr (.inr (.inr (.inr ⟨_, _, by assumption, by assumption, hs.1, hs.2, rfl⟩)))))))
      · cases h
    · cases h
theorem repB_flat {K : PySem.W.Frag} {M : Mu} {r : List Addr} {H : Hp} {d : D} {v : V} (f : flat d = true) (h : RepB K M r H d v) : v = vOf d :=
  vOf_rep f (h.val fun ds e => by subst e; cases f)
theorem op_rEqC (hu : X.A.units + 64 < cLine) : OpR X (compareOp .Eq) (rC X.K eqD) := by
  intro pins s σ H x y v u Q I rx ry h
  obtain ⟨M, r, st, dx, dy, k, S, hx, hy, hf, q⟩ := h
  have go : scal x y = true → k = decide (x = y) → wpAny (model X.prog X.w) X.A (compareOp .Eq v u) (EP X pins σ Q) X.xe s := fun h1 h2 =>
    op_eq pins s σ H x y v u Q I rx ry ⟨h1, by rw [← h2]; exact q⟩
  rcases eqD_cases hf with ⟨a, b, rfl, rfl, rfl⟩ | ⟨a, b, rfl, rfl, rfl⟩ | ⟨a, b, rfl, rfl, rfl⟩ | ⟨rfl, rfl, rfl⟩ | ⟨⟨rfl, i, rfl⟩, rfl⟩ | ⟨⟨rfl, i, rfl⟩, rfl⟩ | ⟨⟨rfl, i, rfl⟩, rfl⟩ | ⟨⟨rfl, i, rfl⟩, rfl⟩ | ⟨p, q', e1, e2, s1, s2, rfl⟩
  · obtain rfl := repB_flat rfl hx
    obtain rfl := repB_flat rfl hy
    exact go rfl dec_int.symm
  · obtain rfl := repB_flat rfl hx
    obtain rfl := repB_flat rfl hy
    exact go rfl dec_str.symm
  · obtain rfl := repB_flat rfl hx
    obtain rfl := repB_flat rfl hy
    exact go rfl dec_bl.symm
  · obtain rfl := repB_flat rfl hx
    obtain rfl := repB_flat rfl hy
    exact go rfl rfl
  · obtain rfl := repB_flat rfl hx
    obtain rfl := repB_flat rfl hy
    exact go rfl rfl
  · obtain rfl := repB_flat rfl hx
    obtain rfl := repB_flat rfl hy
    exact go rfl rfl
  · obtain rfl := repB_flat rfl hx
    obtain rfl := repB_flat rfl hy
    exact go rfl rfl
  · obtain rfl := repB_flat rfl hx
    obtain rfl := repB_flat rfl hy
    exact go rfl rfl
  · exact op_eqD hu pins s σ H x y v u Q I rx ry ⟨p, q', dpB_of e1 hx, dpB_of e2 hy, s1, s2, q⟩
theorem op_rNeC (hu : X.A.units + 64 < cLine) : OpR X (compareOp .NotEq) (rC X.K fun x y => (eqD x y).map not) := by
  intro pins s σ H x y v u Q I rx ry h
  obtain ⟨M, r, st, dx, dy, k0, S, hx, hy, hf0, q⟩ := h
  obtain ⟨k, hf, rfl⟩ : ∃ k, eqD dx dy = some k ∧ k0 = !k := by
    have hf1 : Option.map not (eqD dx dy) = some k0 := hf0
    cases e : eqD dx dy with
    | none => rw [e] at hf1; cases hf1
    | some k => rw [e] at hf1; cases hf1; exact ⟨k, rfl, rfl⟩
  have go : scal x y = true → k = decide (x = y) → wpAny (model X.prog X.w) X.A (compareOp .NotEq v u) (EP X pins σ Q) X.xe s := fun h1 h2 =>
    op_ne pins s σ H x y v u Q I rx ry ⟨h1, by rw [← h2]; exact q⟩
  rcases eqD_cases hf with ⟨a, b, rfl, rfl, rfl⟩ | ⟨a, b, rfl, rfl, rfl⟩ | ⟨a, b, rfl, rfl, rfl⟩ | ⟨rfl, rfl, rfl⟩ | ⟨⟨rfl, i, rfl⟩, rfl⟩ | ⟨⟨rfl, i, rfl⟩, rfl⟩ | ⟨⟨rfl, i, rfl⟩, rfl⟩ | ⟨⟨rfl, i, rfl⟩, rfl⟩ | ⟨p, q', e1, e2, s1, s2, rfl⟩
  · obtain rfl := repB_flat rfl hx
    obtain rfl := repB_flat rfl hy
    exact go rfl dec_int.symm
  · obtain rfl := repB_flat rfl hx
    obtain rfl := repB_flat rfl hy
    exact go rfl dec_str.symm
  · obtain rfl := repB_flat rfl hx
    obtain rfl := repB_flat rfl hy
    exact go rfl dec_bl.symm
  · obtain rfl := repB_flat rfl hx
    obtain rfl := repB_flat rfl hy
    exact go rfl rfl
  · obtain rfl := repB_flat rfl hx
    obtain rfl := repB_flat rfl hy
    exact go rfl rfl
  · obtain rfl := repB_flat rfl hx
    obtain rfl := repB_flat rfl hy
    exact go rfl rfl
  · obtain rfl := repB_flat rfl hx
    obtain rfl := repB_flat rfl hy
    exact go rfl rfl
  · obtain rfl := repB_flat rfl hx
    obtain rfl := repB_flat rfl hy
    exact go rfl rfl
  · exact op_neD hu pins s σ H x y v u Q I rx ry ⟨p, q', dpB_of e1 hx, dpB_of e2 hy, s1, s2, q⟩
theorem one_sign {z : Str} {c : Nat} (h : z.cps.toList = [c]) : z = ⟨#[c]⟩ := by
  cases z with
  | mk a =>
    have e : a = #[c] := by
      apply Array.toList_inj.mp
      exact h
    rw [e]
theorem op_rInC : OpR X (compareOp .In) (rC X.K inD) := by
  intro pins s σ H x y v u Q I rx ry h
  obtain ⟨M, r, st, dx, dy, k, S, hx, hy, hf, q⟩ := h
  cases dy with
  | str z =>
    unfold inD at hf
    simp only at hf
    cases dx with
    | str a =>
      simp only at hf
      split at hf
      · rename_i c hc
        cases hf
        obtain rfl := repB_flat rfl hx
        obtain rfl := repB_flat rfl hy
        exact op_in_sign pins s σ H _ _ v u Q I rx ry ⟨c, z, by rw [← one_sign hc]; rfl, rfl, q⟩
      · cases hf
    | _ => cases hf
  | tup ds =>
    unfold inD at hf
    simp only at hf
    split at hf
    · rename_i hc
      cases hf
      obtain ⟨a, xs, rfl, hq, l⟩ := (hy.val fun _ e => by cases e).tup_
      obtain rfl := repB_flat hc.1 hx
      obtain rfl := repL_flat hc.2 l
      exact op_in_seq pins s σ H _ _ v u Q I rx ry ⟨a, _, rfl, .inr hq, vOf_flat hc.1, all_vOf hc.2, by rw [inV_vOf hc.1 hc.2]; exact q⟩
    · cases hf
  | lst ds =>
    unfold inD at hf
    simp only at hf
    split at hf
    · rename_i hc
      cases hf
      obtain ⟨a, xs, rfl, hq, l⟩ := hy.lst
      obtain rfl := repB_flat hc.1 hx
      obtain rfl := repL_flat hc.2 l
      exact op_in_seq pins s σ H _ _ v u Q I rx ry ⟨a, _, rfl, .inl (SqL.of hq), vOf_flat hc.1, all_vOf hc.2, by rw [inV_vOf hc.1 hc.2]; exact q⟩
    · cases hf
  | _ => cases hf
theorem op_rNotInC : OpR X (compareOp .NotIn) (rC X.K fun x y => (inD x y).map not) := by
  intro pins s σ H x y v u Q I rx ry h
  obtain ⟨M, r, st, dx, dy, k0, S, hx, hy, hf0, q⟩ := h
  obtain ⟨k, hf, rfl⟩ : ∃ k, inD dx dy = some k ∧ k0 = !k := by
    have hf1 : Option.map not (inD dx dy) = some k0 := hf0
    cases e : inD dx dy with
    | none => rw [e] at hf1; cases hf1
    | some k => rw [e] at hf1; cases hf1; exact ⟨k, rfl, rfl⟩
  cases dy with
  | str z =>
    unfold inD at hf
    simp only at hf
    cases dx with
    | str a =>
      simp only at hf
      split at hf
      · rename_i c hc
        cases hf
        obtain rfl := repB_flat rfl hx
        obtain rfl := repB_flat rfl hy
        exact op_notIn_sign pins s σ H _ _ v u Q I rx ry ⟨c, z, by rw [← one_sign hc]; rfl, rfl, q⟩
      · cases hf
    | _ => cases hf
  | tup ds =>
    unfold inD at hf
    simp only at hf
    split at hf
    · rename_i hc
      cases hf
      obtain ⟨a, xs, rfl, hq, l⟩ := (hy.val fun _ e => by cases e).tup_
      obtain rfl := repB_flat hc.1 hx
      obtain rfl := repL_flat hc.2 l
      exact op_notIn_seq pins s σ H _ _ v u Q I rx ry ⟨a, _, rfl, .inr hq, vOf_flat hc.1, all_vOf hc.2, by rw [inV_vOf hc.1 hc.2]; exact q⟩
    · cases hf
  | lst ds =>
    unfold inD at hf
    simp only at hf
    split at hf
    · rename_i hc
      cases hf
      obtain ⟨a, xs, rfl, hq, l⟩ := hy.lst
      obtain rfl := repB_flat hc.1 hx
      obtain rfl := repL_flat hc.2 l
      exact op_notIn_seq pins s σ H _ _ v u Q I rx ry ⟨a, _, rfl, .inl (SqL.of hq), vOf_flat hc.1, all_vOf hc.2, by rw [inV_vOf hc.1 hc.2]; exact q⟩
    · cases hf
  | _ => cases hf
theorem isN_rep {K : PySem.W.Frag} {M : Mu} {r : List Addr} {H : Hp} {d : D} {v : V} (h : RepB K M r H d v) : decide (v = .non) = isN d := by
  rcases h with h | ⟨ds, a, xs, rfl, rfl, _⟩
  · cases d with
    | non => obtain rfl := h.non_; rfl
    | bl b => obtain rfl := h.bl_; rfl
    | int b => obtain rfl := h.int_; rfl
    | str b => obtain rfl := h.str_; rfl
    | ty b => unfold RepV at h; subst h; rfl
    | tup b => obtain ⟨a, xs, rfl, _⟩ := h.tup_; rfl
    | lst b => obtain ⟨a, xs, rfl, _⟩ := h.lst_; rfl
    | ref b => obtain ⟨a, rfl, _⟩ := h.ref_; rfl
    | scr b => obtain ⟨a, xs, rfl, _⟩ := h.scr_; rfl
    | exn c ns ds => unfold RepV at h; obtain ⟨a, d, dd, xs, rfl, _⟩ := h; rfl
    | edic => unfold RepV at h; obtain ⟨a, rfl, _⟩ := h; rfl
    | lit x => unfold RepV at h; exact decide_eq_false (by rw [h.1]; exact h.2)
  · rfl
theorem isN_eq {K : PySem.W.Frag} {M : Mu} {r : List Addr} {H : Hp} {d : D} {v : V} (h : RepB K M r H d v) (e : isN d = true) : v = .non := by
  have q := isN_rep h
  rw [e] at q
  exact of_decide_eq_true q
theorem op_rC {op : CmpOp} (hu : X.A.units + 64 < cLine) : OpR X (compareOp op) (rC X.K (cmpD op)) := by
  cases op with
  | Eq => exact op_rEqC hu
  | NotEq => exact op_rNeC hu
  | In => exact op_rInC
  | NotIn => exact op_rNotInC
  | Is =>
    intro pins s σ H x y v u Q I rx ry h
    obtain ⟨M, r, st, dx, dy, k, S, hx, hy, hf, q⟩ := h
    unfold cmpD at hf
    simp only at hf
    split at hf
    · rename_i hn
      cases hf
      exact op_isN pins s σ H x y v u Q I rx ry ⟨isN_eq hy hn, by rw [isN_rep hx]; exact q⟩
    · cases hf
  | IsNot =>
    intro pins s σ H x y v u Q I rx ry h
    obtain ⟨M, r, st, dx, dy, k, S, hx, hy, hf, q⟩ := h
    unfold cmpD at hf
    simp only at hf
    split at hf
    · rename_i hn
      cases hf
      exact op_notN pins s σ H x y v u Q I rx ry ⟨isN_eq hy hn, by rw [isN_rep hx]; exact q⟩
    · cases hf
  | Lt =>
    intro pins s σ H x y v u Q I rx ry h
    obtain ⟨M, r, st, dx, dy, k, S, hx, hy, hf, q⟩ := h
    unfold cmpD at hf
    simp only at hf
    split at hf
    · cases hf
      obtain rfl := repB_flat rfl hx
      obtain rfl := repB_flat rfl hy
      exact op_lt pins s σ H _ _ v u Q I rx ry ⟨_, _, rfl, rfl, q⟩
    · cases hf
      obtain rfl := repB_flat rfl hx
      obtain rfl := repB_flat rfl hy
      exact op_lt_str pins s σ H _ _ v u Q I rx ry ⟨_, _, rfl, rfl, q⟩
    · cases hf
  | LtE =>
    intro pins s σ H x y v u Q I rx ry h
    obtain ⟨M, r, st, dx, dy, k, S, hx, hy, hf, q⟩ := h
    unfold cmpD at hf
    simp only at hf
    split at hf
    · cases hf
      obtain rfl := repB_flat rfl hx
      obtain rfl := repB_flat rfl hy
      exact op_le pins s σ H _ _ v u Q I rx ry ⟨_, _, rfl, rfl, q⟩
    · cases hf
      obtain rfl := repB_flat rfl hx
      obtain rfl := repB_flat rfl hy
      exact op_le_str pins s σ H _ _ v u Q I rx ry ⟨_, _, rfl, rfl, q⟩
    · cases hf
  | Gt =>
    intro pins s σ H x y v u Q I rx ry h
    obtain ⟨M, r, st, dx, dy, k, S, hx, hy, hf, q⟩ := h
    unfold cmpD at hf
    simp only at hf
    split at hf
    · cases hf
      obtain rfl := repB_flat rfl hx
      obtain rfl := repB_flat rfl hy
      exact op_gt pins s σ H _ _ v u Q I rx ry ⟨_, _, rfl, rfl, q⟩
    · cases hf
  | GtE =>
    intro pins s σ H x y v u Q I rx ry h
    obtain ⟨M, r, st, dx, dy, k, S, hx, hy, hf, q⟩ := h
    unfold cmpD at hf
    simp only at hf
    split at hf
    · cases hf
      obtain rfl := repB_flat rfl hx
      obtain rfl := repB_flat rfl hy
      exact op_ge pins s σ H _ _ v u Q I rx ry ⟨_, _, rfl, rfl, q⟩
    · cases hf
end
end MI

set_option maxRecDepth 100000
set_option maxHeartbeats 4000000
namespace MI
open PySem PySem.Spec PyProof.Rows L2
variable [LD : LamDefs]
section
variable {K : PySem.W.Frag} {M M' O : Mu} {r r' : List Addr} {H H' : Hp} {σ : L2.St} {env : Env} {st st' : Store}
theorem atI_rep {ds : List D} {xs : List V} {i : Int} {d : D} (l : RepL K M r H ds xs) (h : L2.atI ds i = some d) : ∃ x, L2.atI xs i = some x ∧ RepV K M r H d x := by
  unfold L2.atI at h ⊢
  rw [l.length]
  cases e : ixN ds.length i with
  | none => rw [e] at h; cases h
  | some j =>
    rw [e] at h
    exact l.get (show ds[j]? = some d from h)
theorem cut_rep {ds : List D} {xs : List V} (lo hi : Option Int) (l : RepL K M r H ds xs) : RepL K M r H (cutL ds lo hi) (cutV xs lo hi) := by
  unfold cutL cutV
  rw [l.length]
  exact (l.drop _).take _
theorem RelS.at_ {j : Nat} {ds : List D} {v : V} (S : RelS K M r H st) (h : RepV K M r H (.ref j) v) (e : st[j]? = some (.lst ds)) : ∃ a xs, v = .ref a ∧ r[j]? = some a ∧ H a = some (.lst xs) ∧ RepL K M r H ds xs := by
  obtain ⟨a, rfl, ha⟩ := h.ref_
  obtain ⟨a', xs, h1, h2, h3⟩ := S.ob j ds e
  rw [ha] at h1; cases h1
  exact ⟨a, xs, rfl, ha, h2, h3⟩
end
def rIxD (K : PySem.W.Frag) : R2 := fun x y H Q => ∃ M r st dx dy d, RelS K M r H st ∧ RepB K M r H dx x ∧ RepV K M r H dy y ∧ ixD dx dy st = some d ∧ Ok (RepV K) K E0 M r H (.ok d st) Q
section
variable {X : Cx}
theorem ix_rIxD : IxR X (rIxD X.K) := by
  intro eo ei pins s σ H x y v u Q I rx ry h hsub
  refine ix_seq eo ei pins s σ H x y v u Q I rx ry ?_ hsub
  obtain ⟨M, r, st, dx, dy, d, S, hx, hy, hf, ok⟩ := h
  cases dx with
  | lst ds =>
    cases dy with
    | int k =>
      obtain ⟨a, xs, rfl, q, l⟩ := hx.lst
      obtain rfl := hy.int_
      obtain ⟨w, hw, rw_⟩ := atI_rep l (show L2.atI ds k = some d from hf)
      exact .inl ⟨a, xs, k, w, rfl, rfl, SqL.of q, hw, ok.done S rw_⟩
    | _ => cases hf
  | tup ds =>
    cases dy with
    | int k =>
      obtain ⟨a, xs, rfl, q, l⟩ := (hx.val fun _ e => by cases e).tup_
      obtain rfl := hy.int_
      obtain ⟨w, hw, rw_⟩ := atI_rep l (show L2.atI ds k = some d from hf)
      exact .inr (.inl ⟨a, xs, k, w, rfl, rfl, q, hw, ok.done S rw_⟩)
    | _ => cases hf
  | str z =>
    cases dy with
    | int k =>
      obtain rfl := (hx.val fun _ e => by cases e).str_
      obtain rfl := hy.int_
      unfold ixD at hf
      simp only at hf
      split at hf
      · rename_i hz
        cases e : L2.atI z.cps.toList k with
        | none => rw [e] at hf; cases hf
        | some c =>
          rw [e] at hf
          cases hf
          exact .inr (.inr ⟨z, k, c, rfl, rfl, by rw [big_eq]; exact hz, e, ok.done S (RepV.str _)⟩)
      · cases hf
    | _ => cases hf
  | ref j =>
    cases dy with
    | int k =>
      unfold ixD at hf
      simp only at hf
      split at hf
      · rename_i ds e
        obtain ⟨a, xs, rfl, _, q, l⟩ := S.at_ (hx.val fun _ e => by cases e) e
        obtain rfl := hy.int_
        obtain ⟨w, hw, rw_⟩ := atI_rep l hf
        exact .inl ⟨a, xs, k, w, rfl, rfl, SqL.of q, hw, ok.done S rw_⟩
      · cases hf
    | _ => cases hf
  | _ => cases dy <;> cases hf
def rSlD (K : PySem.W.Frag) : V → Option Int → Option Int → Hp → VK → Prop := fun x lo hi H Q => ∃ M r st dx d, RelS K M r H st ∧ RepB K M r H dx x ∧ slD dx lo hi = some d ∧ Ok (RepV K) K E0 M r H (.ok d st) Q
theorem sl_rSlD : SlR X (rSlD X.K) := by
  intro pins s σ H x v vl vu lo hi sl Q I rx hs pl pu h
  obtain ⟨M, r, st, dx, d, S, hx, hf, ok⟩ := h
  cases dx with
  | str z =>
    obtain rfl := (hx.val fun _ e => by cases e).str_
    unfold slD at hf
    simp only at hf
    split at hf
    · rename_i hz
      cases hf
      exact sl_str pins s σ H _ v vl vu lo hi sl Q I rx hs pl pu ⟨z, rfl, by rw [big_eq]; exact hz, ok.done S (RepV.str _)⟩
    · cases hf
  | lst ds =>
    obtain ⟨a, xs, rfl, q, l⟩ := hx.lst
    cases hf
    exact sl_list pins s σ H _ v vl vu lo hi sl Q I rx hs pl pu ⟨a, xs, rfl, SqL.of q, fun p hp => ok (.ref p) M r _ (Ext.lay hp) (S.lay hp) (RepV.lay_lst S hp (cut_rep lo hi l))⟩
  | tup ds =>
    obtain ⟨a, xs, rfl, q, l⟩ := (hx.val fun _ e => by cases e).tup_
    cases hf
    refine sl_tupA pins s σ H _ v vl vu lo hi sl Q I rx hs pl pu ⟨a, xs, rfl, q, fun hw => ?_, fun _ p hp => ok (.ref p) M r _ (Ext.lay hp) (S.lay hp) (RepV.lay_tup S hp (cut_rep lo hi l))⟩
    refine ok.done S ?_
    have e : cutV xs lo hi = xs := by
      unfold cutV
      rw [hw.1, hw.2]
      simp
    have l2 := cut_rep lo hi l
    rw [e] at l2
    unfold RepV
    exact ⟨a, xs, rfl, q, l2⟩
  | _ => cases hf
/-- a call of f by values, the last one borrowed -/
def rCallD (K : PySem.W.Frag) (f : List D → Store → Option D) : List V → Hp → VK → Prop := fun vs H Q => ∃ M r st ds d, RelS K M r H st ∧ Paired (RepB K M r H) ds vs ∧ f ds st = some d ∧ Ok (RepV K) K E0 M r H (.ok d st) Q
theorem one_of {K : PySem.W.Frag} {M : Mu} {r : List Addr} {H : Hp} {d : D} {vs : List V} (h : Paired (RepB K M r H) [d] vs) : ∃ v, vs = [v] ∧ RepB K M r H d v := by
  cases h with
  | cons a b => cases b; exact ⟨_, rfl, a⟩
theorem two_of {K : PySem.W.Frag} {M : Mu} {r : List Addr} {H : Hp} {d e : D} {vs : List V} (h : Paired (RepB K M r H) [d, e] vs) : ∃ v w, vs = [v, w] ∧ RepB K M r H d v ∧ RepB K M r H e w := by
  cases h with
  | cons a b =>
    cases b with
    | cons a' b' => cases b'; exact ⟨_, _, rfl, a, a'⟩
theorem call_lenD : CallR X (.builtin "len") (rCallD X.K fun ds st => lenF ds st) := by
  intro pins s σ H xs us Q I rs h
  obtain ⟨M, r, st, ds, d, S, hp, hf, ok⟩ := h
  have hf' : lenF ds st = some d := hf
  unfold lenF at hf'
  split at hf'
  · rename_i d0
    obtain ⟨v, rfl, hv⟩ := one_of hp
    cases e : lenD d0 st with
    | none => rw [e] at hf'; cases hf'
    | some n =>
      rw [e] at hf'; cases hf'
      unfold lenD at e
      split at e
      · rename_i z
        split at e
        · rename_i hz
          cases e
          obtain rfl := (hv.val fun _ e => by cases e).str_
          exact call_len_str pins s σ H _ us Q I rs ⟨z, rfl, by rw [big_eq]; exact hz, ok.done S (RepV.int _)⟩
        · cases e
      · rename_i es
        cases e
        obtain ⟨a, ys, rfl, q, l⟩ := (hv.val fun _ e => by cases e).tup_
        exact call_len_seq pins s σ H _ us Q I rs ⟨a, ys, rfl, .inr q, by rw [l.length]; exact ok.done S (RepV.int _)⟩
      · rename_i es
        cases e
        obtain ⟨a, ys, rfl, q, l⟩ := hv.lst
        exact call_len_seq pins s σ H _ us Q I rs ⟨a, ys, rfl, .inl (SqL.of q), by rw [l.length]; exact ok.done S (RepV.int _)⟩
      · rename_i es
        cases e
        obtain ⟨a, ys, rfl, q, l⟩ := (hv.val fun _ e => by cases e).scr_
        exact call_len_seq pins s σ H _ us Q I rs ⟨a, ys, rfl, .inl q, by rw [l.length]; exact ok.done S (RepV.int _)⟩
      · rename_i j
        split at e
        · rename_i es ej
          cases e
          obtain ⟨a, ys, rfl, _, q, l⟩ := S.at_ (hv.val fun _ e => by cases e) ej
          exact call_len_seq pins s σ H _ us Q I rs ⟨a, ys, rfl, .inl (SqL.of q), by rw [l.length]; exact ok.done S (RepV.int _)⟩
        · cases e
      · cases e
  · cases hf'
theorem call_intD : CallR X (.type "int") (rCallD X.K fun ds st => intF ds) := by
  intro pins s σ H xs us Q I rs h
  obtain ⟨M, r, st, ds, d, S, hp, hf, ok⟩ := h
  have hf' : intF ds = some d := hf
  unfold intF at hf'
  split at hf'
  · cases hf'
    obtain ⟨v, rfl, hv⟩ := one_of hp
    obtain rfl := (hv.val fun _ e => by cases e).int_
    exact call_int1 pins s σ H _ us Q I rs (.inl ⟨_, rfl, ok.done S (RepV.int _)⟩)
  · cases hf'
    obtain ⟨v, rfl, hv⟩ := one_of hp
    obtain rfl := (hv.val fun _ e => by cases e).bl_
    exact call_int1 pins s σ H _ us Q I rs (.inr ⟨_, rfl, ok.done S (RepV.int _)⟩)
  · rename_i z
    split at hf'
    · rename_i hz
      obtain ⟨v, rfl, hv⟩ := one_of hp
      obtain rfl := (hv.val fun _ e => by cases e).str_
      cases e : PySem.intText? z with
      | none => rw [e] at hf'; cases hf'
      | some n =>
        rw [e] at hf'; cases hf'
        exact call_int_str pins s σ H _ us Q I rs ⟨z, n, rfl, e, hz, ok.done S (RepV.int _)⟩
    · cases hf'
  · cases hf'
theorem call_strD : CallR X (.type "str") (rCallD X.K fun ds st => strF ds) := by
  intro pins s σ H xs us Q I rs h
  obtain ⟨M, r, st, ds, d, S, hp, hf, ok⟩ := h
  have hf' : strF ds = some d := hf
  unfold strF at hf'
  split at hf'
  · split at hf'
    · rename_i hz
      cases hf'
      obtain ⟨v, rfl, hv⟩ := one_of hp
      obtain rfl := (hv.val fun _ e => by cases e).int_
      exact call_str_int pins s σ H _ us Q I rs ⟨_, rfl, hz, ok.done S (RepV.str _)⟩
    · cases hf'
  · cases hf'
theorem call_tupD : CallR X (.type "tuple") (rCallD X.K fun ds st => tupF ds) := by
  intro pins s σ H xs us Q I rs h
  obtain ⟨M, r, st, ds, d, S, hp, hf, ok⟩ := h
  have hf' : tupF ds = some d := hf
  unfold tupF at hf'
  split at hf'
  · cases hf'
    obtain ⟨v, rfl, hv⟩ := one_of hp
    obtain ⟨a, ys, rfl, q, l⟩ := hv.lst
    exact call_tuple_of pins s σ H _ us Q I rs ⟨a, ys, rfl, .inl ⟨SqL.of q, fun p hp => ok (.ref p) M r _ (Ext.lay hp) (S.lay hp) (RepV.lay_tup S hp l)⟩⟩
  · cases hf'
    obtain ⟨v, rfl, hv⟩ := one_of hp
    have hv' := hv.val fun _ e => by cases e
    obtain ⟨a, ys, rfl, q, l⟩ := hv'.tup_
    exact call_tuple_of pins s σ H _ us Q I rs ⟨a, ys, rfl, .inr ⟨q, ok.done S hv'⟩⟩
  · cases hf'
theorem call_lstD : CallR X (.type "list") (rCallD X.K fun ds st => lstF ds) := by
  intro pins s σ H xs us Q I rs h
  obtain ⟨M, r, st, ds, d, S, hp, hf, ok⟩ := h
  have hf' : lstF ds = some d := hf
  unfold lstF at hf'
  split at hf'
  · cases hf'
    obtain ⟨v, rfl, hv⟩ := one_of hp
    obtain ⟨a, ys, rfl, q, l⟩ := hv.lst
    exact call_list_of pins s σ H _ us Q I rs ⟨a, ys, rfl, .inl (SqL.of q), fun p hp => ok (.ref p) M r _ (Ext.lay hp) (S.lay hp) (RepV.lay_lst S hp l)⟩
  · cases hf'
    obtain ⟨v, rfl, hv⟩ := one_of hp
    obtain ⟨a, ys, rfl, q, l⟩ := (hv.val fun _ e => by cases e).tup_
    exact call_list_of pins s σ H _ us Q I rs ⟨a, ys, rfl, .inr q, fun p hp => ok (.ref p) M r _ (Ext.lay hp) (S.lay hp) (RepV.lay_lst S hp l)⟩
  · cases hf'
theorem call_maxD (hc : X.calm = true) : CallR X (.builtin "max") (rCallD X.K fun ds st => maxF ds) := by
  intro pins s σ H xs us Q I rs h
  obtain ⟨M, r, st, ds, d, S, hp, hf, ok⟩ := h
  have hf' : maxF ds = some d := hf
  unfold maxF at hf'
  split at hf'
  · cases hf'
    obtain ⟨v, w, rfl, hv, hw⟩ := two_of hp
    obtain rfl := (hv.val fun _ e => by cases e).int_
    obtain rfl := (hw.val fun _ e => by cases e).int_
    exact call_max2 hc pins s σ H _ us Q I rs ⟨_, _, rfl, ok.done S (RepV.int _)⟩
  · cases hf'
theorem call_minD (hc : X.calm = true) : CallR X (.builtin "min") (rCallD X.K fun ds st => minF ds) := by
  intro pins s σ H xs us Q I rs h
  obtain ⟨M, r, st, ds, d, S, hp, hf, ok⟩ := h
  have hf' : minF ds = some d := hf
  unfold minF at hf'
  split at hf'
  · cases hf'
    obtain ⟨v, w, rfl, hv, hw⟩ := two_of hp
    obtain rfl := (hv.val fun _ e => by cases e).int_
    obtain rfl := (hw.val fun _ e => by cases e).int_
    exact call_min2 hc pins s σ H _ us Q I rs ⟨_, _, rfl, ok.done S (RepV.int _)⟩
  · cases hf'
theorem sub_ty : ∀ a ∈ ["NoneType", "bool", "int", "str", "tuple", "list", "dict"], ∀ b ∈ tyNames, kitB a b = some (sub1 a b) := by decide +kernel
theorem tyN_mem {d : D} {n : String} (h : tyN d = some n) : n ∈ ["NoneType", "bool", "int", "str", "tuple", "list", "dict"] := by
  cases d <;> cases h <;> decide
theorem tyNS_mem {d : D} {st : Store} {n : String} (h : tyNS d st = some n) : n ∈ ["NoneType", "bool", "int", "str", "tuple", "list", "dict"] := by
  unfold tyNS at h
  split at h
  · split at h
    · cases h; decide
    · cases h
  · exact tyN_mem h
theorem tyX_of {K : PySem.W.Frag} {M : Mu} {r : List Addr} {H : Hp} {st : Store} {d : D} {v : V} {n : String} (S : RelS K M r H st) (h : RepV K M r H d v) (e : tyNS d st = some n) : TyX K H v (.type n) := by
  cases d with
  | non => obtain rfl := h.non_; cases e; exact .base .non
  | bl b => obtain rfl := h.bl_; cases e; exact .base (.bl b)
  | int b => obtain rfl := h.int_; cases e; exact .base (.int b)
  | str b => obtain rfl := h.str_; cases e; exact .base (.str b)
  | ty b => cases e
  | tup b =>
    obtain ⟨a, xs, rfl, q, _⟩ := h.tup_
    cases e
    rcases q with (q | ⟨o, q⟩) | ⟨o, its, m, q, c, _⟩
    · exact .base (.tup q)
    · exact .fTuple q
    · exact .kTuple q c
  | lst b =>
    obtain ⟨a, xs, rfl, _, q, _⟩ := h.lst_
    cases e
    exact .base (.lst q)
  | ref b =>
    unfold tyNS at e
    simp only at e
    split at e
    · rename_i ds ej
      cases e
      obtain ⟨a, xs, rfl, _, q, _⟩ := S.at_ h ej
      exact .base (.lst q)
    · cases e
  | scr b => cases e
  | exn c ns ds => cases e
  | lit x => cases e
  | edic =>
    unfold RepV at h
    obtain ⟨a, rfl, _, q⟩ := h
    cases e
    exact .base (.dK q)
theorem kitOne_of {K : PySem.W.Frag} {d : D} {st : Store} {a b : String} (e : tyNS d st = some a) (hb : b ∈ tyNames) : PySem.W.kitOne K (.type a) (.type b) = some (sub1 a b) :=
  kit_ty (sub_ty a (tyNS_mem e) b hb)
theorem kitAny_of {K : PySem.W.Frag} {d : D} {st : Store} {a : String} (e : tyNS d st = some a) : ∀ {bs : List String}, (∀ b ∈ bs, b ∈ tyNames) → PySem.W.kitAny K (.type a) (bs.map Value.type) = some (bs.any fun b => sub1 a b)
  | [], _ => rfl
  | b :: bs, h => by
    have ih := kitAny_of (K := K) e (bs := bs) fun c hc => h c (List.mem_cons_of_mem _ hc)
    simp only [List.map_cons, List.any_cons]
    refine kitAny_cons (kitOne_of e (h b List.mem_cons_self)) (fun q => ?_) fun q => ?_
    · rw [q]; simpa using ih
    · rw [q]; rfl
theorem strsOf_map : ∀ {ds : List D} {ys : List Str}, strsOf ds = some ys → ds = ys.map D.str
  | [], ys, h => by cases h; rfl
  | d :: ds, ys, h => by
    cases d with
    | str s =>
      unfold strsOf at h
      cases e : strsOf ds with
      | none => rw [e] at h; cases h
      | some l =>
        rw [e] at h; cases h
        rw [strsOf_map e]
        rfl
    | _ => cases h
theorem repL_str {K : PySem.W.Frag} {M : Mu} {r : List Addr} {H : Hp} : ∀ {ys : List Str} {xs : List V}, RepL K M r H (ys.map D.str) xs → xs = ys.map V.str
  | [], xs, h => by
    have h' : RepL K M r H [] xs := h
    unfold RepL at h'
    exact h'
  | y :: ys, xs, h => by
    have h' : RepL K M r H (D.str y :: ys.map D.str) xs := h
    unfold RepL at h'
    obtain ⟨z, zs, rfl, h1, h2⟩ := h'
    obtain rfl := h1.str_
    rw [repL_str h2]
    rfl
end
end MI

set_option maxRecDepth 100000
set_option maxHeartbeats 4000000
namespace MI
open PySem PySem.Spec PyProof.Rows L2
variable [LD : LamDefs]

/-- what is wished of exceptions, at the slots -/
abbrev wAt (W : WX) (σ : L2.St) : XK := fun cls d H => W cls d σ H
def never : WX := fun _ _ _ _ => False
/-- a reading by plain data -/
def tG {α β : Type} (Rp : Mu → List Addr → Hp → α → β → Prop) (K : PySem.W.Frag) (W : WX) (f : Env → Store → Res α) : L2.St → Hp → (β → Hp → Prop) → Prop := fun σ H Q =>
  ∃ M O r env st, RelS K M r H st ∧ RelE K M O r H σ env ∧ Ok Rp K (wAt W σ) M r H (f env st) Q
def REq {α : Type} : Mu → List Addr → Hp → α → α → Prop := fun _ _ _ a b => a = b
abbrev tE (K : PySem.W.Frag) (W : WX) (f : EX) : TE := tG (RepV K) K W f
abbrev tT (K : PySem.W.Frag) (W : WX) (f : TX) : TT := tG REq K W f
abbrev tA (K : PySem.W.Frag) (W : WX) (f : AX) : TA := tG (RepL K) K W f
abbrev tB (K : PySem.W.Frag) (W : WX) (f : EX) : TE := tG (RepB K) K W f
/-- what a def promises by plain data -/
def spOf (K : PySem.W.Frag) (n : Nat) (F : List D → Store → Res D) : Sp := fun vs H Q E =>
  vs.length = n ∧ ∃ M r st ds, RelS K M r H st ∧ RepL K M r H ds vs ∧ Ok (RepV K) K E M r H (F ds st) Q
/-- self.f = v in an __init__ of an exception's class at C -/
def spIni (C : Addr) (f : Str) : Sp := fun vs H Q _ => ∃ (a : Addr) (v : V), vs = [.ref a, v] ∧ H a = some (exo a C none) ∧ ∀ dx, H dx = none → dx ≠ a → Q .non (upd (upd H dx (exd dx [(f, v)])) a (exo a C (some dx)))
/-- an own class of exceptions: what the written part says of it -/
structure ExF (P : Program) (w : World) (K : PySem.W.Frag) (mg : Str → Option Value) (base : Heap) (G : Glb) (x : Str) (fs : List Str) : Prop where
  gC : mg x = some (.ref (He.ga K x))
  kC : PySem.W.keepIn K (.ref (He.ga K x)) = true
  cl : (PySem.W.clsIn K (He.ga K x)).isSome = true
  ga : PySem.W.findIn K (.ref (He.ga K x)) "__getattribute__" = some (some (.builtin "BaseException.__getattribute__"))
  gg : PySem.W.findIn K (.ref (He.ga K x)) "__getattr__" = some none
  sb : PySem.W.subIn K (.ref (He.ga K x)) (.type "BaseException") = some true
  ty : PySem.W.typeIn K (.ref (He.ga K x)) = some (.type "type")
  hd : PySem.W.hasDictIn K (He.ga K x) = true
  ca : PySem.W.findIn K (.ref (He.ga K x)) "__class__" = some (some (.builtin "object.__class__"))
  cg : PySem.W.specialIn K (.builtin "object.__class__") "__get__" = some (some (.builtin "getset_descriptor.__get__"))
  ct : PySem.W.takesIn K (.builtin "object.__class__") = some true
  mo : PySem.W.mroIn K (He.ga K x) (.type "object") = some true
  ve : PySem.W.kitOne K (.ref (He.ga K x)) (.type "ValueError") = some true
  sub : ∀ y gs, G.exc y = some gs → PySem.W.exmOne K (.ref (He.ga K x)) (.ref (He.ga K y)) = some (G.sub x y) ∧ PySem.W.kitOne K (.ref (He.ga K x)) (.ref (He.ga K y)) = some (G.sub x y)
  mk0 : fs = [] → PySem.W.excIn K (He.ga K x) He.veBase "ValueError.__new__" = true
  mk1 : ∀ f, fs = [f] → OexC K (He.ga K x) ∧ PySem.W.findIn K (.ref (He.ga K x)) f = some none ∧ ∃ (fI : Addr) (fd : FuncData) (ps : List Str), PySem.W.findIn K (.ref (He.ga K x)) "__init__" = some (some (.ref fI)) ∧
    PySem.W.typeIn K (.ref fI) = some (.type "function") ∧ L2.Binds K fd ps [] ∧ FnOk P w K mg base C8.CX0 1 fI fd ps (spIni (He.ga K x) f)
/-- what a def that tells what a lambda gives must be (the lambda handed to it, made in a frame named q) -/
structure ToldF (P : Program) (w : World) (K : PySem.W.Frag) (mg : Str → Option Value) (base : Heap) (k : Nat) (f : Str) (t : List D → Store → Res D) : Prop where
  ex : ∃ (g : Addr) (a : Str) (pg : Arguments) (bg : List Stmt) (sg : Scope) (dV kV doc pm cdv ct oc : Value) (an od : Option Addr) (osl : Array (Option Value)) (Ng : List Str),
    mg f = some (.ref g) ∧ PySem.W.keepIn K (.ref g) = true ∧ K.lookup g = some ⟨oc, od, .func (PySem.W.fnOf f f pg bg sg dV kV doc pm an cdv ct), osl⟩ ∧ PySem.W.codeIn K cdv f = true ∧
    L2.Binds K (PySem.W.fnOf f f pg bg sg dV kV doc pm an cdv ct) [a] [] ∧ FnScope Ng [a] sg ∧ Ng[0]? = some a ∧ Vis sg a ∧ dunder a = false ∧
    ∀ (A : Around) (stack : List PySem.Env) (q : Str) (fl c' : Addr) (s : Shared) (H : Hp) (Q : VK) (tl : XK → Hp → VK → Prop),
      Room (k - 1) (A.deeper (envOfC f sg s.heap.objs.size g cdv)) →
      (∀ (W : WX) (pn : List (Addr × Obj)) (xe : Value → Shared → Prop) (p1 p2 : Pos), Takes ((cxOf C8.CX0 P w K mg base Ng f sg g cdv A stack s H C8.E0).tr pn xe) W →
        PE ((cxOf C8.CX0 P w K mg base Ng f sg g cdv A stack s H C8.E0).tr pn xe) (.Call (.Name a p1) [] [] p2) (fun σZ HZ Q => σZ[0]? = some (some (.ref fl)) ∧ HZ c' = some (LamX.CodeO c' q) ∧ tl (WE W σZ) HZ Q)) →
      H c' = some (LamX.CodeO c' q) →
      (∃ M r st, RelS K M r H st ∧ ∀ M1 r1 H1, Ext M r H M1 r1 H1 → RelS K M1 r1 H1 st → ∀ (E : XK) (Q' : VK),
        (∀ cls dd H2 M2 r2 st2 c ns ds, Ext M1 r1 H1 M2 r2 H2 → RelS K M2 r2 H2 st2 → ExcV K M2 r2 H2 c ns ds cls dd → Ok (RepV K) K C8.E0 M2 r2 H2 (t [.exn c ns ds] st2) Q → E cls dd H2) →
        (∀ v H2 M2 r2 st2 d, Ext M1 r1 H1 M2 r2 H2 → RelS K M2 r2 H2 st2 → RepV K M2 r2 H2 d v → Ok (RepV K) K C8.E0 M2 r2 H2 (t [.tup [d]] st2) Q → Q' v H2) → tl E H1 Q') →
      ∃ tt, PSs (cxOf C8.CX0 P w K mg base Ng f sg g cdv A stack s H C8.E0).nox bg tt ∧ tt { nx := fun _ H' => Q .non H', rt := Q } (L2.start Ng [.ref fl]) H
/-- what holds of the module, wherever one stands -/
structure Facts (T : Tab) (G : Glb) (k : Nat) (P : Program) (w : World) (K : PySem.W.Frag) (mg : Str → Option Value) (base : Heap) : Prop where
  const : ∀ x d, G.const x = some d → ∃ v u, mg x = some u ∧ RelV v u ∧ ∀ M r H, RepV K M r H d v
  free : ∀ x, G.free x = true → mg x = none
  fn : ∀ x, G.isFn x = true → ∃ f fd ps, mg x = some (.ref f) ∧ PySem.W.keepIn K (.ref f) = true ∧ L2.Binds K fd ps [] ∧ FnOk P w K mg base (L2.CX P w) k f fd ps (spOf K ps.length (T x)) ∧ ∀ ds st, T x ds st ≠ .stuck → ds.length = ps.length
  exc : ∀ x fs, G.exc x = some fs → ExF P w K mg base G x fs
  told : ∀ x, G.told x = true → (∀ ds st, T x ds st = .stuck) ∨ ToldF P w K mg base k x (T x)
  uniq : ∀ p ∈ TK K, ∀ p' ∈ TK K, p.1 = p'.1 → p = p'
/-- where a def's text is walked -/
structure Good (T : Tab) (L : Dn) (G : Glb) (k : Nat) (W : WX) (X : Cx) : Prop where
  takes : Takes X W
  nd : X.N.Nodup
  kind : X.env.scope.kind = .function
  calm : X.calm = true
  room : Room k X.A
  two : 2 ≤ k
  fa : Facts T G k X.prog X.w X.K X.mg X.base
  /-- lambdas -/
  lam : G.lamOk = true → (2 ≤ k ∧ ∃ c P, X.env.code = .ref c ∧ LamX.TabB X.base X.mg c P ∧ (P, X.env.qual ++ "<lambda>") ∈ TK X.K) ∧
    ∀ (W' : WX) (X' : Cx), X'.prog = X.prog → X'.w = X.w → X'.K = X.K → X'.mg = X.mg → X'.base = X.base → Takes X' W' → X'.N.Nodup → X'.env.scope.kind = .function → X'.calm = true → Room (k - 2) X'.A → ∀ e : Expr, PE X' e (tE X'.K W' (L.E X'.N X'.env.scope e))
section
variable {T : Tab} {L : Dn} {G : Glb} {k : Nat} {W : WX} {X : Cx}
theorem Good.const (g : Good T L G k W X) : ∀ x d, G.const x = some d → ∃ v u, X.mg x = some u ∧ RelV v u ∧ ∀ M r H, RepV X.K M r H d v := g.fa.const
theorem Good.free (g : Good T L G k W X) : ∀ x, G.free x = true → X.mg x = none := g.fa.free
theorem Good.fn (g : Good T L G k W X) : ∀ x, G.isFn x = true → ∃ f fd ps, X.mg x = some (.ref f) ∧ PySem.W.keepIn X.K (.ref f) = true ∧ L2.Binds X.K fd ps [] ∧ FnOk X.prog X.w X.K X.mg X.base (L2.CX X.prog X.w) k f fd ps (spOf X.K ps.length (T x)) ∧ ∀ ds st, T x ds st ≠ .stuck → ds.length = ps.length := g.fa.fn
end
/-- names that the written scope ws lets be stored -/
def Sto (X : Cx) (ws : Scope) : Prop := ∀ x, locB ws x = true → Loc X.env.scope x ∧ (X.fn x = true ∨ X.env.scope.names.lookup x = some .local)
structure Snd (T : Tab) (L : Dn) (G : Glb) (k : Nat) (r : Dn) : Prop where
  ex : ∀ W X, Good T L G k W X → ∀ e, PE X e (tE X.K W (r.E X.N X.env.scope e))
  te : ∀ W X, Good T L G k W X → ∀ e, PT X e (tT X.K W (r.T X.N X.env.scope e))
  bo : ∀ W X, Good T L G k W X → ∀ op vs p, PW X (.BoolOp op vs p) (tT X.K W (r.T X.N X.env.scope (.BoolOp op vs p)))

section
variable {X : Cx} {W : WX}
theorem peI {e : Expr} {t t' : TE} (h : PE X e t) (w : ∀ σ H Q, t' σ H Q → t σ H Q) : PE X e t' := ⟨fun pins s σ H Q I q => h.run pins s σ H Q I (w σ H Q q)⟩
theorem ptI {e : Expr} {t t' : TT} (h : PT X e t) (w : ∀ σ H Q, t' σ H Q → t σ H Q) : PT X e t' := ⟨fun pins s σ H Q I q => h.run pins s σ H Q I (w σ H Q q)⟩
theorem pwI {e : Expr} {t t' : TT} (h : PW X e t) (w : ∀ σ H Q, t' σ H Q → t σ H Q) : PW X e t' := ⟨fun wh pins s σ H Q I q => h.run wh pins s σ H Q I (w σ H Q q)⟩
theorem paI {e : List Expr} {t t' : TA} (h : PA X e t) (w : ∀ σ H Q, t' σ H Q → t σ H Q) : PA X e t' := ⟨fun p pins s σ H Q I q => h.run p pins s σ H Q I (w σ H Q q)⟩
theorem piI {tg e : Expr} {t t' : TI} (h : PI X tg e t) (w : ∀ σ H Q, t' σ H Q → t σ H Q) : PI X tg e t' := ⟨fun pins s σ H Q I q => h.run pins s σ H Q I (w σ H Q q)⟩
theorem pe_stuck {α : Type} {e : Expr} {Rp : Mu → List Addr → Hp → α → V → Prop} : PE X e (tG Rp X.K W stuckE) := ⟨fun _ _ _ _ _ _ h => by obtain ⟨_, _, _, _, _, _, _, h⟩ := h; exact h.elim⟩
theorem pt_stuck {e : Expr} : PT X e (tT X.K W stuckE) := ⟨fun _ _ _ _ _ _ h => by obtain ⟨_, _, _, _, _, _, _, h⟩ := h; exact h.elim⟩
theorem pw_stuck {e : Expr} : PW X e (tT X.K W stuckE) := ⟨fun _ _ _ _ _ _ _ h => by obtain ⟨_, _, _, _, _, _, _, h⟩ := h; exact h.elim⟩
theorem pa_stuck {e : List Expr} : PA X e (tA X.K W stuckE) := ⟨fun _ _ _ _ _ _ _ h => by obtain ⟨_, _, _, _, _, _, _, h⟩ := h; exact h.elim⟩
theorem pi_stuck {α : Type} {tg e : Expr} {t : TI} (h : ∀ σ H R, t σ H R → False) : PI X tg e t := ⟨fun _ _ _ _ _ _ q => (h _ _ _ q).elim⟩
theorem dunder_debug {x : Str} (h : dunder x = false) : (x == ("__debug__" : Str)) = false ∧ (x == ("__classdict__" : Str)) = false ∧ x ≠ "__name__" := by
  unfold dunder at h
  simp only [Bool.or_eq_false_iff] at h
  exact ⟨h.1.1, h.1.2, fun e => by subst e; exact absurd h.2 (by decide +kernel)⟩
theorem ixOf_get {N : List Str} {x : Str} {i : Nat} (h : ixOf N x = some i) : N[i]? = some x := by
  unfold ixOf at h
  have h2 := List.findIdx?_eq_some_iff_getElem.mp h
  obtain ⟨hi, hp, _⟩ := h2
  rw [List.getElem?_eq_getElem hi]
  simp at hp
  rw [hp]
theorem visB_vis {sc : Scope} {x : Str} (h : visB sc x = true) : Vis sc x := by
  unfold visB at h
  split at h
  · exact .inl (by assumption)
  · exact .inr (.inl (by assumption))
  · exact .inr (.inr (by assumption))
  · cases h
theorem locB_loc {sc : Scope} {x : Str} (h : locB sc x = true) : Loc sc x := by
  unfold locB at h
  split at h
  · exact .inl (by assumption)
  · exact .inr (by assumption)
  · cases h
theorem locB_vis {sc : Scope} {x : Str} (h : locB sc x = true) : visB sc x = true := by
  rcases locB_loc h with e | e <;> (unfold visB; rw [e])
theorem glB_gl {x : Str} (h : glB X.env.scope x = true) : Gl X x := by
  unfold glB at h
  split at h
  · rename_i e
    exact e
  · cases h
theorem pe_nm {x : Str} {p : Pos} {i : Nat} (hv : visB X.env.scope x = true) (hi : ixOf X.N x = some i) (hd : dunder x = false) : PE X (.Name x p) (tVar i) :=
  pe_var (ixOf_get hi) (visB_vis hv) (dunder_debug hd).1 (dunder_debug hd).2.1
end

section
variable {T : Tab} {L : Dn} {G : Glb} {k : Nat} {r : Dn} {X : Cx} {W : WX}
theorem star_cons {e : Expr} {es : List Expr} {env : PySem.Env} (h : isStar e = false) : starEach (e :: es) env = (false, eval e env) :: starEach es env := by
  cases e <;> first | rfl | cases h
theorem back_any {p : Pos} {env : PySem.Env} : ∀ {es : List Expr}, (es.any isStar) = false → ((backTo p (starEach es env)).any fun x => x.1) = false
  | [], _ => rfl
  | e :: es, h => by
    simp only [List.any_cons, Bool.or_eq_false_iff] at h
    rw [star_cons h.1]
    show (false || (backTo p (starEach es env)).any fun x => x.1) = false
    rw [back_any h.2]
    rfl
theorem denA_star {f : Expr → EX} : ∀ {es : List Expr}, (es.any isStar) = true → ∀ env st, denA f es env st = .stuck
  | e :: es, h, env, st => by
    unfold denA
    have h' : (isStar e || es.any isStar) = true := h
    rw [if_pos h']
    rfl
theorem snd_A (hr : Snd T L G k r) (g : Good T L G k W X) : ∀ es, PA X es (tA X.K W (denA (r.E X.N X.env.scope) es))
  | [] => paI pa_nil fun σ H Q ⟨M, O, ρ, env, st, S, E, ok⟩ => ok.done S RepL.nil
  | e :: es => by
    unfold denA
    cases hs' : (isStar e || es.any isStar) with
    | true => exact pa_stuck
    | false =>
      have hs : isStar e = false := (Bool.or_eq_false_iff.mp hs').1
      refine paI (pa_cons (hr.ex W X g e) (snd_A hr g es) (star_cons hs)) fun σ H Q ⟨M, O, ρ, env, st, S, E, ok⟩ => ?_
      refine ⟨M, O, ρ, env, st, S, E, ok.bind E S fun d st1 x M1 ρ1 H1 _ e1 S1 E1 q1 ok1 => ?_⟩
      refine ⟨M1, O, ρ1, env, st1, S1, E1, ok1.bind E1 S1 fun ds st2 xs M2 ρ2 H2 _ e2 S2 E2 q2 ok2 => ?_⟩
      exact ok2.done S2 (RepL.cons (RepV.mono S1.sub e2 d x q1) q2)
/-- borrowed -/
theorem snd_borrow (hr : Snd T L G k r) (g : Good T L G k W X) (e : Expr) : PE X e (tB X.K W (borrow (r.E X.N X.env.scope) X.N X.env.scope e)) := by
  have plain : PE X e (tB X.K W (r.E X.N X.env.scope e)) := peI (hr.ex W X g e) fun σ H Q ⟨M, O, ρ, env, st, S, E, ok⟩ =>
    ⟨M, O, ρ, env, st, S, E, by
      cases h : r.E X.N X.env.scope e env st with
      | stuck => rw [h] at ok; exact ok
      | exc c ns ds st1 => rw [h] at ok; exact ok
      | ok d st1 => rw [h] at ok; exact fun b M' r' H' e1 s q => ok b M' r' H' e1 s (.inl q)⟩
  cases e with
  | Name x p =>
    unfold borrow
    simp only
    split
    · rename_i hv
      simp only [Bool.and_eq_true, Bool.not_eq_true'] at hv
      split
      · rename_i i hi
        refine peI (pe_nm hv.1 hi hv.2) fun σ H Q ⟨M, O, ρ, env, st, S, E, ok⟩ => ?_
        revert ok
        dsimp only
        split
        · rename_i d hd
          intro ok
          obtain ⟨v, h1, h2⟩ := E.val i d hd
          exact ⟨v, h1, ok.done S (.inl h2)⟩
        · rename_i ds hd
          intro ok
          obtain ⟨a, xs, h1, h2, h3, h4⟩ := E.own i ds hd
          exact ⟨.ref a, h1, ok.done S (.inr ⟨ds, a, xs, rfl, rfl, E.nor a h2, h3, h4⟩)⟩
        · intro ok; exact ok.elim
      · exact pe_stuck
    · exact plain
  | _ => exact plain
end
end MI

set_option maxRecDepth 100000
set_option maxHeartbeats 4000000
namespace MI
open PySem PySem.Spec PyProof.Rows L2
variable [LD : LamDefs]
theorem Ok.stuckR {α β : Type} {Rp : Mu → List Addr → Hp → α → β → Prop} {K : PySem.W.Frag} {M : Mu} {r : List Addr} {H : Hp} {W : XK} {Q : β → Hp → Prop} (h : Ok Rp K W M r H .stuck Q) {P : Prop} : P := False.elim h
theorem base_of {o : Expr} {m : Str} {env : PySem.Env} (h : noCallBase o = true) : attributeBase o m env (eval o env) = eval o env := by
  unfold attributeBase
  split
  · rename_i x p q
    exact Bool.noConfusion h
  · rfl
section
variable {T : Tab} {L : Dn} {G : Glb} {k : Nat} {r : Dn} {X : Cx} {W : WX}
/-- x op y, borrowed both -/
theorem snd_cmp (hr : Snd T L G k r) (g : Good T L G k W X) (op : CmpOp) (a b : Expr) : ∀ σ H (Q : VK), (∃ M O ρ env st, RelS X.K M ρ H st ∧ RelE X.K M O ρ H σ env ∧ Ok REq X.K (wAt W σ) M ρ H (cmpX r X.N X.env.scope op a b env st) (fun b H' => Q (.bl b) H')) →
    tOp (rC X.K (cmpD op)) (tB X.K W (borrow (r.E X.N X.env.scope) X.N X.env.scope a)) (tB X.K W (borrow (r.E X.N X.env.scope) X.N X.env.scope b)) σ H Q := by
  rintro σ H Q ⟨M, O, ρ, env, st, S, E, ok⟩
  refine ⟨M, O, ρ, env, st, S, E, ok.bind E S fun dx st1 x M1 ρ1 H1 _ e1 S1 E1 q1 ok1 => ?_⟩
  refine ⟨M1, O, ρ1, env, st1, S1, E1, ok1.bind E1 S1 fun dy st2 y M2 ρ2 H2 _ e2 S2 E2 q2 ok2 => ?_⟩
  obtain ⟨kk, hk, ok3⟩ := ok2.of
  exact ⟨M2, ρ2, st2, dx, dy, kk, S2, RepB.mono S1 e2 q1, q2, hk, ok3.done S2 rfl⟩
theorem snd_cmpE (hr : Snd T L G k r) (g : Good T L G k W X) {op : CmpOp} {a b : Expr} {p : Pos} (hm : noMark op b = true) :
    PE X (.Compare a [op] [b] p) (tE X.K W fun env st => (cmpX r X.N X.env.scope op a b env st).bind fun k st1 => .ok (.bl k) st1) := by
  have hm' : behindInMarks op b = false := by unfold noMark at hm; simpa using hm
  refine peI (pe_cmpR (op_rC g.room.units) (snd_borrow hr g a) (snd_borrow hr g b) hm') fun σ H Q ⟨M, O, ρ, env, st, S, E, ok⟩ => ?_
  exact snd_cmp hr g op a b σ H Q ⟨M, O, ρ, env, st, S, E, ok.bind E S fun kk st1 b1 M1 ρ1 H1 _ e1 S1 E1 q1 ok1 => by
    cases q1
    exact ok1.done S1 (RepV.bl _)⟩
theorem snd_cmpT (hr : Snd T L G k r) (g : Good T L G k W X) {op : CmpOp} {a b : Expr} {p : Pos} (hm : noMark op b = true) : PT X (.Compare a [op] [b] p) (tT X.K W (cmpX r X.N X.env.scope op a b)) := by
  have hm' : behindInMarks op b = false := by unfold noMark at hm; simpa using hm
  refine ptI (pt_cmpR (op_rC g.room.units) (snd_borrow hr g a) (snd_borrow hr g b) hm') fun σ H Q ⟨M, O, ρ, env, st, S, E, ok⟩ => ?_
  have := snd_cmp hr g op a b σ H (fun x H' => ∃ k, x = .bl k ∧ Q k H') ⟨M, O, ρ, env, st, S, E, ok.re fun kk st1 b1 M1 ρ1 H1 _ e1 S1 q1 ok1 => by
    cases q1
    exact ⟨kk, rfl, ok1 kk rfl⟩⟩
  exact this
theorem RepB.of {K : PySem.W.Frag} {M : Mu} {r : List Addr} {H : Hp} {d : D} {v : V} (h : RepV K M r H d v) : RepB K M r H d v := .inl h
/-- a op b op' c -/
theorem snd_chain (hr : Snd T L G k r) (g : Good T L G k W X) (op op' : CmpOp) (a b c : Expr) : ∀ σ H (Q : VK), (∃ M O ρ env st, RelS X.K M ρ H st ∧ RelE X.K M O ρ H σ env ∧ Ok REq X.K (wAt W σ) M ρ H (chainX r X.N X.env.scope op op' a b c env st) (fun b H' => Q (.bl b) H')) →
    tChain (rC X.K (cmpD op)) (rC X.K (cmpD op')) (tE X.K W (r.E X.N X.env.scope a)) (tE X.K W (r.E X.N X.env.scope b)) (tE X.K W (r.E X.N X.env.scope c)) σ H Q := by
  rintro σ H Q ⟨M, O, ρ, env, st, S, E, ok⟩
  refine ⟨M, O, ρ, env, st, S, E, ok.bind E S fun dx st1 x M1 ρ1 H1 _ e1 S1 E1 q1 ok1 => ?_⟩
  refine ⟨M1, O, ρ1, env, st1, S1, E1, ok1.bind E1 S1 fun dy st2 y M2 ρ2 H2 _ e2 S2 E2 q2 ok2 => ?_⟩
  cases hk : cmpD op dx dy with
  | none => rw [hk] at ok2; exact ok2.stuckR
  | some kk =>
    rw [hk] at ok2
    have ok3 : Ok REq X.K (wAt W σ) M2 ρ2 H2 (if kk = true then (r.E X.N X.env.scope c env st2).bind fun z st4 => Res.of (cmpD op' dy z) st4 else .ok false st2) fun b H' => Q (.bl b) H' := ok2
    refine ⟨M2, ρ2, st2, dx, dy, kk, S2, RepB.of (RepV.mono S1.sub e2 dx x q1), RepB.of q2, hk, kk, rfl, ?_⟩
    cases kk with
    | false => exact ok3.done S2 rfl
    | true =>
      refine ⟨M2, O, ρ2, env, st2, S2, E2, Ok.bind E2 S2 (g := r.E X.N X.env.scope c env st2) (f := fun z st4 => Res.of (cmpD op' dy z) st4) ok3 fun dz st4 z M4 ρ4 H4 _ e4 S4 E4 q4 ok4 => ?_⟩
      obtain ⟨k2, hk2, ok5⟩ := ok4.of
      exact ⟨M4, ρ4, st4, dy, dz, k2, S4, RepB.of (RepV.mono S2.sub e4 dy y q2), RepB.of q4, hk2, ok5.done S4 rfl⟩
theorem snd_chainE (hr : Snd T L G k r) (g : Good T L G k W X) {op op' : CmpOp} {a b c : Expr} {p : Pos} (hm : noMark op' c = true) :
    PE X (.Compare a [op, op'] [b, c] p) (tE X.K W fun env st => (chainX r X.N X.env.scope op op' a b c env st).bind fun k st1 => .ok (.bl k) st1) := by
  have hm' : lastMarks [op, op'] [b, c] = false := by unfold noMark at hm; simpa [lastMarks] using hm
  refine peI (pe_chain (op_rC g.room.units) (op_rC g.room.units) (hr.ex W X g a) (hr.ex W X g b) (hr.ex W X g c) hm') fun σ H Q ⟨M, O, ρ, env, st, S, E, ok⟩ => ?_
  exact snd_chain hr g op op' a b c σ H Q ⟨M, O, ρ, env, st, S, E, ok.bind E S fun kk st1 b1 M1 ρ1 H1 _ e1 S1 E1 q1 ok1 => by
    cases q1
    exact ok1.done S1 (RepV.bl _)⟩
theorem snd_chainT (hr : Snd T L G k r) (g : Good T L G k W X) {op op' : CmpOp} {a b c : Expr} {p : Pos} (hm : noMark op' c = true) : PT X (.Compare a [op, op'] [b, c] p) (tT X.K W (chainX r X.N X.env.scope op op' a b c)) := by
  have hm' : lastMarks [op, op'] [b, c] = false := by unfold noMark at hm; simpa [lastMarks] using hm
  refine ptI (pt_chain (op_rC g.room.units) (op_rC g.room.units) (hr.ex W X g a) (hr.ex W X g b) (hr.ex W X g c) hm') fun σ H Q ⟨M, O, ρ, env, st, S, E, ok⟩ => ?_
  have := snd_chain hr g op op' a b c σ H (fun x H' => ∃ k, x = .bl k ∧ Q k H') ⟨M, O, ρ, env, st, S, E, ok.re fun kk st1 b1 M1 ρ1 H1 _ e1 S1 q1 ok1 => by
    cases q1
    exact ⟨kk, rfl, ok1 kk rfl⟩⟩
  exact this
theorem snd_name {x : Str} {p : Pos} (g : Good T L G k W X) : PE X (.Name x p) (tE X.K W (if dunder x then stuckE else if visB X.env.scope x then (match ixOf X.N x with
      | some i => fun env st => (match env[i]? with
        | some (.v d) => .ok d st
        | _ => .stuck)
      | none => stuckE)
    else if glB X.env.scope x then fun _ st => Res.of (G.const x) st else stuckE)) := by
  split
  · exact pe_stuck
  · rename_i hd
    have hd' : dunder x = false := by simpa using hd
    split
    · rename_i hv
      split
      · rename_i i hi
        refine peI (pe_nm hv hi hd') fun σ H Q ⟨M, O, ρ, env, st, S, E, ok⟩ => ?_
        revert ok
        dsimp only
        split
        · rename_i d hd
          intro ok
          obtain ⟨v, h1, h2⟩ := E.val i d hd
          exact ⟨v, h1, ok.done S h2⟩
        · intro ok; exact ok.stuckR
      · exact pe_stuck
    · split
      · rename_i hg
        cases hc : G.const x with
        | none => exact pe_stuck
        | some d =>
          obtain ⟨v, u, hm, rv, rep⟩ := g.const x d hc
          refine peI (pe_glob (glB_gl hg) hm rv (dunder_debug hd').1) fun σ H Q ⟨M, O, ρ, env, st, S, E, ok⟩ => ?_
          exact Ok.done S ok (rep M ρ H)
      · exact pe_stuck
theorem snd_const {c : Const} {j : Nat} {p : Pos} : PE X (.Constant c j p) (tE X.K W fun _ st => Res.of (constD c) st) := by
  cases c with
  | none => exact peI pe_non fun σ H Q ⟨M, O, ρ, env, st, S, E, ok⟩ => Ok.done S ok RepV.non
  | bool b => exact peI pe_bl fun σ H Q ⟨M, O, ρ, env, st, S, E, ok⟩ => Ok.done S ok (RepV.bl b)
  | int b => exact peI pe_int fun σ H Q ⟨M, O, ρ, env, st, S, E, ok⟩ => Ok.done S ok (RepV.int b)
  | str b => exact peI pe_str fun σ H Q ⟨M, O, ρ, env, st, S, E, ok⟩ => Ok.done S ok (RepV.str b)
  | _ => exact pe_stuck
theorem snd_bin (hr : Snd T L G k r) (g : Good T L G k W X) {op : Operator} {a b : Expr} {p : Pos} :
    PE X (.BinOp a op b p) (tE X.K W fun env st => (r.E X.N X.env.scope a env st).bind fun x st1 => (r.E X.N X.env.scope b env st1).bind fun y st2 => Res.of (opD op x y) st2) := by
  refine peI (pe_op op_rD (hr.ex W X g a) (hr.ex W X g b)) fun σ H Q ⟨M, O, ρ, env, st, S, E, ok⟩ => ?_
  refine ⟨M, O, ρ, env, st, S, E, ok.bind E S fun dx st1 x M1 ρ1 H1 _ e1 S1 E1 q1 ok1 => ?_⟩
  refine ⟨M1, O, ρ1, env, st1, S1, E1, ok1.bind E1 S1 fun dy st2 y M2 ρ2 H2 _ e2 S2 E2 q2 ok2 => ?_⟩
  obtain ⟨d, hd, ok3⟩ := ok2.of
  exact ⟨M2, ρ2, st2, dx, dy, d, S2, RepV.mono S1.sub e2 dx x q1, q2, hd, ok3⟩
theorem snd_notE (hr : Snd T L G k r) (g : Good T L G k W X) {a : Expr} {p : Pos} : PE X (.UnaryOp .Not a p) (tE X.K W (boolOf (fun d => (blOf d).map fun b => .bl (!b)) (r.E X.N X.env.scope a))) := by
  refine peI (pe_not (hr.ex W X g a)) fun σ H Q ⟨M, O, ρ, env, st, S, E, ok⟩ => ?_
  refine ⟨M, O, ρ, env, st, S, E, Ok.bind E S ok fun dx st1 x M1 ρ1 H1 _ e1 S1 E1 q1 ok1 => ?_⟩
  obtain ⟨d, hd, ok2⟩ := ok1.of
  cases dx with
  | bl b =>
    cases hd
    obtain rfl := q1.bl_
    exact ⟨b, rfl, ok2.done S1 (RepV.bl _)⟩
  | _ => cases hd
theorem snd_neg (hr : Snd T L G k r) (g : Good T L G k W X) {a : Expr} {p : Pos} : PE X (.UnaryOp .USub a p) (tE X.K W (boolOf (unD .USub) (r.E X.N X.env.scope a))) := by
  refine peI (pe_un un_neg_rD (hr.ex W X g a)) fun σ H Q ⟨M, O, ρ, env, st, S, E, ok⟩ => ?_
  refine ⟨M, O, ρ, env, st, S, E, Ok.bind E S ok fun dx st1 x M1 ρ1 H1 _ e1 S1 E1 q1 ok1 => ?_⟩
  obtain ⟨d, hd, ok2⟩ := ok1.of
  exact ⟨M1, ρ1, st1, dx, d, S1, q1, hd, ok2⟩
theorem snd_andE (hr : Snd T L G k r) (g : Good T L G k W X) {a b : Expr} {rest : List Expr} {p : Pos} : PE X (.BoolOp .And (a :: b :: rest) p)
    (tE X.K W fun env st => (boolOf blOf (r.E X.N X.env.scope a) env st).bind fun k st1 => if k = true then r.E X.N X.env.scope (.BoolOp .And (b :: rest) p) env st1 else .ok (.bl false) st1) := by
  refine peI (pe_and (hr.ex W X g a) (hr.ex W X g (.BoolOp .And (b :: rest) p))) fun σ H Q ⟨M, O, ρ, env, st, S, E, ok⟩ => ?_
  refine ⟨M, O, ρ, env, st, S, E, ?_⟩
  cases ha : r.E X.N X.env.scope a env st with
  | stuck => unfold boolOf at ok; simp only [ha] at ok; exact ok.stuckR
  | exc c ns ds st1 => unfold boolOf at ok; simp only [ha] at ok; exact ok
  | ok dx st1 =>
    intro x M1 ρ1 H1 e1 S1 q1
    unfold boolOf at ok
    simp only [ha, Res.bind] at ok
    cases dx with
    | bl c =>
      obtain rfl := q1.bl_
      refine ⟨c, rfl, ?_⟩
      cases c with
      | true => exact ⟨M1, O, ρ1, env, st1, S1, E.mono S e1, Ok.later ok e1⟩
      | false => exact (Ok.later ok e1).done S1 (RepV.bl _)
    | _ => exact ok.stuckR
theorem snd_orE (hr : Snd T L G k r) (g : Good T L G k W X) {a b : Expr} {rest : List Expr} {p : Pos} : PE X (.BoolOp .Or (a :: b :: rest) p)
    (tE X.K W fun env st => (boolOf blOf (r.E X.N X.env.scope a) env st).bind fun k st1 => if k = true then .ok (.bl true) st1 else r.E X.N X.env.scope (.BoolOp .Or (b :: rest) p) env st1) := by
  refine peI (pe_or (hr.ex W X g a) (hr.ex W X g (.BoolOp .Or (b :: rest) p))) fun σ H Q ⟨M, O, ρ, env, st, S, E, ok⟩ => ?_
  refine ⟨M, O, ρ, env, st, S, E, ?_⟩
  cases ha : r.E X.N X.env.scope a env st with
  | stuck => unfold boolOf at ok; simp only [ha] at ok; exact ok.stuckR
  | exc c ns ds st1 => unfold boolOf at ok; simp only [ha] at ok; exact ok
  | ok dx st1 =>
    intro x M1 ρ1 H1 e1 S1 q1
    unfold boolOf at ok
    simp only [ha, Res.bind] at ok
    cases dx with
    | bl c =>
      obtain rfl := q1.bl_
      refine ⟨c, rfl, ?_⟩
      cases c with
      | false => exact ⟨M1, O, ρ1, env, st1, S1, E.mono S e1, Ok.later ok e1⟩
      | true => exact (Ok.later ok e1).done S1 (RepV.bl _)
    | _ => exact ok.stuckR
theorem snd_ife (hr : Snd T L G k r) (g : Good T L G k W X) {c a b : Expr} {p : Pos} : PE X (.IfExp c a b p)
    (tE X.K W fun env st => (r.T X.N X.env.scope c env st).bind fun k st1 => if k = true then r.E X.N X.env.scope a env st1 else r.E X.N X.env.scope b env st1) := by
  refine peI (pe_ifExp (hr.te W X g c) (hr.ex W X g a) (hr.ex W X g b)) fun σ H Q ⟨M, O, ρ, env, st, S, E, ok⟩ => ?_
  refine ⟨M, O, ρ, env, st, S, E, ok.bind E S fun kk st1 x M1 ρ1 H1 _ e1 S1 E1 q1 ok1 => ?_⟩
  cases q1
  cases kk with
  | true => exact ⟨M1, O, ρ1, env, st1, S1, E1, ok1⟩
  | false => exact ⟨M1, O, ρ1, env, st1, S1, E1, ok1⟩
theorem small_big {n : Nat} (h : n ≤ 1000) : n ≤ sizeLine := by rw [big_eq]; unfold big; omega
theorem denA_len {f : Expr → EX} : ∀ {es : List Expr} {env : Env} {st st' : Store} {ds : List D}, denA f es env st = .ok ds st' → ds.length = es.length
  | [], env, st, st', ds, h => by
    have h' : Res.ok [] st = .ok ds st' := h
    cases h'
    rfl
  | e :: es, env, st, st', ds, h => by
    unfold denA at h
    cases hs : (isStar e || es.any isStar) with
    | true => rw [hs] at h; cases h
    | false =>
      rw [hs] at h
      have h' : ((f e env st).bind fun d st1 => (denA f es env st1).bind fun ds st2 => .ok (d :: ds) st2) = .ok ds st' := h
      cases h1 : f e env st with
      | stuck => rw [h1] at h'; cases h'
      | exc c ns es' st1 => rw [h1] at h'; cases h'
      | ok d st1 =>
        rw [h1] at h'
        have h'' : ((denA f es env st1).bind fun ds st2 => .ok (d :: ds) st2) = .ok ds st' := h'
        cases h2 : denA f es env st1 with
        | stuck => rw [h2] at h''; cases h''
        | exc c ns es' st2 => rw [h2] at h''; cases h''
        | ok es2 st2 =>
          rw [h2] at h''
          have h3 : Res.ok (d :: es2) st2 = .ok ds st' := h''
          cases h3
          rw [List.length_cons, List.length_cons, denA_len h2]
theorem snd_tup (hr : Snd T L G k r) (g : Good T L G k W X) {es : List Expr} {j : Nat} {p : Pos} : PE X (.Tuple es j p)
    (tE X.K W (if es.length ≤ 1000 then fun env st => (denA (r.E X.N X.env.scope) es env st).bind fun ds st1 => .ok (.tup ds) st1 else stuckE)) := by
  split
  · rename_i hl
    refine peI (pe_tup (snd_A hr g es)) fun σ H Q ⟨M, O, ρ, env, st, S, E, ok⟩ => ?_
    refine ⟨M, O, ρ, env, st, S, E, ok.bind E S fun ds st1 xs M1 ρ1 H1 hd e1 S1 E1 q1 ok1 => ?_⟩
    exact ⟨by rw [q1.length, denA_len hd]; exact small_big hl, fun q hq => ok1 (.ref q) M1 ρ1 _ (Ext.lay hq) (S1.lay hq) (RepV.lay_tup S1 hq q1)⟩
  · exact pe_stuck
theorem snd_lst (hr : Snd T L G k r) (g : Good T L G k W X) {es : List Expr} {p : Pos} : PE X (.List es p)
    (tE X.K W (if es.length ≤ 1000 then fun env st => (denA (r.E X.N X.env.scope) es env st).bind fun ds st1 => .ok (.lst ds) st1 else stuckE)) := by
  split
  · rename_i hl
    refine peI (pe_lst (snd_A hr g es)) fun σ H Q ⟨M, O, ρ, env, st, S, E, ok⟩ => ?_
    refine ⟨M, O, ρ, env, st, S, E, ok.bind E S fun ds st1 xs M1 ρ1 H1 hd e1 S1 E1 q1 ok1 => ?_⟩
    exact ⟨by rw [q1.length, denA_len hd]; exact small_big hl, fun q hq => ok1 (.ref q) M1 ρ1 _ (Ext.lay hq) (S1.lay hq) (RepV.lay_lst S1 hq q1)⟩
  · exact pe_stuck
/-- a part of a slice -/
theorem snd_part (hr : Snd T L G k r) (g : Good T L G k W X) (o : Option Expr) : PO X o (tG REq X.K W (partX (r.E X.N X.env.scope) o)) := by
  cases o with
  | none =>
    refine ⟨fun pins s σ H Q I h => po_none.run pins s σ H Q I ?_⟩
    obtain ⟨M, O, ρ, env, st, S, E, ok⟩ := h
    exact ok.done S rfl
  | some l =>
    refine ⟨fun pins s σ H Q I h => (po_some (hr.ex W X g l)).run pins s σ H Q I ?_⟩
    obtain ⟨M, O, ρ, env, st, S, E, ok⟩ := h
    refine ⟨M, O, ρ, env, st, S, E, Ok.bind E S ok fun dx st1 x M1 ρ1 H1 _ e1 S1 E1 q1 ok1 => ?_⟩
    obtain ⟨d, hd, ok2⟩ := ok1.of
    cases dx with
    | int i =>
      cases hd
      obtain rfl := q1.int_
      exact ⟨i, rfl, ok2.done S1 rfl⟩
    | _ => cases hd
theorem snd_slice (hr : Snd T L G k r) (g : Good T L G k W X) {a : Expr} {lo hi : Option Expr} {p q : Pos} : PE X (.Subscript a (.Slice lo hi none q) p)
    (tE X.K W fun env st => (borrow (r.E X.N X.env.scope) X.N X.env.scope a env st).bind fun x st1 => (partX (r.E X.N X.env.scope) lo env st1).bind fun i st2 => (partX (r.E X.N X.env.scope) hi env st2).bind fun j st3 => Res.of (slD x i j) st3) := by
  refine peI (pe_slice sl_rSlD (snd_borrow hr g a) (snd_part hr g lo) (snd_part hr g hi)) fun σ H Q ⟨M, O, ρ, env, st, S, E, ok⟩ => ?_
  refine ⟨M, O, ρ, env, st, S, E, ok.bind E S fun dx st1 x M1 ρ1 H1 _ e1 S1 E1 q1 ok1 => ?_⟩
  refine ⟨M1, O, ρ1, env, st1, S1, E1, ok1.bind E1 S1 fun i st2 i' M2 ρ2 H2 _ e2 S2 E2 q2 ok2 => ?_⟩
  refine ⟨M2, O, ρ2, env, st2, S2, E2, ok2.bind E2 S2 fun j st3 j' M3 ρ3 H3 _ e3 S3 E3 q3 ok3 => ?_⟩
  cases q2
  cases q3
  obtain ⟨d, hd, ok4⟩ := ok3.of
  exact ⟨M3, ρ3, st3, dx, d, S3, RepB.mono S2 e3 (RepB.mono S1 e2 q1), hd, ok4⟩
theorem snd_ix (hr : Snd T L G k r) (g : Good T L G k W X) {a i : Expr} {p : Pos} (hs : PlainIx i) : PE X (.Subscript a i p)
    (tE X.K W fun env st => (borrow (r.E X.N X.env.scope) X.N X.env.scope a env st).bind fun x st1 => (r.E X.N X.env.scope i env st1).bind fun k st2 => Res.of (ixD x k st2) st2) := by
  refine peI (pe_ix ix_rIxD (snd_borrow hr g a) (hr.ex W X g i) hs) fun σ H Q ⟨M, O, ρ, env, st, S, E, ok⟩ => ?_
  refine ⟨M, O, ρ, env, st, S, E, ok.bind E S fun dx st1 x M1 ρ1 H1 _ e1 S1 E1 q1 ok1 => ?_⟩
  refine ⟨M1, O, ρ1, env, st1, S1, E1, ok1.bind E1 S1 fun dy st2 y M2 ρ2 H2 _ e2 S2 E2 q2 ok2 => ?_⟩
  obtain ⟨d, hd, ok3⟩ := ok2.of
  exact ⟨M2, ρ2, st2, dx, dy, d, S2, RepB.mono S1 e2 q1, q2, hd, ok3⟩
end
end MI

set_option maxRecDepth 100000
set_option maxHeartbeats 4000000
namespace MI
open PySem PySem.Spec PyProof.Rows L2
variable [LD : LamDefs]
section
variable {T : Tab} {L : Dn} {G : Glb} {k : Nat} {r : Dn} {X : Cx} {W : WX}
theorem denA_stuck {f : Expr → EX} {es : List Expr} (h : (es.any isStar) = true) (env : Env) (st : Store) : denA f es env st = .stuck := denA_star h env st
theorem pe_callS0 {CX : CXT} {k : Nat} {f : Addr} {fd : FuncData} {ps : List Str} {sp : Sp} {E : L2.St → XK} {x : Str} {p pos : Pos} (F : FnOk X.prog X.w X.K X.mg X.base CX k f fd ps sp) (hr : Room k X.A) (hg : Gl X x) (hm : X.mg x = some (.ref f)) (hk : PySem.W.keepIn X.K (.ref f) = true) (hb : L2.Binds X.K fd ps []) (hx : ∀ σ, PassesAt CX X σ (E σ))
    (hdb : (x == ("__debug__" : Str)) = false) : PE X (.Call (.Name x p) [] [] pos) (fun σ H Q => sp [] H Q (E σ)) := by
  refine ⟨fun pins s σ H Q I h => ?_⟩
  refine wpAny_Call_Name_kw (ld_glob I hg hm ?_ hdb)
  exact PySem.W.callWith_K0 I.kIn hk (run_fnS (us := []) F hr hb (hx σ) I .nil h)
theorem any_split {e : Expr} {es : List Expr} (h : ((e :: es).any isStar) = false) : isStar e = false ∧ (es.any isStar) = false := by
  simpa only [List.any_cons, Bool.or_eq_false_iff] using h
/-- f(..), f an own function -/
theorem snd_call (hr : Snd T L G k r) (g : Good T L G k W X) {f : Str} {args : List Expr} {p q : Pos} (hd : dunder f = false) (hg : glB X.env.scope f = true) (hf : G.isFn f = true) :
    PE X (.Call (.Name f p) args [] q) (tE X.K W fun env st => (denA (r.E X.N X.env.scope) args env st).bind fun ds st1 => T f ds st1) := by
  obtain ⟨fa, fd, ps, hm, hk, hb, F, hl⟩ := g.fn f hf
  cases hs : args.any isStar with
  | true =>
    refine ⟨fun pins s σ H Q I h => ?_⟩
    obtain ⟨M, O, ρ, env, st, S, E, ok⟩ := h
    have ok' : Ok (RepV X.K) X.K (wAt W σ) M ρ H ((denA (r.E X.N X.env.scope) args env st).bind fun ds st1 => T f ds st1) Q := ok
    rw [denA_stuck hs] at ok'
    exact ok'.stuckR
  | false =>
    have rd : ∀ σ H (Q : VK), tE X.K W (fun env st => (denA (r.E X.N X.env.scope) args env st).bind fun ds st1 => T f ds st1) σ H Q →
        tA X.K W (denA (r.E X.N X.env.scope) args) σ H fun vs H1 => spOf X.K ps.length (T f) vs H1 Q (WE W σ) := fun σ H Q ⟨M, O, ρ, env, st, S, E, ok⟩ =>
      ⟨M, O, ρ, env, st, S, E, ok.bind E S fun ds st1 vs M1 ρ1 H1 _ e1 S1 E1 q1 ok1 => by
        cases e : T f ds st1 with
        | stuck => rw [e] at ok1; exact ok1.stuckR
        | exc c ns es st2 => exact ⟨by rw [q1.length]; exact hl ds st1 (by rw [e]; exact fun z => nomatch z), M1, ρ1, st1, ds, S1, q1, ok1⟩
        | ok d st2 => exact ⟨by rw [q1.length]; exact hl ds st1 (by rw [e]; exact fun z => nomatch z), M1, ρ1, st1, ds, S1, q1, ok1⟩⟩
    cases args with
    | nil =>
      refine peI (pe_callS0 F g.room (glB_gl hg) hm hk hb (passAt g.takes) (dunder_debug hd).1) fun σ H Q h => ?_
      obtain ⟨M, O, ρ, env, st, S, E, ok⟩ := h
      have := rd σ H Q ⟨M, O, ρ, env, st, S, E, ok⟩
      obtain ⟨M', O', ρ', env', st', S', E', ok'⟩ := this
      exact ok'.done S' RepL.nil
    | cons e es =>
      obtain ⟨h1, h2⟩ := any_split hs
      exact peI (pe_callS F g.room (glB_gl hg) hm hk hb (passAt g.takes) (snd_A hr g (e :: es)) (dunder_debug hd).1 (star_cons h1) (back_any h2)) rd
theorem paired_of {K : PySem.W.Frag} {M : Mu} {ρ : List Addr} {H : Hp} : ∀ {ds : List D} {vs : List V}, RepL K M ρ H ds vs → Paired (RepB K M ρ H) ds vs
  | [], vs, h => by unfold RepL at h; subst h; exact .nil
  | d :: ds, vs, h => by
    unfold RepL at h
    obtain ⟨y, ys, rfl, h1, h2⟩ := h
    exact .cons (.inl h1) (paired_of h2)
/-- what a name among bltNames is -/
theorem blt_is {f : Str} (h : bltNames.contains f = true) : f = "len" ∨ f = "int" ∨ f = "str" ∨ f = "tuple" ∨ f = "list" ∨ f = "max" ∨ f = "min" := by
  unfold bltNames at h
  simpa [List.contains_iff_mem] using h
theorem blt_call (hc : X.calm = true) {f : Str} (h : bltNames.contains f = true) : (∃ id, bootBuiltins f = some (.builtin id) ∧ CallR X (.builtin id) (rCallD X.K (bltD f))) ∨ (∃ id, bootBuiltins f = some (.type id) ∧ CallR X (.type id) (rCallD X.K (bltD f))) := by
  rcases blt_is h with rfl | rfl | rfl | rfl | rfl | rfl | rfl
  · refine .inl ⟨_, PySem.boot_len, ?_⟩
    have e : bltD "len" = fun ds st => lenF ds st := by
      funext ds st
      unfold bltD
      rw [if_pos rfl]
    rw [e]; exact call_lenD
  · refine .inr ⟨_, PyProof.Rows.boot_int, ?_⟩
    have e : bltD "int" = fun ds st => intF ds := by
      funext ds st
      unfold bltD
      rw [if_neg (by decide), if_pos rfl]
    rw [e]; exact call_intD
  · refine .inr ⟨_, PyProof.Rows.boot_str, ?_⟩
    have e : bltD "str" = fun ds st => strF ds := by
      funext ds st
      unfold bltD
      rw [if_neg (by decide), if_neg (by decide), if_pos rfl]
    rw [e]; exact call_strD
  · refine .inr ⟨_, PyProof.Rows.boot_tuple, ?_⟩
    have e : bltD "tuple" = fun ds st => tupF ds := by
      funext ds st
      unfold bltD
      rw [if_neg (by decide), if_neg (by decide), if_neg (by decide), if_pos rfl]
    rw [e]; exact call_tupD
  · refine .inr ⟨_, PyProof.Rows.boot_list, ?_⟩
    have e : bltD "list" = fun ds st => lstF ds := by
      funext ds st
      unfold bltD
      rw [if_neg (by decide), if_neg (by decide), if_neg (by decide), if_neg (by decide), if_pos rfl]
    rw [e]; exact call_lstD
  · refine .inl ⟨_, PyProof.Rows.boot_max, ?_⟩
    have e : bltD "max" = fun ds st => maxF ds := by
      funext ds st
      unfold bltD
      rw [if_neg (by decide), if_neg (by decide), if_neg (by decide), if_neg (by decide), if_neg (by decide), if_pos rfl]
    rw [e]; exact call_maxD hc
  · refine .inl ⟨_, PyProof.Rows.boot_min, ?_⟩
    have e : bltD "min" = fun ds st => minF ds := by
      funext ds st
      unfold bltD
      rw [if_neg (by decide), if_neg (by decide), if_neg (by decide), if_neg (by decide), if_neg (by decide), if_neg (by decide), if_pos rfl]
    rw [e]; exact call_minD hc
theorem pe_bltcall (g : Good T L G k W X) {f : Str} {e : Expr} {es : List Expr} {p q : Pos} {t : TA} (hd : dunder f = false) (hg : glB X.env.scope f = true) (hf : G.free f = true) (hb : bltNames.contains f = true)
    (hs : ((e :: es).any isStar) = false) (ha : PA X (e :: es) t) : PE X (.Call (.Name f p) (e :: es) [] q) (tCB (rCallD X.K (bltD f)) t) := by
  obtain ⟨h1, h2⟩ := any_split hs
  rcases blt_call g.calm hb with ⟨id, hv, hc⟩ | ⟨id, hv, hc⟩
  · exact pe_callB hc (glB_gl hg) (g.free f hf) hv ha (dunder_debug hd).2.2 (dunder_debug hd).1 (star_cons h1) (back_any h2)
  · exact pe_callTy hc (glB_gl hg) (g.free f hf) hv ha (dunder_debug hd).2.2 (dunder_debug hd).1 (star_cons h1) (back_any h2)
theorem snd_blt1 (hr : Snd T L G k r) (g : Good T L G k W X) {f : Str} {a : Expr} {p q : Pos} (hd : dunder f = false) (hg : glB X.env.scope f = true) (hf : G.free f = true) (hb : bltNames.contains f = true) (hs : isStar a = false) :
    PE X (.Call (.Name f p) [a] [] q) (tE X.K W fun env st => (borrow (r.E X.N X.env.scope) X.N X.env.scope a env st).bind fun x st1 => Res.of (bltD f [x] st1) st1) := by
  refine peI (pe_bltcall g hd hg hf hb (by simp [hs]) (pa_cons (snd_borrow hr g a) pa_nil (star_cons hs))) fun σ H Q ⟨M, O, ρ, env, st, S, E, ok⟩ => ?_
  refine ⟨M, O, ρ, env, st, S, E, ok.bind E S fun dx st1 x M1 ρ1 H1 _ e1 S1 E1 q1 ok1 => ?_⟩
  obtain ⟨d, hd', ok2⟩ := ok1.of
  exact ⟨M1, ρ1, st1, [dx], d, S1, .cons q1 .nil, hd', ok2⟩
theorem snd_bltN (hr : Snd T L G k r) (g : Good T L G k W X) {f : Str} {a : Expr} {as : List Expr} {p q : Pos} (hd : dunder f = false) (hg : glB X.env.scope f = true) (hf : G.free f = true) (hb : bltNames.contains f = true) :
    PE X (.Call (.Name f p) (a :: as) [] q) (tE X.K W fun env st => (denA (r.E X.N X.env.scope) (a :: as) env st).bind fun ds st1 => Res.of (bltD f ds st1) st1) := by
  cases hs : (a :: as).any isStar with
  | true =>
    refine ⟨fun pins s σ H Q I h => ?_⟩
    obtain ⟨M, O, ρ, env, st, S, E, ok⟩ := h
    have ok' : Ok (RepV X.K) X.K (wAt W σ) M ρ H ((denA (r.E X.N X.env.scope) (a :: as) env st).bind fun ds st1 => Res.of (bltD f ds st1) st1) Q := ok
    rw [denA_stuck hs] at ok'
    exact ok'.stuckR
  | false =>
    refine peI (pe_bltcall g hd hg hf hb hs (snd_A hr g (a :: as))) fun σ H Q ⟨M, O, ρ, env, st, S, E, ok⟩ => ?_
    refine ⟨M, O, ρ, env, st, S, E, ok.bind E S fun ds st1 xs M1 ρ1 H1 _ e1 S1 E1 q1 ok1 => ?_⟩
    obtain ⟨d, hd', ok2⟩ := ok1.of
    exact ⟨M1, ρ1, st1, ds, d, S1, paired_of q1, hd', ok2⟩
theorem tyNames_boot : ∀ n ∈ tyNames, bootBuiltins (Str.ofString n) = some (.type n) := by decide +kernel
theorem names_pa (g : Good T L G k W X) : ∀ {ts : List Expr} {ns : List String}, typeNames G X.env.scope ts = some ns → (∀ n ∈ ns, n ∈ tyNames) ∧ ts.length = ns.length ∧ (ts.any isStar) = false ∧ PA X ts (fun σ H Q => Q (ns.map V.ty) H)
  | [], ns, h => by cases h; exact ⟨fun _ h => by simp at h, rfl, rfl, pa_nil⟩
  | e :: es, ns, h => by
    cases e with
    | Name x p =>
      unfold typeNames at h
      split at h
      · rename_i hc
        simp only [Bool.and_eq_true, Bool.not_eq_true'] at hc
        cases hn : tyNames.find? (fun n => Str.ofString n == x) with
        | none => rw [hn] at h; cases h
        | some n =>
          rw [hn] at h
          cases hes : typeNames G X.env.scope es with
          | none => rw [hes] at h; cases h
          | some l =>
            rw [hes] at h; cases h
            obtain ⟨i1, i2, i3, i4⟩ := names_pa g hes
            have hx : Str.ofString n = x := by simpa using List.find?_some hn
            have hm : n ∈ tyNames := List.mem_of_find?_eq_some hn
            refine ⟨fun m hm' => ?_, by rw [List.length_cons, List.length_cons, i2], by simpa [isStar] using i3, ?_⟩
            · rcases List.mem_cons.mp hm' with e | e
              · rw [e]; exact hm
              · exact i1 m e
            · have hv : bootBuiltins x = some (.type n) := by rw [← hx]; exact tyNames_boot n hm
              exact pa_cons (pe_bltn (v := .ty n) (glB_gl hc.1.1) (g.free x hc.1.2) hv rfl (dunder_debug hc.2).2.2 (dunder_debug hc.2).1) i4 (star_cons rfl)
      · cases h
    | _ => cases h
theorem snd_isi1 (hr : Snd T L G k r) (g : Good T L G k W X) {f : Str} {a : Expr} {t : Str} {p q tp : Pos} {n : String} (hd : dunder f = false) (hg : glB X.env.scope f = true) (hf : G.free f = true) (hb : f = "isinstance") (hs : isStar a = false)
    (ht : typeNames G X.env.scope [.Name t tp] = some [n]) :
    PE X (.Call (.Name f p) [a, .Name t tp] [] q) (tE X.K W fun env st => (r.E X.N X.env.scope a env st).bind fun x st1 => (Res.of (isTy x st1 [n]) st1).bind fun k st2 => .ok (.bl k) st2) := by
  subst hb
  obtain ⟨i1, _, _, i4⟩ := names_pa g ht
  refine peI (pe_callB call_isi (glB_gl hg) (g.free _ hf) PyProof.Rows.boot_isinstance (pa_cons (hr.ex W X g a) i4 (star_cons hs)) (dunder_debug hd).2.2 (dunder_debug hd).1 (star_cons hs) (back_any rfl)) fun σ H Q ⟨M, O, ρ, env, st, S, E, ok⟩ => ?_
  refine ⟨M, O, ρ, env, st, S, E, ok.bind E S fun dx st1 x M1 ρ1 H1 _ e1 S1 E1 q1 ok1 => ?_⟩
  cases hk : tyNS dx st1 with
  | none => unfold isTy at ok1; rw [hk] at ok1; exact ok1.stuckR
  | some ty =>
    unfold isTy at ok1
    rw [hk] at ok1
    have ok2 : Ok (RepV X.K) X.K (wAt W σ) M1 ρ1 H1 (.ok (.bl ([n].any fun b => sub1 ty b)) st1) Q := ok1
    refine ⟨x, .ty n, .type ty, .type n, _, rfl, .ty n, tyX_of S1 q1 hk, kitOne_of hk (i1 n (by simp)), ?_⟩
    have e : sub1 ty n = ([n].any fun b => sub1 ty b) := by simp
    rw [e]
    exact ok2.done S1 (RepV.bl _)
theorem paired_ty : ∀ ns : List String, Paired ClsV (ns.map V.ty) (ns.map Value.type)
  | [] => .nil
  | n :: ns => .cons (.ty n) (paired_ty ns)
theorem snd_isiT (hr : Snd T L G k r) (g : Good T L G k W X) {f : Str} {a : Expr} {ts : List Expr} {j : Nat} {p q tp : Pos} {ns : List String} (hd : dunder f = false) (hg : glB X.env.scope f = true) (hf : G.free f = true) (hb : f = "isinstance") (hs : isStar a = false)
    (hl : ts.length ≤ 100) (ht : typeNames G X.env.scope ts = some ns) :
    PE X (.Call (.Name f p) [a, .Tuple ts j tp] [] q) (tE X.K W fun env st => (r.E X.N X.env.scope a env st).bind fun x st1 => (Res.of (isTy x st1 ns) st1).bind fun k st2 => .ok (.bl k) st2) := by
  subst hb
  obtain ⟨i1, i2, _, i4⟩ := names_pa g ht
  refine peI (pe_callB call_isiT (glB_gl hg) (g.free _ hf) PyProof.Rows.boot_isinstance (pa_cons (hr.ex W X g a) (pa_cons (pe_tup i4) pa_nil (star_cons rfl)) (star_cons hs)) (dunder_debug hd).2.2 (dunder_debug hd).1 (star_cons hs) (back_any rfl)) fun σ H Q ⟨M, O, ρ, env, st, S, E, ok⟩ => ?_
  refine ⟨M, O, ρ, env, st, S, E, ok.bind E S fun dx st1 x M1 ρ1 H1 _ e1 S1 E1 q1 ok1 => ?_⟩
  refine ⟨by rw [List.length_map, ← i2]; exact small_big (by omega), fun tq htq => ?_⟩
  cases hk : tyNS dx st1 with
  | none => unfold isTy at ok1; rw [hk] at ok1; exact ok1.stuckR
  | some ty =>
    unfold isTy at ok1
    rw [hk] at ok1
    have ok2 : Ok (RepV X.K) X.K (wAt W σ) M1 ρ1 H1 (.ok (.bl (ns.any fun b => sub1 ty b)) st1) Q := ok1
    have el := Ext.lay (M := M1) (r := ρ1) (o := .tup (ns.map V.ty)) htq
    exact ⟨x, tq, ns.map V.ty, .type ty, ns.map Value.type, _, rfl, upd_same, paired_ty ns, tyX_of (S1.lay htq) (RepV.mono S1.sub el dx x q1) hk, kitAny_of hk i1, (ok2.later el).done (S1.lay htq) (RepV.bl _)⟩
end
end MI

set_option maxRecDepth 100000
set_option maxHeartbeats 4000000
namespace MI
open PySem PySem.Spec PyProof.Rows L2
variable [LD : LamDefs]
section
variable {T : Tab} {L : Dn} {G : Glb} {k : Nat} {r : Dn} {X : Cx} {W : WX}
theorem mt_lstripD : MtR X "str.lstrip" (fun x xs H Q => ∃ M ρ st dx ds d, RelS X.K M ρ H st ∧ RepV X.K M ρ H dx x ∧ Paired (RepB X.K M ρ H) ds xs ∧ methD "lstrip" dx ds = some d ∧ Ok (RepV X.K) X.K E0 M ρ H (.ok d st) Q) := by
  intro pins s σ H x xs v us Q I rx rs h
  obtain ⟨M, ρ, st, dx, ds, d, S, hx, hp, hf, ok⟩ := h
  unfold methD at hf
  rw [if_pos rfl] at hf
  split at hf
  · split at hf
    · rename_i a b hz
      cases hf
      obtain ⟨w, rfl, hw⟩ := one_of hp
      obtain rfl := hx.str_
      obtain rfl := (hw.val fun _ e => by cases e).str_
      exact mt_lstripChars pins s σ H _ _ v us Q I rx rs ⟨a, b, rfl, rfl, by rw [big_eq]; exact hz, ok.done S (RepV.str _)⟩
    · cases hf
  · cases hf
theorem join_rep {K : PySem.W.Frag} {M : Mu} {ρ : List Addr} {H : Hp} {a : Str} {ds : List D} {d : D} {xs : List V} (h : joinD a ds = some d) (l : RepL K M ρ H ds xs) :
    ∃ ys : List Str, xs = ys.map V.str ∧ (ys.map (·.length)).sum + ys.length * a.length ≤ 16777216 ∧ d = .str (Txt.join a ys) := by
  unfold joinD at h
  split at h
  · rename_i ys hy
    split at h
    · rename_i hz
      cases h
      rw [strsOf_map hy] at l
      exact ⟨ys, repL_str l, hz, rfl⟩
    · cases h
  · cases h
theorem mt_joinD : MtR X "str.join" (fun x xs H Q => ∃ M ρ st dx ds d, RelS X.K M ρ H st ∧ RepV X.K M ρ H dx x ∧ Paired (RepB X.K M ρ H) ds xs ∧ methD "join" dx ds = some d ∧ Ok (RepV X.K) X.K E0 M ρ H (.ok d st) Q) := by
  intro pins s σ H x xs v us Q I rx rs h
  obtain ⟨M, ρ, st, dx, ds, d, S, hx, hp, hf, ok⟩ := h
  unfold methD at hf
  rw [if_neg (by decide), if_pos rfl] at hf
  split at hf
  · obtain ⟨w, rfl, hw⟩ := one_of hp
    obtain rfl := hx.str_
    obtain ⟨a, ys, rfl, q, l⟩ := hw.lst
    obtain ⟨zs, rfl, hz, rfl⟩ := join_rep hf l
    exact mt_join pins s σ H _ _ v us Q I rx rs ⟨_, a, zs, rfl, rfl, .inl (SqL.of q), hz, ok.done S (RepV.str _)⟩
  · obtain ⟨w, rfl, hw⟩ := one_of hp
    obtain rfl := hx.str_
    obtain ⟨a, ys, rfl, q, l⟩ := (hw.val fun _ e => by cases e).tup_
    obtain ⟨zs, rfl, hz, rfl⟩ := join_rep hf l
    exact mt_join pins s σ H _ _ v us Q I rx rs ⟨_, a, zs, rfl, rfl, .inr q, hz, ok.done S (RepV.str _)⟩
  · cases hf
theorem repl_strs {K : PySem.W.Frag} {M : Mu} {ρ : List Addr} {H : Hp} : ∀ ys : List Str, RepL K M ρ H (ys.map D.str) (ys.map V.str)
  | [] => RepL.nil
  | y :: ys => RepL.cons (RepV.str y) (repl_strs ys)
theorem mt_splitD : MtR X "str.split" (fun x xs H Q => ∃ M ρ st dx ds d, RelS X.K M ρ H st ∧ RepV X.K M ρ H dx x ∧ Paired (RepB X.K M ρ H) ds xs ∧ methD "split" dx ds = some d ∧ Ok (RepV X.K) X.K E0 M ρ H (.ok d st) Q) := by
  intro pins s σ H x xs v us Q I rx rs h
  obtain ⟨M, ρ, st, dx, ds, d, S, hx, hp, hf, ok⟩ := h
  unfold methD at hf
  rw [if_neg (by decide), if_neg (by decide), if_pos rfl] at hf
  split at hf
  · split at hf
    · rename_i a b hz
      cases hf
      obtain ⟨w, rfl, hw⟩ := one_of hp
      obtain rfl := hx.str_
      obtain rfl := (hw.val fun _ e => by cases e).str_
      refine mt_split pins s σ H _ _ v us Q I rx rs ⟨a, b, rfl, rfl, by simpa using hz.2, by rw [big_eq]; exact hz.1, fun p hp => ?_⟩
      exact ok (.ref p) M ρ _ (Ext.lay hp) (S.lay hp) (RepV.lay_lst S hp (repl_strs _))
    · cases hf
  · cases hf
theorem snd_meth (hr : Snd T L G k r) (g : Good T L G k W X) {o a : Expr} {m : Str} {ap cp : Pos} (hs : isStar a = false) (hb : noCallBase o = true) (hl : (ap.endLine == cp.line) = true) (hm : (m == "lstrip" || m == "join" || m == "split") = true) :
    PE X (.Call (.Attribute o m ap) [a] [] cp) (tE X.K W fun env st => (r.E X.N X.env.scope o env st).bind fun x st1 => (Res.of (strD x) st1).bind fun _ st1 => (borrow (r.E X.N X.env.scope) X.N X.env.scope a env st1).bind fun y st2 => Res.of (methD m x [y]) st2) := by
  by_cases h1 : m = "lstrip"
  · subst h1
    refine peI (pe_m1 PySem.F.slot_str_lstrip PySem.F.type_str_lstrip mt_lstripD (hr.ex W X g o) (snd_borrow hr g a) (star_cons hs) (base_of hb) hl) fun σ H Q h => ?_
    obtain ⟨M, O, ρ, env, st, S, E, ok⟩ := h
    refine ⟨M, O, ρ, env, st, S, E, ok.bind E S fun dx st1 x M1 ρ1 H1 _ e1 S1 E1 q1 ok1 => ?_⟩
    have hx : ∃ z, x = .str z := by
      cases dx with
      | str z => exact ⟨z, q1.str_⟩
      | _ => exact ok1.stuckR
    have ok1 : Ok (RepV X.K) X.K (wAt W σ) M1 ρ1 H1 ((borrow (r.E X.N X.env.scope) X.N X.env.scope a env st1).bind fun y st2 => Res.of (methD "lstrip" dx [y]) st2) Q := by
      cases dx with
      | str z => exact ok1
      | _ => exact ok1.stuckR
    refine ⟨hx, M1, O, ρ1, env, st1, S1, E1, ok1.bind E1 S1 fun dy st2 y M2 ρ2 H2 _ e2 S2 E2 q2 ok2 => ?_⟩
    obtain ⟨d, hd, ok3⟩ := ok2.of
    exact ⟨M2, ρ2, st2, dx, [dy], d, S2, RepV.mono S1.sub e2 dx x q1, .cons q2 .nil, hd, ok3⟩
  · by_cases h2 : m = "join"
    · subst h2
      refine peI (pe_m1 PySem.F.slot_str_join PySem.F.type_str_join mt_joinD (hr.ex W X g o) (snd_borrow hr g a) (star_cons hs) (base_of hb) hl) fun σ H Q h => ?_
      obtain ⟨M, O, ρ, env, st, S, E, ok⟩ := h
      refine ⟨M, O, ρ, env, st, S, E, ok.bind E S fun dx st1 x M1 ρ1 H1 _ e1 S1 E1 q1 ok1 => ?_⟩
      have hx : ∃ z, x = .str z := by
        cases dx with
        | str z => exact ⟨z, q1.str_⟩
        | _ => exact ok1.stuckR
      have ok1 : Ok (RepV X.K) X.K (wAt W σ) M1 ρ1 H1 ((borrow (r.E X.N X.env.scope) X.N X.env.scope a env st1).bind fun y st2 => Res.of (methD "join" dx [y]) st2) Q := by
        cases dx with
        | str z => exact ok1
        | _ => exact ok1.stuckR
      refine ⟨hx, M1, O, ρ1, env, st1, S1, E1, ok1.bind E1 S1 fun dy st2 y M2 ρ2 H2 _ e2 S2 E2 q2 ok2 => ?_⟩
      obtain ⟨d, hd, ok3⟩ := ok2.of
      exact ⟨M2, ρ2, st2, dx, [dy], d, S2, RepV.mono S1.sub e2 dx x q1, .cons q2 .nil, hd, ok3⟩
    · rw [Bool.or_eq_true, Bool.or_eq_true, beq_iff_eq, beq_iff_eq, beq_iff_eq] at hm
      rcases hm with (z | z) | z
      · exact absurd z h1
      · exact absurd z h2
      subst z
      refine peI (pe_m1 PySem.F.slot_str_split PySem.F.type_str_split mt_splitD (hr.ex W X g o) (snd_borrow hr g a) (star_cons hs) (base_of hb) hl) fun σ H Q h => ?_
      obtain ⟨M, O, ρ, env, st, S, E, ok⟩ := h
      refine ⟨M, O, ρ, env, st, S, E, ok.bind E S fun dx st1 x M1 ρ1 H1 _ e1 S1 E1 q1 ok1 => ?_⟩
      have hx : ∃ z, x = .str z := by
        cases dx with
        | str z => exact ⟨z, q1.str_⟩
        | _ => exact ok1.stuckR
      have ok1 : Ok (RepV X.K) X.K (wAt W σ) M1 ρ1 H1 ((borrow (r.E X.N X.env.scope) X.N X.env.scope a env st1).bind fun y st2 => Res.of (methD "split" dx [y]) st2) Q := by
        cases dx with
        | str z => exact ok1
        | _ => exact ok1.stuckR
      refine ⟨hx, M1, O, ρ1, env, st1, S1, E1, ok1.bind E1 S1 fun dy st2 y M2 ρ2 H2 _ e2 S2 E2 q2 ok2 => ?_⟩
      obtain ⟨d, hd, ok3⟩ := ok2.of
      exact ⟨M2, ρ2, st2, dx, [dy], d, S2, RepV.mono S1.sub e2 dx x q1, .cons q2 .nil, hd, ok3⟩
end
end MI

set_option maxRecDepth 100000
set_option maxHeartbeats 4000000
namespace MI
open PySem PySem.Spec PyProof.Rows L2
variable [LD : LamDefs]
section
variable {T : Tab} {L : Dn} {G : Glb} {k : Nat} {r : Dn} {X : Cx} {W : WX}
theorem snd_repl (hr : Snd T L G k r) (g : Good T L G k W X) {e o : Expr} {c y z y' z' : Str} (h : replOf e = some (c, o, y, z, y', z')) (hb : noCallBase o = true) :
    PE X e (tE X.K W fun env st => (r.E X.N X.env.scope o env st).bind fun d st1 => (Res.of (strD d) st1).bind fun x st2 => (Res.of (replD x y z) st2).bind fun x1 st3 => (Res.of (replD x1 y' z') st3).bind fun x2 st4 => Res.of (opD .Add (.str c) (.str x2)) st4) := by
  unfold replOf at h
  split at h
  · split at h
    · rename_i hc
      cases h
      obtain ⟨rfl, rfl, h1, h2, h3, h4⟩ := hc
      refine ⟨fun pins s σ H Q I hq => wpAny_BinOp (Calls.Constant_str ?_)⟩
      refine thn (CwR.pet_replT (CwR.pet_replC (hr.ex W X g o) h1 rfl (base_of hb) h3) h2 rfl rfl h4 pins { s with toks := s.toks + 1 } σ H (fun v H' => ∃ x2, v = .str x2 ∧ c.length + x2.length ≤ sizeLine ∧ Q (.str (c ++ x2)) H') (by show 1 ≤ s.toks + 1; omega) (I.tok _) ?_) fun u s2 hh => ?_
      · obtain ⟨M, O, ρ, env, st, S, E, ok⟩ := hq
        refine ⟨M, O, ρ, env, st, S, E, ok.bind E S fun d st1 x M1 ρ1 H1 _ e1 S1 E1 q1 ok1 => ?_⟩
        cases d with
        | str x0 =>
          obtain rfl := q1.str_
          have ok2 : Ok (RepV X.K) X.K (wAt W σ) M1 ρ1 H1 ((Res.of (replD x0 y z) st1).bind fun x1 st3 => (Res.of (replD x1 y' z') st3).bind fun x2 st4 => Res.of (opD .Add (.str c) (.str x2)) st4) Q := ok1
          unfold replD at ok2
          split at ok2
          · rename_i hl1
            have ok3 : Ok (RepV X.K) X.K (wAt W σ) M1 ρ1 H1 ((Res.of (if (Txt.replace x0 y z).length + ((Txt.replace x0 y z).length + 1) * z'.length ≤ 16777216 then some (Txt.replace (Txt.replace x0 y z) y' z') else none) st1).bind fun x2 st4 => Res.of (opD .Add (.str c) (.str x2)) st4) Q := ok2
            split at ok3
            · rename_i hl2
              refine ⟨x0, rfl, hl1, _, rfl, hl2, _, rfl, ?_⟩
              have ok4 : Ok (RepV X.K) X.K (wAt W σ) M1 ρ1 H1 (Res.of (opD .Add (.str c) (.str (Txt.replace (Txt.replace x0 y z) y' z'))) st1) Q := ok3
              unfold opD at ok4
              simp only at ok4
              split at ok4
              · rename_i hl3
                exact ⟨by rw [big_eq]; exact hl3, Ok.done S1 ok4 (RepV.str _)⟩
              · exact ok4.stuckR
            · exact ok3.stuckR
          · exact ok2.stuckR
        | _ => exact ok1.stuckR
      · obtain ⟨x, H2, I2, r2, x2, rfl, hl, q⟩ := hh
        exact op_add_str pins s2 σ H2 (.str c) (.str x2) _ u Q I2 ⟨_, rfl⟩ r2 ⟨c, x2, rfl, rfl, hl, q⟩
    · cases h
  · cases h
theorem rep_rg (K : PySem.W.Frag) (M : Mu) (ρ : List Addr) (H : Hp) (lo : Int) : ∀ (l : List Nat), RepL K M ρ H (l.map fun i => D.int (lo + (i : Nat))) (l.map fun i => V.int (lo + (i : Nat)))
  | [] => by unfold RepL; rfl
  | i :: l => by
    show RepL K M ρ H (D.int (lo + (i : Nat)) :: l.map fun i => D.int (lo + (i : Nat))) _
    unfold RepL
    exact ⟨_, _, rfl, RepV.int _, rep_rg K M ρ H lo l⟩
/-- tuple(range(b)) -/
theorem snd_tupRg (hr : Snd T L G k r) (g : Good T L G k W X) {e b : Expr} (h : tupRgOf e = some b) (h1 : glB X.env.scope "tuple" = true) (h2 : glB X.env.scope "range" = true) (h3 : G.free "tuple" = true) (h4 : G.free "range" = true) :
    PE X e (tE X.K W (fun env st => (r.E X.N X.env.scope b env st).bind fun d st1 => Res.of (tupRgD d) st1)) := by
  unfold tupRgOf at h
  split at h
  · split at h
    · rename_i hc
      cases h
      simp only [Bool.and_eq_true, beq_iff_eq, Bool.not_eq_true'] at hc
      obtain ⟨⟨rfl, rfl⟩, hs⟩ := hc
      refine peI (pe_tupRg g.calm (glB_gl h1) (g.free _ h3) (prg_1 (glB_gl h2) (g.free _ h4) (hr.ex W X g _) (star_cons hs))) fun σ H Q ⟨M, O, ρ, env, st, S, E, ok⟩ => ?_
      refine ⟨M, O, ρ, env, st, S, E, ok.bind E S fun d st1 x M1 ρ1 H1 _ e1 S1 E1 q1 ok1 => ?_⟩
      obtain ⟨d2, hd, ok2⟩ := ok1.of
      cases d with
      | int n =>
        obtain rfl := q1.int_
        unfold tupRgD at hd
        dsimp only at hd
        split at hd
        · rename_i hn
          cases hd
          refine ⟨n, rfl, RgOk.of_le (Int.le_refl 0) hn.2 (by decide) hn.1, fun q hq => ?_⟩
          refine ok2 (.ref q) M1 ρ1 _ (Ext.lay hq) (S1.lay hq) (RepV.lay_tup S1 hq ?_)
          unfold rangeD rgV
          rw [Int.sub_zero]
          exact rep_rg X.K M1 ρ1 H1 0 _
        · cases hd
      | _ => cases hd
    · cases h
  · cases h
/-- an iterator over these items, at all times that L tells -/
def ItOk (K : PySem.W.Frag) (L : Mu → List Addr → Hp → Prop) (ds : List D) (J : It) : Prop :=
  ∃ (Gv : Hp → Prop) (Y : Nat → Hp → V → Hp → Prop), Walk J ds.length Gv Y ∧ (∀ M1 ρ1 H1, L M1 ρ1 H1 → Gv H1) ∧
    ∀ i d M1 ρ1 H1 st1 x H2, L M1 ρ1 H1 → RelS K M1 ρ1 H1 st1 → ds[i]? = some d → Y i H1 x H2 → (∀ a o, H1 a = some o → H2 a = some o) ∧ RepV K M1 ρ1 H2 d x
theorem ItOk.anti {K : PySem.W.Frag} {L L' : Mu → List Addr → Hp → Prop} {ds : List D} {J : It} (h : ItOk K L ds J) (w : ∀ M ρ H, L' M ρ H → L M ρ H) : ItOk K L' ds J := by
  obtain ⟨Gv, Y, h1, h2, h3⟩ := h
  exact ⟨Gv, Y, h1, fun M1 ρ1 H1 l => h2 M1 ρ1 H1 (w _ _ _ l), fun i d M1 ρ1 H1 st1 x H2 l => h3 i d M1 ρ1 H1 st1 x H2 (w _ _ _ l)⟩
/-- .. while nothing that stands still is changed; .. within an expression -/
def ItL (K : PySem.W.Frag) : Mu → List Addr → Hp → List D → It → Prop := fun M ρ H ds J => ItOk K (fun M1 ρ1 H1 => LV M ρ H M1 ρ1 H1) ds J
def ItX (K : PySem.W.Frag) : Mu → List Addr → Hp → List D → It → Prop := fun M ρ H ds J => (∀ a ∈ ρ, M a) → ItOk K (fun M1 ρ1 H1 => Ext M ρ H M1 ρ1 H1) ds J
/-- list, tuple or text -/
theorem pi_seq {tg e : Expr} {te : TE} (he : PE X e te) : PI X tg e (fun σ H R => te σ H fun x H1 => (∃ a, x = .ref a ∧ (∃ xs, SqL X.K H1 a xs) ∧ R (Itl X.K a) H1) ∨ (∃ a, x = .ref a ∧ (∃ xs, SqT X.K H1 a xs) ∧ R (Itt X.K a) H1) ∨ ∃ z, x = .str z ∧ R (Its z) H1) := by
  refine ⟨fun pins s σ H R I h => ?_⟩
  refine thn (he.run pins s σ H _ I h) fun v s1 ⟨x, H1, I1, r1, q1⟩ => ?_
  rcases q1 with ⟨a, e, ⟨xs, hq⟩, q⟩ | ⟨a, e, ⟨xs, hq⟩, q⟩ | ⟨z, e, q⟩
  · subst e
    cases r1
    obtain ⟨its, rv, p, hz⟩ := I1.list hq
    refine wpAny_pyIter_list p.isList ?_
    refine ⟨s1.heap.objs.size, [s1.heap.objs.size], _, _, H1, rfl, I1.kept (t' := s1.toks) fun b o e => Heap.get?_push_of_some _ e, turn_list a _, ⟨_, Heap.get?_push_size _ rfl, rfl, rfl⟩, fun b hb => ?_, q⟩
    have e : b = s1.heap.objs.size := by simpa using hb
    subst e
    exact I1.fpOk (Nat.le_refl _) (I1.hok.fresh (Nat.le_refl _))
  · subst e
    cases r1
    obtain ⟨its, rv, p, hz⟩ := I1.tuple hq
    refine wpAny_pyIter_tuple (show s1.heap.IsTuple a its.toArray from p) ?_
    refine ⟨s1.heap.objs.size, [s1.heap.objs.size], _, _, H1, rfl, I1.kept (t' := s1.toks) fun b o e => Heap.get?_push_of_some _ e, turn_tuple a _, ⟨_, Heap.get?_push_size _ rfl, rfl, rfl⟩, fun b hb => ?_, q⟩
    have e : b = s1.heap.objs.size := by simpa using hb
    subst e
    exact I1.fpOk (Nat.le_refl _) (I1.hok.fresh (Nat.le_refl _))
  · subst e
    obtain ⟨t, rfl⟩ := r1
    cases ha : z.cps.all (· < 128)
    · exact wpAny_pyIter_wide ha (pi_one (tk := s1.toks) I1 _ (turn_str _ z t "str_iterator" (.inr rfl)) ⟨_, Heap.get?_push_size _ rfl, rfl, rfl⟩ q)
    · exact wpAny_pyIter_ascii ha (pi_one (tk := s1.toks) I1 _ (turn_str _ z t "str_ascii_iterator" (.inl rfl)) ⟨_, Heap.get?_push_size _ rfl, rfl, rfl⟩ q)
theorem itl_ok {K : PySem.W.Frag} {M : Mu} {ρ : List Addr} {H : Hp} {ds : List D} {a : Addr} {xs : List V} {L : Mu → List Addr → Hp → Prop} (l : RepL K M ρ H ds xs)
    (hq : ∀ M1 ρ1 H1, L M1 ρ1 H1 → SqL K H1 a xs) (hl : ∀ M1 ρ1 H1, L M1 ρ1 H1 → ∀ d x, RepV K M ρ H d x → RepV K M1 ρ1 H1 d x) : ItOk K L ds (Itl K a) := by
  refine ⟨fun H1 => SqL K H1 a xs, YAt xs, by rw [← l.length]; exact walk_list, hq, fun i d M1 ρ1 H1 st1 x H2 e1 S1 hd hy => ?_⟩
  obtain ⟨rfl, hx⟩ := hy
  obtain ⟨y, hy, ry⟩ := l.get hd
  rw [hx] at hy; cases hy
  exact ⟨fun _ _ h => h, hl _ _ _ e1 d x ry⟩
theorem itt_ok {K : PySem.W.Frag} {M : Mu} {ρ : List Addr} {H : Hp} {ds : List D} {a : Addr} {xs : List V} (l : RepL K M ρ H ds xs) (hq : SqT K H a xs) : ItL K M ρ H ds (Itt K a) := by
  refine ⟨fun H1 => SqT K H1 a xs, YAt xs, by rw [← l.length]; exact walk_tup, fun M1 ρ1 H1 e => e.sqT hq, fun i d M1 ρ1 H1 st1 x H2 e1 S1 hd hy => ?_⟩
  obtain ⟨rfl, hx⟩ := hy
  obtain ⟨y, hy, ry⟩ := l.get hd
  rw [hx] at hy; cases hy
  exact ⟨fun _ _ h => h, RepV.late e1 d x ry⟩
theorem its_ok {K : PySem.W.Frag} {M : Mu} {ρ : List Addr} {H : Hp} (z : Str) : ItL K M ρ H (z.cps.toList.map fun c => .str ⟨#[c]⟩) (Its z) := by
  refine ⟨fun _ => True, _, by rw [List.length_map, Array.length_toList]; exact walk_str, fun _ _ _ _ => True.intro, fun i d M1 ρ1 H1 st1 x H2 e1 S1 hd hy => ?_⟩
  obtain ⟨rfl, c, hc, rfl⟩ := hy
  rw [List.getElem?_map, Array.getElem?_toList, hc] at hd
  cases hd
  exact ⟨fun _ _ h => h, RepV.str _⟩
theorem itr_ok {K : PySem.W.Frag} {M : Mu} {ρ : List Addr} {H : Hp} (lo : Int) (n : Nat) : ItL K M ρ H (rangeD lo n) (Itr lo n) := by
  refine ⟨fun _ => True, _, by unfold rangeD; rw [List.length_map, List.length_range]; exact walk_range, fun _ _ _ _ => True.intro, fun i d M1 ρ1 H1 st1 x H2 e1 S1 hd hy => ?_⟩
  obtain ⟨rfl, rfl⟩ := hy
  unfold rangeD at hd
  rw [List.getElem?_map] at hd
  cases e : (List.range n)[i]? with
  | none => rw [e] at hd; cases hd
  | some j =>
    rw [e] at hd; cases hd
    have hj : j = i := by
      have := List.getElem?_eq_some_iff.mp e
      obtain ⟨h1, h2⟩ := this
      rw [List.getElem_range] at h2
      exact h2.symm
    subst hj
    exact ⟨fun _ _ h => h, RepV.int _⟩
theorem enumD_get {ds : List D} {i : Nat} {d : D} (h : (enumD ds)[i]? = some d) : ∃ e, ds[i]? = some e ∧ d = .tup [.int (i : Nat), e] := by
  unfold enumD at h
  rw [List.getElem?_zipWith] at h
  cases e1 : (List.range ds.length)[i]? with
  | none => rw [e1] at h; cases h
  | some j =>
    cases e2 : ds[i]? with
    | none => rw [e1, e2] at h; cases h
    | some e =>
      rw [e1, e2] at h; cases h
      have hj : j = i := by
        have := List.getElem?_eq_some_iff.mp e1
        obtain ⟨h1, h2⟩ := this
        rw [List.getElem_range] at h2
        exact h2.symm
      subst hj
      exact ⟨e, rfl, rfl⟩
theorem ite_ok {K : PySem.W.Frag} {M : Mu} {ρ : List Addr} {H : Hp} {ds : List D} {a : Addr} {xs : List V} (l : RepL K M ρ H ds xs) (n : ¬ M a) (hq : H a = some (.lst xs)) : ItL K M ρ H (enumD ds) (Ite K a) := by
  have hlen : (enumD ds).length = xs.length := by
    unfold enumD
    rw [List.length_zipWith, List.length_range, l.length]
    omega
  refine ⟨fun H1 => SqL K H1 a xs, YPair (fun i => some (.int (i : Nat))) (fun i => xs[i]?), by rw [hlen]; exact walk_enum, fun M1 ρ1 H1 e => SqL.of (e.keep a _ n ntb_lst hq), fun i d M1 ρ1 H1 st1 x H2 e1 S1 hd hy => ?_⟩
  obtain ⟨Tq, x1, x2, rfl, hT, rfl, hx1, hx2⟩ := hy
  obtain ⟨e, he, rfl⟩ := enumD_get hd
  obtain ⟨y, hy, ry⟩ := l.get he
  have hx2' : xs[i]? = some x2 := hx2
  rw [hx2'] at hy; cases hy
  cases hx1
  exact ⟨keep_lay hT, RepV.lay_tup S1 hT (RepL.cons (RepV.int _) (RepL.cons (RepV.late e1 e x2 ry) RepL.nil))⟩
theorem snd_seq (hr : Snd T L G k r) (g : Good T L G k W X) {tg e : Expr} : PI X tg e (tG (ItL X.K) X.K W fun env st => (r.E X.N X.env.scope e env st).bind fun d st1 => Res.of (seqOf d) st1) := by
  refine piI (pi_seq (hr.ex W X g e)) fun σ H R ⟨M, O, ρ, env, st, S, E, ok⟩ => ?_
  refine ⟨M, O, ρ, env, st, S, E, ok.bind E S fun d st1 x M1 ρ1 H1 _ e1 S1 E1 q1 ok1 => ?_⟩
  obtain ⟨ds, hd, ok2⟩ := ok1.of
  cases d with
  | lst es =>
    cases hd
    obtain ⟨a, xs, rfl, n, q, l⟩ := q1.lst_
    exact .inl ⟨a, rfl, ⟨xs, SqL.of q⟩, ok2.done S1 (itl_ok l (fun M2 ρ2 H2 e => SqL.of (e.keep a _ n ntb_lst q)) fun M2 ρ2 H2 e d x => RepV.late e d x)⟩
  | tup es =>
    cases hd
    obtain ⟨a, xs, rfl, q, l⟩ := q1.tup_
    exact .inr (.inl ⟨a, rfl, ⟨xs, q⟩, ok2.done S1 (itt_ok l q)⟩)
  | str z =>
    cases hd
    obtain rfl := q1.str_
    exact .inr (.inr ⟨z, rfl, ok2.done S1 (its_ok z)⟩)
  | _ => cases hd
theorem smallI_of {j : Int} (h : smallI j = true) : -(2 ^ 62) ≤ j ∧ j < 2 ^ 62 := by
  unfold smallI at h
  simpa [Bool.and_eq_true, decide_eq_true_eq] using h
theorem pi_stuckG {tg e : Expr} : PI X tg e (tG (ItL X.K) X.K W stuckE) := ⟨fun _ _ _ _ _ _ h => by obtain ⟨_, _, _, _, _, _, _, h⟩ := h; exact h.elim⟩
theorem isTup_of {e : Expr} (h : isTup e = true) : ∃ es j p, e = .Tuple es j p := by
  cases e with
  | Tuple es j p => exact ⟨es, j, p, rfl⟩
  | _ => cases h
theorem snd_src (hr : Snd T L G k r) (g : Good T L G k W X) {tg iter : Expr} : PI X tg iter (tG (ItL X.K) X.K W (srcX G r X.N X.env.scope tg iter)) := by
  unfold srcX
  split
  · rename_i f p args q
    split
    · rename_i hc
      obtain ⟨h1, h2, h3, rfl⟩ := hc
      split
      · rename_i a
        split
        · exact pi_stuckG
        · rename_i hs
          have hs' : isStar a = false := by simpa using hs
          refine piI (pi_range1 (glB_gl h1) (g.free _ h2) (pa_cons (hr.ex W X g a) pa_nil (star_cons hs')) (by rw [star_cons hs'] <;> rfl)) fun σ H R ⟨M, O, ρ, env, st, S, E, ok⟩ => ?_
          refine ⟨M, O, ρ, env, st, S, E, ok.bind E S fun d st1 x M1 ρ1 H1 _ e1 S1 E1 q1 ok1 => ?_⟩
          obtain ⟨es, hd, ok2⟩ := ok1.of
          cases d with
          | int j =>
            obtain rfl := q1.int_
            unfold rangeOne at hd
            simp only at hd
            split at hd
            · rename_i hj
              cases hd
              exact ⟨j, rfl, (smallI_of hj).1, (smallI_of hj).2, ok2.done S1 (itr_ok 0 _)⟩
            · cases hd
          | _ => cases hd
      · rename_i a b
        split
        · exact pi_stuckG
        · rename_i hs
          simp only [Bool.or_eq_true, not_or, Bool.not_eq_true] at hs
          refine piI (pi_range2 (glB_gl h1) (g.free _ h2) (pa_cons (hr.ex W X g a) (pa_cons (hr.ex W X g b) pa_nil (star_cons hs.2)) (star_cons hs.1)) (by rw [star_cons hs.1, star_cons hs.2] <;> rfl) (by rw [star_cons hs.2] <;> rfl)) fun σ H R ⟨M, O, ρ, env, st, S, E, ok⟩ => ?_
          refine ⟨M, O, ρ, env, st, S, E, ok.bind E S fun d st1 x M1 ρ1 H1 _ e1 S1 E1 q1 ok1 => ?_⟩
          refine ⟨M1, O, ρ1, env, st1, S1, E1, ok1.bind E1 S1 fun d2 st2 y M2 ρ2 H2 _ e2 S2 E2 q2 ok2 => ?_⟩
          obtain ⟨es, hd, ok3⟩ := ok2.of
          cases d with
          | int i =>
            cases d2 with
            | int j =>
              obtain rfl := q1.int_
              obtain rfl := q2.int_
              unfold rangeTwo at hd
              simp only at hd
              split at hd
              · rename_i hj
                cases hd
                exact ⟨i, j, rfl, ⟨(smallI_of hj.1).1, (smallI_of hj.1).2, (smallI_of hj.2).1, (smallI_of hj.2).2⟩, ok3.done S2 (itr_ok i _)⟩
              · cases hd
            | _ => cases hd
          | _ => cases hd
      · exact pi_stuckG
    · split
      · rename_i hc
        obtain ⟨h1, h2, h3, rfl⟩ := hc
        split
        · rename_i a
          split
          · exact pi_stuckG
          · rename_i hs
            simp only [Bool.or_eq_true, not_or, Bool.not_eq_true, Bool.not_eq_false, Bool.not_eq_true'] at hs
            obtain ⟨es, j, tp, rfl⟩ := isTup_of hs.2
            refine piI (pi_enum (glB_gl h1) (g.free _ h2) (pa_cons (hr.ex W X g a) pa_nil (star_cons hs.1)) (by rw [star_cons hs.1] <;> rfl)) fun σ H R ⟨M, O, ρ, env, st, S, E, ok⟩ => ?_
            refine ⟨M, O, ρ, env, st, S, E, ok.bind E S fun d st1 x M1 ρ1 H1 _ e1 S1 E1 q1 ok1 => ?_⟩
            cases d with
            | lst ds =>
              obtain ⟨b, xs, rfl, n, q, l⟩ := q1.lst_
              have ok2 : Ok (ItL X.K) X.K (wAt W σ) M1 ρ1 H1 (.ok (enumD ds) st1) R := ok1
              exact ⟨b, xs, rfl, SqL.of q, ok2.done S1 (ite_ok l n q)⟩
            | _ => exact ok1.stuckR
        · exact pi_stuckG
      · exact snd_seq hr g
  · split
    · exact snd_seq hr g
    · exact pi_stuckG
theorem itx_of {K : PySem.W.Frag} {M : Mu} {ρ : List Addr} {H : Hp} {ds : List D} {J : It} (h : ItL K M ρ H ds J) : ItX K M ρ H ds J := fun sub => h.anti fun _ _ _ e => e.lv sub
theorem snd_srcX (hr : Snd T L G k r) (g : Good T L G k W X) {tg iter : Expr} : PI X tg iter (tG (ItX X.K) X.K W (srcX G r X.N X.env.scope tg iter)) :=
  piI (snd_src hr g) fun σ H R ⟨M, O, ρ, env, st, S, E, ok⟩ => ⟨M, O, ρ, env, st, S, E, ok.re fun ds st1 J M1 ρ1 H1 _ e1 S1 q1 ok1 => ok1 J (itx_of q1)⟩
theorem snd_srcB (hr : Snd T L G k r) (g : Good T L G k W X) {tg iter : Expr} : PI X tg iter (tG (ItX X.K) X.K W (srcB G r X.N X.env.scope tg iter)) := by
  unfold srcB
  split
  · rename_i x p
    split
    · rename_i hv
      simp only [Bool.and_eq_true, Bool.not_eq_true'] at hv
      split
      · rename_i i hi
        refine ⟨fun pins s σ H R I h => ?_⟩
        obtain ⟨M, O, ρ, env, st, S, E, ok⟩ := h
        revert ok
        dsimp only
        unfold ownSlot
        cases he : env[i]? with
        | none => exact fun ok => (snd_srcX hr g).run pins s σ H R I ⟨M, O, ρ, env, st, S, E, ok⟩
        | some sl =>
          cases sl with
          | own ds =>
            intro ok
            obtain ⟨a, xs, h1, h2, h3, h4⟩ := E.own i ds he
            refine (pi_list (pe_nm hv.1 hi hv.2)).run pins s σ H R I ⟨.ref a, h1, a, rfl, ⟨xs, SqL.of h3⟩, ?_⟩
            exact Ok.done S ok fun sub => itl_ok h4 (fun M1 ρ1 H1 e => SqL.of (e.keep a _ (E.nor a h2) ntb_lst h3)) fun M1 ρ1 H1 e d x q => RepV.mono sub e d x q
          | no => exact fun ok => (snd_srcX hr g).run pins s σ H R I ⟨M, O, ρ, env, st, S, E, ok⟩
          | v d => exact fun ok => (snd_srcX hr g).run pins s σ H R I ⟨M, O, ρ, env, st, S, E, ok⟩
      · exact ⟨fun _ _ _ _ _ _ h => by obtain ⟨_, _, _, _, _, _, _, h⟩ := h; exact h.elim⟩
    · exact snd_srcX hr g
  · exact snd_srcX hr g
/-- stores by plain data; what else the slots hold -/
def gT (K : PySem.W.Frag) (f : D → Env → Option Env) (own : List (Str × Nat)) : TG := fun v σ H Q => ∃ M O ρ env st d env1, RelS K M ρ H st ∧ RelE K M O ρ H σ env ∧ RepV K M ρ H d v ∧ f d env = some env1 ∧
  ∀ σ', RelE K M O ρ H σ' env1 → (∀ vs, (∀ p ∈ own, p.2 ∈ vs) → wipe σ' vs = wipe σ vs) → Q σ' H
theorem wipe_set {σ : L2.St} {i : Nat} {y : Option V} : ∀ {vs : List Nat}, i ∈ vs → wipe (σ.set i y) vs = wipe σ vs
  | [], h => by simp at h
  | v :: vs, h => by
    unfold wipe
    by_cases hv : i ∈ vs
    · rw [wipe_set hv]
    · have e : i = v := by
        rcases List.mem_cons.mp h with e | e
        · exact e
        · exact absurd e hv
      subst e
      have q : ∀ ws : List Nat, i ∉ ws → wipe (σ.set i y) ws = (wipe σ ws).set i y := by
        intro ws
        induction ws with
        | nil => intro _; rfl
        | cons w ws ih =>
          intro hw
          unfold wipe
          have h1 : i ≠ w := fun z => hw (by rw [z]; exact List.mem_cons_self)
          rw [ih fun z => hw (List.mem_cons_of_mem _ z), List.set_comm _ _ h1]
      rw [q vs hv, List.set_set]
theorem RelE.put {K : PySem.W.Frag} {M O : Mu} {ρ : List Addr} {H : Hp} {σ : L2.St} {env : Env} {i : Nat} {d : D} {v : V} (E : RelE K M O ρ H σ env) (h : RepV K M ρ H d v) : RelE K M O ρ H (σ.set i (some v)) (env.set i (.v d)) where
  val := fun j e hj => by
    by_cases hij : i = j
    · subst hij
      have hl : i < env.length := by
        have := (List.getElem?_eq_some_iff.mp hj).1
        rwa [List.length_set] at this
      rw [List.getElem?_set_self hl] at hj
      cases hj
      exact ⟨v, by rw [List.getElem?_set_self (by rw [← E.len]; exact hl)], h⟩
    · rw [List.getElem?_set_ne hij] at hj ⊢
      exact E.val j e hj
  own := fun j ds hj => by
    by_cases hij : i = j
    · subst hij
      have hl : i < env.length := by
        have := (List.getElem?_eq_some_iff.mp hj).1
        rwa [List.length_set] at this
      rw [List.getElem?_set_self hl] at hj
      cases hj
    · rw [List.getElem?_set_ne hij] at hj ⊢
      exact E.own j ds hj
  inj := fun j l ds es a hj hl h1 h2 => by
    have nj : ∀ {j ds}, (env.set i (.v d))[j]? = some (Sl.own ds) → i ≠ j := fun {j ds} hj z => by
      subst z
      have hl : i < env.length := by
        have := (List.getElem?_eq_some_iff.mp hj).1
        rwa [List.length_set] at this
      rw [List.getElem?_set_self hl] at hj
      cases hj
    have n1 := nj hj
    have n2 := nj hl
    rw [List.getElem?_set_ne n1] at hj h1
    rw [List.getElem?_set_ne n2] at hl h2
    exact E.inj j l ds es a hj hl h1 h2
  nor := E.nor
  sub := E.sub
  len := by rw [List.length_set, List.length_set]; exact E.len
theorem tgOne_of {N : List Str} {sc : Scope} {e : Expr} {q : Str × Nat} (h : tgOne N sc e = some q) : ∃ p, e = .Name q.1 p ∧ locB sc q.1 = true ∧ dunder q.1 = false ∧ ixOf N q.1 = some q.2 := by
  unfold tgOne at h
  split at h
  · rename_i x p
    split at h
    · rename_i hc
      simp only [Bool.and_eq_true, Bool.not_eq_true'] at hc
      cases hi : ixOf N x with
      | none => rw [hi] at h; cases h
      | some i => rw [hi] at h; cases h; exact ⟨p, rfl, hc.1, hc.2, hi⟩
    · cases h
  · cases h
theorem pg_one (g : Good T L G k W X) {ws : Scope} (w : Sto X ws) {x : Str} {p : Pos} {q : Str × Nat} (h : tgOne X.N ws (.Name x p) = some q) : PG X (.Name x p) (gName q.2) := by
  obtain ⟨p', e, h1, h2, h3⟩ := tgOne_of h
  cases e
  exact pg_name g.nd (ixOf_get h3) (w _ h1).1 (w _ h1).2
def gTs (K : PySem.W.Frag) (ps : List (Str × Nat)) : TGs := fun xs σ H Q => ∃ M O ρ env st ds env1, RelS K M ρ H st ∧ RelE K M O ρ H σ env ∧ RepL K M ρ H ds xs ∧ setMany ps ds env = some env1 ∧
  ∀ σ', RelE K M O ρ H σ' env1 → (∀ vs, (∀ p ∈ ps, p.2 ∈ vs) → wipe σ' vs = wipe σ vs) → Q σ' H
theorem pgs_many (g : Good T L G k W X) {ws : Scope} (w : Sto X ws) : ∀ {es : List Expr} {ps : List (Str × Nat)}, tgMany X.N ws es = some ps → PGs X es (gTs X.K ps) ∧ (assignEach es X.env).length = ps.length ∧ (assignEach es X.env).findIdx? (·.1) = none
  | [], ps, h => by
    cases h
    refine ⟨⟨fun pins s σ H vs us Q I rv hq => ?_⟩, rfl, rfl⟩
    obtain ⟨M, O, ρ, env, st, ds, env1, S, E, l, hs, q⟩ := hq
    cases ds with
    | nil =>
      cases hs
      unfold RepL at l
      subst l
      exact pgs_nil.run pins s σ H [] us Q I rv ⟨rfl, q σ E fun _ _ => rfl⟩
    | cons d ds => cases hs
  | e :: es, ps, h => by
    unfold tgMany at h
    split at h
    · rename_i q qs h1 h2
      cases h
      obtain ⟨p, rfl, l1, l2, l3⟩ := tgOne_of h1
      obtain ⟨i1, i2, i3⟩ := pgs_many g w h2
      refine ⟨⟨fun pins s σ H vs us Q I rv hq => ?_⟩, ?_, ?_⟩
      · obtain ⟨M, O, ρ, env, st, ds, env1, S, E, l, hs, hQ⟩ := hq
        cases ds with
        | nil => cases hs
        | cons d ds =>
          unfold RepL at l
          obtain ⟨y, ys, rfl, hy, hys⟩ := l
          refine (pgs_cons (pg_one g w h1) i1).run pins s σ H (y :: ys) us Q I rv ⟨y, ys, rfl, ?_⟩
          have hs' : setMany qs ds (env.set q.2 (.v d)) = some env1 := hs
          refine ⟨M, O, ρ, _, st, ds, env1, S, E.put hy, hys, hs', fun σ' E' hw => hQ σ' E' fun vs hv => ?_⟩
          rw [hw vs fun p hp => hv p (List.mem_cons_of_mem _ hp)]
          exact wipe_set (hv q List.mem_cons_self)
      · show (assignEach es X.env).length + 1 = qs.length + 1
        rw [i2]
      · show ((false, _) :: assignEach es X.env).findIdx? (·.1) = none
        rw [List.findIdx?_cons, i3]
        rfl
    · cases h
theorem setMany_len : ∀ {ps : List (Str × Nat)} {ds : List D} {env env1 : Env}, setMany ps ds env = some env1 → ds.length = ps.length
  | [], [], _, _, _ => rfl
  | [], _ :: _, _, _, h => by cases h
  | _ :: _, [], _, _, h => by cases h
  | p :: ps, d :: ds, env, env1, h => by
    have h' : setMany ps ds (env.set p.2 (.v d)) = some env1 := h
    rw [List.length_cons, List.length_cons, setMany_len h']
theorem pg_T (g : Good T L G k W X) {ws : Scope} (w : Sto X ws) {tg : Expr} {own : List (Str × Nat)} (h : tgOwn X.N ws tg = some own) : PG X tg (gT X.K (bindT X.N ws tg) own) := by
  unfold tgOwn at h
  split at h
  · rename_i x p
    cases hq : tgOne X.N ws (.Name x p) with
    | none => rw [hq] at h; cases h
    | some q =>
      rw [hq] at h; cases h
      refine ⟨fun pins s σ H v u Q I rv hh => (pg_one g w hq).run pins s σ H v u Q I rv ?_⟩
      obtain ⟨M, O, ρ, env, st, d, env1, S, E, hd, hb, hQ⟩ := hh
      unfold bindT at hb
      simp only [hq] at hb
      cases hb
      exact hQ _ (E.put hd) fun vs hv => wipe_set (hv q (by simp))
  · rename_i es j p
    obtain ⟨i1, i2, i3⟩ := pgs_many g w h
    refine ⟨fun pins s σ H v u Q I rv hh => (pg_tup g.calm i1 i2 i3).run pins s σ H v u Q I rv ?_⟩
    obtain ⟨M, O, ρ, env, st, d, env1, S, E, hd, hb, hQ⟩ := hh
    unfold bindT at hb
    simp only [h] at hb
    cases d with
    | tup ds =>
      obtain ⟨a, xs, rfl, q, l⟩ := hd.tup_
      exact ⟨a, xs, rfl, q, by rw [l.length]; exact setMany_len hb, M, O, ρ, env, st, ds, env1, S, E, l, hb, hQ⟩
    | _ => cases hb
  · cases h
end
end MI

set_option maxRecDepth 100000
set_option maxHeartbeats 4000000
namespace MI
open PySem PySem.Spec PyProof.Rows L2
variable [LD : LamDefs]
/-- a new list, as one that may change -/
def OkN (K : PySem.W.Frag) (W : XK) (M : Mu) (ρ : List Addr) (H : Hp) (x : Res (List D)) (Q : V → Hp → Prop) : Prop := match x with
  | .ok ds st' => ∀ a xs M' ρ' H', Ext M ρ H M' ρ' H' → Fr0 H a → M' a → a ∉ ρ' → H' a = some (.lst xs) → RelS K M' ρ' H' st' → RepL K M' ρ' H' ds xs → Q (.ref a) H'
  | .exc c ns es st' => ∀ cls d M' r' H', Ext M ρ H M' r' H' → RelS K M' r' H' st' → ExcV K M' r' H' c ns es cls d → W cls d H'
  | .stuck => False
def tNew (K : PySem.W.Frag) (W : WX) (f : AX) : TE := fun σ H Q => ∃ M O ρ env st, RelS K M ρ H st ∧ RelE K M O ρ H σ env ∧ OkN K (wAt W σ) M ρ H (f env st) Q
theorem OkN.later {K : PySem.W.Frag} {W : XK} {M M' : Mu} {ρ ρ' : List Addr} {H H' : Hp} {x : Res (List D)} {Q : V → Hp → Prop} (h : OkN K W M ρ H x Q) (e : Ext M ρ H M' ρ' H') : OkN K W M' ρ' H' x Q := by
  cases x with
  | stuck => exact h
  | exc c ns es st => exact fun cls d M2 r2 H2 e2 s q => h cls d M2 r2 H2 (e.trans e2) s q
  | ok ds st =>
    exact fun a xs M2 ρ2 H2 e2 hn => h a xs M2 ρ2 H2 (e.trans e2) (e.liv a hn)
section
variable {T : Tab} {L : Dn} {G : Glb} {k : Nat} {r : Dn} {X : Cx} {W : WX}
theorem takes_never {X : Cx} : Takes X never := fun _ _ x => by
  obtain ⟨_, _, _, _, _, _, _, _, _, _, _, _, _, _, _, _, z⟩ := x
  exact z.elim
theorem tame_ok {α : Type} {x : Res α} {a : α} {st : Store} (h : x.tame = .ok a st) : x = .ok a st := by
  cases x with
  | ok b s => exact h
  | _ => cases h
theorem tame_tame {α : Type} (x : Res α) : x.tame.tame = x.tame := by cases x <;> rfl
theorem compL_tame {f : D → Store → Res (Option D)} (hf : ∀ d st, (f d st).tame = f d st) : ∀ (ds acc : List D) (st : Store) (c : Str) (ns : List Str) (es : List D) (st' : Store), compL f ds acc st ≠ .exc c ns es st'
  | [], acc, st, c, ns, es, st' => fun z => nomatch z
  | d :: ds, acc, st, c, ns, es, st' => by
    unfold compL
    have h := hf d st
    cases e : f d st with
    | stuck => exact fun z => nomatch z
    | exc c' ns' es' st1 => rw [e] at h; cases h
    | ok o st1 =>
      cases o with
      | none => exact compL_tame hf ds acc st1 c ns es st'
      | some x => exact compL_tame hf ds (acc ++ [x]) st1 c ns es st'
theorem Good.blk (g : Good T L G k W X) {s : Shared} {H : Hp} {scope : Scope} {cl : List (Str × Addr)} {C : Addr} {fp : List Addr} (hk : scope.kind = .function) : Good T L G k never (X.blk s H scope (compEnvC scope cl C X.env) fp) where
  takes := takes_never
  nd := g.nd
  kind := hk
  calm := g.calm
  room := g.room
  two := g.two
  fa := g.fa
  lam := g.lam
theorem sto_blk {s : Shared} {H : Hp} {scope : Scope} {cl : List (Str × Addr)} {C : Addr} {fp : List Addr} : Sto (X.blk s H scope (compEnvC scope cl C X.env) fp) scope := fun x h => by
  rcases locB_loc h with e | e
  · have q := lookup_relS_keep (sc := X.env.scope) (k := NameKind.local) (by decide) e
    exact ⟨.inl q, .inr q⟩
  · have q := lookup_relS_keep (sc := X.env.scope) (k := NameKind.cell) (by decide) e
    refine ⟨.inr q, .inl ?_⟩
    show (scope.names.lookup x == some .cell) = true
    rw [e]
    rfl
theorem snd_tests (hr : Snd T L G k r) (g : Good T L G k W X) : ∀ ifs, PTs X ifs (tT X.K W (testsX r X.N X.env.scope ifs))
  | [] => ⟨fun pins s σ H Q I h => by
      obtain ⟨M, O, ρ, env, st, S, E, ok⟩ := h
      exact pts_nil.run pins s σ H Q I (Ok.done S ok rfl)⟩
  | [c] => pts_one (hr.te W X g c)
  | _ :: _ :: _ => ⟨fun pins s σ H Q I h => by obtain ⟨_, _, _, _, _, _, _, h⟩ := h; exact h.elim⟩
theorem wipeE_rel {K : PySem.W.Frag} {M O : Mu} {ρ : List Addr} {H : Hp} {σ : L2.St} {env : Env} (E : RelE K M O ρ H σ env) : ∀ vs : List Nat, RelE K M O ρ H (wipe σ vs) (wipeE env vs)
  | [] => E
  | v :: vs => by
    have E' := wipeE_rel E vs
    have hne : ∀ {j : Nat} {x : Sl}, x ≠ .no → ((wipeE env vs).set v .no)[j]? = some x → v ≠ j := fun {j x} hx hj z => by
      subst z
      have hl : v < (wipeE env vs).length := by
        have := (List.getElem?_eq_some_iff.mp hj).1
        rwa [List.length_set] at this
      rw [List.getElem?_set_self hl] at hj
      cases hj
      exact hx rfl
    show RelE K M O ρ H ((wipe σ vs).set v none) ((wipeE env vs).set v .no)
    refine ⟨fun j d hj => ?_, fun j ds hj => ?_, fun i j ds es a hi hj h1 h2 => ?_, E'.nor, E'.sub, by rw [List.length_set, List.length_set]; exact E'.len⟩
    · have n := hne (x := Sl.v d) (fun z => nomatch z) hj
      rw [List.getElem?_set_ne n] at hj ⊢
      exact E'.val j d hj
    · have n := hne (x := Sl.own ds) (fun z => nomatch z) hj
      rw [List.getElem?_set_ne n] at hj ⊢
      exact E'.own j ds hj
    · have n1 := hne (x := Sl.own ds) (fun z => nomatch z) hi
      have n2 := hne (x := Sl.own es) (fun z => nomatch z) hj
      rw [List.getElem?_set_ne n1] at hi h1
      rw [List.getElem?_set_ne n2] at hj h2
      exact E'.inj i j ds es a hi hj h1 h2
theorem compL_ok {f : D → Store → Res (Option D)} {d : D} {ds acc : List D} {st : Store} {out : List D} {st' : Store} (h : compL f (d :: ds) acc st = .ok out st') :
    ∃ o st1, f d st = .ok o st1 ∧ (match o with | some x => compL f ds (acc ++ [x]) st1 | none => compL f ds acc st1) = .ok out st' := by
  have h' : ((f d st).bind fun o st1 => match o with
    | some x => compL f ds (acc ++ [x]) st1
    | none => compL f ds acc st1) = .ok out st' := h
  cases e : f d st with
  | stuck => rw [e] at h'; cases h'
  | exc c ns es st1 => rw [e] at h'; cases h'
  | ok o st1 => rw [e] at h'; exact ⟨o, st1, rfl, h'⟩
theorem RelS.anti {K : PySem.W.Frag} {M M' : Mu} {ρ : List Addr} {H : Hp} {st : Store} (S : RelS K M ρ H st) (m : ∀ a, M' a → M a) (sub : ∀ a ∈ ρ, M' a) : RelS K M' ρ H st where
  len := S.len
  nd := S.nd
  sub := sub
  ob := fun i ds e => by
    obtain ⟨a, xs, h1, h2, h3⟩ := S.ob i ds e
    exact ⟨a, xs, h1, h2, RepL.anti m ds xs h3⟩
  liv := fun a h => S.liv a (m a h)
  tabs := S.tabs
theorem RelE.anti {K : PySem.W.Frag} {M M' O : Mu} {ρ : List Addr} {H : Hp} {σ : L2.St} {env : Env} (E : RelE K M O ρ H σ env) (m : ∀ a, M' a → M a) (sub : ∀ a, O a → M' a) : RelE K M' O ρ H σ env where
  val := fun i d h => by
    obtain ⟨x, h1, h2⟩ := E.val i d h
    exact ⟨x, h1, RepV.anti m d x h2⟩
  own := fun i ds h => by
    obtain ⟨a, xs, h1, h2, h3, h4⟩ := E.own i ds h
    exact ⟨a, xs, h1, h2, h3, RepL.anti m ds xs h4⟩
  inj := E.inj
  nor := E.nor
  sub := sub
  len := E.len
/-- a further list that may change is laid -/
theorem Ext.mark {M : Mu} {ρ : List Addr} {H : Hp} {p : Addr} {o : HO} (h : H p = none) : Ext M ρ H (fun a => M a ∨ a = p) ρ (upd H p o) where
  pre := ⟨[], by simp⟩
  mono := fun _ h => .inl h
  new := fun a z => by
    rcases z with z | z
    · exact .inl z
    · exact .inr (by rw [z]; exact fr0_none h)
  fresh := fun _ h => .inl h
  keep := fun a o' _ _ e => by rw [upd_ne (ne_of_none e h)]; exact e
  liv := fun a f o' e => f o' (by rw [upd_ne (ne_of_none e h)]; exact e)
  tup := fun a xs e => by rw [upd_ne (ne_of_none e h)]; exact e
  frz := fun a o' u e => by rw [upd_ne (ne_of_none e h)]; exact e
theorem RelS.later {K : PySem.W.Frag} {M M' : Mu} {ρ : List Addr} {H H' : Hp} {st : Store} (S : RelS K M ρ H st) (e : Ext M ρ H M' ρ H') (hk : ∀ a o, H a = some o → H' a = some o) (hl : ∀ a, M' a → M a ∨ ∃ o, H' a = some o ∧ NTb o) : RelS K M' ρ H' st where
  len := S.len
  nd := S.nd
  sub := fun a h => e.mono a (S.sub a h)
  ob := fun i ds h => by
    obtain ⟨a, xs, h1, h2, h3⟩ := S.ob i ds h
    exact ⟨a, xs, h1, hk a _ h2, RepL.mono S.sub e ds xs h3⟩
  liv := fun a h => by
    rcases hl a h with h | h
    · exact fun f => S.liv a h fun o q => f o (hk a o q)
    · obtain ⟨o, q, n⟩ := h
      exact nfr q n
  tabs := S.tabs.ext hk
/-- one of those that may change has changed -/
theorem Ext.touch {M M1 : Mu} {ρ ρ1 : List Addr} {H H1 : Hp} {p : Addr} {o : HO} (e : Ext M ρ H M1 ρ1 H1) (hp : H p = none) (hm : M1 p) (hl : ∃ ys, H1 p = some (.lst ys)) : Ext M ρ H M1 ρ1 (upd H1 p o) where
  pre := e.pre
  mono := e.mono
  new := e.new
  fresh := e.fresh
  keep := fun a o' n nt h => by rw [upd_ne (ne_of_none h hp)]; exact e.keep a o' n nt h
  liv := fun a f => by
    by_cases ha : a = p
    · rw [ha]; exact fr0_none hp
    · exact e.liv a fun o' h => f o' (by rw [upd_ne ha]; exact h)
  tup := fun a xs h => by rw [upd_ne (ne_of_none h hp)]; exact e.tup a xs h
  frz := fun a o' u h => by rw [upd_ne (ne_of_none h hp)]; exact e.frz a o' u h
/-- data do not lean on a list that may change -/
theorem LV.touch {M : Mu} {ρ : List Addr} {H : Hp} {p : Addr} {o : HO} {ys : List V} (hm : M p) (hl : H p = some (.lst ys)) (nt : NTb o) : LV M ρ H M ρ (upd H p o) where
  pre := ⟨[], by simp⟩
  new := fun _ h => .inl h
  keep := fun a o' n _ h => by rw [upd_ne (fun z => n (by rw [z]; exact hm))]; exact h
  liv := fun a f => by
    by_cases ha : a = p
    · subst ha; exact absurd f (nfr upd_same nt)
    · exact fun o' h => f o' (by rw [upd_ne ha]; exact h)
  tup := fun a xs h => by rw [upd_ne (ne_of h hl (fun z => nomatch z))]; exact h
  frz := fun a o' u h => by rw [upd_ne (ne_of h hl (fun z => nomatch z))]; exact h
theorem RelS.touch {K : PySem.W.Frag} {M : Mu} {ρ : List Addr} {H : Hp} {st : Store} {p : Addr} {o : HO} {ys : List V} (S : RelS K M ρ H st) (hm : M p) (hn : p ∉ ρ) (hl : H p = some (.lst ys)) (nt : NTb o) : RelS K M ρ (upd H p o) st where
  len := S.len
  nd := S.nd
  sub := S.sub
  ob := fun i ds h => by
    obtain ⟨a, xs, h1, h2, h3⟩ := S.ob i ds h
    have ha : a ≠ p := fun z => hn (by rw [← z]; exact List.mem_of_getElem? h1)
    exact ⟨a, xs, h1, by rw [upd_ne ha]; exact h2, RepL.late (LV.touch hm hl nt) ds xs h3⟩
  liv := fun a h => by
    by_cases ha : a = p
    · subst ha; exact nfr upd_same nt
    · exact fun f => S.liv a h fun o' q => f o' (by rw [upd_ne ha]; exact q)
  tabs := tabs_lst S.tabs hl
/-- what stands between two turns of a comprehension -/
structure CompAt (K : PySem.W.Frag) (M : Mu) (ρ0 ρ : List Addr) (H0 H : Hp) (p : Addr) (acc : List D) (st : Store) (M0 : Mu) (i : Nat) : Prop where
  few : acc.length ≤ i
  ext : Ext M0 ρ0 H0 M ρ H
  mem : M p
  nor : p ∉ ρ
  rel : RelS K M ρ H st
  at_ : ∃ xs, H p = some (.lst xs) ∧ RepL K M ρ H acc xs
theorem comp_read (hr : Snd T L G k r) (g : Good T L G k W X) {elt tg iter : Expr} {ifs : List Expr} {scope : Scope} {own : List (Str × Nat)} (ho : tgOwn X.N scope tg = some own) (hb : blkC X.N X.env.scope scope own = true) :
    ∀ σ H (Q : VK), tNew X.K W (compX G r X.N X.env.scope elt tg iter ifs scope) σ H Q →
      tLc (tG (ItX X.K) X.K W (srcB G r X.N X.env.scope tg iter)) (gT X.K (bindT X.N scope tg) own) (tT X.K never (testsX r X.N (relS scope X.env.scope) ifs)) (tE X.K never (r.E X.N (relS scope X.env.scope) elt)) (own.map (·.2)) σ H Q := by
  rintro σ H Q ⟨M, O, ρ, env, st, S, E, ok⟩
  unfold compX at ok
  simp only [ho, hb, if_true] at ok
  refine ⟨M, O, ρ, env, st, S, E, ?_⟩
  cases hsrc : srcB G r X.N X.env.scope tg iter env st with
  | stuck => rw [hsrc] at ok; exact ok
  | exc c ns es st1 => rw [hsrc] at ok; exact ok
  | ok ds st1 =>
  rw [hsrc] at ok
  intro J M1 ρ1 H1 e1 S1 q1
  have E1 := E.mono S e1
  have ok1 := OkN.later ok e1
  simp only [Res.bind] at ok1
  have it := q1 S1.sub
  by_cases hz : ds.length ≤ big
  · rw [if_pos hz] at ok1
    -- the turn by plain data
    generalize hf : (fun d st2 => Res.tame (match bindT X.N scope tg d (wipeE env (own.map (·.2))) with
        | some env1 => (testsX r X.N (relS scope X.env.scope) ifs env1 st2).bind fun k st3 => if k = true then (r.E X.N (relS scope X.env.scope) elt env1 st3).bind fun x st4 => Res.ok (some x) st4 else .ok none st3
        | none => Res.stuck)) = f
    have ok1 : OkN X.K (wAt W σ) M1 ρ1 H1 (compL f ds [] st1) Q := by rw [← hf]; exact ok1
    obtain ⟨out, stn, hrun⟩ : ∃ out stn, compL f ds [] st1 = .ok out stn := by
      cases h : compL f ds [] st1 with
      | stuck => rw [h] at ok1; exact ok1.elim
      | exc c ns es st' => exact absurd h (compL_tame (by rw [← hf]; exact fun d st => tame_tame _) ds [] st1 c ns es st')
      | ok out stn => exact ⟨out, stn, rfl⟩
    rw [hrun] at ok1
    intro p hp
    obtain ⟨Gv, Y, hw, hG, hY⟩ := it
    refine lc_it hw (fun i H' => ∃ M2 ρ2 acc st2, CompAt X.K M2 ρ1 ρ2 H1 H' p acc st2 M1 i ∧ compL f (ds.drop i) acc st2 = .ok out stn) ?_ ?_ ?_ ?_
    · refine ⟨_, ρ1, [], st1, ⟨Nat.le_refl _, Ext.mark hp, .inr rfl, fun z => ?_, S1.later (Ext.mark hp) (keep_lay hp) ?_, [], upd_same, RepL.nil⟩, by simpa using hrun⟩
      · exact S1.liv p (S1.sub p z) (fr0_none hp)
      · intro a h
        rcases h with h | h
        · exact .inl h
        · exact .inr ⟨_, by rw [h]; exact upd_same, ntb_lst⟩
    · rintro i H' _ ⟨M2, ρ2, acc, st2, C, _⟩
      exact hG _ _ _ C.ext
    · rintro i x H2 H3 hi ⟨M2, ρ2, acc, st2, C, hc⟩ hy
      have hd : ds[i]? = some ds[i] := List.getElem?_eq_getElem hi
      obtain ⟨hk, hx⟩ := hY i ds[i] M2 ρ2 H2 st2 x H3 C.ext C.rel hd hy
      rw [List.drop_eq_getElem_cons hi] at hc
      obtain ⟨o, st3, hf1, hc1⟩ := compL_ok hc
      rw [← hf] at hf1
      simp only at hf1
      cases hbd : bindT X.N scope tg ds[i] (wipeE env (own.map (·.2))) with
      | none => rw [hbd] at hf1; cases hf1
      | some env1 =>
        rw [hbd] at hf1
        simp only at hf1
        have S3 := C.rel.same hk
        have e3 : Ext M1 ρ1 H1 M2 ρ2 H3 := C.ext.trans (Ext.same hk)
        have E3 : RelE X.K M2 O ρ2 H3 (wipe σ (own.map (·.2))) (wipeE env (own.map (·.2))) := wipeE_rel (E1.mono S1 e3) _
        refine ⟨M2, O, ρ2, _, st2, ds[i], env1, S3, E3, hx, hbd, fun σ' E' hw' => ⟨?_, ?_⟩⟩
        · rw [hw' _ fun q hq => List.mem_map_of_mem hq]
          have idem : ∀ vs : List Nat, wipe (wipe σ vs) vs = wipe σ vs := by
            have q : ∀ (ws vs : List Nat), (∀ w ∈ ws, w ∈ vs) → wipe (wipe σ ws) vs = wipe σ vs := by
              intro ws
              induction ws with
              | nil => intro vs _; rfl
              | cons w ws ih =>
                intro vs h
                show wipe ((wipe σ ws).set w none) vs = wipe σ vs
                rw [wipe_set (h w List.mem_cons_self)]
                exact ih vs fun z hz => h z (List.mem_cons_of_mem _ hz)
            exact fun vs => q vs vs fun _ h => h
          exact idem _
        · -- the tests
          cases ht : testsX r X.N (relS scope X.env.scope) ifs env1 st2 with
          | stuck => rw [ht] at hf1; cases hf1
          | exc c ns es st4 => rw [ht] at hf1; cases hf1
          | ok kk st4 =>
            rw [ht] at hf1
            have hf2 : (if kk = true then (r.E X.N (relS scope X.env.scope) elt env1 st4).bind fun x st4 => Res.ok (some x) st4 else Res.ok none st4) = .ok o st3 := tame_ok hf1
            refine ⟨M2, O, ρ2, env1, st2, S3, E', ?_⟩
            rw [ht]
            intro b M4 ρ4 H4 e4 S4 hb4
            cases hb4
            obtain ⟨xs, hxs, lxs⟩ := C.at_
            have hnp4 : p ∉ ρ4 := fun z => by
              rcases e4.fresh p z with w | w
              · exact C.nor w
              · exact nfr (hk p _ hxs) ntb_lst w
            cases kk with
            | false =>
              cases hf2
              exact ⟨M4, ρ4, acc, _, ⟨Nat.le_succ_of_le C.few, e3.trans e4, e4.mono p C.mem, hnp4, S4, xs, e4.keep p _ C.nor ntb_lst (hk p _ hxs), RepL.mono C.rel.sub ((Ext.same hk).trans e4) acc xs lxs⟩, hc1⟩
            | true =>
              have hf3 : ((r.E X.N (relS scope X.env.scope) elt env1 st4).bind fun x st4 => Res.ok (some x) st4) = .ok o st3 := hf2
              cases hel : r.E X.N (relS scope X.env.scope) elt env1 st4 with
              | stuck => rw [hel] at hf3; cases hf3
              | exc c ns es st5 => rw [hel] at hf3; cases hf3
              | ok y st5 =>
                rw [hel] at hf3
                cases hf3
                refine ⟨M4, O, ρ4, env1, st4, S4, E'.mono S3 e4, ?_⟩
                rw [hel]
                intro v M5 ρ5 H5 e5 S5 rv
                have e25 := ((Ext.same (M := M2) (r := ρ2) hk).trans e4).trans e5
                have hp5 : H5 p = some (.lst xs) := e25.keep p _ C.nor ntb_lst hxs
                have m5 : M5 p := e25.mono p C.mem
                have hnp5 : p ∉ ρ5 := fun z => by
                  rcases e25.fresh p z with w | w
                  · exact C.nor w
                  · exact nfr hxs ntb_lst w
                have l5 : RepL X.K M5 ρ5 H5 acc xs := RepL.mono C.rel.sub e25 acc xs lxs
                have lv := LV.touch (ρ := ρ5) (o := .lst (xs ++ [v])) m5 hp5 ntb_lst
                have hlen : acc.length ≤ i := C.few
                refine ⟨xs, hp5, by rw [l5.length, big_eq]; omega, M5, ρ5, acc ++ [y], _, ⟨by rw [List.length_append]; exact Nat.succ_le_succ hlen, ((e3.trans e4).trans e5).touch hp m5 ⟨xs, hp5⟩, m5, hnp5, S5.touch m5 hnp5 hp5 ntb_lst, _, upd_same, ?_⟩, hc1⟩
                exact (RepL.late lv acc xs l5).app (RepL.cons (RepV.late lv y v rv) RepL.nil)
    · rintro H' ⟨M2, ρ2, acc, st2, C, hc⟩
      rw [List.drop_length] at hc
      cases hc
      obtain ⟨xs, hxs, lxs⟩ := C.at_
      exact ok1 p xs M2 ρ2 H' C.ext (fr0_none hp) C.mem C.nor hxs C.rel lxs
  · rw [if_neg hz] at ok1
    exact ok1.elim
end
end MI

set_option maxRecDepth 100000
set_option maxHeartbeats 4000000
namespace MI
open PySem PySem.Spec PyProof.Rows L2
variable [LD : LamDefs]
section
variable {T : Tab} {L : Dn} {G : Glb} {k : Nat} {r : Dn} {X : Cx} {W : WX}
theorem countU {y : V} : ∀ {ys : List V} {us : List Value}, Vals ys us → ys.all flatV = true → us.countP (eqU y) = ys.countP fun z => eqV z y
  | _, _, .nil, _ => rfl
  | z :: ys, u :: us, .cons rz rs, f => by
    have f' : flatV z = true ∧ ys.all flatV = true := by simpa only [List.all_cons, Bool.and_eq_true] using f
    rw [List.countP_cons, List.countP_cons, countU rs f'.2, eqU_of rz f'.1]
def rCntF (K : PySem.W.Frag) : V → List V → Hp → VK → Prop := fun x xs H Q => ∃ (a : Addr) (ys : List V) (y : V), x = V.ref a ∧ xs = [y] ∧ SqL K H a ys ∧ flatV y = true ∧ ys.all flatV = true ∧ Q (.int (ys.countP fun z => eqV z y : Nat)) H
theorem mt_countF : MtR X "list.count" (rCntF X.K) := by
  intro pins s σ H x xs v us Q I rx rxs h
  obtain ⟨a, ys, y, rfl, rfl, hs, fy, fys, q⟩ := h
  cases rx
  obtain ⟨uy, rfl, ry⟩ := rxs.one
  obtain ⟨its, rv, ⟨⟨cl, od, dt, sls⟩, n, ho, hc, hdn, hdt⟩, _⟩ := I.list hs
  dsimp only at hc hdt
  subst hc hdt
  refine call_meets PySem.F.slot_list_count ⟨_, ho, rfl⟩ PySem.F.entry_list_count (PySem.F.args_list_count_2 _ _) (SeqAt.list_countAt a its.toArray n od sls uy (eqU y))
    ⟨ho, fun u hu => mem_eqAt ry fy rv fys u (by simpa using hu), ⟨.int (ys.countP fun z => eqV z y : Nat), H, I.tok _, ⟨s.toks, ?_⟩, q⟩⟩
  have e : its.toArray.toList.countP (eqU y) = ys.countP fun z => eqV z y := countU rv fys
  show Value.int ((its.toArray.toList.countP (eqU y) : Nat) : Int) _ = _
  rw [e]
theorem findF {x : D} (fx : flat x = true) {ds : List D} {i : Nat} (f : ds.all flat = true) (h : (ds.findIdx? fun d => eqF d x) = some i) : ∃ z, (ds.map vOf)[i]? = some z ∧ eqV z (vOf x) = true ∧ ∀ (m : Nat) (z' : V), m < i → (ds.map vOf)[m]? = some z' → eqV z' (vOf x) = false := by
  obtain ⟨hi, hp, hn⟩ := List.findIdx?_eq_some_iff_getElem.mp h
  have fl : ∀ j (hj : j < ds.length), flat ds[j] = true := fun j hj => List.all_eq_true.mp f _ (List.getElem_mem hj)
  refine ⟨vOf ds[i], by rw [List.getElem?_map, List.getElem?_eq_getElem hi]; rfl, by rw [vOf_eq (fl i hi) fx]; exact hp, fun m z' hm hz => ?_⟩
  have hml : m < ds.length := Nat.lt_trans hm hi
  rw [List.getElem?_map, List.getElem?_eq_getElem hml] at hz
  cases hz
  rw [vOf_eq (fl m hml) fx]
  simpa using hn m hm
theorem countF {x : D} (fx : flat x = true) : ∀ {ds : List D}, ds.all flat = true → ((ds.map vOf).countP fun z => eqV z (vOf x)) = ds.countP fun d => eqF d x
  | [], _ => rfl
  | d :: ds, f => by
    have f' : flat d = true ∧ ds.all flat = true := by simpa only [List.all_cons, Bool.and_eq_true] using f
    rw [List.map_cons, List.countP_cons, List.countP_cons, countF fx f'.2, vOf_eq f'.1 fx]
/-- o.m(a), o a list -/
def rLm (K : PySem.W.Frag) (m : Str) : V → List V → Hp → VK → Prop := fun x xs H2 Q => ∃ (p : Addr) (ds : List D) (dy : D) (M2 : Mu) (ρ2 : List Addr) (st2 : Store) (d : D), x = V.ref p ∧ xs = [vOf dy] ∧ SqL K H2 p (ds.map vOf) ∧ flat dy = true ∧ ds.all flat = true ∧
        lmethD m ds dy = some d ∧ RelS K M2 ρ2 H2 st2 ∧ Ok (RepV K) K E0 M2 ρ2 H2 (.ok d st2) Q
theorem mt_lmC : MtR X "list.count" (rLm X.K "count") := by
  intro pins s σ H x xs v us Q I rx rxs h
  obtain ⟨p, ds, dy, M2, ρ2, st2, d, rfl, rfl, hp, fy, fd, hd, S2, ok⟩ := h
  unfold lmethD at hd
  rw [if_pos ⟨fy, fd⟩, if_pos rfl] at hd
  cases hd
  refine mt_countF pins s σ H _ _ v us Q I rx rxs ⟨p, _, _, rfl, rfl, hp, vOf_flat fy, all_vOf fd, ?_⟩
  rw [countF fy fd]
  exact ok.done S2 (RepV.int _)
theorem mt_lmI : MtR X "list.index" (rLm X.K "index") := by
  intro pins s σ H x xs v us Q I rx rxs h
  obtain ⟨p, ds, dy, M2, ρ2, st2, d, rfl, rfl, hp, fy, fd, hd, S2, ok⟩ := h
  unfold lmethD at hd
  rw [if_pos ⟨fy, fd⟩, if_neg (by decide), if_pos rfl] at hd
  cases hi : ds.findIdx? fun d => eqF d dy with
  | none => rw [hi] at hd; cases hd
  | some i =>
    rw [hi] at hd
    cases hd
    obtain ⟨z, h1, h2, h3⟩ := findF fy fd hi
    exact mt_index pins s σ H _ _ v us Q I rx rxs ⟨p, _, _, i, z, rfl, rfl, hp, vOf_flat fy, all_vOf fd, h1, h2, h3, ok.done S2 (RepV.int _)⟩
theorem snd_lmeth (hr : Snd T L G k r) (g : Good T L G k W X) {o a : Expr} {m : Str} {ap cp : Pos} (hs : isStar a = false) (hb : noCallBase o = true) (hl : (ap.endLine == cp.line) = true) (hm : (m == "count" || m == "index") = true) :
    PE X (.Call (.Attribute o m ap) [a] [] cp) (tE X.K W fun env st => (borrow (r.E X.N X.env.scope) X.N X.env.scope o env st).bind fun x st1 => (Res.of (lstOf x) st1).bind fun ds st1 => (r.E X.N X.env.scope a env st1).bind fun y st2 => Res.of (lmethD m ds y) st2) := by
  have pa := pa_cons (hr.ex W X g a) pa_nil (star_cons hs)
  have few : ((backTo cp (starEach [a] X.env)).all (fun x => !x.1) && (backToKw cp (keywordEach [] X.env)).all (fun x => x.1.isSome) && decide (([a] : List Expr).length + ([] : List Keyword).length + (if ([] : List Keyword).isEmpty then 0 else 1) < 30)) = true := by
    rw [star_cons hs]
    rfl
  -- the receiver is a list, the item flat
  have rd : ∀ σ H (Q : VK), tE X.K W (fun env st => (borrow (r.E X.N X.env.scope) X.N X.env.scope o env st).bind fun x st1 => (Res.of (lstOf x) st1).bind fun ds st1 => (r.E X.N X.env.scope a env st1).bind fun y st2 => Res.of (lmethD m ds y) st2) σ H Q →
      tBM X.K "list" (rLm X.K m) (tB X.K W (borrow (r.E X.N X.env.scope) X.N X.env.scope o)) (tCons (tE X.K W (r.E X.N X.env.scope a)) tNil) σ H Q := by
    rintro σ H Q ⟨M, O, ρ, env, st, S, E, ok⟩
    refine ⟨M, O, ρ, env, st, S, E, ok.bind E S fun dx st1 x M1 ρ1 H1 _ e1 S1 E1 q1 ok1 => ?_⟩
    obtain ⟨ds, hds, ok1'⟩ : ∃ ds, dx = .lst ds ∧ Ok (RepV X.K) X.K (wAt W σ) M1 ρ1 H1 ((r.E X.N X.env.scope a env st1).bind fun y st2 => Res.of (lmethD m ds y) st2) Q := by
      cases dx with
      | lst ds => exact ⟨ds, rfl, ok1⟩
      | _ => exact ok1.stuckR
    subst hds
    obtain ⟨p, xs, rfl, hp, hl1⟩ := q1.lst
    refine ⟨.inl ⟨rfl, xs, SqL.of hp⟩, M1, O, ρ1, env, st1, S1, E1, ok1'.bind E1 S1 fun dy st2 y M2 ρ2 H2 _ e2 S2 E2 q2 ok2 => ?_⟩
    obtain ⟨d, hd, ok3⟩ := ok2.of
    have hd' := hd
    unfold lmethD at hd'
    split at hd'
    · rename_i hf
      obtain ⟨p', xs', ep, hp', hl'⟩ := (RepB.mono S1 e2 q1).lst
      cases ep
      rw [repL_flat hf.2 hl'] at hp'
      rw [vOf_rep hf.1 q2]
      exact ⟨p, ds, dy, M2, ρ2, st2, d, rfl, rfl, SqL.of hp', hf.1, hf.2, hd, S2, ok3⟩
    · cases hd'
  rw [Bool.or_eq_true, beq_iff_eq, beq_iff_eq] at hm
  rcases hm with rfl | rfl
  · exact peI (pe_bm PySem.F.plainAttrs_list PySem.F.slot_list_count PySem.F.type_list_count mt_lmC (snd_borrow hr g o) pa (base_of hb) few hl (star_cons hs) rfl) rd
  · exact peI (pe_bm PySem.F.plainAttrs_list PySem.F.slot_list_index PySem.F.type_list_index mt_lmI (snd_borrow hr g o) pa (base_of hb) few hl (star_cons hs) rfl) rd
theorem snd_dict0 {p : Pos} : PE X (.Dict [] [] p) (tE X.K W fun _ st => .ok .edic st) := by
  refine peI pe_dnewK fun σ H Q ⟨M, O, ρ, env, st, S, E, ok⟩ => ?_
  intro a ha
  refine ok _ M ρ _ (Ext.lay ha) (S.lay ha) ?_
  unfold RepV
  exact ⟨a, rfl, S.notM ha, upd_same⟩
theorem RepV.exn_ {K : PySem.W.Frag} {M : Mu} {ρ : List Addr} {H : Hp} {c : Str} {ns : List Str} {ds : List D} {v : V} (h : RepV K M ρ H (.exn c ns ds) v) : ∃ a d dd xs, v = .ref a ∧ H a = some (ExK (.ref (He.ga K c)) d a) ∧ ((ns = [] ∧ d = none) ∨ (d = some dd ∧ H dd = some (.xd (ns.zip xs)))) ∧ RepL K M ρ H ds xs := by
  unfold RepV at h
  obtain ⟨a, d, dd, xs, e, _, q, f, l⟩ := h
  exact ⟨a, d, dd, xs, e, q, f.imp id fun ⟨e1, _, q1⟩ => ⟨e1, q1⟩, l⟩
/-- how an exception lies in memory -/
theorem exn_inst {pins : List (Addr × Obj)} {s : Shared} {σ : L2.St} {H : Hp} {a C : Addr} {d : Option Addr} (I : Inv X pins σ H s) (h : H a = some (ExK (.ref C) d a)) (hd : ∀ dd, d = some dd → ∃ o, s.heap.get? dd = some o) :
    ∃ oe od, PySem.W.InstAt s.heap a oe C od ∧ (∀ dd, d = some dd → ∃ o, od = some o ∧ s.heap.get? dd = some o) := by
  have z : ObjOk X.prog X.w H s.heap a (ExK (.ref C) d a) := I.hok a _ h
  obtain ⟨⟨oe, vs, h1, ⟨h2, h3⟩, h4⟩, _, _⟩ := z
  cases d with
  | none => exact ⟨oe, none, ⟨h1, h2, by unfold PySem.W.notCls; rw [h4] <;> rfl, by rw [h3]; trivial⟩, fun dd e => nomatch e⟩
  | some dd =>
    obtain ⟨o, ho⟩ := hd dd rfl
    exact ⟨oe, some o, ⟨h1, h2, by unfold PySem.W.notCls; rw [h4] <;> rfl, by rw [h3]; exact ho⟩, fun dd' e => by cases e; exact ⟨o, rfl, ho⟩⟩
/-- isinstance(e, c) -/
def rIsX (P : Program) (w : World) (K : PySem.W.Frag) (mg : Str → Option Value) (base : Heap) (G : Glb) : List V → Hp → VK → Prop := fun xs H Q => ∃ (M : Mu) (ρ : List Addr) (c : Str) (ns fs : List Str) (ds : List D) (x y : V) (cv : Value) (b : Bool), xs = [x, y] ∧ RepV K M ρ H (.exn c ns ds) x ∧ ExF P w K mg base G c fs ∧
  (∀ u, RelV y u → u = cv) ∧ PySem.W.kitOne K (.ref (He.ga K c)) cv = some b ∧ Q (.bl b) H
theorem call_isX : CallR X (.builtin "isinstance") (rIsX X.prog X.w X.K X.mg X.base G) := by
  intro pins s σ H xs us Q I r h
  obtain ⟨M, ρ, c, ns, fs, ds, x, y, cv, b, rfl, rx, F, hcv, hb, q⟩ := h
  obtain ⟨a, d, dd, xs, rfl, ha, hd, _⟩ := rx.exn_
  obtain ⟨u1, u2, rfl, r1, r2⟩ : ∃ u1 u2, us = [u1, u2] ∧ RelV (V.ref a) u1 ∧ RelV y u2 := by
    cases r with
    | cons p q => cases q with
      | cons p' q' => cases q'; exact ⟨_, _, rfl, p, p'⟩
  cases r1
  have e2 := hcv u2 r2
  subst e2
  obtain ⟨oe, od, J, _⟩ := exn_inst I ha fun d' e => by
    rcases hd with ⟨_, e'⟩ | ⟨e', hx⟩
    · rw [e'] at e; cases e
    · rw [e'] at e
      cases e
      exact objOk_get (I.hok _ _ hx)
  exact PySem.W.kia_one (PySem.W.kitx_exc F.cl F.ga F.gg F.sb F.ca F.cg F.ct F.mo) I.kIn J hb (fun z => nomatch z) fun tk => ⟨.bl b, H, I.kept (t' := tk) fun _ _ z => z, rfl, q⟩
theorem snd_isX (hr : Snd T L G k r) (g : Good T L G k W X) {f : Str} {a : Expr} {t : Str} {p q tp : Pos} (hd : dunder f = false) (hg : glB X.env.scope f = true) (hf : G.free f = true) (hb : f = "isinstance") (hs : isStar a = false) (ht : exT G X.env.scope t = true) :
    PE X (.Call (.Name f p) [a, .Name t tp] [] q) (tE X.K W fun env st => (r.E X.N X.env.scope a env st).bind fun x st1 => (Res.of (isExn G t x) st1).bind fun k st2 => .ok (.bl k) st2) := by
  subst hb
  unfold exT at ht
  simp only [Bool.and_eq_true, Bool.not_eq_true', Bool.or_eq_true, beq_iff_eq] at ht
  obtain ⟨⟨hgt, hdt⟩, htt⟩ := ht
  -- what the class is
  have key : ∃ (y : V) (cv : Value), PE X (.Name t tp) (tC y) ∧ (∀ u, RelV y u → u = cv) ∧ ∀ c fs, G.exc c = some fs → PySem.W.kitOne X.K (.ref (He.ga X.K c)) cv = some (if (G.exc t).isSome = true then G.sub c t else true) := by
    cases hx : G.exc t with
    | some gs =>
      have F := g.fa.exc t gs hx
      refine ⟨.ref (He.ga X.K t), .ref (He.ga X.K t), pe_glob (glB_gl hgt) F.gC rfl (dunder_debug hdt).1, fun u h => h, fun c fs hc => ?_⟩
      exact ((g.fa.exc c fs hc).sub t gs hx).2
    | none =>
      rw [hx] at htt
      have htt' : G.free t = true ∧ t = Str.ofString "ValueError" := by simpa using htt
      have hv : bootBuiltins t = some (.type "ValueError") := by rw [htt'.2]; exact PyProof.Rows.Boot.«ValueError»
      exact ⟨.ty "ValueError", .type "ValueError", pe_bltn (glB_gl hgt) (g.free t htt'.1) hv rfl (dunder_debug hdt).2.2 (dunder_debug hdt).1, fun u h => h, fun c fs hc => (g.fa.exc c fs hc).ve⟩
  obtain ⟨y, cv, hy, hcv, hk⟩ := key
  refine peI (pe_callB (call_isX (G := G)) (glB_gl hg) (g.free _ hf) PyProof.Rows.boot_isinstance (pa_cons (hr.ex W X g a) (pa_cons hy pa_nil (star_cons rfl)) (star_cons hs)) (dunder_debug hd).2.2 (dunder_debug hd).1 (star_cons hs) (back_any rfl)) fun σ H Q ⟨M, O, ρ, env, st, S, E, ok⟩ => ?_
  refine ⟨M, O, ρ, env, st, S, E, ok.bind E S fun dx st1 x M1 ρ1 H1 _ e1 S1 E1 q1 ok1 => ?_⟩
  cases dx with
  | exn c ns ds =>
    unfold isExn at ok1
    dsimp only at ok1
    cases hc : G.exc c with
    | none => rw [hc] at ok1; exact ok1.stuckR
    | some fs =>
      rw [hc] at ok1
      exact ⟨M1, ρ1, c, ns, fs, ds, x, y, cv, _, rfl, q1, g.fa.exc c fs hc, hcv, hk c fs hc, Ok.done S1 ok1 (RepV.bl _)⟩
  | _ => exact ok1.stuckR
/-- e.f -/
theorem snd_fld (hr : Snd T L G k r) (g : Good T L G k W X) {o : Expr} {n : Str} {p : Pos} (hb : noCallBase o = true) :
    PE X (.Attribute o n p) (tE X.K W fun env st => (r.E X.N X.env.scope o env st).bind fun x st1 => Res.of (fldD G n x) st1) := by
  refine ⟨fun pins s σ H Q I h => ?_⟩
  obtain ⟨M, O, ρ, env, st, S, E, ok⟩ := h
  refine attr_of (base_of hb) (thn ((hr.ex W X g o).run pins s σ H (fun x H1 => ∃ M1 ρ1 st1 dx d, RelS X.K M1 ρ1 H1 st1 ∧ RepV X.K M1 ρ1 H1 dx x ∧ fldD G n dx = some d ∧ Ok (RepV X.K) X.K (wAt W σ) M1 ρ1 H1 (.ok d st1) Q) I
    ⟨M, O, ρ, env, st, S, E, ok.bind E S fun dx st1 x M1 ρ1 H1 _ e1 S1 E1 q1 ok1 => ?_⟩) fun u s1 hh => ?_)
  · obtain ⟨d, hd, ok2⟩ := ok1.of
    exact ⟨M1, ρ1, st1, dx, d, S1, q1, hd, ok2⟩
  · obtain ⟨x, H1, I1, rx, M1, ρ1, st1, dx, d, S1, q1, hd, ok2⟩ := hh
    unfold fldD at hd
    split at hd
    · rename_i c m d'
      split at hd
      · rename_i hc
        obtain ⟨rfl, hc⟩ := hc
        cases hd
        obtain ⟨a, dO, dd, xs, rfl, ha, hdd, l⟩ := q1.exn_
        obtain rfl : u = Value.ref a := rx
        rcases hdd with ⟨z, _⟩ | ⟨rfl, hx⟩
        · cases z
        · have F := g.fa.exc c _ hc
          obtain ⟨_, hno, _⟩ := F.mk1 m rfl
          obtain ⟨y, ys, rfl, ly, ly2⟩ : ∃ y ys, xs = y :: ys ∧ RepV X.K M1 ρ1 H1 d y ∧ RepL X.K M1 ρ1 H1 [] ys := by
            unfold RepL at l
            exact l
          obtain ⟨oe, od, J, hod⟩ := exn_inst I1 ha fun d' e => by
            cases e
            exact objOk_get (I1.hok _ _ hx)
          obtain ⟨o, rfl, ho⟩ := hod dd rfl
          have hx2 : ObjOk X.prog X.w H1 s1.heap dd (.xd ([m].zip (y :: ys))) := I1.hok dd _ hx
          obtain ⟨mA, hns, hrl⟩ := hx2
          obtain ⟨o2, ho2, hl2⟩ := lookIn_ns hns
          rw [ho] at ho2
          cases ho2
          obtain ⟨u2, hu2, ru⟩ := RelO.some_of (v := y) (o := mA m) (by
            have e := hrl m
            have e2 : List.lookup m ([m].zip (y :: ys)) = some y := by simp [List.lookup]
            rw [e2] at e
            exact e)
          exact HandSPX.exc_get I1.kIn J F.ga F.gg F.sb (PySem.W.findObj_own F.hd hno rfl (by rw [hl2, hu2])) (handed_of ru) ⟨y, H1, I1.tok _, ru, ok2.done S1 ly⟩
      · cases hd
    · cases hd
theorem noArgs_eq {a : Arguments} (h : noArgs a = true) : a = { posonlyargs := [], args := [], vararg := none, kwonlyargs := [], kw_defaults := [], kwarg := none, defaults := [] } := by
  obtain ⟨a1, a2, a3, a4, a5, a6, a7⟩ := a
  unfold noArgs at h
  simp only [Bool.and_eq_true, List.isEmpty_iff, Option.isNone_iff_eq_none] at h
  obtain ⟨⟨⟨⟨⟨⟨rfl, rfl⟩, rfl⟩, rfl⟩, rfl⟩, rfl⟩, rfl⟩ := h
  rfl
theorem ext_lam {M : Mu} {ρ : List Addr} {H H1 : Hp} (e : LamX.ExtN H H1) : Ext M ρ H M ρ H1 where
  pre := ⟨[], by simp⟩
  mono := fun _ h => h
  new := fun _ h => .inl h
  fresh := fun _ h => .inl h
  keep := fun a o _ nt h => e a o h nt
  liv := fun a f o h => Classical.byContradiction fun n => n (f o (e a o h fun ps z => n ⟨ps, z⟩))
  tup := fun a xs h => e a _ h ntb_tup
  frz := fun a o u h => e a _ h fun ps z => nomatch z
theorem rel_lam {K : PySem.W.Frag} {M : Mu} {ρ : List Addr} {H H1 : Hp} {st : Store} (S : RelS K M ρ H st) (e : LamX.ExtN H H1) (t : LamX.Tabs (TK K) H1) : RelS K M ρ H1 st where
  len := S.len
  nd := S.nd
  sub := S.sub
  ob := fun i ds h => by
    obtain ⟨a, xs, h1, h2, h3⟩ := S.ob i ds h
    exact ⟨a, xs, h1, e a _ h2 ntb_lst, RepL.mono S.sub (ext_lam e) ds xs h3⟩
  liv := fun a h f => S.liv a h ((ext_lam (M := M) (ρ := ρ) e).liv a f)
  tabs := t
theorem takes_lam {A : Around} {outer : List PySem.Env} {s : Shared} {H : Hp} {E : XK} {scope : Scope} {f c' : Addr} : Takes (LamX.lamCx X A outer s H E scope f c') (fun cls d _ H => E cls d H) :=
  takes_of (X := LamX.lamCx X A outer s H E scope f c') rfl rfl rfl rfl
/-- x(), in the def that got the lambda, exceptions told at the slots -/
theorem pe_actS {pins : List (Addr × Obj)} {σ : L2.St} {H : Hp} {s : Shared} {Ng : List Str} {qg : Str} {sg : Scope} {ga fl c' : Addr} {cdg pm ctv : Value} {ps : Arguments} {body : Expr} {lsc : Scope} {m i : Nat} {a : Str} {pn : List (Addr × Obj)} {xe : Value → Shared → Prop} {W : WX} {tb : XK → TE} {p1 p2 : Pos}
    (I : Inv X pins σ H s) (Ls : LamX.LamS X.env.scope lsc) (hf : s.heap.get? fl = some (PySem.W.kla_obj "<lambda>" (X.env.qual ++ "<lambda>") ps body lsc (cloFrom X.env.cells lsc.names []) pm c' ctv)) (hfn : H fl = none) (hfr : fl ∉ frs X.stack)
    (hbind : bindArgs (PySem.W.kla_fn "<lambda>" (X.env.qual ++ "<lambda>") ps body lsc (cloFrom X.env.cells lsc.names []) pm (.ref c') ctv) ⟨[], []⟩ = pure [])
    (tk : Takes ((cxOf C8.CX0 X.prog X.w X.K X.mg X.base Ng qg sg ga cdg X.A X.stack s H C8.E0).tr pn xe) W) (hr : Room (m + 1) (X.A.deeper (envOfC qg sg s.heap.objs.size ga cdg)))
    (hbody : ∀ (E : XK) (A : Around) (outer : List PySem.Env) (s2 : Shared) (H2 : Hp), Room m (A.deeper (LamX.lamEnv X lsc s2.heap.objs.size fl c')) → PE (LamX.lamCx X A outer s2 H2 E lsc fl c') body (tb E))
    (hN : Ng[i]? = some a) (hv : Vis sg a) (hd : dunder a = false) :
    PE ((cxOf C8.CX0 X.prog X.w X.K X.mg X.base Ng qg sg ga cdg X.A X.stack s H C8.E0).tr pn xe) (.Call (.Name a p1) [] [] p2) (fun σZ HZ Q => σZ[i]? = some (some (.ref fl)) ∧ HZ c' = some (LamX.CodeO c' (X.env.qual ++ "<lambda>")) ∧ tb (WE W σZ) σ HZ Q) := by
  refine ⟨fun pz sz σZ HZ Q IZ ⟨hs, hcz, hz⟩ => ?_⟩
  refine wpAny_Call_Name_kw (thn ((pe_var (pos := p1) hN hv (dunder_debug hd).1 (dunder_debug hd).2.1).run pz sz σZ HZ (fun v HZ' => v = .ref fl ∧ HZ' = HZ) IZ ⟨.ref fl, hs, rfl, rfl⟩) fun u s1 ⟨v, HZ', I1, rv, ev, eH⟩ => ?_)
  subst ev
  subst eH
  obtain rfl : u = Value.ref fl := rv
  have lam1 := I1.base.keep fl _ hf hfn hfr (fun z => nomatch (show fl ∈ ([] : List Addr) from z))
  refine PySem.W.callWith_F0 ⟨_, _, _, _, lam1⟩ ?_
  have un1 : Un (frs X.stack) [] H HZ' s.heap s1.heap := I1.base
  have cz : ObjOk X.prog X.w HZ' s1.heap c' (LamX.CodeO c' (X.env.qual ++ "<lambda>")) := I1.hok c' _ hcz
  obtain ⟨⟨oc, vs, t, hoc, hdc, hvc⟩, _, _⟩ := cz
  have run1 : codeAny (model X.prog X.w) (X.A.deeper (envOfC qg sg s.heap.objs.size ga cdg)) (.call (.ref fl) ⟨[], []⟩) (CR (L2.CX X.prog X.w) (envOfC qg sg s.heap.objs.size ga cdg :: X.stack) X.prog X.w HZ' s1 Q (WE W σZ)) s1 := by
    refine PySem.W.kla_callFunE hr.depth lam1 rfl Ls.co Ls.gen rfl ⟨c', oc, vs, t, rfl, hoc, hdc, hvc⟩ ?_
    rw [hbind]
    refine wpAny_pure (wpAny_newFunctionEnv (fun y hy => (Ls.own y hy).2) (fun y hy => absurd hy (by simp)) (fun h2 hns hsb => ⟨I1.nolimit.fresh _ hsb, ?_⟩) Ls.kind)
    have kp2 : ∀ b o, s1.heap.get? b = some o → h2.get? b = some o := fun b o e => hsb.extBut b o (Nat.ne_of_lt (Heap.lt_size e)) (Heap.get?_push_of_some _ e)
    have J2 := LamX.lam_start2 (E := WE W σZ) (f := fl) (c' := c') (tk := s1.toks + ([] : List (Str × Value)).length) I Ls I1.env0 hr.hd un1 hns kp2
    show codeAny _ _ (.expr body (LamX.lamEnv X lsc s1.heap.objs.size fl c')) _ _
    refine PySem.W.kla_codeExpr (wpAny_mono ((hbody (WE W σZ) _ _ s1 HZ' (hr.deeper _)).run [] _ _ HZ' Q J2 hz) (fun v s2 hq => ?_) fun e s2 hq => hq)
    obtain ⟨w, H2, J3, rw', q⟩ := hq
    exact ⟨w, H2, J3.os, J3.bare, J3.base, J3.hok, rw', q⟩
  refine wpAny_call (codeAny_mono run1 fun rr s2 hq => ?_)
  cases rr with
  | error e => exact passAt tk σZ pz HZ' s1 e s2 I1 hq
  | ok z =>
    cases z with
    | ret u => exact I1.after hq
    | next => exact hq.elim
    | brk => exact hq.elim
    | cont => exact hq.elim
theorem snd_lam (g : Good T L G k W X) {f : Str} {ps : Arguments} {body : Expr} {lsc : Scope} {lp p q : Pos} (h : (G.told f && G.lamOk && glB X.env.scope f && !dunder f && LamX.lamSB X.env.scope lsc && noArgs ps) = true) :
    PE X (.Call (.Name f p) [.Lambda ps body lsc lp] [] q) (tE X.K W (lamX (L.E X.N lsc body) (T f))) := by
  simp only [Bool.and_eq_true, Bool.not_eq_true'] at h
  obtain ⟨⟨⟨⟨⟨ht, hlk⟩, hg⟩, hd⟩, hls⟩, hna⟩ := h
  have Ls := LamX.lamS_by hls
  have hdef : defaultsOf ps X.env = ([], []) := by
    rw [noArgs_eq hna]
    rfl
  have hbind : ∀ (qq : Str) (cl : List (Str × Addr)) (pm cv ctv : Value), bindArgs (PySem.W.kla_fn "<lambda>" qq ps body lsc cl pm cv ctv) ⟨[], []⟩ = pure [] := by
    rw [noArgs_eq hna]
    intro _ _ _ _ _
    rfl
  obtain ⟨⟨hk2, c, P, hcode, TB, hmT⟩, hbody⟩ := g.lam hlk
  rcases g.fa.told f ht with hst | hT
  · refine ⟨fun pins s σ H Q I ⟨M, O, ρ, env, st, S, E, ok⟩ => ?_⟩
    unfold lamX at ok
    cases hL : L.E X.N lsc body env st with
    | stuck => simp only [hL] at ok; exact ok.elim
    | ok d st3 => simp only [hL, hst, Res.tame] at ok; exact ok.elim
    | exc cn ns ds st3 => simp only [hL, hst, Res.tame] at ok; exact ok.elim
  obtain ⟨⟨ga, a, pg, bg, sg, dV, kV, doc, pm, cdv, ct, oc, an, od, osl, Ng, hm, hkp, lk, hcd, hb, Sg, hNg, hva, hda, told⟩⟩ := hT
  obtain ⟨m, rfl⟩ : ∃ m, k = m + 2 := ⟨k - 2, by omega⟩
  have hu : ∀ x ∈ TK X.K, x.1 = P → x.2 = X.env.qual ++ "<lambda>" := fun x hx e => congrArg Prod.snd (g.fa.uniq x hx _ hmT e)
  refine ⟨fun pins s σ H Q I hh => ?_⟩
  obtain ⟨M, O, ρ, env, st, S, E, ok⟩ := hh
  refine wpAny_Call_Name_kw (ld_glob I (glB_gl hg) hm ?_ (dunder_debug hd).1)
  refine PySem.W.callWith_K (h₀ := X.base) I.ok.mod.kin hkp ?_ (by rfl) (by rfl)
  show wpAny _ _ (spliced ((false, eval (.Lambda ps body lsc lp) X.env) :: backTo q (starEach [] X.env))) _ _ s
  refine Calls.spliced_cons (LamX.lam_make2 I TB hcode hmT hu S.tabs hdef (Ls.has I.ok) fun fl c' pm' ctv H1 s' I1 eN T1 hf hfn hfr hco => ?_)
  refine Calls.spliced_nil ⟨I1.kIn, ?_⟩
  have S1 : RelS X.K M ρ H1 st := rel_lam S eN T1
  have x1 : Ext M ρ H M ρ H1 := ext_lam eN
  have E1 := E.mono S x1
  have rc : codeAny (model X.prog X.w) X.A (.call (.ref ga) ⟨[.ref fl], []⟩) (CR C8.CX0 X.stack X.prog X.w H1 s' Q C8.E0) s' := by
    refine LamX.run_ofS (N := Ng) (ps := [a]) (us := [.ref fl]) (vs := [.ref fl]) lk hcd Sg g.room I1.env0 (hb s' [.ref fl] I1.kIn rfl) (.cons rfl .nil) rfl fun hr' => ?_
    have act := fun (W' : WX) (pn : List (Addr × Obj)) (xe : Value → Shared → Prop) (p1 p2 : Pos) (tk : Takes ((cxOf C8.CX0 X.prog X.w X.K X.mg X.base Ng f sg ga cdv X.A X.stack s' H1 C8.E0).tr pn xe) W') =>
      pe_actS (i := 0) (p1 := p1) (p2 := p2) (tb := fun E' => tE X.K (fun cls d _ H => E' cls d H) (L.E X.N lsc body)) I1 Ls hf hfn hfr (hbind _ _ _ _ _) tk hr' (fun E' A outer s2 H2 hr2 => hbody _ (LamX.lamCx X A outer s2 H2 E' lsc fl c') rfl rfl rfl rfl rfl takes_lam g.nd Ls.kind rfl hr2 body) hNg hva hda
    refine (fun (hz : ∃ tt, _ ∧ _) => ⟨hz.choose, hz.choose_spec.1.nox, hz.choose_spec.2⟩) (told X.A X.stack (X.env.qual ++ "<lambda>") fl c' s' H1 Q (fun E' H' Q' => tE X.K (fun cls d _ H => E' cls d H) (L.E X.N lsc body) σ H' Q') hr' act hco ⟨M, ρ, st, S1, fun M2 r2 H2 x2 S2 E' Q' hE hQ => ?_⟩)
    refine ⟨M2, O, r2, env, st, S2, E1.mono S1 x2, ?_⟩
    have ok2 := ok.later (x1.trans x2)
    unfold lamX at ok2
    have tame : ∀ {x : Res D} {M3 : Mu} {r3 : List Addr} {H3 : Hp}, Ok (RepV X.K) X.K (wAt W σ) M3 r3 H3 x.tame Q → Ok (RepV X.K) X.K C8.E0 M3 r3 H3 x Q := fun {x M3 r3 H3} z => by
      cases x with
      | ok d st => exact z
      | exc c ns ds st => exact z.elim
      | stuck => exact z.elim
    cases hL : L.E X.N lsc body env st with
    | stuck => rw [hL] at ok2; exact ok2.elim
    | ok d st3 =>
      rw [hL] at ok2
      exact fun v M3 r3 H3 x3 S3 q3 => hQ v H3 M3 r3 st3 d x3 S3 q3 (tame (ok2.later x3))
    | exc cn ns ds st3 =>
      rw [hL] at ok2
      exact fun cls dd M3 r3 H3 x3 S3 q3 => hE cls dd H3 M3 r3 st3 cn ns ds x3 S3 q3 (tame (ok2.later x3))
  refine wpAny_call (codeAny_mono rc fun rr s2 hq => ?_)
  cases rr with
  | error e => exact (show False from hq).elim
  | ok z =>
    cases z with
    | ret u => exact I1.after hq
    | next => exact hq.elim
    | brk => exact hq.elim
    | cont => exact hq.elim
end
end MI

set_option maxRecDepth 100000
set_option maxHeartbeats 4000000
namespace MI
open PySem PySem.Spec PyProof.Rows L2
variable [LD : LamDefs]
section
variable {T : Tab} {L : Dn} {G : Glb} {k : Nat} {r : Dn} {X : Cx} {W : WX}
theorem plain_fold {e : Expr} {env : PySem.Env} {x : Value} (h : plainIter e = true) : foldedSetIterable e env x = pure x := by
  cases e <;> first | rfl | cases h
/-- what is walked may be walked: iter is no set display -/
theorem src_plain {own : List (Str × Nat)} {N : List Str} {sc : Scope} {tg iter : Expr} (h : plainIter iter = false) : srcX G r N sc tg iter = stuckE := by
  cases iter <;> first | (exact Bool.noConfusion h) | rfl
theorem srcB_plain {N : List Str} {sc : Scope} {tg iter : Expr} (h : plainIter iter = false) : srcB G r N sc tg iter = stuckE := by
  cases iter <;> first | (exact Bool.noConfusion h) | rfl
theorem comp_blk {N : List Str} {sc scope : Scope} {own : List (Str × Nat)} (h : blkC N sc scope own = true) : scope.kind = .function := (blkOk_by h).kind
theorem relS_is {scope : Scope} {cl : List (Str × Addr)} {C : Addr} {env : PySem.Env} : (compEnvC scope cl C env).scope = relS scope env.scope := rfl
/-- [elt for tg in iter if ..], new -/
theorem snd_comp (hr : Snd T L G k r) (g : Good T L G k W X) {elt tg iter : Expr} {ifs : List Expr} {scope : Scope} {p : Pos} : PE X (.ListComp elt [⟨tg, iter, ifs, 0⟩] scope p) (tNew X.K W (compX G r X.N X.env.scope elt tg iter ifs scope)) := by
  cases ho : tgOwn X.N scope tg with
  | none =>
    refine ⟨fun pins s σ H Q I h => ?_⟩
    obtain ⟨M, O, ρ, env, st, S, E, ok⟩ := h
    unfold compX at ok
    simp only [ho] at ok
    exact ok.elim
  | some own =>
    cases hb : blkC X.N X.env.scope scope own with
    | false =>
      refine ⟨fun pins s σ H Q I h => ?_⟩
      obtain ⟨M, O, ρ, env, st, S, E, ok⟩ := h
      unfold compX at ok
      simp only [ho, hb] at ok
      exact ok.elim
    | true =>
      cases hp : plainIter iter with
      | false =>
        refine ⟨fun pins s σ H Q I h => ?_⟩
        obtain ⟨M, O, ρ, env, st, S, E, ok⟩ := h
        unfold compX at ok
        simp only [ho, hb, srcB_plain hp, if_true] at ok
        exact ok.elim
      | true =>
        have hk := comp_blk hb
        exact peI (pe_lc g.calm g.nd (snd_srcB hr g) (blkOk_by hb) (fun s H C cl fp => pg_T (g.blk hk) sto_blk ho) (fun s H C cl fp => snd_tests hr (g.blk hk) ifs) (fun s H C cl fp => hr.ex _ _ (g.blk hk) elt) (fun x => plain_fold hp)) (comp_read hr g ho hb)
theorem unmark {M : Mu} {ρ : List Addr} {H : Hp} {M' : Mu} {ρ' : List Addr} {H' : Hp} {a : Addr} (e : Ext M ρ H M' ρ' H') (h : ¬ M a) : Ext M ρ H (fun b => M' b ∧ b ≠ a) ρ' H' :=
  ⟨e.pre, fun b hb => ⟨e.mono b hb, fun z => h (by rw [← z]; exact hb)⟩, fun b hb => e.new b hb.1, e.fresh, e.keep, e.liv, e.tup, e.frz⟩
theorem new_val {e : Expr} {f : AX} (h : PE X e (tNew X.K W f)) : PE X e (tE X.K W fun env st => (f env st).bind fun ds st1 => .ok (.lst ds) st1) :=
  peI h fun σ H Q ⟨M, O, ρ, env, st, S, E, ok⟩ => by
    refine ⟨M, O, ρ, env, st, S, E, ?_⟩
    cases hf : f env st with
    | stuck => simp only [hf] at ok; exact ok
    | exc c ns es st1 => simp only [hf] at ok; exact ok
    | ok ds st1 =>
      simp only [hf, Res.bind] at ok
      intro a xs M' ρ' H' e hn hm hr hl S' l
      refine ok (.ref a) (fun b => M' b ∧ b ≠ a) ρ' H' (unmark e (S.notF hn)) (S'.anti (fun b h => h.1) fun b h => ⟨S'.sub b h, fun z => hr (by rw [← z]; exact h)⟩) ?_
      unfold RepV
      exact ⟨a, xs, rfl, fun z => z.2 rfl, hl, RepL.anti (fun b (h : M' b ∧ b ≠ a) => h.1) ds xs l⟩
theorem snd_lstN (hr : Snd T L G k r) (g : Good T L G k W X) {es : List Expr} {p : Pos} (hl : es.length ≤ 1000) : PE X (.List es p) (tNew X.K W (denA (r.E X.N X.env.scope) es)) := by
  refine peI (pe_lst (snd_A hr g es)) fun σ H Q ⟨M, O, ρ, env, st, S, E, ok⟩ => ?_
  refine ⟨M, O, ρ, env, st, S, E, ?_⟩
  cases hd : denA (r.E X.N X.env.scope) es env st with
  | stuck => rw [hd] at ok; exact ok
  | exc c ns es' st1 => rw [hd] at ok; exact ok
  | ok ds st1 =>
  rw [hd] at ok
  intro xs M1 ρ1 H1 e1 S1 q1
  refine ⟨by rw [q1.length, denA_len hd]; exact small_big hl, fun q hq => ?_⟩
  have hq0 : Fr0 H q := e1.liv q (fr0_none hq)
  have em := Ext.mark (M := M1) (ρ := ρ1) (o := .lst xs) hq
  refine ok q xs (fun a => M1 a ∨ a = q) ρ1 _ (e1.trans em) hq0 (.inr rfl) (fun z => ?_) upd_same (S1.later em (keep_lay hq) fun a h => ?_) (RepL.mono S1.sub em ds xs q1)
  · exact S1.liv q (S1.sub q z) (fr0_none hq)
  · rcases h with h | h
    · exact .inl h
    · exact .inr ⟨_, by rw [h]; exact upd_same, ntb_lst⟩
theorem plainIx_of {i : Expr} (h1 : ∀ a b c p, i ≠ .Slice a b c p) (h2 : ∀ es j p, i ≠ .Tuple es j p) : PlainIx i := by
  intro o v
  cases i <;> first | rfl | (exact absurd rfl (h1 _ _ _ _)) | (exact absurd rfl (h2 _ _ _))
theorem snd_step (hr : Snd T L G k r) (g : Good T L G k W X) (e : Expr) : PE X e (tE X.K W (stepE T L G r X.N X.env.scope e)) := by
  unfold stepE
  split
  · rename_i c o y z y' z' h
    split
    · rename_i hb
      exact snd_repl hr g h hb
    · exact pe_stuck
  · split
    · rename_i b hb
      split
      · rename_i hc
        simp only [Bool.and_eq_true] at hc
        exact snd_tupRg hr g hb hc.1.1.1 hc.1.1.2 hc.1.2 hc.2
      · exact pe_stuck
    split
    · exact snd_name g
    · exact snd_const
    · exact snd_bin hr g
    · exact snd_notE hr g
    · exact snd_neg hr g
    · exact pe_one (hr.ex W X g _)
    · exact snd_andE hr g
    · exact snd_orE hr g
    · split
      · rename_i hm; exact snd_cmpE hr g hm
      · exact pe_stuck
    · split
      · rename_i hm; exact snd_chainE hr g hm
      · exact pe_stuck
    · exact snd_ife hr g
    · exact snd_tup hr g
    · exact snd_lst hr g
    · exact snd_slice hr g
    · split
      · exact pe_stuck
      · exact pe_stuck
      · rename_i h1 h2
        exact snd_ix hr g (plainIx_of (fun a b c p e => h1 a b c p e) fun es j p e => h2 es j p e)
    · exact snd_dict0
    · split
      · rename_i hb; exact snd_fld hr g hb
      · exact pe_stuck
    · split
      · rename_i hc; exact snd_lam g hc
      · exact pe_stuck
    · rename_i f p args q h0 h0a h1
      split
      · exact pe_stuck
      · rename_i hd
        have hd' : dunder f = false := by simpa using hd
        split
        · rename_i hg
          split
          · rename_i hf
            exact snd_call hr g hd' hg hf
          · split
            · rename_i hf
              split
              · rename_i hi
                split
                · rename_i a t p2
                  split
                  · exact pe_stuck
                  · rename_i hs
                    split
                    · rename_i hx
                      exact snd_isX hr g hd' hg hf hi (by simpa using hs) hx
                    split
                    · rename_i n hn
                      exact snd_isi1 hr g hd' hg hf hi (by simpa using hs) hn
                    · exact pe_stuck
                · rename_i a ts j tp
                  split
                  · exact pe_stuck
                  · rename_i hs
                    split
                    · rename_i ns hn
                      split
                      · rename_i hl
                        exact snd_isiT hr g hd' hg hf hi (by simpa using hs) hl hn
                      · exact pe_stuck
                    · exact pe_stuck
                · exact pe_stuck
              · split
                · rename_i hb
                  split
                  · rename_i a
                    split
                    · exact pe_stuck
                    · rename_i hs
                      exact snd_blt1 hr g hd' hg hf hb (by simpa using hs)
                  · exact snd_bltN hr g hd' hg hf hb
                  · exact pe_stuck
                · exact pe_stuck
            · exact pe_stuck
        · exact pe_stuck
    · split
      · rename_i hm
        split
        · exact pe_stuck
        · rename_i hc
          simp only [Bool.or_eq_true, Bool.not_eq_true', not_or, Bool.not_eq_true, Bool.not_eq_false] at hc
          exact snd_lmeth hr g hc.1.1 hc.1.2 hc.2 hm
      split
      · exact pe_stuck
      · rename_i hc
        simp only [Bool.or_eq_true, Bool.not_eq_true', not_or, Bool.not_eq_true, Bool.not_eq_false] at hc
        exact snd_meth hr g hc.1.1.1 hc.1.1.2 hc.1.2 (by simpa using hc.2)
    · exact new_val (snd_comp hr g)
    · exact pe_stuck
theorem snd_truth {e : Expr} {f : EX} (h : PE X e (tE X.K W f)) (he : ∀ whole, isTrue e X.env whole = (do let v ← whole; standAt e.pos; holding [v] (truthy v))) : PT X e (tT X.K W (boolOf truth f)) := by
  refine ptI (pt_truth h he) fun σ H Q ⟨M, O, ρ, env, st, S, E, ok⟩ => ?_
  refine ⟨M, O, ρ, env, st, S, E, Ok.bind E S ok fun d st1 x M1 ρ1 H1 _ e1 S1 E1 q1 ok1 => ?_⟩
  obtain ⟨kk, hk, ok2⟩ := ok1.of
  cases d with
  | bl b =>
    cases hk
    obtain rfl := q1.bl_
    exact ⟨_, rfl, ok2.done S1 rfl⟩
  | int i =>
    cases hk
    obtain rfl := q1.int_
    exact ⟨_, rfl, ok2.done S1 rfl⟩
  | _ => cases hk
theorem snd_andT (hr : Snd T L G k r) (g : Good T L G k W X) {a b : Expr} {rest : List Expr} {p : Pos} : PW X (.BoolOp .And (a :: b :: rest) p)
    (tT X.K W fun env st => (r.T X.N X.env.scope a env st).bind fun k st1 => if k = true then r.T X.N X.env.scope (.BoolOp .And (b :: rest) p) env st1 else .ok false st1) := by
  refine pwI (pw_and (hr.te W X g a) (hr.bo W X g .And (b :: rest) p)) fun σ H Q ⟨M, O, ρ, env, st, S, E, ok⟩ => ?_
  refine ⟨M, O, ρ, env, st, S, E, ok.bind E S fun kk st1 x M1 ρ1 H1 _ e1 S1 E1 q1 ok1 => ?_⟩
  cases q1
  cases kk with
  | true => exact ⟨M1, O, ρ1, env, st1, S1, E1, ok1⟩
  | false => exact Ok.done S1 ok1 rfl
theorem snd_orT (hr : Snd T L G k r) (g : Good T L G k W X) {a b : Expr} {rest : List Expr} {p : Pos} : PW X (.BoolOp .Or (a :: b :: rest) p)
    (tT X.K W fun env st => (r.T X.N X.env.scope a env st).bind fun k st1 => if k = true then .ok true st1 else r.T X.N X.env.scope (.BoolOp .Or (b :: rest) p) env st1) := by
  refine pwI (pw_or (hr.te W X g a) (hr.bo W X g .Or (b :: rest) p)) fun σ H Q ⟨M, O, ρ, env, st, S, E, ok⟩ => ?_
  refine ⟨M, O, ρ, env, st, S, E, ok.bind E S fun kk st1 x M1 ρ1 H1 _ e1 S1 E1 q1 ok1 => ?_⟩
  cases q1
  cases kk with
  | false => exact ⟨M1, O, ρ1, env, st1, S1, E1, ok1⟩
  | true => exact Ok.done S1 ok1 rfl
theorem snd_notT (hr : Snd T L G k r) (g : Good T L G k W X) {a : Expr} {p : Pos} : PT X (.UnaryOp .Not a p) (tT X.K W fun env st => (r.T X.N X.env.scope a env st).bind fun k st1 => .ok (!k) st1) := by
  refine ptI (pt_not (hr.te W X g a)) fun σ H Q ⟨M, O, ρ, env, st, S, E, ok⟩ => ?_
  refine ⟨M, O, ρ, env, st, S, E, ok.bind E S fun kk st1 x M1 ρ1 H1 _ e1 S1 E1 q1 ok1 => ?_⟩
  cases q1
  exact Ok.done S1 ok1 rfl
theorem snd_stepW (hr : Snd T L G k r) (g : Good T L G k W X) (self : EX) (op : BoolOp) (vs : List Expr) (p : Pos) : PW X (.BoolOp op vs p) (tT X.K W (stepT r self X.N X.env.scope (.BoolOp op vs p))) := by
  cases vs with
  | nil => cases op <;> exact pw_stuck
  | cons a vs =>
    cases vs with
    | nil =>
      cases op with
      | And => exact pw_and1 (hr.te W X g _)
      | Or => exact pw_or1 (hr.te W X g _)
    | cons b rest =>
      cases op with
      | And => exact snd_andT hr g
      | Or => exact snd_orT hr g
theorem snd_stepT (hr : Snd T L G k r) (g : Good T L G k W X) (e : Expr) : PT X e (tT X.K W (stepT r (stepE T L G r X.N X.env.scope e) X.N X.env.scope e)) := by
  have plain := snd_step hr g e
  cases e with
  | BoolOp op vs p => exact (snd_stepW hr g _ op vs p).pt
  | UnaryOp op a p =>
    cases op with
    | Not => exact snd_notT hr g
    | _ => exact snd_truth plain fun _ => rfl
  | IfExp c a b p => exact pt_stuck
  | Compare a ops bs p =>
    unfold stepT
    split
    · rename_i e; cases e
    · rename_i e; cases e
    · rename_i e; cases e
    · rename_i e; cases e
    · rename_i e; cases e
    · rename_i e; cases e
    · rename_i e
      cases e
      split
      · rename_i hm; exact snd_cmpT hr g hm
      · exact pt_stuck
    · rename_i e
      cases e
      split
      · rename_i hm; exact snd_chainT hr g hm
      · exact pt_stuck
    · exact pt_stuck
    · rename_i h
      exact absurd rfl (h _ _ _ _)
  | _ => exact snd_truth plain fun _ => rfl
theorem snd_den : ∀ n : Nat, Snd T L G k (den T L G n)
  | 0 => ⟨fun W X g e => pe_stuck, fun W X g e => pt_stuck, fun W X g op vs p => pw_stuck⟩
  | n + 1 => ⟨fun W X g e => snd_step (snd_den n) g e, fun W X g e => snd_stepT (snd_den n) g e, fun W X g op vs p => snd_stepW (snd_den n) g _ op vs p⟩
end
end MI

set_option maxRecDepth 100000
set_option maxHeartbeats 4000000
namespace MI
open PySem PySem.Spec PyProof.Rows L2
variable [LD : LamDefs]
abbrev un (M O : Mu) : Mu := fun a => M a ∨ O a
/-- from one time to a later one, of a body that holds lists of its own -/
structure ExtO (M O : Mu) (r : List Addr) (H : Hp) (M' O' : Mu) (r' : List Addr) (H' : Hp) : Prop where
  pre : ∃ q, r' = r ++ q
  mono : ∀ a, M a → M' a
  new : ∀ a, M' a ∨ O' a → M a ∨ O a ∨ Fr0 H a
  newM : ∀ a, M' a → M a ∨ Fr0 H a
  fresh : ∀ a ∈ r', a ∈ r ∨ Fr0 H a
  keep : ∀ a o, a ∉ r → ¬ O a → NTb o → H a = some o → H' a = some o
  liv : ∀ a, Fr0 H' a → Fr0 H a
  tup : ∀ a xs, H a = some (.tup xs) → H' a = some (.tup xs)
  frz : ∀ a o u, H a = some (.frz o u) → H' a = some (.frz o u)
structure RelF (K : PySem.W.Frag) (M O : Mu) (r : List Addr) (H : Hp) (σ : L2.St) (env : Env) (st : Store) : Prop where
  S : RelS K (un M O) r H st
  E : RelE K (un M O) O r H σ env
  dis : ∀ a, M a → ¬ O a
  sub : ∀ a ∈ r, M a
def OkS (K : PySem.W.Frag) (W : WX) (M O : Mu) (r : List Addr) (H : Hp) (x : RS) (D : Ends) : Prop := match x with
  | .next env' st' => ∀ σ' M' O' r' H', ExtO M O r H M' O' r' H' → RelF K M' O' r' H' σ' env' st' → D.nx σ' H'
  | .brk env' st' => ∀ σ' M' O' r' H', ExtO M O r H M' O' r' H' → RelF K M' O' r' H' σ' env' st' → D.bk σ' H'
  | .cont env' st' => ∀ σ' M' O' r' H', ExtO M O r H M' O' r' H' → RelF K M' O' r' H' σ' env' st' → D.ct σ' H'
  | .ret d st' => ∀ v M' O' r' H', ExtO M O r H M' O' r' H' → RelS K M' r' H' st' → RepV K M' r' H' d v → D.rt v H'
  | .exc c ns es env' st' => ∀ cls d σ' M' O' r' H', ExtO M O r H M' O' r' H' → RelF K M' O' r' H' σ' env' st' → ExcV K (un M' O') r' H' c ns es cls d → W cls d σ' H'
  | .stuck => False
def tS (K : PySem.W.Frag) (W : WX) (f : SX) : TS := fun D σ H => ∃ M O r env st, RelF K M O r H σ env st ∧ OkS K W M O r H (f env st) D
section
variable {K : PySem.W.Frag} {W : WX} {M M' M'' O O' O'' : Mu} {r r' r'' : List Addr} {H H' H'' : Hp} {σ : L2.St} {env : Env} {st st' : Store} {D : Ends}
theorem ExtO.refl : ExtO M O r H M O r H := ⟨⟨[], by simp⟩, fun _ h => h, fun _ h => by rcases h with h | h; exact .inl h; exact .inr (.inl h), fun _ h => .inl h, fun _ h => .inl h, fun _ _ _ _ _ h => h, fun _ h => h, fun _ _ h => h, fun _ _ _ h => h⟩
theorem ExtO.trans (x : ExtO M O r H M' O' r' H') (y : ExtO M' O' r' H' M'' O'' r'' H'') (dis' : ∀ a, M' a → ¬ O' a) : ExtO M O r H M'' O'' r'' H'' := by
  have back : ∀ {a}, Fr0 H' a → Fr0 H a := fun {a} h => x.liv a h
  refine ⟨?_, fun a h => y.mono a (x.mono a h), fun a h => ?_, fun a h => ?_, fun a h => ?_, fun a o n n2 nt h => ?_, fun a h => back (y.liv a h), fun a xs h => y.tup a xs (x.tup a xs h), fun a o u h => y.frz a o u (x.frz a o u h)⟩
  · obtain ⟨q, e⟩ := x.pre
    obtain ⟨q', e'⟩ := y.pre
    exact ⟨q ++ q', by rw [e', e, List.append_assoc]⟩
  · rcases y.new a h with h | h | h
    · exact x.new a (.inl h)
    · exact x.new a (.inr h)
    · exact .inr (.inr (back h))
  · rcases y.newM a h with h | h
    · exact x.newM a h
    · exact .inr (back h)
  · rcases y.fresh a h with h | h
    · exact x.fresh a h
    · exact .inr (back h)
  · refine y.keep a o (fun hm => ?_) (fun hm => ?_) nt (x.keep a o n n2 nt h)
    · rcases x.fresh a hm with z | z
      · exact n z
      · exact nfr h nt z
    · rcases x.new a (.inr hm) with z | z | z
      · exact dis' a (x.mono a z) hm
      · exact n2 z
      · exact nfr h nt z
theorem ExtO.lv (x : ExtO M O r H M' O' r' H') (sub : ∀ a ∈ r, M a) : LV (un M O) r H (un M' O') r' H' :=
  ⟨x.pre, fun a h => by
    rcases x.new a h with h | h | h
    · exact .inl (.inl h)
    · exact .inl (.inr h)
    · exact .inr h, fun a o n nt e => x.keep a o (fun z => n (.inl (sub a z))) (fun z => n (.inr z)) nt e, x.liv, x.tup, x.frz⟩
theorem OkS.later {x : RS} (h : OkS K W M O r H x D) (e : ExtO M O r H M' O' r' H') (d : ∀ a, M' a → ¬ O' a) : OkS K W M' O' r' H' x D := by
  cases x with
  | next env st => exact fun σ' M2 O2 r2 H2 e2 F => h σ' M2 O2 r2 H2 (e.trans e2 d) F
  | brk env st => exact fun σ' M2 O2 r2 H2 e2 F => h σ' M2 O2 r2 H2 (e.trans e2 d) F
  | cont env st => exact fun σ' M2 O2 r2 H2 e2 F => h σ' M2 O2 r2 H2 (e.trans e2 d) F
  | ret d' st => exact fun v M2 O2 r2 H2 e2 S q => h v M2 O2 r2 H2 (e.trans e2 d) S q
  | exc c ns es env st => exact fun cls dd σ' M2 O2 r2 H2 e2 F q => h cls dd σ' M2 O2 r2 H2 (e.trans e2 d) F q
  | stuck => exact h
/-- behind an expression -/
theorem RelF.step (F : RelF K M O r H σ env st) {N : Mu} (e : Ext (un M O) r H N r' H') (s : RelS K N r' H' st') : ∃ M', N = un M' O ∧ ExtO M O r H M' O r' H' ∧ RelF K M' O r' H' σ env st' := by
  have hN : N = un (fun a => N a ∧ ¬ O a) O := by
    funext a
    apply propext
    constructor
    · intro h
      by_cases ho : O a
      · exact .inr ho
      · exact .inl ⟨h, ho⟩
    · rintro (h | h)
      · exact h.1
      · exact e.mono a (.inr h)
  have E' := F.E.mono F.S e
  refine ⟨fun a => N a ∧ ¬ O a, hN, ⟨e.pre, fun a h => ⟨e.mono a (.inl h), F.dis a h⟩, fun a h => ?_, fun a h => ?_, e.fresh, fun a o n n2 nt h => e.keep a o n nt h, e.liv, e.tup, e.frz⟩, ⟨by rw [← hN]; exact s, by rw [← hN]; exact E', fun a h => h.2, fun a h => ⟨s.sub a h, fun z => E'.nor a z h⟩⟩⟩
  · rcases h with h | h
    · rcases e.new a h.1 with (z | z) | z
      · exact .inl z
      · exact absurd z h.2
      · exact .inr (.inr z)
    · exact .inr (.inl h)
  · rcases e.new a h.1 with (z | z) | z
    · exact .inl z
    · exact absurd z h.2
    · exact .inr z
/-- an expression within a statement -/
theorem inS {α β : Type} {Rp : Mu → List Addr → Hp → α → β → Prop} {f : Env → Store → Res α} {g : α → Store → RS} {R : β → Hp → Prop} (F : RelF K M O r H σ env st) (ok : OkS K W M O r H ((f env st).toS env g) D)
    (next : ∀ a st1 b M1 r1 H1, f env st = .ok a st1 → ExtO M O r H M1 O r1 H1 → RelF K M1 O r1 H1 σ env st1 → Rp (un M1 O) r1 H1 a b → OkS K W M1 O r1 H1 (g a st1) D → R b H1) : tG Rp K W f σ H R := by
  refine ⟨un M O, O, r, env, st, F.S, F.E, ?_⟩
  cases h : f env st with
  | stuck => rw [h] at ok; exact ok
  | exc c ns es st1 =>
    rw [h] at ok
    intro cls d N r1 H1 e s q
    obtain ⟨M1, rfl, e1, F1⟩ := F.step e s
    exact ok cls d σ M1 O r1 H1 e1 F1 q
  | ok a st1 =>
    rw [h] at ok
    intro b N r1 H1 e s q
    obtain ⟨M1, rfl, e1, F1⟩ := F.step e s
    exact next a st1 b M1 r1 H1 h e1 F1 q (OkS.later ok e1 F1.dis)
theorem OkS.go {env' : Env} {st' : Store} (F : RelF K M O r H σ env' st') (h : OkS K W M O r H (.next env' st') D) : D.nx σ H := h σ M O r H ExtO.refl F
/-- a value given out -/
theorem OkS.out {d : MI.D} {st' : Store} {D' : Ends} {v : V} (F : RelF K M O r H σ env st') (h : OkS K W M O r H (.ret d st') D') (q : RepV K (un M O) r H d v) : D'.rt v H :=
  h v M O r H ExtO.refl (F.S.anti (fun a h => .inl h) F.sub) (RepV.anti (fun a h => .inl h) d v q)
end
section
variable {T : Tab} {L : Dn} {G : Glb} {k : Nat} {r : Dn} {X : Cx} {W : WX}
theorem psI {s : Stmt} {t t' : TS} (h : PS X s t) (w : ∀ D σ H, t' D σ H → t D σ H) : PS X s t' := ⟨fun pins s σ H D I q => h.run pins s σ H D I (w D σ H q)⟩
theorem pssI {s : List Stmt} {t t' : TS} (h : PSs X s t) (w : ∀ D σ H, t' D σ H → t D σ H) : PSs X s t' := ⟨fun pins s σ H D I q => h.run pins s σ H D I (w D σ H q)⟩
theorem ps_stuck {s : Stmt} : PS X s (tS X.K W stuckS) := ⟨fun _ _ _ _ _ _ h => by obtain ⟨_, _, _, _, _, _, h⟩ := h; exact h.elim⟩
theorem pss_den {f : Stmt → SX} (h : ∀ s, PS X s (tS X.K W (f s))) : ∀ ss, PSs X ss (tS X.K W (denSs f ss))
  | [] => pssI pss_nil fun D σ H ⟨M, O, ρ, env, st, F, ok⟩ => OkS.go F ok
  | s :: ss => pssI (pss_cons (h s) (pss_den h ss)) fun D σ H ⟨M, O, ρ, env, st, F, ok⟩ => by
      refine ⟨M, O, ρ, env, st, F, ?_⟩
      have ok' : OkS X.K W M O ρ H ((f s env st).then (denSs f ss)) D := ok
      cases e : f s env st with
      | next env1 st1 =>
        rw [e] at ok'
        exact fun σ' M' O' r' H' x F' => ⟨M', O', r', env1, st1, F', OkS.later ok' x F'.dis⟩
      | ret d st1 => rw [e] at ok'; exact ok'
      | brk env1 st1 => rw [e] at ok'; exact ok'
      | cont env1 st1 => rw [e] at ok'; exact ok'
      | exc c ns es env1 st1 => rw [e] at ok'; exact ok'
      | stuck => rw [e] at ok'; exact ok'
theorem s_retE {e : Expr} {p : Pos} {f : EX} (h : PE X e (tE X.K W f)) : PS X (.Return (some e) p) (tS X.K W fun env st => (f env st).toS env fun d st1 => .ret d st1) :=
  psI (ps_ret h) fun D σ H ⟨M, O, ρ, env, st, F, ok⟩ => inS F ok fun d st1 v M1 ρ1 H1 _ e1 F1 q ok1 => OkS.out F1 ok1 q
theorem s_retName (g : Good T L G k W X) {x : Str} {p q : Pos} {i : Nat} (hv : visB X.env.scope x = true) (hd : dunder x = false) (hi : ixOf X.N x = some i) : PS X (.Return (some (.Name x p)) q) (tS X.K W fun env st => match env[i]? with
          | some (.v d) => .ret d st
          | some (.own ds) => .ret (.lst ds) st
          | _ => .stuck) := by
  refine psI (ps_ret (pe_nm hv hi hd)) fun D σ H ⟨M, O, ρ, env, st, F, ok⟩ => ?_
  cases he : env[i]? with
  | none => simp only [he] at ok; exact ok.elim
  | some sl =>
    simp only [he] at ok
    cases sl with
    | no => exact ok.elim
    | v d =>
      obtain ⟨v, h1, h2⟩ := F.E.val i d he
      exact ⟨v, h1, OkS.out F ok h2⟩
    | own ds =>
      obtain ⟨a, xs, h1, h2, h3, h4⟩ := F.E.own i ds he
      refine ⟨.ref a, h1, ok (.ref a) M (fun b => O b ∧ b ≠ a) ρ H ⟨⟨[], by simp⟩, fun _ h => h, fun b h => ?_, fun _ h => .inl h, fun _ h => .inl h, fun _ _ _ _ _ h => h, fun _ h => h, fun _ _ h => h, fun _ _ _ h => h⟩ (F.S.anti (fun a h => .inl h) F.sub) ?_⟩
      · rcases h with h | h
        · exact .inl h
        · exact .inr (.inl h.1)
      · unfold RepV
        exact ⟨a, xs, rfl, fun z => F.dis a z h2, h3, RepL.anti (fun a h => .inl h) ds xs h4⟩
theorem s_if (hr : Snd T L G k r) (g : Good T L G k W X) {c : Expr} {a b : List Stmt} {p : Pos} {f : Stmt → SX} (h : ∀ s, PS X s (tS X.K W (f s))) : PS X (.If c a b p) (tS X.K W fun env st => (r.T X.N X.env.scope c env st).toS env fun k st1 => if k = true then denSs f a env st1 else denSs f b env st1) := by
  refine psI (ps_if (hr.te W X g c) (pss_den h a) (pss_den h b)) fun D σ H ⟨M, O, ρ, env, st, F, ok⟩ => inS F ok fun kk st1 b1 M1 ρ1 H1 _ e1 F1 q ok1 => ?_
  cases q
  cases kk with
  | true => exact ⟨M1, O, ρ1, env, st1, F1, ok1⟩
  | false => exact ⟨M1, O, ρ1, env, st1, F1, ok1⟩
theorem s_while (hp : PassesOwn (model X.prog X.w) X.A X.env X.xe) (hr : Snd T L G k r) (g : Good T L G k W X) {c : Expr} {body : List Stmt} {p : Pos} {f : Stmt → SX} (h : ∀ s, PS X s (tS X.K W (f s))) : PS X (.While c body [] p) (tS X.K W fun env st => whileF (r.T X.N X.env.scope c) (denSs f body) lots env st) := by
  refine psI (ps_while hp (hr.te W X g c) (pss_den h body)) fun D σ H ⟨M, O, ρ, env, st, F, ok⟩ => ?_
  refine ⟨fun m σ H => ∃ M O ρ env st, RelF X.K M O ρ H σ env st ∧ OkS X.K W M O ρ H (whileF (r.T X.N X.env.scope c) (denSs f body) m env st) D, ⟨lots, M, O, ρ, env, st, F, ok⟩, ?_⟩
  rintro m σ1 H1 ⟨M, O, ρ, env, st, F, ok⟩
  cases m with
  | zero => exact ok.elim
  | succ m =>
    refine inS (f := r.T X.N X.env.scope c) F ok fun kk st1 b1 M1 ρ1 H2 _ e1 F1 q ok1 => ?_
    cases q
    cases kk with
    | false => exact OkS.go F1 ok1
    | true =>
      refine ⟨fun σ H => ∃ M O ρ env st, RelF X.K M O ρ H σ env st ∧ OkS X.K W M O ρ H (whileF (r.T X.N X.env.scope c) (denSs f body) m env st) D, fun σ' H' w => ⟨m, Nat.lt_succ_self m, w⟩, ?_⟩
      refine ⟨M1, O, ρ1, env, st1, F1, ?_⟩
      have ok2 : OkS X.K W M1 O ρ1 H2 (match denSs f body env st1 with
        | .next env2 st2 => whileF (r.T X.N X.env.scope c) (denSs f body) m env2 st2
        | .cont env2 st2 => whileF (r.T X.N X.env.scope c) (denSs f body) m env2 st2
        | .brk env2 st2 => .next env2 st2
        | .ret d st2 => .ret d st2
        | .exc c ns es env2 st2 => .exc c ns es env2 st2
        | .stuck => .stuck) D := ok1
      cases hb : denSs f body env st1 with
      | next env2 st2 => rw [hb] at ok2; exact fun σ' M' O' r' H' x F' => ⟨M', O', r', env2, st2, F', OkS.later ok2 x F'.dis⟩
      | cont env2 st2 => rw [hb] at ok2; exact fun σ' M' O' r' H' x F' => ⟨M', O', r', env2, st2, F', OkS.later ok2 x F'.dis⟩
      | brk env2 st2 => rw [hb] at ok2; exact ok2
      | ret d st2 => rw [hb] at ok2; exact ok2
      | exc c ns es env2 st2 => rw [hb] at ok2; exact ok2
      | stuck => rw [hb] at ok2; exact ok2
theorem s_for (hp : PassesOwn (model X.prog X.w) X.A X.env X.xe) (hr : Snd T L G k r) (g : Good T L G k W X) (w : Sto X X.env.scope) {tg iter : Expr} {body : List Stmt} {p : Pos} {f : Stmt → SX} (h : ∀ s, PS X s (tS X.K W (f s))) (ht : (tgOwn X.N X.env.scope tg).isSome = true) :
    PS X (.For tg iter body [] p) (tS X.K W fun env st => (srcX G r X.N X.env.scope tg iter env st).toS env fun ds st1 => forL (bindT X.N X.env.scope tg) (denSs f body) ds env st1) := by
  cases ht' : tgOwn X.N X.env.scope tg with
  | none => rw [ht'] at ht; cases ht
  | some own =>
    cases hpl : plainIter iter with
    | false =>
      refine ⟨fun pins s σ H D I hq => ?_⟩
      obtain ⟨M, O, ρ, env, st, F, ok⟩ := hq
      rw [src_plain (own := own) hpl] at ok
      exact ok.elim
    | true =>
      refine psI (ps_for hp g.calm (snd_src hr g) (pg_T g w ht') (pss_den h body) fun x => plain_fold hpl) fun D σ H ⟨M, O, ρ, env, st, F, ok⟩ => ?_
      refine inS F ok fun ds st1 J M1 ρ1 H1 _ e1 F1 q ok1 => ?_
      obtain ⟨Gv, Y, hw, hG, hY⟩ := q
      refine for_it hw (fun i σ' H' => ∃ M2 O2 ρ2 env2 st2, ExtO M1 O ρ1 H1 M2 O2 ρ2 H' ∧ RelF X.K M2 O2 ρ2 H' σ' env2 st2 ∧ OkS X.K W M2 O2 ρ2 H' (forL (bindT X.N X.env.scope tg) (denSs f body) (ds.drop i) env2 st2) D) ?_ ?_ ?_ ?_
      · exact ⟨M1, O, ρ1, env, st1, ExtO.refl, F1, by simpa using ok1⟩
      · rintro i σ' H' _ ⟨M2, O2, ρ2, env2, st2, x, F2, _⟩
        exact hG _ _ _ (x.lv F1.sub)
      · rintro i y σ' H2 H3 hi ⟨M2, O2, ρ2, env2, st2, x, F2, ok2⟩ hy
        have hd : ds[i]? = some ds[i] := List.getElem?_eq_getElem hi
        obtain ⟨hk, hx⟩ := hY i ds[i] _ ρ2 H2 st2 y H3 (x.lv F1.sub) F2.S hd hy
        rw [List.drop_eq_getElem_cons hi] at ok2
        have ok3 : OkS X.K W M2 O2 ρ2 H2 (match bindT X.N X.env.scope tg ds[i] env2 with
          | none => .stuck
          | some env1 => match denSs f body env1 st2 with
            | .next env2 st2 => forL (bindT X.N X.env.scope tg) (denSs f body) (ds.drop (i + 1)) env2 st2
            | .cont env2 st2 => forL (bindT X.N X.env.scope tg) (denSs f body) (ds.drop (i + 1)) env2 st2
            | .brk env2 st2 => .next env2 st2
            | .ret d st2 => .ret d st2
            | .exc c ns es env2 st2 => .exc c ns es env2 st2
            | .stuck => .stuck) D := ok2
        cases hb : bindT X.N X.env.scope tg ds[i] env2 with
        | none => rw [hb] at ok3; exact ok3.elim
        | some env1 =>
          rw [hb] at ok3
          simp only at ok3
          -- the heap behind the item
          have e3 : ExtO M2 O2 ρ2 H2 M2 O2 ρ2 H3 := ⟨⟨[], by simp⟩, fun _ h => h, fun _ h => by rcases h with h | h; exact .inl h; exact .inr (.inl h), fun _ h => .inl h, fun _ h => .inl h, fun a o _ _ _ h => hk a o h, fun a f o h => f o (hk a o h), fun a xs h => hk a _ h, fun a o u h => hk a _ h⟩
          have F3 : RelF X.K M2 O2 ρ2 H3 σ' env2 st2 := ⟨F2.S.same hk, F2.E.mono F2.S (Ext.same hk), F2.dis, F2.sub⟩
          refine ⟨un M2 O2, O2, ρ2, env2, st2, ds[i], env1, F3.S, F3.E, hx, hb, fun σ2 E2 _ => ?_⟩
          have F4 : RelF X.K M2 O2 ρ2 H3 σ2 env1 st2 := ⟨F3.S, E2, F3.dis, F3.sub⟩
          refine ⟨M2, O2, ρ2, env1, st2, F4, ?_⟩
          have x3 := x.trans e3 F2.dis
          have ok4 := OkS.later ok3 e3 F2.dis
          cases hbd : denSs f body env1 st2 with
          | next env5 st5 => rw [hbd] at ok4; exact fun σ' M' O' r' H' x' F' => ⟨M', O', r', env5, st5, x3.trans x' F2.dis, F', OkS.later ok4 x' F'.dis⟩
          | cont env5 st5 => rw [hbd] at ok4; exact fun σ' M' O' r' H' x' F' => ⟨M', O', r', env5, st5, x3.trans x' F2.dis, F', OkS.later ok4 x' F'.dis⟩
          | brk env5 st5 => rw [hbd] at ok4; exact ok4
          | ret d st5 => rw [hbd] at ok4; exact ok4
          | exc c ns es env5 st5 => rw [hbd] at ok4; exact ok4
          | stuck => rw [hbd] at ok4; exact ok4
      · rintro σ' H' ⟨M2, O2, ρ2, env2, st2, x, F2, ok2⟩
        rw [List.drop_length] at ok2
        exact OkS.go F2 ok2
/-- a list of one's own is let go -/
theorem RelF.letGo {K : PySem.W.Frag} {M O : Mu} {ρ : List Addr} {H : Hp} {σ : L2.St} {env : Env} {st : Store} (F : RelF K M O ρ H σ env st) {i : Nat} {ds : List D} (he : env[i]? = some (.own ds)) : ∃ O', ExtO M O ρ H M O' ρ H ∧ RelF K M O' ρ H σ (env.set i (.v (.lst ds))) st := by
  obtain ⟨a, xs, h1, h2, h3, h4⟩ := F.E.own i ds he
  have hi : i < env.length := (List.getElem?_eq_some_iff.mp he).1
  have less : ∀ b, un M (fun b => O b ∧ b ≠ a) b → un M O b := fun b h => h.imp id And.left
  refine ⟨fun b => O b ∧ b ≠ a, ⟨⟨[], by simp⟩, fun _ h => h, fun b h => ?_, fun _ h => .inl h, fun _ h => .inl h, fun _ _ _ _ _ h => h, fun _ h => h, fun _ _ h => h, fun _ _ _ h => h⟩, ⟨F.S.anti less fun b h => .inl (F.sub b h), ⟨fun j d hj => ?_, fun j es hj => ?_, fun j m es fs b hj hm g1 g2 => ?_, fun b h => F.E.nor b h.1, fun b h => .inr h, by rw [List.length_set]; exact F.E.len⟩, fun b h z => F.dis b h z.1, F.sub⟩⟩
  · rcases h with h | h
    · exact .inl h
    · exact .inr (.inl h.1)
  · by_cases hij : i = j
    · subst hij
      rw [List.getElem?_set_self hi] at hj
      cases hj
      refine ⟨.ref a, h1, ?_⟩
      unfold RepV
      refine ⟨a, xs, rfl, fun z => ?_, h3, RepL.anti less ds xs h4⟩
      rcases z with z | z
      · exact F.dis a z h2
      · exact z.2 rfl
    · rw [List.getElem?_set_ne hij] at hj
      obtain ⟨x, g1, g2⟩ := F.E.val j d hj
      exact ⟨x, g1, RepV.anti less d x g2⟩
  · by_cases hij : i = j
    · subst hij
      rw [List.getElem?_set_self hi] at hj
      cases hj
    · rw [List.getElem?_set_ne hij] at hj
      obtain ⟨b, ys, g1, g2, g3, g4⟩ := F.E.own j es hj
      exact ⟨b, ys, g1, ⟨g2, fun z => by
        subst z
        exact hij (F.E.inj i j ds es b he hj h1 g1)⟩, g3, RepL.anti less es ys g4⟩
  · have nj : i ≠ j := fun z => by
      subst z
      rw [List.getElem?_set_self hi] at hj
      cases hj
    have nm : i ≠ m := fun z => by
      subst z
      rw [List.getElem?_set_self hi] at hm
      cases hm
    rw [List.getElem?_set_ne nj] at hj
    rw [List.getElem?_set_ne nm] at hm
    exact F.E.inj j m es fs b hj hm g1 g2
theorem RelF.released {K : PySem.W.Frag} {M : Mu} {ρ : List Addr} {H : Hp} {σ : L2.St} {st : Store} : ∀ (is : List Nat) {O : Mu} {env : Env}, RelF K M O ρ H σ env st → ∃ O', ExtO M O ρ H M O' ρ H ∧ RelF K M O' ρ H σ (freed is env) st
  | [], O, env, F => ⟨O, ExtO.refl, F⟩
  | i :: is, O, env, F => by
    unfold freed
    split
    · rename_i ds he
      obtain ⟨O1, x1, F1⟩ := F.letGo he
      obtain ⟨O2, x2, F2⟩ := RelF.released is F1
      exact ⟨O2, x1.trans x2 F1.dis, F2⟩
    · exact RelF.released is F
theorem tS_freed {f : SX} {is : List Nat} {D : Ends} {σ : L2.St} {H : Hp} (h : tS X.K W (fun env st => f (freed is env) st) D σ H) : tS X.K W f D σ H := by
  obtain ⟨M, O, ρ, env, st, F, ok⟩ := h
  obtain ⟨O', x, F'⟩ := F.released is
  exact ⟨M, O', ρ, freed is env, st, F', OkS.later ok x F'.dis⟩
theorem s_forR (hp : PassesOwn (model X.prog X.w) X.A X.env X.xe) (hr : Snd T L G k r) (g : Good T L G k W X) (w : Sto X X.env.scope) {tg iter : Expr} {body : List Stmt} {p : Pos} {f : Stmt → SX} {is : List Nat} (h : ∀ s, PS X s (tS X.K W (f s))) (ht : (tgOwn X.N X.env.scope tg).isSome = true) :
    PS X (.For tg iter body [] p) (tS X.K W fun env st => (srcX G r X.N X.env.scope tg iter (freed is env) st).toS (freed is env) fun ds st1 => forL (bindT X.N X.env.scope tg) (denSs f body) ds (freed is env) st1) :=
  psI (s_for hp hr g w h ht) fun D σ H q => tS_freed (f := fun env st => (srcX G r X.N X.env.scope tg iter env st).toS env fun ds st1 => forL (bindT X.N X.env.scope tg) (denSs f body) ds env st1) q
end
end MI

set_option maxRecDepth 100000
set_option maxHeartbeats 4000000
namespace MI
open PySem PySem.Spec PyProof.Rows L2
variable [LD : LamDefs]
section
variable {T : Tab} {L : Dn} {G : Glb} {k : Nat} {r : Dn} {X : Cx} {W : WX}
theorem s_raise0 (hr : Snd T L G k r) (g : Good T L G k W X) {x : Str} {a : Expr} {p q pos : Pos} (hg : glB X.env.scope x = true) (hd : dunder x = false) (hs : isStar a = false) (hx : G.exc x = some []) :
    PS X (.Raise (some (.Call (.Name x p) [a] [] q)) none pos) (tS X.K W fun env st => (r.E X.N X.env.scope a env st).toS env fun _ st1 => .exc x [] [] env st1) := by
  have F := g.fa.exc x [] hx
  refine psI (ps_raise g.calm g.takes (SkE.pmk_own1 PySem.F.excBase_ValueError (F.mk0 rfl) F.gC F.kC (raises_own F.sb F.ty) (glB_gl hg) (hr.ex W X g a) (by rw [star_cons hs]) (dunder_debug hd).1)) fun D σ H ⟨M, O, ρ, env, st, RF, ok⟩ => ?_
  exact inS RF ok fun d st1 v M1 ρ1 H1 _ e1 F1 q1 ok1 => ok1 _ _ σ M1 O ρ1 H1 ExtO.refl F1 ⟨rfl, 0, [], .inl ⟨rfl, rfl⟩, RepL.nil⟩
theorem upd_init {H1 : Hp} {a dx C : Addr} {f : Str} {v : V} (ha : H1 a = none) (hne : dx ≠ a) :
    upd (del (upd (upd (upd H1 a (exo a C none)) dx (exd dx [(f, v)])) a (exo a C (some dx))) a) dx (.xd [(f, v)]) = upd H1 dx (.xd [(f, v)]) := by
  funext b
  by_cases h1 : b = dx
  · rw [h1, upd_same, upd_same]
  · rw [upd_ne h1, upd_ne h1]
    by_cases h2 : b = a
    · rw [h2, del_same, ha]
    · rw [del_ne h2, upd_ne h2, upd_ne h1, upd_ne h2]
theorem s_raise1 (hr : Snd T L G k r) (g : Good T L G k W X) {x f : Str} {a : Expr} {p q pos : Pos} (hg : glB X.env.scope x = true) (hd : dunder x = false) (hs : isStar a = false) (hx : G.exc x = some [f]) :
    PS X (.Raise (some (.Call (.Name x p) [a] [] q)) none pos) (tS X.K W fun env st => (r.E X.N X.env.scope a env st).toS env fun d st1 => .exc x [f] [d] env st1) := by
  have F := g.fa.exc x [f] hx
  obtain ⟨OC, _, fI, fd, ps, iC, tI, hb, Fn⟩ := F.mk1 f rfl
  refine psI (ps_raise g.calm g.takes (pmk_oex (CX := C8.CX0) OC iC tI Fn (g.room.mono g.two) hb (.nil : Vals [] []) C8.pass0 (glB_gl hg) F.gC (pa_cons (hr.ex W X g a) pa_nil (star_cons hs)) (dunder_debug hd).1 (star_cons hs) (back_any rfl))) fun D σ H ⟨M, O, ρ, env, st, RF, ok⟩ => ?_
  refine inS RF ok fun d st1 v M1 ρ1 H1 _ e1 F1 q1 ok1 => ?_
  refine ⟨by simp, fun e he => ⟨e, v, rfl, upd_same, fun dx hdx hne => ⟨rfl, dx, [(f, v)], upd_same, by rw [upd_ne hne, upd_same], by rw [upd_ne hne] at hdx; exact hdx, ?_⟩⟩⟩
  have hdx1 : H1 dx = none := by rw [upd_ne hne] at hdx; exact hdx
  rw [upd_init he hne]
  obtain ⟨M2, eM, e2, F2⟩ := F1.step (Ext.lay (o := .xd [(f, v)]) hdx1) (F1.S.lay hdx1)
  refine ok1 _ _ σ M2 O ρ1 _ e2 F2 ⟨rfl, dx, [v], .inr ⟨rfl, ?_, upd_same⟩, ?_⟩
  · rw [← eM]
    exact F1.S.notM hdx1
  · rw [← eM]
    exact RepL.cons (RepV.mono F1.S.sub (Ext.lay hdx1) d v q1) RepL.nil
/-- an exception that nobody tracks is tracked from now on -/
theorem Inv.adopt {pins : List (Addr × Obj)} {σ : L2.St} {H : Hp} {s : Shared} {a : Addr} {oe : Obj} {vs : Array Value} {cls : Value} {d : Option Addr} (I : Inv X pins σ H s) (ha : s.heap.get? a = some oe) (hz : Zc cls d oe) (hd : oe.data = .fields vs) (hn : H a = none)
    (h0 : X.s_0.heap.get? a = none) (hL : a ≠ X.env.locals) (hp : ∀ p ∈ X.pn ++ pins, p.1 ≠ a) : Inv X pins σ (upd H a (ExK cls d a)) s := by
  refine ⟨I.ok, I.os, I.bare, ⟨I.base.keep, I.base.slot, fun b o e n hx => ?_, I.base.there, fun b xs e => ?_, fun b o u e => ?_, fun b ps e => ?_⟩, I.loc, I.cell, ?_, fun x c e => ?_, fun p hpp => ?_, ?_, I.len⟩
  · rw [upd_ne (fun z => by rw [z, h0] at e; cases e)]
    exact I.base.free b o e n hx
  · have q := I.base.tups b xs e
    rw [upd_ne (ne_of_none q hn)]
    exact q
  · have q := I.base.frzs b o u e
    rw [upd_ne (ne_of_none q hn)]
    exact q
  · obtain ⟨more, q⟩ := I.base.tbls b ps e
    exact ⟨more, by rw [upd_ne (ne_of_none q hn)]; exact q⟩
  · rw [upd_ne (Ne.symm hL)]
    exact I.free
  · rw [upd_ne]
    · exact I.freeC x c e
    · intro z
      obtain ⟨v, o, ho, hdc⟩ := I.cell x c e
      rw [z, ha] at ho
      cases ho
      rw [hd] at hdc
      cases hdc
  · obtain ⟨h1, h2, h3⟩ := I.pin p hpp
    exact ⟨h1, by rw [upd_ne (hp p hpp)]; exact h2, h3⟩
  · exact I.hok.laidN (fun _ _ z => z) hn ⟨⟨oe, vs, ha, hz, hd⟩, ⟨oe, ha⟩, fun h1 h2 ⟨o, v, q1, q2, q3⟩ kk => ⟨o, v, kk o q1, q2, q3⟩⟩
/-- what the clause wishes of an exception of the body: c's are kept in slot j -/
def wKeep (K : PySem.W.Frag) (c : Value) (i j : Nat) (Wout : WX) (D : Ends) : WX := fun cls d σ H =>
  ∃ b, PySem.W.exmOne K cls c = some b ∧ (b = true → ∀ a, H a = none → D.nx (((σ.set i (some (.ref a))).set j (some (.ref a))).set i none) (upd H a (ExK cls d a))) ∧ (b = false → Wout cls d σ H)
theorem ps_try_keep {c n z : Str} {cv : Value} {i j : Nat} {body : List Stmt} {tb : WX → TS} {Wout : WX} {cp zp np ap hp pos : Pos} (hs : X.stack = X.env :: X.outer) (hf : X.env.frame = some X.env.locals) (hex : X.ex = []) (hN : X.N.Nodup) (hi : X.N[i]? = some n) (hj : X.N[j]? = some z)
    (hln : X.env.kindOf n = some .local) (hlz : Loc X.env.scope z) (hfz : X.fn z = true ∨ X.env.scope.names.lookup z = some .local) (hdn : dunder n = false) (hc : Names X c cv) (tk : Takes X Wout)
    (hb : ∀ (W : WX) (pn : List (Addr × Obj)) (xe : Value → Shared → Prop), Takes (X.tr pn xe) W → PassesOwn (model X.prog X.w) X.A X.env xe → PSs (X.tr pn xe) body (tb W)) :
    PS X (.Try body [.ExceptHandler (some (.Name c cp)) (some n) [.Assign [.Name z zp] (.Name n np) ap] hp] [] [] pos) (fun D σ H => tb (wKeep X.K cv i j Wout D) D σ H) := by
  refine ⟨fun pins s σ H D I h => ?_⟩
  have okX := I.ok
  have frX : X.A.frames = some (X.env :: X.outer) := by
    rw [okX.frames, hs]
  have locn : Loc X.env.scope n := .inl hln
  refine wpAny_Try_except ?_
  -- what is done with an exception
  let xe : Value → Shared → Prop := fun e s1 => wpAny (model X.prog X.w) X.A (noteFrame e X.env) (fun _ s2 => wpAny (model X.prog X.w) X.A (setFlight e none) (fun _ s3 => wpAny (model X.prog X.w) X.A (handleBy e X.env [.ExceptHandler (some (.Name c cp)) (some n) [.Assign [.Name z zp] (.Name n np) ap] hp]) (SP X pins D) X.xe s3) X.xe s2) X.xe s1
  have taken : Takes (X.tr (X.pn ++ pins) xe) (wKeep X.K cv i j Wout D) := by
    intro u s1 ⟨a, B, sI, pins', σ1, H1, cls, d, eu, J0, nb, up, sky, na, os, ag, b, eb, hyes, hno⟩
    subst eu
    have J : Inv X pins σ1 H1 sI := J0.ofTry okX
    have sky' : Sky B (X.env :: X.outer) a (Zc cls d) X.env.locals s1.heap := by
      rw [← hs]
      exact sky
    show wpAny (model X.prog X.w) X.A (noteFrame (.ref a) X.env) _ _ _
    refine Sky.land Zc.steady frX hf sky' fun g3 fl3 up3 => ?_
    have K3 : Inv X pins σ1 H1 { s1 with heap := g3 } := J.landed nb fl3.1 (up.trans up3) os ag
    obtain ⟨o3, v3, e3, z3, d3⟩ := fl3.there
    -- a is no frame
    have noFr : a ∉ frs (X.env :: X.outer) := fun hm => by
      obtain ⟨_, o', e', hnf⟩ := fl3.2.2.1.mem hm
      rw [e3] at e'
      cases e'
      exact hnf _ d3
    have neL : a ≠ X.env.locals := fun e => noFr (List.mem_filterMap.mpr ⟨X.env, List.mem_cons_self, by rw [hf, e]⟩)
    have neF : a ∉ X.fs := fun hm => by
      obtain ⟨v, hv, q⟩ := List.mem_filterMap.mp hm
      exact noFr (List.mem_filterMap.mpr ⟨v, List.mem_cons_of_mem _ hv, q⟩)
    -- a is new
    have nI : sI.heap.get? a = none := by
      cases q : sI.heap.get? a with
      | none => rfl
      | some o =>
        have q2 := nb a o q (by rw [hs]; exact noFr)
        rw [fl3.2.1] at q2
        cases q2
    have n0 : X.s_0.heap.get? a = none := by
      cases q : X.s_0.heap.get? a with
      | none => rfl
      | some o =>
        obtain ⟨o', q2⟩ := J.base.there a o q (by rw [hex]; exact fun w => nomatch w)
        rw [nI] at q2
        cases q2
    have npins : ∀ p ∈ X.pn ++ pins, p.1 ≠ a := fun p hp e => by
      have q := (J.pin p hp).1
      rw [e, nI] at q
      cases q
    have S3 := K3.suite e3 d3 na neL neF
    refine wpAny_handleBy_cons (codeAny_handlers_test ?_) (by intro q; cases q)
    have LT : PySem.W.Looks (model X.prog X.w) g3 (typeOf (.ref a)) cls := fun A Q E s k q => wpAny_typeOf_ref (k _ _ e3) (by rw [z3.1]; exact q)
    have LM := PySem.W.exm_one (M := model X.prog X.w) K3.kIn LT eb
    have asked : ∀ {Q : Value → Shared → Prop} {E : Value → Shared → Prop}, Q cv { s1 with heap := g3 } → wpAny (model X.prog X.w) (X.A.mark (some (.ref a))) (eval (.Name c cp) X.env) Q E { s1 with heap := g3 } := fun {Q E} q => by
      rcases hc with ⟨hg, hdb, hm | ⟨hm, hv, hnn⟩⟩
      · exact ld_glob (X := X.suite a ((a, o3) :: (X.pn ++ pins))) S3 hg hm q hdb
      · exact ld_blt (X := X.suite a ((a, o3) :: (X.pn ++ pins))) S3 hg hm hv q hnn hdb
    refine asked (LM.here ?_)
    cases b with
    | false =>
      show wpAny _ X.A (handleBy (.ref a) X.env []) _ _ _
      refine wpAny_handleBy_nil ?_
      obtain ⟨_, _, _, oe, vs, T0, oT, ts0, he, hz, hd, h1, hr⟩ := id fl3
      unfold PySem.passOn
      refine wpAny_bind (wpAny_field he hd h1 ?_)
      rw [if_neg (show ¬ ((Value.ref T0 == Value.none) = true) by simp)]
      have onward : wpAny (model X.prog X.w) X.A (setFlight (.ref a) X.env.frame) (fun _ s4 => wpAny (model X.prog X.w) X.A (throw (.ref a) : Sem Flow) (SP X pins D) X.xe s4) X.xe { s1 with heap := g3 } := by
        rw [hf]
        refine HandSPX.setFlight_upZ fl3 fun g4 held up4 => wpAny_throw (tk _ _ ?_)
        refine ⟨a, B, sI, pins, σ1, H1, cls, d, rfl, J, nb, (up.trans up3).trans up4, .inr (.inr ?_), na, os, ag, hno rfl⟩
        rw [hs]
        exact held
      first
        | exact wpAny_bind (wpAny_pure (wpAny_bind onward))
        | exact wpAny_bind onward
    | true =>
      refine codeAny_handlers_suite_as (HandSPX.lands_againZ fl3 fun g4 fl4 up4 => ?_)
      have K4 : Inv X pins σ1 H1 { s1 with heap := g4 } := J.landed nb fl4.1 ((up.trans up3).trans up4) os ag
      obtain ⟨o4, v4, e4, z4, d4⟩ := fl4.there
      have S4 := K4.suite e4 d4 na neL neF
      refine store_ok (X := X.suite a ((a, o4) :: (X.pn ++ pins))) (v := .ref a) S4 hN hi locn rfl (fun s5 S5 => ?_) (.inr hln)
      have hil : i < σ1.length := by
        rw [K4.len]
        exact (List.getElem?_eq_some_iff.mp hi).1
      have one : PSs (X.suite a ((a, o4) :: (X.pn ++ pins))) [.Assign [.Name z zp] (.Name n np) ap] (tAsg (tVar i) (gName j)) :=
        pss_one (ps_set (X := X.suite a ((a, o4) :: (X.pn ++ pins))) hN hj hlz (pe_var (X := X.suite a ((a, o4) :: (X.pn ++ pins))) hi (.inl hln) (dunder_debug hdn).1 (dunder_debug hdn).2.1) rfl hfz)
      refine wpAny_mono (one.run [] s5 _ H1 { nx := fun σ6 H6 => σ6 = ((σ1.set i (some (.ref a))).set j (some (.ref a))) ∧ H6 = H1, rt := fun _ _ => False } S5 ⟨.ref a, by rw [List.getElem?_set_self hil], rfl, rfl⟩) (fun f s6 hsp => ?_) (fun _ _ w => False.elim w)
      cases f with
      | brk => obtain ⟨_, _, _, w⟩ := hsp; exact w.elim
      | cont => obtain ⟨_, _, _, w⟩ := hsp; exact w.elim
      | ret u => obtain ⟨_, _, _, _, _, w⟩ := hsp; exact w.elim
      | next =>
        obtain ⟨σ6, H6, S6, e1, e2⟩ := hsp
        subst e1 e2
        have at6 : s6.heap.get? a = some o4 := (S6.pin (a, o4) (List.mem_append_left _ List.mem_cons_self)).1
        exact gone_ok (Inv.adopt (S6.unsuite okX) at6 z4 d4 na n0 neL npins) hN hi hln fun s7 J7 => ⟨_, _, J7, hyes rfl a na⟩
  refine wpAny_mono ((hb (wKeep X.K cv i j Wout D) (X.pn ++ pins) xe taken PassesOwn.looking).run [] s σ H D (I.toTry _) h) (fun f s1 hsp => ?_) (fun e s1 he => he)
  cases f with
  | next =>
    obtain ⟨σ1, H1, J1, q1⟩ := hsp
    exact wpAny_execs_nil ⟨σ1, H1, J1.ofTry okX, q1⟩
  | brk =>
    obtain ⟨σ1, H1, J1, q1⟩ := hsp
    exact ⟨σ1, H1, J1.ofTry okX, q1⟩
  | cont =>
    obtain ⟨σ1, H1, J1, q1⟩ := hsp
    exact ⟨σ1, H1, J1.ofTry okX, q1⟩
  | ret u =>
    obtain ⟨v, σ1, H1, J1, rv, q1⟩ := hsp
    exact ⟨v, σ1, H1, J1.ofTry okX, rv, q1⟩
/-- in a def, outside its comprehensions -/
structure Dfl (X : Cx) : Prop where
  stk : X.stack = X.env :: X.outer
  fr : X.env.frame = some X.env.locals
  ex : X.ex = []
theorem Good.tr (g : Good T L G k W X) {W' : WX} {pn : List (Addr × Obj)} {xe : Value → Shared → Prop} (t : Takes (X.tr pn xe) W') : Good T L G k W' (X.tr pn xe) := ⟨t, g.nd, g.kind, g.calm, g.room, g.two, g.fa, g.lam⟩
theorem OkS.wish {K : PySem.W.Frag} {W W' : WX} {M O : Mu} {ρ : List Addr} {H : Hp} {x : RS} {D : Ends} (h : OkS K W M O ρ H x D) (n : ∀ c ns es env st, x ≠ .exc c ns es env st) : OkS K W' M O ρ H x D := by
  cases x with
  | exc c ns es env st => exact absurd rfl (n c ns es env st)
  | _ => exact h
theorem RelF.forget {K : PySem.W.Frag} {M O : Mu} {ρ : List Addr} {H : Hp} {σ : L2.St} {env : Env} {st : Store} (F : RelF K M O ρ H σ env st) (i : Nat) : RelF K M O ρ H (σ.set i none) (env.set i .no) st := ⟨F.S, wipeE_rel F.E [i], F.dis, F.sub⟩
theorem s_try (hr : Snd T L G k r) (g : Good T L G k W X) (w : Sto X X.env.scope) (df : Dfl X) {c n m z : Str} {i j : Nat} {body : List Stmt} {f : Stmt → SX} {cp zp np ap hp pos : Pos} (hk : keepOk G X.env.scope c n m z = true) (hi : ixOf X.N n = some i) (hj : ixOf X.N z = some j) (hij : i ≠ j)
    (h : ∀ (W' : WX) (pn : List (Addr × Obj)) (xe : Value → Shared → Prop), Takes (X.tr pn xe) W' → PassesOwn (model X.prog X.w) X.A X.env xe → ∀ s, PS (X.tr pn xe) s (tS X.K W' (f s))) :
    PS X (.Try body [.ExceptHandler (some (.Name c cp)) (some n) [.Assign [.Name z zp] (.Name m np) ap] hp] [] [] pos) (tS X.K W fun env st => match denSs f body env st with
      | .exc x ns es env1 st1 => if (G.exc x).isSome = true then (if G.sub x c = true then .next ((env1.set j (.v (.exn x ns es))).set i .no) st1 else .exc x ns es env1 st1) else .stuck
      | o => o) := by
  unfold keepOk at hk
  simp only [Bool.and_eq_true, Bool.not_eq_true', decide_eq_true_eq, beq_iff_eq] at hk
  obtain ⟨⟨⟨⟨⟨⟨⟨hgc, hdc⟩, hce⟩, hnm⟩, hln⟩, hlz⟩, hdn⟩, hdz⟩ := hk
  subst hnm
  obtain ⟨gs, hgs⟩ := Option.isSome_iff_exists.mp hce
  have Fc := g.fa.exc c gs hgs
  refine psI (ps_try_keep (tb := fun W' => tS X.K W' (denSs f body)) df.stk df.fr df.ex g.nd (ixOf_get hi) (ixOf_get hj) hln (w z hlz).1 (w z hlz).2 hdn ⟨glB_gl hgc, (dunder_debug hdc).1, .inl Fc.gC⟩ g.takes (fun W' pn xe t p => pss_den (X := X.tr pn xe) (h W' pn xe t p) body)) fun D σ H ⟨M, O, ρ, env, st, F, ok⟩ => ?_
  refine ⟨M, O, ρ, env, st, F, ?_⟩
  dsimp only at ok
  cases hb : denSs f body env st with
  | exc x ns es env1 st1 =>
    rw [hb] at ok
    dsimp only at ok
    cases hx : G.exc x with
    | none => simp only [hx] at ok; exact ok.elim
    | some fs =>
      simp only [hx, Option.isSome_some, if_true] at ok
      intro cls d σ' M' O' r' H' x1 F' ev
      refine ⟨G.sub x c, by rw [ev.cl]; exact ((g.fa.exc x fs hx).sub c gs hgs).1, fun hb a ha => ?_, fun hb => ?_⟩
      · rw [hb, if_pos rfl] at ok
        obtain ⟨dd, xs, hd, l⟩ := ev.fs
        have lay := Ext.lay (M := un M' O') (r := r') (o := ExK cls d a) ha
        obtain ⟨M2, eM, e2, F2⟩ := F'.step lay (F'.S.lay ha)
        have rep : RepV X.K (un M2 O') r' (upd H' a (ExK cls d a)) (.exn x ns es) (.ref a) := by
          rw [← eM]
          unfold RepV
          refine ⟨a, d, dd, xs, rfl, F'.S.notM ha, by rw [upd_same, ev.cl], hd.imp id fun ⟨e1, n1, q1⟩ => ⟨e1, n1, by rw [upd_ne (ne_of_none q1 ha)]; exact q1⟩, RepL.mono F'.S.sub lay es xs l⟩
        have F3 := (RelF.mk F2.S (F2.E.put (i := j) rep) F2.dis F2.sub).forget i
        have es : (((σ'.set i (some (.ref a))).set j (some (.ref a))).set i none) = (σ'.set j (some (V.ref a))).set i none := by
          rw [List.set_comm _ _ hij, List.set_set]
        rw [es]
        exact ok _ M2 O' r' _ (x1.trans e2 F'.dis) F3
      · rw [hb, if_neg (by decide)] at ok
        exact ok cls d σ' M' O' r' H' x1 F' ev
  | next env1 st1 => rw [hb] at ok; exact ok
  | ret d st1 => rw [hb] at ok; exact ok
  | brk env1 st1 => rw [hb] at ok; exact ok
  | cont env1 st1 => rw [hb] at ok; exact ok
  | stuck => rw [hb] at ok; exact ok
end
end MI

set_option maxRecDepth 100000
set_option maxHeartbeats 4000000
namespace MI
open PySem PySem.Spec PyProof.Rows L2
variable [LD : LamDefs]
section
variable {K : PySem.W.Frag} {M M' O : Mu} {r r' : List Addr} {H H' : Hp} {σ : L2.St} {env : Env} {st : Store}
theorem RelF.put (F : RelF K M O r H σ env st) {i : Nat} {d : D} {v : V} (h : RepV K (un M O) r H d v) : RelF K M O r H (σ.set i (some v)) (env.set i (.v d)) st := ⟨F.S, F.E.put h, F.dis, F.sub⟩
/-- the slot i holds the list at a alone -/
theorem RelE.putOwn {N O' : Mu} {i : Nat} {ds : List D} {a : Addr} {xs : List V} (E : RelE K N O r H σ env) (hO : ∀ b, O b → O' b) (hOa : O' a) (hnew : ∀ j es b, env[j]? = some (.own es) → σ[j]? = some (some (.ref b)) → j ≠ i → b ≠ a) (hn : ∀ b, O' b → b ∉ r) (hs : ∀ b, O' b → N b)
    (hl : H a = some (.lst xs)) (l : RepL K N r H ds xs) : RelE K N O' r H (σ.set i (some (.ref a))) (env.set i (.own ds)) where
  val := fun j e hj => by
    by_cases hij : i = j
    · subst hij
      have hl : i < env.length := by
        have := (List.getElem?_eq_some_iff.mp hj).1
        rwa [List.length_set] at this
      rw [List.getElem?_set_self hl] at hj
      cases hj
    · rw [List.getElem?_set_ne hij] at hj ⊢
      exact E.val j e hj
  own := fun j es hj => by
    by_cases hij : i = j
    · subst hij
      have hl' : i < env.length := by
        have := (List.getElem?_eq_some_iff.mp hj).1
        rwa [List.length_set] at this
      rw [List.getElem?_set_self hl'] at hj
      cases hj
      exact ⟨a, xs, by rw [List.getElem?_set_self (by rw [← E.len]; exact hl')], hOa, hl, l⟩
    · rw [List.getElem?_set_ne hij] at hj ⊢
      obtain ⟨b, ys, h1, h2, h3, h4⟩ := E.own j es hj
      exact ⟨b, ys, h1, hO b h2, h3, h4⟩
  inj := fun j m es fs b hj hm h1 h2 => by
    by_cases hij : i = j
    · subst hij
      by_cases him : i = m
      · exact him
      · rw [List.getElem?_set_ne him] at hm h2
        have hl' : i < σ.length := by
          have := (List.getElem?_eq_some_iff.mp h1).1
          rwa [List.length_set] at this
        rw [List.getElem?_set_self hl'] at h1
        cases h1
        exact absurd rfl (hnew m fs a hm h2 (Ne.symm him))
    · rw [List.getElem?_set_ne hij] at hj h1
      by_cases him : i = m
      · subst him
        have hl' : i < σ.length := by
          have := (List.getElem?_eq_some_iff.mp h2).1
          rwa [List.length_set] at this
        rw [List.getElem?_set_self hl'] at h2
        cases h2
        exact absurd rfl (hnew j es a hj h1 (Ne.symm hij))
      · rw [List.getElem?_set_ne him] at hm h2
        exact E.inj j m es fs b hj hm h1 h2
  nor := hn
  sub := hs
  len := by rw [List.length_set, List.length_set]; exact E.len
/-- an own list has changed -/
theorem RelF.touch (F : RelF K M O r H σ env st) {i : Nat} {es ds : List D} {a : Addr} {xs ys : List V} (he : env[i]? = some (.own es)) (hσ : σ[i]? = some (some (.ref a))) (ha : O a) (hl : H a = some (.lst ys)) (l : RepL K (un M O) r H ds xs) :
    RelF K M O r (upd H a (.lst xs)) σ (env.set i (.own ds)) st ∧ ExtO M O r H M O r (upd H a (.lst xs)) := by
  have lv : LV (un M O) r H (un M O) r (upd H a (.lst xs)) := LV.touch (.inr ha) hl ntb_lst
  refine ⟨⟨F.S.touch (.inr ha) (F.E.nor a ha) hl ntb_lst, ?_, F.dis, F.sub⟩, ⟨⟨[], by simp⟩, fun _ h => h, fun _ h => by rcases h with h | h; exact .inl h; exact .inr (.inl h), fun _ h => .inl h, fun _ h => .inl h, fun b o n n2 _ h => ?_, lv.liv, lv.tup, lv.frz⟩⟩
  · have E1 : RelE K (un M O) O r (upd H a (.lst xs)) σ (env.set i .no) := ⟨fun j d hj => ?_, fun j fs hj => ?_, fun j m fs gs b hj hm h1 h2 => ?_, F.E.nor, F.E.sub, by rw [List.length_set]; exact F.E.len⟩
    · have e2 : σ.set i (some (.ref a)) = σ := by
        apply List.ext_getElem?
        intro j
        by_cases hij : i = j
        · subst hij
          have hlt : i < σ.length := (List.getElem?_eq_some_iff.mp hσ).1
          rw [List.getElem?_set_self hlt, hσ]
        · rw [List.getElem?_set_ne hij]
      have e3 : (env.set i .no).set i (.own ds) = env.set i (.own ds) := List.set_set ..
      have q := RelE.putOwn (i := i) (ds := ds) (a := a) (xs := xs) E1 (O' := O) (fun _ h => h) ha (fun j gs b hj hb hne => ?_) F.E.nor F.E.sub upd_same (RepL.late lv ds xs l)
      · rw [e2, e3] at q
        exact q
      · rw [List.getElem?_set_ne (Ne.symm hne)] at hj
        intro z
        subst z
        exact hne (F.E.inj j i gs es b hj he hb hσ)
    · by_cases hij : i = j
      · subst hij
        have hlt : i < env.length := (List.getElem?_eq_some_iff.mp he).1
        rw [List.getElem?_set_self hlt] at hj
        cases hj
      · rw [List.getElem?_set_ne hij] at hj
        obtain ⟨x, h1, h2⟩ := F.E.val j d hj
        exact ⟨x, h1, RepV.late lv d x h2⟩
    · by_cases hij : i = j
      · subst hij
        have hlt : i < env.length := (List.getElem?_eq_some_iff.mp he).1
        rw [List.getElem?_set_self hlt] at hj
        cases hj
      · rw [List.getElem?_set_ne hij] at hj
        obtain ⟨b, zs, h1, h2, h3, h4⟩ := F.E.own j fs hj
        have hba : b ≠ a := fun z => by
          subst z
          exact hij (F.E.inj i j es fs b he hj hσ h1)
        exact ⟨b, zs, h1, h2, by rw [upd_ne hba]; exact h3, RepL.late lv fs zs h4⟩
    · have n1 : i ≠ j := fun z => by
        subst z
        have hlt : i < env.length := (List.getElem?_eq_some_iff.mp he).1
        rw [List.getElem?_set_self hlt] at hj
        cases hj
      have n2 : i ≠ m := fun z => by
        subst z
        have hlt : i < env.length := (List.getElem?_eq_some_iff.mp he).1
        rw [List.getElem?_set_self hlt] at hm
        cases hm
      rw [List.getElem?_set_ne n1] at hj
      rw [List.getElem?_set_ne n2] at hm
      exact F.E.inj j m fs gs b hj hm h1 h2
  · rw [upd_ne (fun z => n2 (by rw [z]; exact ha))]
    exact h
/-- a list of the store has changed -/
theorem RelF.write (F : RelF K M O r H σ env st) {q : Nat} {ds es : List D} {a : Addr} {xs ys : List V} (hq : st[q]? = some (.lst es)) (ha : r[q]? = some a) (hl : H a = some (.lst ys)) (l : RepL K (un M O) r H ds xs) :
    RelF K M O r (upd H a (.lst xs)) σ env (st.set q (.lst ds)) ∧ ExtO M O r H M O r (upd H a (.lst xs)) := by
  have hr : a ∈ r := List.mem_of_getElem? ha
  have hm : M a := F.sub a hr
  have hO : ¬ O a := F.dis a hm
  have lv : LV (un M O) r H (un M O) r (upd H a (.lst xs)) := LV.touch (.inl hm) hl ntb_lst
  refine ⟨⟨⟨?_, F.S.nd, F.S.sub, fun i fs hi => ?_, fun b hb => ?_, tabs_lst F.S.tabs hl⟩, ⟨fun j d hj => ?_, fun j fs hj => ?_, F.E.inj, F.E.nor, F.E.sub, F.E.len⟩, F.dis, F.sub⟩, ⟨⟨[], by simp⟩, fun _ h => h, fun _ h => by rcases h with h | h; exact .inl h; exact .inr (.inl h), fun _ h => .inl h, fun _ h => .inl h, fun b o n n2 _ h => ?_, lv.liv, lv.tup, lv.frz⟩⟩
  · rw [List.length_set]; exact F.S.len
  · by_cases hiq : q = i
    · subst hiq
      have hlt : q < st.length := (List.getElem?_eq_some_iff.mp hq).1
      rw [List.getElem?_set_self hlt] at hi
      cases hi
      exact ⟨a, xs, ha, upd_same, RepL.late lv _ xs l⟩
    · rw [List.getElem?_set_ne hiq] at hi
      obtain ⟨b, zs, h1, h2, h3⟩ := F.S.ob i fs hi
      have hba : b ≠ a := fun z => by
        subst z
        obtain ⟨h4, h5⟩ := List.getElem?_eq_some_iff.mp h1
        obtain ⟨h6, h7⟩ := List.getElem?_eq_some_iff.mp ha
        exact hiq ((List.getElem_inj F.S.nd).mp (h7.trans h5.symm))
      exact ⟨b, zs, h1, by rw [upd_ne hba]; exact h2, RepL.late lv fs zs h3⟩
  · by_cases hba : b = a
    · subst hba; exact nfr upd_same ntb_lst
    · exact fun f => F.S.liv b hb fun o z => f o (by rw [upd_ne hba]; exact z)
  · obtain ⟨x, h1, h2⟩ := F.E.val j d hj
    exact ⟨x, h1, RepV.late lv d x h2⟩
  · obtain ⟨b, zs, h1, h2, h3, h4⟩ := F.E.own j fs hj
    have hba : b ≠ a := fun z => hO (by rw [← z]; exact h2)
    exact ⟨b, zs, h1, h2, by rw [upd_ne hba]; exact h3, RepL.late lv fs zs h4⟩
  · rw [upd_ne (fun z => n (by rw [z]; exact hr))]
    exact h
end

section
variable {T : Tab} {L : Dn} {G : Glb} {k : Nat} {r : Dn} {X : Cx} {W : WX}
theorem swap_false {e t : Expr} {l : Nat} {env : PySem.Env} (h : isComp e = false) : swapsWith e (some t) l env = pure false := by
  cases e <;> first | rfl | cases h
theorem swap_none {e : Expr} {l : Nat} {env : PySem.Env} (h : isComp e = false) : swapsWith e none l env = pure false := by
  cases e <;> first | rfl | cases h
theorem swapSole_false {e t : Expr} {l : Nat} {env : PySem.Env} (h : isComp e = false) : swapsWithSole [t] e l env = pure false := by
  cases e <;> first | rfl | cases h
theorem exc_step {K : PySem.W.Frag} {W : WX} {M O : Mu} {ρ : List Addr} {H : Hp} {σ : L2.St} {env : Env} {st st1 : Store} {D : Ends} {c : Str} {ns : List Str} {es : List MI.D} (F : RelF K M O ρ H σ env st) (ok : OkS K W M O ρ H (.exc c ns es env st1) D) :
    ∀ cls d N r1 H1, Ext (un M O) ρ H N r1 H1 → RelS K N r1 H1 st1 → ExcV K N r1 H1 c ns es cls d → W cls d σ H1 := fun cls d N r1 H1 e s q => by
  obtain ⟨M1, rfl, e1, F1⟩ := F.step e s
  exact ok cls d σ M1 O r1 H1 e1 F1 q
theorem store_own2 {K : PySem.W.Frag} {W : WX} {M O : Mu} {ρ : List Addr} {H : Hp} {σ : L2.St} {env : Env} {st : Store} {f : AX} {i : Nat} {D : Ends} {σ' : L2.St} {env' : Env} (F : RelF K M O ρ H σ env st) (hE : ∀ N r1 H1, Ext (un M O) ρ H N r1 H1 → RelE K N O r1 H1 σ env → RelE K N O r1 H1 σ' env') (ok : OkS K W M O ρ H ((f env st).toS env fun ds st1 => .next (env'.set i (.own ds)) st1) D) :
    tNew K W f σ H fun x H1 => D.nx (σ'.set i (some x)) H1 := by
  refine ⟨un M O, O, ρ, env, st, F.S, F.E, ?_⟩
  cases hf : f env st with
  | stuck => rw [hf] at ok; exact ok
  | exc c ns es st1 => rw [hf] at ok; exact exc_step F ok
  | ok ds st1 =>
    rw [hf] at ok
    intro a xs N ρ1 H1 e hn hm hr hl S1 l
    -- as one of O
    have e0 : Ext (un M O) ρ H N ρ1 H1 := e
    have hMa : ¬ M a := fun z => F.S.liv a (.inl z) hn
    have hOa : ¬ O a := fun z => F.S.liv a (.inr z) hn
    have hN : N = un (fun b => N b ∧ ¬ O b ∧ b ≠ a) (fun b => O b ∨ b = a) := by
      funext b
      apply propext
      constructor
      · intro h
        by_cases ho : O b
        · exact .inr (.inl ho)
        · by_cases hb : b = a
          · exact .inr (.inr hb)
          · exact .inl ⟨h, ho, hb⟩
      · rintro (h | h | h)
        · exact h.1
        · exact e.mono b (.inr h)
        · rw [h]; exact hm
    have E1 := hE _ _ _ e0 (F.E.mono F.S e0)
    refine ok _ (fun b => N b ∧ ¬ O b ∧ b ≠ a) (fun b => O b ∨ b = a) ρ1 H1 ⟨e.pre, fun b h => ⟨e.mono b (.inl h), F.dis b h, fun z => hMa (by rw [← z]; exact h)⟩, fun b h => ?_, fun b h => ?_, e.fresh, fun b o n n2 nt h => e.keep b o n nt h, e.liv, e.tup, e.frz⟩ ⟨by rw [← hN]; exact S1, ?_, fun b h z => ?_, fun b h => ⟨S1.sub b h, fun z => E1.nor b z h, fun z => hr (by rw [← z]; exact h)⟩⟩
    · rcases h with h | h | h
      · rcases e.new b h.1 with (z | z) | z
        · exact .inl z
        · exact .inr (.inl z)
        · exact .inr (.inr z)
      · exact .inr (.inl h)
      · exact .inr (.inr (by rw [h]; exact hn))
    · rcases e.new b h.1 with (z | z) | z
      · exact .inl z
      · exact absurd z h.2.1
      · exact .inr z
    · rw [← hN]
      refine RelE.putOwn E1 (fun b h => .inl h) (.inr rfl) (fun j es b hj hb _ z => ?_) (fun b h => ?_) (fun b h => ?_) hl l
      · obtain ⟨c, ys, h1, h2, _⟩ := E1.own j es hj
        rw [hb] at h1
        cases h1
        exact hOa (by rw [← z]; exact h2)
      · rcases h with h | h
        · exact E1.nor b h
        · rw [h]; exact hr
      · rcases h with h | h
        · exact E1.sub b h
        · rw [h]; exact hm
    · rcases z with z | z
      · exact h.2.1 z
      · exact h.2.2 z
theorem store_own {K : PySem.W.Frag} {W : WX} {M O : Mu} {ρ : List Addr} {H : Hp} {σ : L2.St} {env : Env} {st : Store} {f : AX} {i : Nat} {D : Ends} (F : RelF K M O ρ H σ env st) (ok : OkS K W M O ρ H ((f env st).toS env fun ds st1 => .next (env.set i (.own ds)) st1) D) :
    tNew K W f σ H fun x H1 => D.nx (σ.set i (some x)) H1 := store_own2 F (fun _ _ _ _ E => E) ok
theorem swapOk_true {y : Str} {py : Pos} {elt : Expr} {gs : List Comprehension} {scope : Scope} {pos : Pos} {l : Nat} (g : Good T L G k W X) (h : swapOk X.env.scope y py (.ListComp elt gs scope pos) = true) :
    X.env.scope.names.lookup y = some .local ∧ swapsWith (.ListComp elt gs scope pos) (some (.Name y py)) l X.env = pure true := by
  unfold swapOk at h
  simp only at h
  split at h
  · rename_i hy
    simp only [Bool.and_eq_true, Bool.not_eq_true'] at h
    exact ⟨hy, sw_true g.kind hy h.1 h.2⟩
  · cases h
theorem swapOk_comp {sc : Scope} {y : Str} {py : Pos} {e : Expr} (h : swapOk sc y py e = true) : isComp e = false ∨ ∃ elt gs scope pos, e = .ListComp elt gs scope pos := by
  cases e <;> first | (exact .inl rfl) | (exact .inr ⟨_, _, _, _, rfl⟩) | cases h
/-- a new list out of two -/
def rCatN (K : PySem.W.Frag) : R2 := fun x y H Q => ∃ M ρ st da db, RelS K M ρ H st ∧ RepB K M ρ H (.lst da) x ∧ RepB K M ρ H (.lst db) y ∧ da.length + db.length ≤ big ∧ OkN K E0 M ρ H (.ok (da ++ db) st) Q
theorem op_catN : OpR X (binaryOp .Add) (rCatN X.K) := by
  intro pins s σ H x y v u Q I rx ry h
  obtain ⟨M, ρ, st, da, db, S, hx, hy, hz, ok⟩ := h
  obtain ⟨l, xs, rfl, hl, lx⟩ := hx.lst
  obtain ⟨b, ys, rfl, hb, ly⟩ := hy.lst
  refine op_catS pins s σ H _ _ v u Q I rx ry ⟨l, b, xs, ys, rfl, rfl, SqL.of hl, SqL.of hb, by rw [lx.length, ly.length, big_eq]; exact hz, fun q hq => ?_⟩
  have em := Ext.mark (M := M) (ρ := ρ) (o := .lst (xs ++ ys)) hq
  refine ok q (xs ++ ys) (fun a => M a ∨ a = q) ρ _ em (fr0_none hq) (.inr rfl) (fun z => S.liv q (S.sub q z) (fr0_none hq)) upd_same (S.later em (keep_lay hq) fun a h => ?_) (RepL.mono S.sub em _ _ (lx.app ly))
  rcases h with h | h
  · exact .inl h
  · exact .inr ⟨_, by rw [h]; exact upd_same, ntb_lst⟩
theorem snd_catN (hr : Snd T L G k r) (g : Good T L G k W X) {a b : Expr} {p : Pos} : PE X (.BinOp a .Add b p) (tNew X.K W fun env st => (borrow (r.E X.N X.env.scope) X.N X.env.scope a env st).bind fun x st1 => (r.E X.N X.env.scope b env st1).bind fun y st2 => Res.of (catD x y) st2) := by
  refine peI (pe_op op_catN (snd_borrow hr g a) (hr.ex W X g b)) fun σ H Q ⟨M, O, ρ, env, st, S, E, ok⟩ => ?_
  refine ⟨M, O, ρ, env, st, S, E, ?_⟩
  dsimp only at ok
  cases h1 : borrow (r.E X.N X.env.scope) X.N X.env.scope a env st with
  | stuck => rw [h1] at ok; exact ok
  | exc c ns es st1 => rw [h1] at ok; exact ok
  | ok dx st1 =>
    rw [h1] at ok
    intro x M1 ρ1 H1 e1 S1 q1
    refine ⟨M1, O, ρ1, env, st1, S1, E.mono S e1, ?_⟩
    have ok1 := ok.later e1
    cases h2 : r.E X.N X.env.scope b env st1 with
    | stuck => simp only [h2, Res.bind] at ok1; exact ok1
    | exc c ns es st2 => simp only [h2, Res.bind] at ok1; exact ok1
    | ok dy st2 =>
      intro y M2 ρ2 H2 e2 S2 q2
      have ok2 := ok1.later e2
      simp only [h2, Res.bind] at ok2
      unfold catD at ok2
      split at ok2
      · rename_i da db
        split at ok2
        · rename_i hz
          exact ⟨M2, ρ2, st2, da, db, S2, RepB.mono S1 e2 q1, .inl q2, hz, ok2⟩
        · exact ok2.elim
      · exact ok2.elim
/-- y = [..], y's own -/
theorem s_own (hr : Snd T L G k r) (g : Good T L G k W X) (w : Sto X X.env.scope) {y : Str} {py p : Pos} {e : Expr} {f : AX} {i : Nat} (hy : locB X.env.scope y = true) (hs : swapOk X.env.scope y py e = true) (hi : ixOf X.N y = some i) (hn : newList T G r X.N X.env.scope e = some f) :
    PS X (.Assign [.Name y py] e p) (tS X.K W fun env st => (f env st).toS env fun ds st1 => .next (env.set i (.own ds)) st1) := by
  unfold newList at hn
  split at hn
  · rename_i es q
    cases hn
    by_cases hl : es.length ≤ 1000
    · simp only [hl, if_true]
      exact psI (ps_set g.nd (ixOf_get hi) (w y hy).1 (snd_lstN hr g hl) rfl (w y hy).2) fun D σ H ⟨M, O, ρ, env, st, F, ok⟩ => store_own F ok
    · simp only [hl, if_false]
      exact ⟨fun _ _ _ _ _ _ h => by obtain ⟨_, _, _, _, _, _, h⟩ := h; exact h.elim⟩
  · rename_i elt tg iter ifs scope q
    cases hn
    obtain ⟨hyl, hsw⟩ := swapOk_true g (l := p.line) hs
    cases ho : tgOwn X.N scope tg with
    | none =>
      refine ⟨fun _ _ _ _ _ _ h => ?_⟩
      obtain ⟨_, _, _, _, _, _, h⟩ := h
      unfold compX at h
      simp only [ho] at h
      exact h.elim
    | some own =>
      cases hb : blkC X.N X.env.scope scope own with
      | false =>
        refine ⟨fun _ _ _ _ _ _ h => ?_⟩
        obtain ⟨_, _, _, _, _, _, h⟩ := h
        unfold compX at h
        simp only [ho, hb] at h
        exact h.elim
      | true =>
        cases hp : plainIter iter with
        | false =>
          refine ⟨fun _ _ _ _ _ _ h => ?_⟩
          obtain ⟨_, _, _, _, _, _, h⟩ := h
          unfold compX at h
          simp only [ho, hb, srcB_plain hp, if_true] at h
          exact h.elim
        | true =>
          have hk := comp_blk hb
          exact psI (ps_setLc g.calm g.nd (ixOf_get hi) hyl hsw (snd_srcB hr g) (blkOk_by hb) (fun s H C cl fp => pg_T (g.blk hk) sto_blk ho) (fun s H C cl fp => snd_tests hr (g.blk hk) ifs) (fun s H C cl fp => hr.ex _ _ (g.blk hk) elt) (fun x => plain_fold hp))
            fun D σ H ⟨M, O, ρ, env, st, F, ok⟩ => comp_read hr g ho hb σ H _ (store_own F ok)
  · cases hn
    exact psI (ps_set g.nd (ixOf_get hi) (w y hy).1 (snd_catN hr g) rfl (w y hy).2) fun D σ H ⟨M, O, ρ, env, st, F, ok⟩ => store_own F ok
  · cases hn
/-- y = e -/
theorem s_asgName (hr : Snd T L G k r) (g : Good T L G k W X) (w : Sto X X.env.scope) {y : Str} {py p : Pos} {e : Expr} {f : EX} {i : Nat} (hy : locB X.env.scope y = true) (hs : isComp e = false) (hi : ixOf X.N y = some i) (h : PE X e (tE X.K W f)) :
    PS X (.Assign [.Name y py] e p) (tS X.K W fun env st => (f env st).toS env fun d st1 => .next (env.set i (.v d)) st1) :=
  psI (ps_set g.nd (ixOf_get hi) (w y hy).1 h (swap_false hs) (w y hy).2) fun D σ H ⟨M, O, ρ, env, st, F, ok⟩ => inS F ok fun d st1 v M1 ρ1 H1 _ e1 F1 q ok1 => OkS.go (F1.put q) ok1
/-- y = [..], a value -/
theorem s_asgComp (hr : Snd T L G k r) (g : Good T L G k W X) (w : Sto X X.env.scope) {y : Str} {py p : Pos} {elt tg iter : Expr} {ifs : List Expr} {scope : Scope} {q : Pos} {i : Nat} (hs : swapOk X.env.scope y py (.ListComp elt [⟨tg, iter, ifs, 0⟩] scope q) = true) (hi : ixOf X.N y = some i) :
    PS X (.Assign [.Name y py] (.ListComp elt [⟨tg, iter, ifs, 0⟩] scope q) p) (tS X.K W fun env st => (compX G r X.N X.env.scope elt tg iter ifs scope env st).toS env fun ds st1 => .next (env.set i (.v (.lst ds))) st1) := by
  obtain ⟨hyl, hsw⟩ := swapOk_true g (l := p.line) hs
  cases ho : tgOwn X.N scope tg with
  | none =>
    refine ⟨fun _ _ _ _ _ _ h => ?_⟩
    obtain ⟨_, _, _, _, _, _, h⟩ := h
    unfold compX at h
    simp only [ho] at h
    exact h.elim
  | some own =>
    cases hb : blkC X.N X.env.scope scope own with
    | false =>
      refine ⟨fun _ _ _ _ _ _ h => ?_⟩
      obtain ⟨_, _, _, _, _, _, h⟩ := h
      unfold compX at h
      simp only [ho, hb] at h
      exact h.elim
    | true =>
      cases hp : plainIter iter with
      | false =>
        refine ⟨fun _ _ _ _ _ _ h => ?_⟩
        obtain ⟨_, _, _, _, _, _, h⟩ := h
        unfold compX at h
        simp only [ho, hb, srcB_plain hp, if_true] at h
        exact h.elim
      | true =>
        have hk := comp_blk hb
        refine psI (ps_setLc g.calm g.nd (ixOf_get hi) hyl hsw (snd_srcB hr g) (blkOk_by hb) (fun s H C cl fp => pg_T (g.blk hk) sto_blk ho) (fun s H C cl fp => snd_tests hr (g.blk hk) ifs) (fun s H C cl fp => hr.ex _ _ (g.blk hk) elt) (fun x => plain_fold hp))
          fun D σ H ⟨M, O, ρ, env, st, F, ok⟩ => comp_read hr g ho hb σ H _ ?_
        refine ⟨un M O, O, ρ, env, st, F.S, F.E, ?_⟩
        cases hf : compX G r X.N X.env.scope elt tg iter ifs scope env st with
        | stuck => simp only [hf] at ok; exact ok
        | exc c ns es st1 => simp only [hf] at ok; exact exc_step F ok
        | ok ds st1 =>
          simp only [hf, Res.toS] at ok
          intro a xs N ρ1 H1 e hn hm hr' hl S1 l
          have e2 := unmark e (F.S.notF hn)
          obtain ⟨M1, h1, e1, F1⟩ := F.step e2 (S1.anti (fun b h => h.1) fun b h => ⟨S1.sub b h, fun z => hr' (by rw [← z]; exact h)⟩)
          refine OkS.go (F1.put (v := .ref a) ?_) (OkS.later ok e1 F1.dis)
          rw [← h1]
          unfold RepV
          exact ⟨a, xs, rfl, fun z => z.2 rfl, hl, RepL.anti (fun b (h : N b ∧ b ≠ a) => h.1) ds xs l⟩
theorem stores_none {es : List Expr} {j : Nat} {p : Pos} {e : Expr} {env : PySem.Env} (h : notTupDisp e = true) : swappedStores [.Tuple es j p] e env = pure none := by
  cases e <;> first | rfl | cases h
theorem stores_none' {o i : Expr} {p : Pos} {e : Expr} {env : PySem.Env} : swappedStores [.Subscript o i p] e env = pure none := by
  cases e <;> rfl
/-- a, b = e -/
theorem s_asgTup (hr : Snd T L G k r) (g : Good T L G k W X) (w : Sto X X.env.scope) {es : List Expr} {j : Nat} {tp p : Pos} {e : Expr} (h1 : notTupDisp e = true) (h2 : isComp e = false) (h3 : (tgMany X.N X.env.scope es).isSome = true) :
    PS X (.Assign [.Tuple es j tp] e p) (tS X.K W fun env st => (r.E X.N X.env.scope e env st).toS env fun d st1 => match bindT X.N X.env.scope (.Tuple es j tp) d env with
      | some env1 => .next env1 st1
      | none => .stuck) := by
  cases ht : tgOwn X.N X.env.scope (.Tuple es j tp) with
  | none =>
    have ht' : tgMany X.N X.env.scope es = none := ht
    rw [ht'] at h3
    cases h3
  | some own =>
    refine psI (ps_asg (hr.ex W X g e) (pg_T g w ht) (swapSole_false h2) (stores_none h1) rfl) fun D σ H ⟨M, O, ρ, env, st, F, ok⟩ => inS F ok fun d st1 v M1 ρ1 H1 _ e1 F1 q ok1 => ?_
    cases hb : bindT X.N X.env.scope (.Tuple es j tp) d env with
    | none => rw [hb] at ok1; exact ok1.elim
    | some env1 =>
      rw [hb] at ok1
      exact ⟨un M1 O, O, ρ1, env, st1, d, env1, F1.S, F1.E, q, hb, fun σ' E' _ => OkS.go ⟨F1.S, E', F1.dis, F1.sub⟩ ok1⟩
theorem vals_split2 : ∀ {ws rest : List V} {us : List Value}, Vals (ws ++ rest) us → ∃ u1 u2, us = u1 ++ u2 ∧ Vals ws u1 ∧ Vals rest u2
  | [], _, us, r => ⟨[], us, rfl, .nil, r⟩
  | _ :: ws, rest, _, .cons a r => by
    obtain ⟨u1, u2, e, r1, r2⟩ := vals_split2 (ws := ws) (rest := rest) r
    exact ⟨_ :: u1, u2, by rw [e]; rfl, .cons a r1, r2⟩
/-- *a, b = a list -/
def gStar (K : PySem.W.Frag) (i j : Nat) : TG := fun v σ H Q => ∃ a xs y, v = .ref a ∧ SqL K H a (xs ++ [y]) ∧ ∀ q, H q = none → Q ((σ.set i (some (.ref q))).set j (some y)) (upd H q (.lst xs))
theorem pg_star {i j : Nat} {x y : Str} {px py ps pos : Pos} {k : Nat} (hc : X.calm = true) (h1 : PG X (.Name x px) (gName i)) (h2 : PG X (.Name y py) (gName j)) : PG X (.Tuple [.Starred (.Name x px) ps, .Name y py] k pos) (gStar X.K i j) := by
  refine ⟨fun pins s σ H v u Q I r hw => ?_⟩
  obtain ⟨a, xs, z, e1, hq, hw⟩ := hw
  subst e1
  cases r
  obtain ⟨its, rv, pl, hz⟩ := I.list hq
  have hl : s.heap.IsList a its.toArray := by
    obtain ⟨o, m, e, c, d, q⟩ := pl
    exact ⟨o, e, c, m, q⟩
  obtain ⟨u1, u2, eu, r1, r2⟩ := vals_split2 rv
  subst eu
  cases r2 with
  | cons r2 r3 =>
    rename_i w ws
    cases r3
    have hlt : a ≠ s.heap.objs.size := by obtain ⟨o, ho, _⟩ := hl; exact Nat.ne_of_lt (Heap.lt_size ho)
    have hall : a < s.heap.objs.size := by obtain ⟨o, ho, _⟩ := hl; exact Heap.lt_size ho
    have hlen : (u1 ++ [w]).toArray.size ≤ sizeLine := by
      rw [List.size_toArray, ← rv.length]
      exact hz
    rw [PyProof.Rows.assign_Tuple]
    refine wpAny_bind (wpAny_standAt ?_)
    unfold unpack
    show wpAny _ _ (do assignInOrder [assign (.Name x px) X.env, assign (.Name y py) X.env] (← holding [Value.ref a] (unpackItems (.ref a) 2 (some 0)))) _ _ s
    refine wpAny_bind (wpAny_holding ?_)
    unfold unpackItems
    refine wpAny_bind ?_
    unfold notIterableAtAll
    refine wpAny_bind (wpAny_specialOf hl.typeIs slot_list_iter.lookup ?_)
    refine wpAny_pure ?_
    simp only [Bool.false_eq_true, if_false]
    refine wpAny_bind (wpAny_holding (wpAny_pyIter_list hl ?_))
    refine wpAny_bind (wpAny_holding (PySem.W.kun_draw hlt 0 0 _ _ ⟨_, Heap.get?_push_size _ rfl, rfl, rfl⟩ (hl.push _) (by omega) fun h₁ hit₁ hs₁ => ?_))
    have hl₁ : h₁.IsList a (u1 ++ [w]).toArray := (hl.push _).extBut hs₁.extBut hlt
    rw [Nat.zero_add] at hit₁
    have hit₁' := hit₁
    obtain ⟨oi, hoi, _⟩ := hit₁'
    have hl₁' := hl₁
    obtain ⟨ol, hol, _⟩ := hl₁'
    rw [List.take_zero, if_neg (by show ¬ (0 < 0); omega)]
    refine wpAny_bind (wpAny_holding (PySem.W.kun_collect (s := { s with heap := h₁ }) (T := "list_iterator") (.inr (.inr (.inl rfl))) (Walks.list (A := X.A.in1) (I.ok.hd hc) s.heap.objs.size a hlt (u1 ++ [w]).toArray) (fun j u st => st.1.typeIs) (k := 0) (Nat.zero_le _) ⟨hit₁, hl₁⟩ (Heap.lt_size hoi) (Heap.lt_size hol) (fun h₂ tk hk => ?_) hlen))
    rw [List.drop_zero]
    show wpAny _ _ (if (u1 ++ [w]).length < 2 - 1 - 0 then _ else _) _ _ _
    have hll : (u1 ++ [w]).length = u1.length + 1 := by rw [List.length_append]; rfl
    rw [if_neg (by rw [hll]; omega)]
    show wpAny _ _ (PySem.newList ((u1 ++ [w]).take ((u1 ++ [w]).length - 1)) >>= fun d => pure ([] ++ [d] ++ (u1 ++ [w]).drop ((u1 ++ [w]).length - 1))) _ _ _
    rw [hll, Nat.add_sub_cancel, List.take_left, List.drop_left]
    have he : Heap.ExtBut s.heap.objs.size s.heap h₂ := fun b o hb e => hk b o hb (hs₁.extBut b o hb (Heap.get?_push_of_some _ e))
    have I1 : Inv X pins σ H { s with heap := h₂, toks := tk } := I.kept fun b o e => he b o (Nat.ne_of_lt (Heap.lt_size e)) e
    have hlu : u1.length ≤ sizeLine := by
      rw [List.size_toArray, hll] at hlen
      omega
    refine wpAny_bind (wpAny_newList (wpAny_pure ?_) hlu)
    have hf : H h₂.objs.size = none := I1.hok.fresh (Nat.le_refl _)
    have I2 : Inv X pins σ (upd H h₂.objs.size (.lst xs)) { s with heap := h₂.push { cls := .type "list", data := .seq u1.toArray }, toks := tk } :=
      I1.laid (t' := tk) (fun b u e => Heap.get?_push_of_some _ e) (Nat.le_refl _) (show ObjOk X.prog X.w _ _ _ (.lst xs) from ⟨by rw [r1.length]; exact hlu, u1, 0, r1, Heap.get?_push_size _ rfl⟩)
    refine assignInOrder_cons (thn (h1.run pins _ σ _ (.ref h₂.objs.size) _ _ I2 rfl (show gName i (.ref h₂.objs.size) σ _ (fun σ' H' => σ' = σ.set i (some (.ref h₂.objs.size)) ∧ H' = upd H h₂.objs.size (.lst xs)) from ⟨rfl, rfl⟩)) fun _ s3 ⟨σ3, H3, I3, e3, e4⟩ => ?_)
    subst e3 e4
    refine assignInOrder_cons (thn (h2.run pins s3 _ _ z w _ I3 r2 (hw _ hf)) fun _ s4 ⟨σ4, H4, I4, q4⟩ => ?_)
    exact assignInOrder_nil ⟨σ4, H4, I4, q4⟩
theorem repL_split {K : PySem.W.Frag} {M : Mu} {ρ : List Addr} {H : Hp} : ∀ {ds : List D} {z : D} {xs : List V}, RepL K M ρ H (ds ++ [z]) xs → ∃ ys y, xs = ys ++ [y] ∧ RepL K M ρ H ds ys ∧ RepV K M ρ H z y
  | [], z, xs, h => by
    rw [List.nil_append] at h
    unfold RepL at h
    obtain ⟨y, ys, rfl, h1, h2⟩ := h
    unfold RepL at h2
    subst h2
    exact ⟨[], y, rfl, by unfold RepL; rfl, h1⟩
  | d :: ds, z, xs, h => by
    rw [List.cons_append] at h
    unfold RepL at h
    obtain ⟨y, ys, rfl, h1, h2⟩ := h
    obtain ⟨ys2, y2, rfl, h3, h4⟩ := repL_split h2
    exact ⟨y :: ys2, y2, rfl, by unfold RepL; exact ⟨y, ys2, rfl, h1, h3⟩, h4⟩
theorem s_asgStar (hr : Snd T L G k r) (g : Good T L G k W X) (w : Sto X X.env.scope) {x y : Str} {px py ps tp p : Pos} {m i j : Nat} {e : Expr} (h1 : notTupDisp e = true) (h2 : isComp e = false) (hx : locB X.env.scope x = true) (hy : locB X.env.scope y = true) (hdx : dunder x = false) (hdy : dunder y = false) (hi : ixOf X.N x = some i) (hj : ixOf X.N y = some j) :
    PS X (.Assign [.Tuple [.Starred (.Name x px) ps, .Name y py] m tp] e p) (tS X.K W fun env st => (r.E X.N X.env.scope e env st).toS env fun d st1 => match starD i j d env with
      | some env1 => .next env1 st1
      | none => .stuck) := by
  have o1 : tgOne X.N X.env.scope (.Name x px) = some (x, i) := by
    unfold tgOne
    simp only [hx, hdx, hi, Bool.not_false, Bool.and_self, if_true, Option.map_some]
  have o2 : tgOne X.N X.env.scope (.Name y py) = some (y, j) := by
    unfold tgOne
    simp only [hy, hdy, hj, Bool.not_false, Bool.and_self, if_true, Option.map_some]
  refine psI (ps_asg (hr.ex W X g e) (pg_star g.calm (pg_one g w o1) (pg_one g w o2)) (swapSole_false h2) (stores_none h1) rfl) fun D σ H ⟨M, O, ρ, env, st, F, ok⟩ => inS F ok fun d st1 v M1 ρ1 H1 _ e1 F1 q ok1 => ?_
  cases d with
  | lst ds =>
    unfold starD at ok1
    dsimp only at ok1
    cases hz : ds.getLast? with
    | none => rw [hz] at ok1; exact ok1.elim
    | some z =>
      rw [hz] at ok1
      have hds : ds = ds.dropLast ++ [z] := by
        have hne : ds ≠ [] := by intro e; subst e; cases hz
        rw [List.getLast?_eq_getLast hne] at hz
        cases hz
        exact (List.dropLast_concat_getLast hne).symm
      unfold RepV at q
      obtain ⟨a, xs, rfl, hm, hl, l⟩ := q
      rw [hds] at l
      obtain ⟨ys, yv, rfl, l1, l2⟩ := repL_split l
      refine ⟨a, ys, yv, rfl, SqL.of hl, fun q hq => ?_⟩
      obtain ⟨M2, h2, e2, F2⟩ := F1.step (Ext.lay (o := .lst ys) hq) (F1.S.lay hq)
      refine OkS.go ((F2.put (v := .ref q) ?_).put ?_) (OkS.later ok1 e2 F2.dis)
      · rw [← h2]
        exact RepV.lay_lst F1.S hq l1
      · rw [← h2]
        exact RepV.mono F1.S.sub (Ext.lay hq) z yv l2
  | _ => exact ok1.elim
theorem ixN_lt {n : Nat} {i : Int} {j : Nat} (h : ixN n i = some j) : j < n := (ixN_seq h).2.1
/-- x[i] = e -/
theorem s_asgSub (hr : Snd T L G k r) (g : Good T L G k W X) {x : Str} {px p q : Pos} {i e : Expr} {j : Nat} (h2 : isComp e = false) (hv : visB X.env.scope x = true) (hd : dunder x = false) (hj : ixOf X.N x = some j) (hs : ∀ a b c d, i ≠ .Slice a b c d) :
    PS X (.Assign [.Subscript (.Name x px) i q] e p) (tS X.K W fun env st => (r.E X.N X.env.scope e env st).toS env fun d st1 => if known env j = true then (r.E X.N X.env.scope i env st1).toS env fun k st2 => (match env[j]?, k with
        | some (.v (.ref q)), .int z => (match st2[q]? with
          | some (.lst ds) => (match ixN ds.length z with
            | some w => .next env (st2.set q (.lst (ds.set w d)))
            | none => .stuck)
          | _ => .stuck)
        | some (.own ds), .int z => (match ixN ds.length z with
            | some w => .next (env.set j (.own (ds.set w d))) st2
            | none => .stuck)
        | _, _ => .stuck) else .stuck) := by
  have ha : ∀ v, assign (.Subscript (.Name x px) i q) X.env v = (do
      let ov ← holding [v] (eval (.Name x px) X.env)
      let iv ← holding [v, ov] (eval i X.env)
      standAt q
      holding [v, ov, iv] (setItem ov iv v)
      release [v, ov, iv] []) := by
    intro v
    cases i <;> first | rfl | exact absurd rfl (hs _ _ _ _)
  refine psI (ps_asg (hr.ex W X g e) (pg_sub (pe_nm hv hj hd) (hr.ex W X g i) set_list ha) (swapSole_false h2) stores_none' rfl) fun D σ H ⟨M, O, ρ, env, st, F, ok⟩ => inS F ok fun d st1 v M1 ρ1 H1 _ e1 F1 qv ok1 => ?_
  -- the slot's value, known now
  have look : ∀ {sl}, env[j]? = some sl → (∃ dd, sl = .v dd) ∨ (∃ ds, sl = .own ds) ∨ sl = .no := fun {sl} _ => by
    cases sl with
    | no => exact .inr (.inr rfl)
    | v dd => exact .inl ⟨dd, rfl⟩
    | own ds => exact .inr (.inl ⟨ds, rfl⟩)
  cases hsl : env[j]? with
  | none =>
    have hk : known env j = false := by unfold known; rw [hsl]
    rw [hk] at ok1
    exact ok1.elim
  | some sl =>
    simp only [hsl] at ok1
    rcases look hsl with ⟨dd, rfl⟩ | ⟨ds, rfl⟩ | rfl
    · have hk : known env j = true := by unfold known; rw [hsl]
      rw [if_pos hk] at ok1
      obtain ⟨o, ho1, ho2⟩ := F1.E.val j dd hsl
      refine ⟨o, ho1, ?_⟩
      refine inS F1 ok1 fun kk st2 kv M2 ρ2 H2 _ e2 F2 qk ok2 => ?_
      cases dd with
      | ref qq =>
        cases kk with
        | int z =>
          simp only at ok2
          cases hq : st2[qq]? with
          | none => rw [hq] at ok2; exact ok2.elim
          | some ob =>
            cases ob with
            | lst ds =>
              rw [hq] at ok2
              simp only at ok2
              cases hw : ixN ds.length z with
              | none => rw [hw] at ok2; exact ok2.elim
              | some w =>
                rw [hw] at ok2
                simp only at ok2
                have ho3 := RepV.late (e2.lv F1.sub) _ o ho2
                obtain ⟨a, xs, rfl, ha', hl, l⟩ := F2.S.at_ ho3 hq
                obtain rfl := qk.int_
                obtain ⟨F3, e3⟩ := F2.write (ds := ds.set w d) (xs := xs.set w v) hq ha' hl (l.set w (RepV.late (e2.lv F1.sub) d v qv))
                exact ⟨a, xs, z, w, rfl, rfl, hl, by rw [l.length]; exact hw, OkS.go F3 (OkS.later ok2 e3 F2.dis)⟩
        | _ => exact ok2.elim
      | _ => exact ok2.elim
    · have hk : known env j = true := by unfold known; rw [hsl]
      rw [if_pos hk] at ok1
      obtain ⟨a, xs0, ho1, ho2, ho3, ho4⟩ := F1.E.own j ds hsl
      refine ⟨.ref a, ho1, ?_⟩
      refine inS F1 ok1 fun kk st2 kv M2 ρ2 H2 _ e2 F2 qk ok2 => ?_
      cases kk with
      | int z =>
        simp only at ok2
        cases hw : ixN ds.length z with
        | none => rw [hw] at ok2; exact ok2.elim
        | some w =>
          rw [hw] at ok2
          simp only at ok2
          obtain ⟨a', xs, h1, h3, h4, h5⟩ := F2.E.own j ds hsl
          rw [ho1] at h1; cases h1
          obtain rfl := qk.int_
          obtain ⟨F3, e3⟩ := F2.touch (ds := ds.set w d) (xs := xs.set w v) hsl ho1 h3 h4 (h5.set w (RepV.late (e2.lv F1.sub) d v qv))
          exact ⟨a, xs, z, w, rfl, rfl, h4, by rw [h5.length]; exact hw, OkS.go F3 (OkS.later ok2 e3 F2.dis)⟩
      | _ => exact ok2.elim
    · have hk : known env j = false := by unfold known; rw [hsl]
      rw [hk] at ok1
      exact ok1.elim
/-- a op= b by values -/
def rAugD : TIp := fun x y H Q => ∃ a b c op, x = .int a ∧ y = .int b ∧ augI op a (.int b) = some c ∧ op = op ∧ Q (.int c) H
theorem ip_augD {op : Operator} : PIp X op (fun x y H Q => ∃ a b c, x = .int a ∧ y = .int b ∧ augI op a (.int b) = some c ∧ Q (.int c) H) := by
  intro pins s σ H x y v u Q I r1 r2 h
  obtain ⟨a, b, c, rfl, rfl, hc, q⟩ := h
  cases op with
  | Add => cases hc; exact ip_add pins s σ H _ _ v u Q I r1 r2 ⟨a, b, rfl, rfl, q⟩
  | Sub => cases hc; exact ip_sub pins s σ H _ _ v u Q I r1 r2 ⟨a, b, rfl, rfl, q⟩
  | _ => cases hc
/-- x += e -/
theorem s_aug (hr : Snd T L G k r) (g : Good T L G k W X) (w : Sto X X.env.scope) {x : Str} {px p : Pos} {op : Operator} {e : Expr} {i : Nat} (hx : locB X.env.scope x = true) (hi : ixOf X.N x = some i) :
    PS X (.AugAssign (.Name x px) op e p) (tS X.K W fun env st => match env[i]? with
        | some (.v (.int a)) => (r.E X.N X.env.scope e env st).toS env fun d st1 => (match augI op a d with
          | some c => .next (env.set i (.v (.int c))) st1
          | none => .stuck)
        | _ => .stuck) := by
  refine psI (ps_aug g.nd (ixOf_get hi) (w x hx).1 (hr.ex W X g e) ip_augD (w x hx).2) fun D σ H ⟨M, O, ρ, env, st, F, ok⟩ => ?_
  cases he : env[i]? with
  | none => simp only [he] at ok; exact ok.elim
  | some sl =>
    cases sl with
    | no => simp only [he] at ok; exact ok.elim
    | own ds => simp only [he] at ok; exact ok.elim
    | v d0 =>
      cases d0 with
      | int a =>
        simp only [he] at ok
        obtain ⟨v, h1, h2⟩ := F.E.val i _ he
        obtain rfl := h2.int_
        refine ⟨.int a, h1, ?_⟩
        refine inS F ok fun d st1 y M1 ρ1 H1 _ e1 F1 q ok1 => ?_
        cases hc : augI op a d with
        | none => rw [hc] at ok1; exact ok1.elim
        | some c =>
          rw [hc] at ok1
          cases d with
          | int b =>
            obtain rfl := q.int_
            exact ⟨a, b, c, rfl, rfl, hc, OkS.go (F1.put (RepV.int _)) ok1⟩
          | _ => cases hc
      | _ => simp only [he] at ok; exact ok.elim
/-- x.append(e), x's own list -/
theorem s_append (hr : Snd T L G k r) (g : Good T L G k W X) {x : Str} {px ap cp p : Pos} {a : Expr} {i : Nat} (hs : isStar a = false) (hv : visB X.env.scope x = true) (hd : dunder x = false) (hl : (ap.endLine == cp.line) = true) (hi : ixOf X.N x = some i) :
    PS X (.Expr (.Call (.Attribute (.Name x px) "append" ap) [a] [] cp) p) (tS X.K W fun env st => match ownSlot env i with
        | some ds => (r.E X.N X.env.scope a env st).toS env fun d st1 => if ds.length < big then .next (env.set i (.own (ds ++ [d]))) st1 else .stuck
        | none => .stuck) := by
  refine psI (ps_expr (pe_bm PySem.F.plainAttrs_list PySem.F.slot_list_append PySem.F.type_list_append mt_append (pe_nm hv hi hd) (pa_cons (hr.ex W X g a) pa_nil (star_cons hs)) rfl (by rw [star_cons hs] <;> rfl) hl (star_cons hs) (back_any rfl)) rfl) fun D σ H ⟨M, O, ρ, env, st, F, ok⟩ => ?_
  have ok0 : OkS X.K W M O ρ H (match ownSlot env i with
        | some ds => (r.E X.N X.env.scope a env st).toS env fun d st1 => if ds.length < big then .next (env.set i (.own (ds ++ [d]))) st1 else .stuck
        | none => .stuck) D := ok
  unfold ownSlot at ok0
  cases he : env[i]? with
  | none => simp only [he] at ok0; exact ok0.elim
  | some sl =>
    cases sl with
    | no => simp only [he] at ok0; exact ok0.elim
    | v d0 => simp only [he] at ok0; exact ok0.elim
    | own ds =>
      simp only [he] at ok0
      obtain ⟨q, xs0, h1, h2, h3, h4⟩ := F.E.own i ds he
      refine ⟨.ref q, h1, .inl ⟨rfl, _, SqL.of h3⟩, ?_⟩
      refine inS F ok0 fun d st1 y M1 ρ1 H1 _ e1 F1 qv ok1 => ?_
      obtain ⟨q', xs, h5, h6, h7, h8⟩ := F1.E.own i ds he
      rw [h1] at h5; cases h5
      by_cases hz : ds.length < big
      · rw [if_pos hz] at ok1
        obtain ⟨F3, e3⟩ := F1.touch (ds := ds ++ [d]) (xs := xs ++ [y]) he h1 h6 h7 (h8.app (RepL.cons qv RepL.nil))
        exact ⟨q, xs, y, rfl, rfl, h7, by rw [h8.length, big_eq]; exact hz, OkS.go F3 (OkS.later ok1 e3 F1.dis)⟩
      · rw [if_neg hz] at ok1
        exact ok1.elim
theorem s_retNew (hr : Snd T L G k r) (g : Good T L G k W X) {es : List Expr} {p q : Pos} (hl : es.length ≤ 1000) : PS X (.Return (some (.List es p)) q) (tS X.K W fun env st => (denA (r.E X.N X.env.scope) es env st).toS env fun ds st1 => .ret (.ref st1.length) (st1 ++ [.lst ds])) := by
  refine psI (ps_ret (snd_lstN hr g hl)) fun D σ H ⟨M, O, ρ, env, st, F, ok⟩ => ⟨un M O, O, ρ, env, st, F.S, F.E, ?_⟩
  cases hf : denA (r.E X.N X.env.scope) es env st with
  | stuck => simp only [hf] at ok; exact ok
  | exc c ns es' st1 => simp only [hf] at ok; exact exc_step F ok
  | ok ds st1 =>
    simp only [hf, Res.toS] at ok
    intro a xs N ρ1 H1 e hn hm hr' hl S1 l
    have E1 := F.E.mono F.S e
    have hOa : ¬ O a := fun z => F.S.liv a (.inr z) hn
    have lv : LV N ρ1 H1 (fun b => N b ∧ ¬ O b) (ρ1 ++ [a]) H1 := ⟨⟨[a], rfl⟩, fun b h => .inl h.1, fun _ _ _ _ h => h, fun _ h => h, fun _ _ h => h, fun _ _ _ h => h⟩
    have ea : (ρ1 ++ [a])[st1.length]? = some a := by rw [← S1.len]; simp
    refine ok (.ref a) (fun b => N b ∧ ¬ O b) O (ρ1 ++ [a]) H1 ⟨?_, fun b h => ⟨e.mono b (.inl h), F.dis b h⟩, fun b h => ?_, fun b h => ?_, fun b h => ?_, fun b o n n2 nt h => e.keep b o n nt h, e.liv, e.tup, e.frz⟩ ⟨?_, ?_, fun b h => ?_, fun i es' hi => ?_, fun b h => S1.liv b h.1, S1.tabs⟩ ?_
    · obtain ⟨q, hq⟩ := e.pre
      exact ⟨q ++ [a], by rw [hq, List.append_assoc]⟩
    · rcases h with h | h
      · rcases e.new b h.1 with (z | z) | z
        · exact .inl z
        · exact absurd z h.2
        · exact .inr (.inr z)
      · exact .inr (.inl h)
    · rcases e.new b h.1 with (z | z) | z
      · exact .inl z
      · exact absurd z h.2
      · exact .inr z
    · rcases List.mem_append.mp h with h | h
      · exact e.fresh b h
      · rw [List.mem_singleton.mp h]; exact .inr hn
    · rw [List.length_append, List.length_append, S1.len]; rfl
    · refine List.nodup_append.mpr ⟨S1.nd, List.nodup_cons.mpr ⟨by simp, List.nodup_nil⟩, fun b hb c hc z => ?_⟩
      rw [List.mem_singleton.mp hc] at z
      exact hr' (by rw [← z]; exact hb)
    · rcases List.mem_append.mp h with h | h
      · exact ⟨S1.sub b h, fun z => E1.nor b z h⟩
      · rw [List.mem_singleton.mp h]; exact ⟨hm, hOa⟩
    · by_cases hi2 : i < st1.length
      · rw [List.getElem?_append_left hi2] at hi
        obtain ⟨b, ys, h1, h2, h3⟩ := S1.ob i es' hi
        exact ⟨b, ys, lv.get h1, h2, RepL.late lv es' ys h3⟩
      · have hi3 : i = st1.length := by
          have := (List.getElem?_eq_some_iff.mp hi).1
          rw [List.length_append, List.length_singleton] at this
          omega
        subst hi3
        rw [List.getElem?_append_right (Nat.le_refl _), Nat.sub_self] at hi
        simp at hi
        subst hi
        exact ⟨a, xs, ea, hl, RepL.late lv ds xs l⟩
    · unfold RepV
      exact ⟨a, rfl, ea⟩
/-- both stored at once -/
theorem par_stores {x y : Str} {px py pt pt2 : Pos} {kt k2 : Nat} {a b : Expr} (hk : X.env.scope.kind = .function) (h : parOk X.env.scope x y px py a b = true) :
    swappedStores [.Tuple [.Name x px, .Name y py] kt pt] (.Tuple [a, b] k2 pt2) X.env = pure (some [x, y]) := by
  unfold parOk at h
  simp only [Bool.and_eq_true, Bool.not_eq_true', decide_eq_true_eq] at h
  obtain ⟨⟨⟨⟨⟨⟨⟨⟨⟨⟨⟨hx, hy⟩, hdx⟩, hdy⟩, hl⟩, hne⟩, hsa⟩, hsb⟩, hca⟩, hcb⟩, hf⟩, hc⟩ := h
  have kx : X.env.kindOf x = some .local := hx
  have ky : X.env.kindOf y = some .local := hy
  have bk : X.env.blockKind = .function := by
    unfold Env.blockKind
    rw [hk]
    rfl
  have hl' : (py.line == px.line) = true := by rw [beq_iff_eq] at hl ⊢; exact hl.symm
  have hxy : ¬ x = y := by simpa using hne
  have hl2 : py.line = px.line := by simpa using hl'
  unfold swappedStores
  simp only [bk, List.filterMap_cons, List.filterMap_nil, List.head?_cons, Option.map_some, Option.getD_some, kx, ky, hl2, Expr.pos, beq_self_eq_true, Bool.and_self, if_true, List.any_cons, List.any_nil, List.all_cons, List.all_nil, Bool.and_true, List.length_cons, List.length_nil]
  simp only [hf, hc]
  have hyx : (y == x) = false := by
    rw [beq_eq_false_iff_ne]
    exact fun z => hxy z.symm
  simp [List.eraseDups_cons, hyx]
  intro z
  rcases z with z | z
  · cases a <;> first | (exact Bool.noConfusion hsa) | cases z
  · cases b <;> first | (exact Bool.noConfusion hsb) | cases z
/-- a, b = e, f -/
theorem s_par (hr : Snd T L G k r) (g : Good T L G k W X) {x y : Str} {px py pt pt2 p : Pos} {kt k2 : Nat} {a b : Expr} {i j : Nat} (hi : ixOf X.N x = some i) (hj : ixOf X.N y = some j) (h : parOk X.env.scope x y px py a b = true) :
    PS X (.Assign [.Tuple [.Name x px, .Name y py] kt pt] (.Tuple [a, b] k2 pt2) p) (tS X.K W fun env st => (denA (r.E X.N X.env.scope) [a, b] env st).toS env fun ds st1 => match ds with
      | [d, e] => .next ((env.set i (.v d)).set j (.v e)) st1
      | _ => .stuck) := by
  have h' := h
  unfold parOk at h'
  simp only [Bool.and_eq_true, Bool.not_eq_true', decide_eq_true_eq] at h'
  obtain ⟨⟨⟨⟨⟨⟨⟨⟨⟨⟨⟨hx, hy⟩, hdx⟩, hdy⟩, hl⟩, hne⟩, hsa⟩, hsb⟩, hca⟩, hcb⟩, hf⟩, hc⟩ := h'
  have nxy : i ≠ j := fun z => by
    subst z
    have e1 := ixOf_get hi
    rw [ixOf_get hj] at e1
    cases e1
    simp at hne
  refine psI (ps_par g.calm g.nd (ixOf_get hi) (ixOf_get hj) nxy hx hy (snd_A hr g [a, b]) (par_stores g.kind h) rfl) fun D σ H ⟨M, O, ρ, env, st, F, ok⟩ => inS F ok fun ds st1 vs M1 ρ1 H1 _ e1 F1 q ok1 => ?_
  match ds, ok1, q with
  | [d, e], ok1, q =>
    unfold RepL at q
    obtain ⟨v, vs', rfl, hv, q⟩ := q
    unfold RepL at q
    obtain ⟨u, vs'', rfl, hu, q⟩ := q
    unfold RepL at q
    subst q
    exact ⟨v, u, rfl, OkS.go ((F1.put hv).put hu) ok1⟩
  | [], ok1, q => exact ok1.elim
  | [_], ok1, q => exact ok1.elim
  | _ :: _ :: _ :: _, ok1, q => exact ok1.elim
/-- a, b = e, [..], b's own -/
theorem newPE (hr : Snd T L G k r) (g : Good T L G k W X) {e : Expr} {f : AX} (hn : newList T G r X.N X.env.scope e = some f) (hc : isComp e = false) : PE X e (tNew X.K W f) := by
  unfold newList at hn
  split at hn
  · rename_i es q
    cases hn
    by_cases hl : es.length ≤ 1000
    · simp only [hl, if_true]
      exact snd_lstN hr g hl
    · simp only [hl, if_false]
      exact ⟨fun _ _ _ _ _ _ h => by obtain ⟨_, _, _, _, _, _, _, h⟩ := h; exact h.elim⟩
  · cases hc
  · cases hn
    exact snd_catN hr g
  · cases hn
theorem s_parOwn (hr : Snd T L G k r) (g : Good T L G k W X) {x y : Str} {px py pt pt2 p : Pos} {kt k2 : Nat} {a b : Expr} {i j : Nat} {f : AX} (hi : ixOf X.N x = some i) (hj : ixOf X.N y = some j) (h : parOk X.env.scope x y px py a b = true) (hn : newList T G r X.N X.env.scope b = some f) :
    PS X (.Assign [.Tuple [.Name x px, .Name y py] kt pt] (.Tuple [a, b] k2 pt2) p) (tS X.K W fun env st => (r.E X.N X.env.scope a env st).toS env fun d st1 => (f env st1).toS env fun ds st2 => .next ((env.set i (.v d)).set j (.own ds)) st2) := by
  have h' := h
  unfold parOk at h'
  simp only [Bool.and_eq_true, Bool.not_eq_true', decide_eq_true_eq] at h'
  obtain ⟨⟨⟨⟨⟨⟨⟨⟨⟨⟨⟨hx, hy⟩, hdx⟩, hdy⟩, hl⟩, hne⟩, hsa⟩, hsb⟩, hca⟩, hcb⟩, hf⟩, hc⟩ := h'
  have nxy : i ≠ j := fun z => by
    subst z
    have e1 := ixOf_get hi
    rw [ixOf_get hj] at e1
    cases e1
    simp at hne
  refine psI (ps_par g.calm g.nd (ixOf_get hi) (ixOf_get hj) nxy hx hy (pa_cons (hr.ex W X g a) (pa_cons (newPE hr g hn hcb) pa_nil (star_cons hsb)) (star_cons hsa)) (par_stores g.kind h) rfl) fun D σ H ⟨M, O, ρ, env, st, F, ok⟩ => inS F ok fun d st1 v M1 ρ1 H1 _ e1 F1 q ok1 => ?_
  have t := store_own2 (σ' := σ.set i (some v)) (env' := env.set i (.v d)) F1 (fun N r1 H2 x2 E2 => E2.put (RepV.mono F1.S.sub x2 d v q)) ok1
  obtain ⟨M2, O2, r2, env2, st2, S2, E2, ok2⟩ := t
  refine ⟨M2, O2, r2, env2, st2, S2, E2, ?_⟩
  cases hf2 : f env2 st2 with
  | stuck => rw [hf2] at ok2; exact ok2
  | exc c ns es st3 => rw [hf2] at ok2; exact ok2
  | ok ds st3 =>
    rw [hf2] at ok2
    exact fun aa xs M' ρ' H' z1 z2 z3 z4 z5 z6 z7 => ⟨v, .ref aa, rfl, ok2 aa xs M' ρ' H' z1 z2 z3 z4 z5 z6 z7⟩
/-- constants: the pair is made -/
theorem const_stores {x y : Str} {px py pt pt2 : Pos} {kt k2 : Nat} {a b : Expr} (h : allConst a b = true) : swappedStores [.Tuple [.Name x px, .Name y py] kt pt] (.Tuple [a, b] k2 pt2) X.env = pure none := by
  unfold allConst at h
  simp only [Bool.and_eq_true, Bool.not_eq_true'] at h
  obtain ⟨⟨⟨h1, h2⟩, h3⟩, h4⟩ := h
  unfold swappedStores
  simp only [List.all_cons, List.all_nil, h1, h2, Bool.and_true, Bool.true_and, if_true]
  split
  · rfl
  · split
    · rfl
    · split
      · rfl
      · rfl
/-- a, b = constants -/
theorem s_parK (hr : Snd T L G k r) (g : Good T L G k W X) (w : Sto X X.env.scope) {x y : Str} {px py pt pt2 p : Pos} {kt k2 : Nat} {a b : Expr} (h : allConst a b = true) (hx : locB X.env.scope x = true) (hy : locB X.env.scope y = true) (hdx : dunder x = false) (hdy : dunder y = false) {i j : Nat} (hi : ixOf X.N x = some i) (hj : ixOf X.N y = some j) :
    PS X (.Assign [.Tuple [.Name x px, .Name y py] kt pt] (.Tuple [a, b] k2 pt2) p) (tS X.K W fun env st => (r.E X.N X.env.scope (.Tuple [a, b] k2 pt2) env st).toS env fun d st1 => match bindT X.N X.env.scope (.Tuple [.Name x px, .Name y py] kt pt) d env with
      | some env1 => .next env1 st1
      | none => .stuck) := by
  have ht : tgOwn X.N X.env.scope (.Tuple [.Name x px, .Name y py] kt pt) = some [(x, i), (y, j)] := by
    unfold tgOwn
    simp only [tgMany, tgOne, hx, hy, hdx, hdy, hi, hj, Bool.not_false, Bool.and_self, if_true, Option.map_some]
  refine psI (ps_asg (hr.ex W X g _) (pg_T g w ht) rfl (const_stores h) rfl) fun D σ H ⟨M, O, ρ, env, st, F, ok⟩ => inS F ok fun d st1 v M1 ρ1 H1 _ e1 F1 q ok1 => ?_
  cases hb : bindT X.N X.env.scope (.Tuple [.Name x px, .Name y py] kt pt) d env with
  | none => rw [hb] at ok1; exact ok1.elim
  | some env1 =>
    rw [hb] at ok1
    exact ⟨un M1 O, O, ρ1, env, st1, d, env1, F1.S, F1.E, q, hb, fun σ' E' _ => OkS.go ⟨F1.S, E', F1.dis, F1.sub⟩ ok1⟩
theorem s_step (hp : PassesOwn (model X.prog X.w) X.A X.env X.xe) (hr : Snd T L G k r) (g : Good T L G k W X) (w : Sto X X.env.scope) (df : Dfl X) {ow : List Str} {rs : Stmt → SX} (h : ∀ s, PS X s (tS X.K W (rs s)))
    (ht : ∀ (W' : WX) (pn : List (Addr × Obj)) (xe : Value → Shared → Prop), Takes (X.tr pn xe) W' → PassesOwn (model X.prog X.w) X.A X.env xe → ∀ s, PS (X.tr pn xe) s (tS X.K W' (rs s))) (s : Stmt) : PS X s (tS X.K W (stepS T L G r X.N X.env.scope ow rs s)) := by
  unfold stepS
  split
  · exact psI ps_pass fun D σ H ⟨M, O, ρ, env, st, F, ok⟩ => OkS.go F ok
  · exact psI ps_break fun D σ H ⟨M, O, ρ, env, st, F, ok⟩ => ok σ M O ρ H ExtO.refl F
  · exact psI ps_continue fun D σ H ⟨M, O, ρ, env, st, F, ok⟩ => ok σ M O ρ H ExtO.refl F
  · exact psI ps_retN fun D σ H ⟨M, O, ρ, env, st, F, ok⟩ => OkS.out F ok RepV.non
  · split
    · split
      · rename_i hv
        simp only [Bool.and_eq_true, Bool.not_eq_true'] at hv
        split
        · rename_i i hi
          exact s_retName g hv.1 hv.2 hi
        · exact ps_stuck
      · exact s_retE (hr.ex W X g _)
    · split
      · split
        · rename_i hl
          exact s_retNew hr g hl
        · exact ps_stuck
      · exact s_retE (hr.ex W X g _)
    · exact s_retE (hr.ex W X g _)
  · exact s_if hr g h
  · exact s_while hp hr g h
  · split
    · rename_i ht
      exact s_forR hp hr g w h ht
    · exact ps_stuck
  · split
    · rename_i hc
      simp only [Bool.and_eq_true, Bool.not_eq_true'] at hc
      split
      · rename_i i hi
        split
        · split
          · rename_i f hn
            exact s_own hr g w hc.1.1 hc.2 hi hn
          · exact ps_stuck
        · split
          · exact s_asgComp hr g w hc.2 hi
          · split
            · exact ps_stuck
            · rename_i hn
              exact s_asgName hr g w hc.1.1 (by simpa using hn) hi (hr.ex W X g _)
      · exact ps_stuck
    · exact ps_stuck
  · split
    · rename_i i j hi hj
      split
      · rename_i hp2
        split
        · exact ps_stuck
        · split
          · split
            · rename_i f hn
              exact s_parOwn hr g hi hj hp2 hn
            · exact ps_stuck
          · exact s_par hr g hi hj hp2
      · split
        · rename_i hc
          simp only [Bool.and_eq_true, Bool.not_eq_true'] at hc
          obtain ⟨⟨⟨⟨⟨⟨h1, h2⟩, h3⟩, h4⟩, h5⟩, _⟩, _⟩ := hc
          exact s_parK hr g w h1 h2 h3 h4 h5 hi hj
        · exact ps_stuck
    · exact ps_stuck
  · split
    · rename_i hc
      simp only [Bool.and_eq_true, Bool.not_eq_true'] at hc
      obtain ⟨⟨⟨⟨⟨c1, c2⟩, c3⟩, c4⟩, c5⟩, c6⟩ := hc
      split
      · rename_i i j hi hj
        exact s_asgStar hr g w c1 c2 c3 c4 c5 c6 hi hj
      · exact ps_stuck
    · exact ps_stuck
  · split
    · rename_i hc
      simp only [Bool.and_eq_true, Bool.not_eq_true'] at hc
      exact s_asgTup hr g w hc.1.1 hc.1.2 hc.2
    · exact ps_stuck
  · split
    · exact ps_stuck
    · rename_i hc
      simp only [Bool.or_eq_true, Bool.not_eq_true', not_or, Bool.not_eq_true, Bool.not_eq_false] at hc
      split
      · exact ps_stuck
      · rename_i hsl
        split
        · rename_i j hj
          exact s_asgSub hr g hc.1.1.1 hc.1.2 hc.2 hj fun a b c d e => hsl a b c d e
        · exact ps_stuck
  · split
    · rename_i hc
      simp only [Bool.and_eq_true, Bool.not_eq_true'] at hc
      split
      · rename_i i hi
        exact s_aug hr g w hc.1 hi
      · exact ps_stuck
    · exact ps_stuck
  · split
    · rename_i hm
      subst hm
      split
      · exact ps_stuck
      · rename_i hc
        simp only [Bool.or_eq_true, Bool.not_eq_true', not_or, Bool.not_eq_true, Bool.not_eq_false] at hc
        split
        · rename_i i hi
          exact s_append hr g hc.1.1.1 hc.1.1.2 hc.1.2 hc.2 hi
        · exact ps_stuck
    · exact ps_stuck
  · exact psI ps_doc fun D σ H ⟨M, O, ρ, env, st, F, ok⟩ => OkS.go F ok
  · split
    · rename_i hc
      simp only [Bool.and_eq_true, Bool.not_eq_true'] at hc
      split
      · rename_i hx
        exact s_raise0 hr g hc.1.1 hc.1.2 hc.2 hx
      · rename_i f hx
        exact s_raise1 hr g hc.1.1 hc.1.2 hc.2 hx
      · exact ps_stuck
    · exact ps_stuck
  · split
    · rename_i i j hi hj
      split
      · rename_i hc
        simp only [Bool.and_eq_true, Bool.not_eq_true', beq_eq_false_iff_ne] at hc
        exact s_try hr g w df hc.1 hi hj hc.2 ht
      · exact ps_stuck
    · exact ps_stuck
  · exact ps_stuck
theorem s_den {ow : List Str} : ∀ (n : Nat) (W : WX) (X : Cx), PassesOwn (model X.prog X.w) X.A X.env X.xe → Good T L G k W X → Sto X X.env.scope → Dfl X → ∀ s : Stmt, PS X s (tS X.K W (denS T L G X.N X.env.scope ow n s))
  | 0, W, X, _, _, _, _, s => ps_stuck
  | n + 1, W, X, hp, g, w, df, s => s_step hp (snd_den 40) g w df (s_den n W X hp g w df) (fun W' pn xe t p => s_den n W' (X.tr pn xe) p (g.tr t) w ⟨df.stk, df.fr, df.ex⟩) s
end
end MI

set_option maxRecDepth 100000
set_option maxHeartbeats 4000000
namespace MI
open PySem PySem.Spec PyProof.Rows L2
variable [LD : LamDefs]
/-- a def that is handed a lambda, calls it in a try and goes on: its slots (but the first) behind its first statement, the slot of what is told, the class that it catches, the slots of the clause's name and of what is kept -/
structure Told where
  env : Env
  x : Option Nat
  c : Str
  n : Nat
  z : Nat
/-- a def: its name, parameters, slots (parameters first), the names whose lists are their own, its text; whether it makes lambdas; whether it tells of one -/
structure Fn where
  name : Str
  ps : List Str
  N : List Str
  ow : List Str
  st : Stmt
  lam : Bool := false
  told : Option Told := none
def noLam (G : Glb) : Glb := { G with lamOk := false }
def lamG (G : Glb) (f : Fn) : Glb := { G with lamOk := f.lam }
def runFn (T : Tab) (L : Dn) (G : Glb) (f : Fn) (ds : List D) (st : Store) : Res D :=
  if ds.length = f.ps.length then bodyX T L (lamG G f) f.N (defScope f.st) f.ow (defBody f.st) ds st else .stuck
/-- what a body gives -/
def outR : RS → Res D
  | .next _ st1 => .ok .non st1
  | .ret d st1 => .ok d st1
  | .exc c ns es _ st1 => .exc c ns es st1
  | _ => .stuck
/-- behind the try -/
def runRest (T : Tab) (L : Dn) (G : Glb) (f : Fn) (env : Env) (st : Store) : Res D := outR (denSs (denS T L (lamG G f) f.N (defScope f.st) f.ow 12) ((defBody f.st).drop 2) env st)
def runTold (T : Tab) (L : Dn) (G : Glb) (f : Fn) (t : Told) (ds : List D) (st : Store) : Res D := match ds with
  | [.tup [d]] => runRest T L G f (.no :: (match t.x with
    | some i => t.env.set i (.v d)
    | none => t.env)) st
  | [.exn c ns es] => if (G.exc c).isSome = true ∧ G.sub c t.c = true then runRest T L G f (.no :: (t.env.set t.z (.v (.exn c ns es))).set t.n .no) st else .stuck
  | _ => .stuck
/-- one call -/
def tabStep (G : Glb) (fs : List Fn) (T : Tab) (L : Dn) : Tab := fun x ds st => match fs.find? (fun f => f.name == x) with
  | some f => (match f.told with
    | some t => runTold T L G f t ds st
    | none => runFn T L G f ds st)
  | none => .stuck
def tabs (G : Glb) (fs : List Fn) : Nat → Tab × Dn × Dn
  | 0 => (fun _ _ _ => .stuck, stuckDn, stuckDn)
  | n + 1 => (tabStep G fs (tabs G fs n).1 (tabs G fs n).2.1, (tabs G fs n).2.2, den (tabs G fs n).1 stuckDn (noLam G) 40)
/-- n calls deep at most -/
def tab (G : Glb) (fs : List Fn) (n : Nat) : Tab := (tabs G fs n).1
/-- what lambdas' bodies give -/
def tabL (G : Glb) (fs : List Fn) (n : Nat) : Dn := (tabs G fs n).2.1
theorem tab_succ (G : Glb) (fs : List Fn) (n : Nat) : tab G fs (n + 1) = tabStep G fs (tab G fs n) (tabL G fs n) := rfl
theorem tabL_two (G : Glb) (fs : List Fn) (n : Nat) : tabL G fs (n + 2) = den (tab G fs n) stuckDn (noLam G) 40 := rfl
/-- a def as it stands -/
structure FnAt (K : PySem.W.Frag) (mg : Str → Option Value) (f : Fn) (a : Addr) (fd : FuncData) : Prop where
  fn : FunD K f.name f.name (defArgs f.st) (defBody f.st) (defScope f.st) [] [] a fd
  mgf : mg f.name = some (.ref a)
  bi : L2.Binds K fd f.ps []
  sc : FnScope f.N f.ps (defScope f.st)
/-- what a def that tells of a lambda looks like -/
def toldTry (G : Glb) (f : Fn) (t : Told) (a : Str) : Stmt → Bool
  | .Try [.Assign [.Name x _] (.Call (.Name b _) [] [] _) _] [.ExceptHandler (some (.Name c _)) (some n) [.Assign [.Name z _] (.Name m _) _] _] [] [] _ =>
    b == a && c == t.c && keepOk G (defScope f.st) c n m z && (ixOf f.N n == some (t.n + 1)) && (ixOf f.N z == some (t.z + 1)) && !(t.n == t.z) && locB (defScope f.st) x && !dunder x && (match t.x with
      | some i => ixOf f.N x == some (i + 1)
      | none => false)
  | .Try [.Expr (.Call (.Name b _) [] [] _) _] [.ExceptHandler (some (.Name c _)) (some n) [.Assign [.Name z _] (.Name m _) _] _] [] [] _ =>
    b == a && c == t.c && keepOk G (defScope f.st) c n m z && (ixOf f.N n == some (t.n + 1)) && (ixOf f.N z == some (t.z + 1)) && !(t.n == t.z) && t.x.isNone
  | _ => false
def notOwn : Sl → Bool
  | .own _ => false
  | _ => true
structure ToldAt (G : Glb) (f : Fn) (t : Told) : Prop where
  no : t.env.all notOwn = true
  ps : ∃ a, f.ps = [a] ∧ f.N[0]? = some a ∧ Vis (defScope f.st) a ∧ dunder a = false ∧ ∃ s0 s1 rest, defBody f.st = s0 :: s1 :: rest ∧ toldTry G f t a s1 = true ∧
    ∀ (T : Tab) (L : Dn) (v : V) (st : Store), denS T L (lamG G f) f.N (defScope f.st) f.ow 12 s0 (.v (.lit v) :: List.replicate (f.N.length - 1) .no) st = .next (.v (.lit v) :: t.env) st
structure GlbOk (P : Program) (w : World) (K : PySem.W.Frag) (mg : Str → Option Value) (base : Heap) (G : Glb) (fs : List Fn) : Prop where
  const : ∀ x d, G.const x = some d → ∃ v u, mg x = some u ∧ RelV v u ∧ ∀ M r H, RepV K M r H d v
  free : ∀ x, G.free x = true → mg x = none
  fn : ∀ x, G.isFn x = true → ∃ f ∈ fs, fs.find? (fun f => f.name == x) = some f ∧ f.name = x ∧ f.told = none
  at_ : ∀ f ∈ fs, ∃ a fd, FnAt K mg f a fd
  exc : ∀ x es, G.exc x = some es → ExF P w K mg base G x es
  told : ∀ x, G.told x = true → ∃ f ∈ fs, fs.find? (fun f => f.name == x) = some f ∧ f.name = x ∧ ∃ t, f.told = some t ∧ ToldAt G f t
  lam : ∀ f ∈ fs, f.lam = true → ∀ (a : Addr) (oc : Value) (od : Option Addr) (dV kV doc pm : Value) (an : Option Addr) (cdv ct : Value) (osl : Array (Option Value)), mg f.name = some (.ref a) → K.lookup a = some ⟨oc, od, .func (PySem.W.fnOf f.name f.name (defArgs f.st) (defBody f.st) (defScope f.st) dV kV doc pm an cdv ct), osl⟩ →
    ∃ c P, cdv = .ref c ∧ LamX.TabB base mg c P ∧ (P, (f.name ++ ".<locals>.") ++ "<lambda>") ∈ TK K
  uniq : ∀ p ∈ TK K, ∀ p' ∈ TK K, p.1 = p'.1 → p = p'
theorem tab_len {G : Glb} {fs : List Fn} {x : Str} {f : Fn} (hf : fs.find? (fun f => f.name == x) = some f) (ht : f.told = none) {n : Nat} {ds : List D} {st : Store} (h : tab G fs n x ds st ≠ .stuck) : ds.length = f.ps.length := by
  cases n with
  | zero => exact absurd rfl h
  | succ n =>
    rw [tab_succ] at h
    unfold tabStep at h
    simp only [hf, ht] at h
    unfold runFn at h
    split at h
    · assumption
    · exact absurd rfl h
section
variable {P : Program} {w : World} {K : PySem.W.Frag} {mg : Str → Option Value} {base : Heap} {G : Glb} {fs : List Fn}
theorem start_rel {N : List Str} {vs : List V} {ds : List D} {M : Mu} {r : List Addr} {H : Hp} {st : Store} (S : RelS K M r H st) (l : RepL K M r H ds vs) :
    RelF K M (fun _ => False) r H (L2.start N vs) (ds.map Sl.v ++ List.replicate (N.length - ds.length) Sl.no) st := by
  have e0 : un M (fun _ => False) = M := by
    funext a
    exact propext ⟨fun h => h.elim id False.elim, .inl⟩
  have hl := l.length
  have noOwn : ∀ (i : Nat) (es : List D), ¬ (ds.map Sl.v ++ List.replicate (N.length - ds.length) Sl.no)[i]? = some (.own es) := fun i es h => by
    have h1 := List.mem_of_getElem? h
    rcases List.mem_append.mp h1 with h2 | h2
    · obtain ⟨d, _, hd⟩ := List.mem_map.mp h2
      cases hd
    · have := (List.mem_replicate.mp h2).2
      cases this
  refine ⟨by rw [e0]; exact S, ?_, fun _ _ h => h, S.sub⟩
  rw [e0]
  refine ⟨fun i d h => ?_, fun i es h => absurd h (noOwn i es), fun i j es _ _ h => absurd h (noOwn i es), fun _ h => h.elim, fun _ h => h.elim, ?_⟩
  · by_cases hi : i < ds.length
    · rw [List.getElem?_append_left (by rw [List.length_map]; exact hi), List.getElem?_map] at h
      cases hd : ds[i]? with
      | none => rw [hd] at h; cases h
      | some d' =>
        rw [hd] at h
        cases h
        obtain ⟨x, h1, h2⟩ := l.get hd
        refine ⟨x, ?_, h2⟩
        unfold L2.start
        rw [List.getElem?_append_left (by rw [List.length_map, hl]; exact hi), List.getElem?_map, h1]
        rfl
    · rw [List.getElem?_append_right (by rw [List.length_map]; omega)] at h
      have := (List.mem_replicate.mp (List.mem_of_getElem? h)).2
      cases this
  · unfold L2.start
    simp [hl]

/-- facts do not depend on lamOk -/
theorem Facts.re {T : Tab} {G G' : Glb} {k : Nat} (F : Facts T G k P w K mg base) (e1 : G'.const = G.const) (e2 : G'.isFn = G.isFn) (e3 : G'.free = G.free) (e4 : G'.exc = G.exc) (e5 : G'.sub = G.sub) (e6 : G'.told = G.told) : Facts T G' k P w K mg base := by
  obtain ⟨c1, c2, c3, c4, c5, c6, lm⟩ := G
  obtain ⟨d1, d2, d3, d4, d5, d6, lm'⟩ := G'
  dsimp only at e1 e2 e3 e4 e5 e6
  subst e1 e2 e3 e4 e5 e6
  exact ⟨F.const, F.free, F.fn, fun x fs h => by
    obtain ⟨h1, h2, h3, h4, h5, h6, h7, h8, h9, h10, h11, h12, h13, h14, h15, h16⟩ := F.exc x fs h
    exact ⟨h1, h2, h3, h4, h5, h6, h7, h8, h9, h10, h11, h12, h13, h14, h15, h16⟩, F.told, F.uniq⟩
theorem Facts.lamG {T : Tab} {k : Nat} (F : Facts T G k P w K mg base) (f : Fn) : Facts T (lamG G f) k P w K mg base := F.re rfl rfl rfl rfl rfl rfl
theorem Facts.noLam {T : Tab} {k : Nat} (F : Facts T G k P w K mg base) : Facts T (noLam G) k P w K mg base := F.re rfl rfl rfl rfl rfl rfl
/-- what lambdas' bodies want -/
theorem lam_good (g : GlbOk P w K mg base G fs) {f : Fn} (hf : f ∈ fs) {n : Nat} (hL : ∀ m, n = m + 2 → Facts (tab G fs m) G (m + 2) P w K mg base) {X : Cx} {a : Addr} {oc : Value} {od : Option Addr} {dV kV doc pm cdv ct : Value} {an : Option Addr} {osl : Array (Option Value)} (hm : mg f.name = some (.ref a))
    (lk : K.lookup a = some ⟨oc, od, .func (PySem.W.fnOf f.name f.name (defArgs f.st) (defBody f.st) (defScope f.st) dV kV doc pm an cdv ct), osl⟩) (hP : X.prog = P) (hw : X.w = w) (hK : X.K = K) (hg : X.mg = mg) (hb : X.base = base) (hc : X.env.code = cdv) (hq : X.env.qual = f.name ++ ".<locals>.") :
    (lamG G f).lamOk = true → (2 ≤ n + 2 ∧ ∃ c P, X.env.code = .ref c ∧ LamX.TabB X.base X.mg c P ∧ (P, X.env.qual ++ "<lambda>") ∈ TK X.K) ∧
    ∀ (W' : WX) (X' : Cx), X'.prog = X.prog → X'.w = X.w → X'.K = X.K → X'.mg = X.mg → X'.base = X.base → Takes X' W' → X'.N.Nodup → X'.env.scope.kind = .function → X'.calm = true → Room (n + 2 - 2) X'.A → ∀ e : Expr, PE X' e (tE X'.K W' ((tabL G fs n).E X'.N X'.env.scope e)) := fun hl => by
  subst hP hw hK hg hb
  obtain ⟨c, P', e1, e2, e3⟩ := g.lam f hf hl a oc od dV kV doc pm an cdv ct osl hm lk
  refine ⟨⟨by omega, c, P', by rw [hc, e1], e2, by rw [hq]; exact e3⟩, fun W' X' h1 h2 h3 h4 h5 tk nd kd cm rm e => ?_⟩
  cases n with
  | zero => exact pe_stuck
  | succ n =>
    cases n with
    | zero => exact pe_stuck
    | succ m =>
      rw [tabL_two]
      have F := (hL m rfl).noLam
      have good : Good (tab G fs m) stuckDn (noLam G) (m + 2) W' X' := by
        refine ⟨tk, nd, kd, cm, rm, by omega, ?_, fun z => nomatch z⟩
        rw [h1, h2, h3, h4, h5]
        exact F
      exact (snd_den 40).ex W' X' good e
/-- behind a body -/
theorem rest_ok {T : Tab} {L : Dn} {k : Nat} {W : WX} {X : Cx} {ow : List Str} {G : Glb} (hp : PassesOwn (model X.prog X.w) X.A X.env X.xe) (good : Good T L G k W X) (sto : Sto X X.env.scope) (df : Dfl X) (body : List Stmt) : PSs X body (tS X.K W (denSs (denS T L G X.N X.env.scope ow 12) body)) :=
  pss_den (s_den 12 W X hp good sto df) body
theorem un_none {M : Mu} : un M (fun _ => False) = M := by
  funext a
  exact propext ⟨fun h => h.elim id False.elim, .inl⟩
/-- what leaves a body -/
theorem body_out {E : XK} {M : Mu} {r : List Addr} {H : Hp} {x : RS} {Q : VK} (ok : Ok (RepV K) K E M r H (outR x) Q) : OkS K (fun cls d _ H => E cls d H) M (fun _ => False) r H x { nx := fun _ H' => Q .non H', rt := Q } := by
  have e0 : ∀ {M' O' : Mu} {r' : List Addr} {H' : Hp}, ExtO M (fun _ => False) r H M' O' r' H' → Ext M r H M' r' H' := fun z =>
    ⟨z.pre, z.mono, z.newM, z.fresh, fun b o n nt h => z.keep b o n (fun w => w) nt h, z.liv, z.tup, z.frz⟩
  cases x with
  | next env st => exact fun σ' M' O' r' H' z F' => ok .non M' r' H' (e0 z) (F'.S.anti (fun a h => .inl h) F'.sub) RepV.non
  | ret d st => exact fun v M' O' r' H' z S' q => ok v M' r' H' (e0 z) S' q
  | exc c ns es env st =>
    refine fun cls d σ' M' O' r' H' z F' q => ok cls d M' r' H' (e0 z) (F'.S.anti (fun a h => .inl h) F'.sub) ⟨q.cl, ?_⟩
    obtain ⟨dd, xs, f, l⟩ := q.fs
    exact ⟨dd, xs, f.imp id fun ⟨e1, n1, q1⟩ => ⟨e1, fun z => n1 (.inl z), q1⟩, RepL.anti (fun a h => .inl h) es xs l⟩
  | brk env st => exact ok.elim
  | cont env st => exact ok.elim
  | stuck => exact ok.elim
/-- other slots, told of less -/
theorem RelF.less {M O : Mu} {r : List Addr} {H : Hp} {σ : L2.St} {env env' : Env} {st : Store} (F : RelF K M O r H σ env st) (hv : ∀ (i : Nat) (d : D), env'[i]? = some (.v d) → env[i]? = some (.v d)) (ho : ∀ (i : Nat) (ds : List D), env'[i]? = some (.own ds) → env[i]? = some (.own ds)) (hl : env'.length = env.length) : RelF K M O r H σ env' st :=
  ⟨F.S, ⟨fun i d h => F.E.val i d (hv i d h), fun i ds h => F.E.own i ds (ho i ds h), fun i j ds es a h1 h2 => F.E.inj i j ds es a (ho i ds h1) (ho j es h2), F.E.nor, F.E.sub, by rw [hl]; exact F.E.len⟩, F.dis, F.sub⟩
theorem RelF.head {M O : Mu} {r : List Addr} {H : Hp} {σ : L2.St} {x : Sl} {env : Env} {st : Store} (F : RelF K M O r H σ (x :: env) st) : RelF K M O r H σ (.no :: env) st := by
  refine F.less (fun i d h => ?_) (fun i ds h => ?_) rfl
  · cases i with
    | zero => cases h
    | succ i => exact h
  · cases i with
    | zero => cases h
    | succ i => exact h
/-- nobody's own -/
theorem RelF.free {M O : Mu} {r : List Addr} {H : Hp} {σ : L2.St} {env : Env} {st : Store} (F : RelF K M O r H σ env st) (h : env.all notOwn = true) : RelF K (un M O) (fun _ => False) r H σ env st := by
  have no : ∀ (i : Nat) (ds : List D), ¬ env[i]? = some (.own ds) := fun i ds e => by
    have := List.all_eq_true.mp h _ (List.mem_of_getElem? e)
    cases this
  refine ⟨by rw [un_none]; exact F.S, ?_, fun _ _ z => z, fun a z => .inl (F.sub a z)⟩
  rw [un_none]
  exact ⟨F.E.val, fun i ds e => absurd e (no i ds), fun i j ds es a e => absurd e (no i ds), fun _ z => z.elim, fun _ z => z.elim, F.E.len⟩
/-- an exception is kept in a slot -/
theorem RelF.keepX {M O : Mu} {r : List Addr} {H : Hp} {σ : L2.St} {env : Env} {st : Store} {c : Str} {ns : List Str} {es : List D} {cls : Value} {d : Option Addr} {a : Addr} {i j : Nat} (F : RelF K M O r H σ env st) (ev : ExcV K (un M O) r H c ns es cls d) (ha : H a = none) (hij : i ≠ j) :
    ∃ M2, ExtO M O r H M2 O r (upd H a (ExK cls d a)) ∧ RelF K M2 O r (upd H a (ExK cls d a)) (((σ.set i (some (.ref a))).set j (some (.ref a))).set i none) ((env.set j (.v (.exn c ns es))).set i .no) st := by
  obtain ⟨dd, xs, hd, l⟩ := ev.fs
  have lay := Ext.lay (M := un M O) (r := r) (o := ExK cls d a) ha
  obtain ⟨M2, eM, e2, F2⟩ := F.step lay (F.S.lay ha)
  have rep : RepV K (un M2 O) r (upd H a (ExK cls d a)) (.exn c ns es) (.ref a) := by
    rw [← eM]
    unfold RepV
    exact ⟨a, d, dd, xs, rfl, F.S.notM ha, by rw [upd_same, ev.cl], hd.imp id fun ⟨e1, n1, q1⟩ => ⟨e1, n1, by rw [upd_ne (ne_of_none q1 ha)]; exact q1⟩, RepL.mono F.S.sub lay es xs l⟩
  refine ⟨M2, e2, ?_⟩
  rw [show (((σ.set i (some (V.ref a))).set j (some (V.ref a))).set i none) = (σ.set j (some (V.ref a))).set i none by rw [List.set_comm _ _ hij, List.set_set]]
  exact (RelF.mk F2.S (F2.E.put rep) F2.dis F2.sub).forget i
theorem code_not_in {M : Mu} {r : List Addr} {H : Hp} {st : Store} {c : Addr} {q : Str} (S : RelS K M r H st) (h : H c = some (LamX.CodeO c q)) : c ∉ r := fun hm => by
  obtain ⟨i, hi, e⟩ := List.mem_iff_getElem.mp hm
  have hs : i < st.length := by rw [← S.len]; exact hi
  cases ho : st[i] with
  | lst ds =>
    obtain ⟨a, xs, h1, h2, _⟩ := S.ob i ds (by rw [List.getElem?_eq_getElem hs, ho])
    rw [List.getElem?_eq_getElem hi, e] at h1
    cases h1
    rw [h] at h2
    have z := Option.some.inj h2
    unfold LamX.CodeO at z
    cases z
/-- the try of a def that tells -/
theorem told_try {X : Cx} {f : Fn} {t : Told} {pa q : Str} {s1 : Stmt} {fl c' : Addr} {tl : XK → Hp → VK → Prop} {T : Tab} {L : Dn} {k : Nat} {G' : Glb} (good : Good T L G' k never X) (eG : G'.exc = G.exc) (sto : Sto X X.env.scope) (df : Dfl X) (hN : X.N = f.N) (hsc : X.env.scope = defScope f.st) (htry : toldTry G f t pa s1 = true)
    (act : ∀ (W : WX) (pn : List (Addr × Obj)) (xe : Value → Shared → Prop) (p1 p2 : Pos), Takes (X.tr pn xe) W → PE (X.tr pn xe) (.Call (.Name pa p1) [] [] p2) (fun σZ HZ Q => σZ[0]? = some (some (.ref fl)) ∧ HZ c' = some (LamX.CodeO c' q) ∧ tl (WE W σZ) HZ Q)) :
    t.n ≠ t.z ∧ (∃ gs, G.exc t.c = some gs) ∧ PS X s1 (fun D σ H => σ[0]? = some (some (.ref fl)) ∧ H c' = some (LamX.CodeO c' q) ∧ tl (WE (wKeep X.K (.ref (He.ga X.K t.c)) (t.n + 1) (t.z + 1) never D) σ) H (fun v H2 => D.nx (match t.x with
      | some i => σ.set (i + 1) (some v)
      | none => σ) H2)) := by
  have key : ∀ {c n m z : Str} {body : List Stmt} {cp zp np ap hp pos : Pos}, (c == t.c) = true → keepOk G (defScope f.st) c n m z = true → (ixOf f.N n == some (t.n + 1)) = true → (ixOf f.N z == some (t.z + 1)) = true → (!(t.n == t.z)) = true →
      (∀ (W : WX) (pn : List (Addr × Obj)) (xe : Value → Shared → Prop), Takes (X.tr pn xe) W → PSs (X.tr pn xe) body (fun D σ H => σ[0]? = some (some (.ref fl)) ∧ H c' = some (LamX.CodeO c' q) ∧ tl (WE W σ) H (fun v H2 => D.nx (match t.x with
        | some i => σ.set (i + 1) (some v)
        | none => σ) H2))) →
      t.n ≠ t.z ∧ (∃ gs, G.exc t.c = some gs) ∧ PS X (.Try body [.ExceptHandler (some (.Name c cp)) (some n) [.Assign [.Name z zp] (.Name m np) ap] hp] [] [] pos) (fun D σ H => σ[0]? = some (some (.ref fl)) ∧ H c' = some (LamX.CodeO c' q) ∧ tl (WE (wKeep X.K (.ref (He.ga X.K t.c)) (t.n + 1) (t.z + 1) never D) σ) H (fun v H2 => D.nx (match t.x with
        | some i => σ.set (i + 1) (some v)
        | none => σ) H2)) := by
    intro c n m z body cp zp np ap hp pos h1 h2 h3 h4 h5 hb
    rw [beq_iff_eq] at h1 h3 h4
    subst h1
    unfold keepOk at h2
    simp only [Bool.and_eq_true, Bool.not_eq_true', decide_eq_true_eq, beq_iff_eq] at h2
    obtain ⟨⟨⟨⟨⟨⟨⟨hgc, hdc⟩, hce⟩, hnm⟩, hln⟩, hlz⟩, hdn⟩, hdz⟩ := h2
    subst hnm
    obtain ⟨gs, hgs⟩ := Option.isSome_iff_exists.mp hce
    rw [← hsc] at hgc hln hlz
    rw [← hN] at h3 h4
    have Fc := good.fa.exc t.c gs (by rw [eG]; exact hgs)
    refine ⟨by simpa using h5, ⟨gs, hgs⟩, ?_⟩
    exact ps_try_keep (tb := fun W D σ H => σ[0]? = some (some (.ref fl)) ∧ H c' = some (LamX.CodeO c' q) ∧ tl (WE W σ) H (fun v H2 => D.nx (match t.x with
        | some i => σ.set (i + 1) (some v)
        | none => σ) H2)) df.stk df.fr df.ex good.nd (ixOf_get h3) (ixOf_get h4) hln (sto z hlz).1 (sto z hlz).2 hdn ⟨glB_gl hgc, (dunder_debug hdc).1, .inl Fc.gC⟩ good.takes (fun W pn xe tk _ => hb W pn xe tk)
  unfold toldTry at htry
  split at htry
  · rename_i x px b pb pc pa' c cp n z zp m np ap hp pos
    simp only [Bool.and_eq_true] at htry
    obtain ⟨⟨⟨⟨⟨⟨⟨⟨h1, h2⟩, h3⟩, h4⟩, h5⟩, h6⟩, h7⟩, h8⟩, h9⟩ := htry
    rw [beq_iff_eq] at h1
    subst h1
    cases hx : t.x with
    | none => rw [hx] at h9; cases h9
    | some i =>
      rw [hx] at h9
      rw [← hx]
      refine key h2 h3 h4 h5 h6 fun W pn xe tk => ?_
      have h9' : ixOf X.N x = some (i + 1) := by rw [hN]; simpa using h9
      rw [← hsc] at h7
      have one : PSs (X.tr pn xe) [.Assign [.Name x px] (.Call (.Name _ pb) [] [] pc) pa'] (tAsg _ (gName (i + 1))) := pss_one (ps_set (X := X.tr pn xe) good.nd (ixOf_get h9') (sto x h7).1 (act W pn xe pb pc tk) rfl (sto x h7).2)
      rw [hx]
      exact one
  · rename_i b pb pc pa' c cp n z zp m np ap hp pos
    simp only [Bool.and_eq_true] at htry
    obtain ⟨⟨⟨⟨⟨⟨h1, h2⟩, h3⟩, h4⟩, h5⟩, h6⟩, h7⟩ := htry
    rw [beq_iff_eq] at h1
    subst h1
    have hx : t.x = none := by simpa using h7
    refine key h2 h3 h4 h5 h6 fun W pn xe tk => ?_
    rw [hx]
    exact pss_one (ps_expr (X := X.tr pn xe) (act W pn xe pb pc tk))
  · cases htry
/-- the told def -/
theorem told_ok {T : Tab} {L : Dn} {n : Nat} (FT : Facts T G (n + 2) P w K mg base) {f : Fn} {t : Told} {a : Addr} {fd : FuncData} (F : FnAt K mg f a fd) (ta : ToldAt G f t)
    (hl : ∀ (X : Cx) (oc : Value) (od : Option Addr) (dV kV doc pm cdv ct : Value) (an : Option Addr) (osl : Array (Option Value)), K.lookup a = some ⟨oc, od, .func (PySem.W.fnOf f.name f.name (defArgs f.st) (defBody f.st) (defScope f.st) dV kV doc pm an cdv ct), osl⟩ → X.prog = P → X.w = w → X.K = K → X.mg = mg → X.base = base → X.env.code = cdv → X.env.qual = f.name ++ ".<locals>." →
      (lamG G f).lamOk = true → (2 ≤ n + 2 ∧ ∃ c P, X.env.code = .ref c ∧ LamX.TabB X.base X.mg c P ∧ (P, X.env.qual ++ "<lambda>") ∈ TK X.K) ∧
    ∀ (W' : WX) (X' : Cx), X'.prog = X.prog → X'.w = X.w → X'.K = X.K → X'.mg = X.mg → X'.base = X.base → Takes X' W' → X'.N.Nodup → X'.env.scope.kind = .function → X'.calm = true → Room (n + 2 - 2) X'.A → ∀ e : Expr, PE X' e (tE X'.K W' (L.E X'.N X'.env.scope e))) :
    ToldF P w K mg base (n + 3) f.name (runTold T L G f t) := by
  obtain ⟨pa, hps, hN0, hva, hda, s0, s1, rest, hbd, htry, hpre⟩ := ta.ps
  obtain ⟨oc, od, dV, kV, doc, pm, an, cdv, ct, osl, rfl, lk, hcd, _, _⟩ := F.fn.ex
  have bi := F.bi
  have sc := F.sc
  rw [hps] at bi sc
  refine ⟨⟨a, pa, defArgs f.st, defBody f.st, defScope f.st, dV, kV, doc, pm, cdv, ct, oc, an, od, osl, f.N, F.mgf, F.fn.kp, lk, hcd, bi, sc, hN0, hva, hda, ?_⟩⟩
  intro A stack q fl c' s H Q tl hr act hco ⟨M, r, st, S, hyp⟩
  have good : Good T L (lamG G f) (n + 2) never (cxOf C8.CX0 P w K mg base f.N f.name (defScope f.st) a cdv A stack s H C8.E0).nox :=
    ⟨takes_never, sc.nd, sc.kind, rfl, hr, by omega, FT.lamG f, hl _ oc od dV kV doc pm cdv ct an osl lk rfl rfl rfl rfl rfl rfl rfl⟩
  have sto : Sto (cxOf C8.CX0 P w K mg base f.N f.name (defScope f.st) a cdv A stack s H C8.E0).nox (defScope f.st) := fun x h => ⟨locB_loc h, .inl rfl⟩
  have df : Dfl (cxOf C8.CX0 P w K mg base f.N f.name (defScope f.st) a cdv A stack s H C8.E0).nox := ⟨rfl, rfl, rfl⟩
  have hp : PassesOwn (model P w) (A.deeper (envOfC f.name (defScope f.st) s.heap.objs.size a cdv)) (cxOf C8.CX0 P w K mg base f.N f.name (defScope f.st) a cdv A stack s H C8.E0).nox.env (cxOf C8.CX0 P w K mg base f.N f.name (defScope f.st) a cdv A stack s H C8.E0).nox.xe := PassesOwn.never
  have w0 := s_den (ow := f.ow) 12 never (cxOf C8.CX0 P w K mg base f.N f.name (defScope f.st) a cdv A stack s H C8.E0).nox hp good sto df s0
  have wr := rest_ok (ow := f.ow) hp good sto df rest
  obtain ⟨nz, ⟨gs, hgs⟩, w1⟩ := told_try (G := G) (tl := tl) (q := q) (fl := fl) (c' := c') good rfl sto df rfl rfl htry act
  have hrest : (defBody f.st).drop 2 = rest := by rw [hbd]; rfl
  rw [hbd]
  refine ⟨_, pss_cons w0 (pss_cons w1 wr), M, fun _ => False, r, .v (.lit (.ref fl)) :: List.replicate (f.N.length - 1) .no, st, ?_, ?_⟩
  · have l1 : RepL K M r H [.lit (.ref fl)] [V.ref fl] := RepL.cons (by unfold RepV; exact ⟨rfl, fun z => nomatch z⟩) RepL.nil
    exact start_rel (N := f.N) S l1
  · show OkS K never M (fun _ => False) r H (denS T L (lamG G f) f.N (defScope f.st) f.ow 12 s0 (.v (.lit (.ref fl)) :: List.replicate (f.N.length - 1) .no) st) _
    rw [hpre T L (.ref fl) st]
    intro σ' M' O' r' H' x F'
    have own0 : (Sl.v (.lit (V.ref fl)) :: t.env).all notOwn = true := by
      rw [List.all_cons, ta.no]
      rfl
    have F1 := F'.free own0
    have x1 : Ext M r H (un M' O') r' H' := ⟨x.pre, fun a h => .inl (x.mono a h), fun a h => by
      rcases x.new a h with z | z | z
      · exact .inl z
      · exact z.elim
      · exact .inr z, x.fresh, fun b o n nt h => x.keep b o n (fun z => z) nt h, x.liv, x.tup, x.frz⟩
    obtain ⟨v0, h0, r0⟩ := F'.E.val 0 _ rfl
    unfold RepV at r0
    obtain ⟨rfl, _⟩ := r0
    refine ⟨h0, x.keep c' _ (code_not_in S hco) (fun z => z) LamX.codeO_ne hco, hyp _ r' H' x1 F'.S _ _ (fun cls dd H2 M2 r2 st2 c ns ds e2 S2 ev ok2 => ?_) (fun v H2 M2 r2 st2 d e2 S2 rv ok2 => ?_)⟩
    · -- an exception
      unfold runTold at ok2
      dsimp only at ok2
      split at ok2
      · rename_i hc
        obtain ⟨fs', hfs⟩ := Option.isSome_iff_exists.mp hc.1
        have ex := ((FT.exc c fs' hfs).sub t.c gs hgs).1
        rw [hc.2] at ex
        refine ⟨true, by rw [ev.cl]; exact ex, fun _ ad had => ?_, fun z => nomatch z⟩
        obtain ⟨M3, eM, e3, F2⟩ := F1.step (by rw [un_none]; exact e2) S2
        obtain ⟨M4, e4, F3⟩ := RelF.keepX (i := t.n + 1) (j := t.z + 1) F2 (by rw [← eM]; exact ev) had (by omega)
        refine ⟨M4, fun _ => False, r2, _, st2, F3.head, ?_⟩
        have ok3 : Ok (RepV K) K C8.E0 M2 r2 H2 (outR (denSs (denS T L (lamG G f) f.N (defScope f.st) f.ow 12) rest (.no :: (t.env.set t.z (.v (.exn c ns ds))).set t.n .no) st2)) Q := by
          have := ok2
          unfold runRest at this
          rw [hrest] at this
          exact this
        have ok4 := body_out (ok3.later (M' := M4) (r' := r2) (H' := upd H2 ad (ExK cls dd ad)) (by
          rw [eM, un_none]
          exact ⟨e4.pre, e4.mono, e4.newM, e4.fresh, fun b o n nt h => e4.keep b o n (fun z => z) nt h, e4.liv, e4.tup, e4.frz⟩))
        exact ok4
      · exact ok2.elim
    · unfold runTold at ok2
      dsimp only at ok2
      obtain ⟨M3, eM, e3, F2⟩ := F1.step (by rw [un_none]; exact e2) S2
      have ok3 : Ok (RepV K) K C8.E0 M3 r2 H2 (outR (denSs (denS T L (lamG G f) f.N (defScope f.st) f.ow 12) rest (.no :: (match t.x with
        | some i => t.env.set i (.v d)
        | none => t.env)) st2)) Q := by
        have := ok2
        unfold runRest at this
        rw [hrest, eM, un_none] at this
        exact this
      have rv' : RepV K (un M3 (fun _ => False)) r2 H2 d v := by rw [← eM]; exact rv
      cases hx : t.x with
      | none =>
        rw [hx] at ok3
        exact ⟨M3, fun _ => False, r2, _, st2, F2.head, body_out ok3⟩
      | some i =>
        rw [hx] at ok3
        exact ⟨M3, fun _ => False, r2, _, st2, (RelF.mk F2.S (F2.E.put (i := i + 1) rv') F2.dis F2.sub).head, body_out ok3⟩
/-- every def keeps to tab -/
theorem fn_ok (g : GlbOk P w K mg base G fs) {n : Nat} (FT : Facts (tab G fs n) G (n + 2) P w K mg base) (hL : ∀ m, n = m + 2 → Facts (tab G fs m) G (m + 2) P w K mg base) {f : Fn} (hq : fs.find? (fun f' => f'.name == f.name) = some f) (hf : f ∈ fs) (ht : f.told = none) {a : Addr} {fd : FuncData} (F : FnAt K mg f a fd) :
    FnOk P w K mg base (L2.CX P w) (n + 3) a fd f.ps (spOf K f.ps.length (tab G fs (n + 1) f.name)) := by
  obtain ⟨oc, od, dV, kV, doc, pm, an, cdv, ct, osl, rfl, lk, hcd, _, _⟩ := F.fn.ex
  refine fn_of lk hcd F.sc (fun vs H Q E h => h.1) (fun A outer s H vs Q E hr h => ?_)
  obtain ⟨hl, M, r, st, ds, S, l, ok⟩ := h
  have hl2 : ds.length = f.ps.length := by rw [← l.length]; exact hl
  have ok1 : Ok (RepV K) K E M r H (outR (denSs (denS (tab G fs n) (tabL G fs n) (lamG G f) f.N (defScope f.st) f.ow 12) (defBody f.st) (ds.map Sl.v ++ List.replicate (f.N.length - ds.length) Sl.no) st)) Q := by
    rw [tab_succ] at ok
    unfold tabStep at ok
    simp only [hq, ht] at ok
    unfold runFn at ok
    rw [if_pos hl2] at ok
    exact ok
  have good : Good (tab G fs n) (tabL G fs n) (lamG G f) (n + 2) (fun cls d _ H => E cls d H) (cxOf (L2.CX P w) P w K mg base f.N f.name (defScope f.st) a cdv A outer s H E) :=
    ⟨takes_of (X := cxOf (L2.CX P w) P w K mg base f.N f.name (defScope f.st) a cdv A outer s H E) rfl rfl rfl rfl, F.sc.nd, F.sc.kind, rfl, hr, by omega, FT.lamG f, lam_good g hf hL F.mgf lk rfl rfl rfl rfl rfl rfl rfl⟩
  have sto : Sto (cxOf (L2.CX P w) P w K mg base f.N f.name (defScope f.st) a cdv A outer s H E) (defScope f.st) := fun x h => ⟨locB_loc h, .inl rfl⟩
  exact ⟨_, rest_ok (ow := f.ow) (passes_of (X := cxOf (L2.CX P w) P w K mg base f.N f.name (defScope f.st) a cdv A outer s H E) rfl) good sto ⟨rfl, rfl, rfl⟩ (defBody f.st), M, fun _ => False, r, _, st, start_rel S l, body_out ok1⟩
theorem facts_ok (g : GlbOk P w K mg base G fs) : ∀ n : Nat, Facts (tab G fs n) G (n + 2) P w K mg base
  | 0 => by
    refine ⟨g.const, g.free, fun x h => ?_, g.exc, fun x h => ?_, g.uniq⟩
    · obtain ⟨f, hf, hq, rfl, htn⟩ := g.fn x h
      obtain ⟨a, fd, F⟩ := g.at_ f hf
      have no : ∀ vs H Q E, ¬ spOf K f.ps.length (tab G fs 0 f.name) vs H Q E := fun vs H Q E h => by
        obtain ⟨_, M, r, st, ds, _, _, h⟩ := h
        exact h
      exact ⟨a, fd, f.ps, F.mgf, F.fn.kp, F.bi, ⟨fun vs H Q E h => absurd h (no vs H Q E), fun A outer s H args us vs Q E _ _ _ _ h => absurd h (no vs H Q E)⟩, fun ds st h => absurd rfl h⟩
    · exact .inl fun _ _ => rfl
  | n + 1 => by
    have FT := facts_ok g n
    have hL : ∀ m, n = m + 2 → Facts (tab G fs m) G (m + 2) P w K mg base := fun m e => by
      subst e
      exact facts_ok g m
    refine ⟨g.const, g.free, fun x h => ?_, g.exc, fun x h => ?_, g.uniq⟩
    · obtain ⟨f, hf, hq, rfl, htn⟩ := g.fn x h
      obtain ⟨a, fd, F⟩ := g.at_ f hf
      exact ⟨a, fd, f.ps, F.mgf, F.fn.kp, F.bi, fn_ok g FT hL hq hf htn F, fun ds st h => tab_len hq htn h⟩
    · obtain ⟨f, hf, hq, rfl, t, ht, ta⟩ := g.told x h
      obtain ⟨a, fd, F⟩ := g.at_ f hf
      have e : tab G fs (n + 1) f.name = runTold (tab G fs n) (tabL G fs n) G f t := by
        rw [tab_succ]
        funext ds st
        unfold tabStep
        simp only [hq, ht]
      rw [e]
      refine .inr ?_
      exact told_ok FT F ta fun X oc od dV kV doc pm cdv ct an osl lk h1 h2 h3 h4 h5 h6 h7 => lam_good g hf hL F.mgf lk h1 h2 h3 h4 h5 h6 h7
theorem find_self {fs : List Fn} (h : (fs.map (·.name)).Nodup) {f : Fn} (hf : f ∈ fs) : fs.find? (fun f' => f'.name == f.name) = some f := by
  induction fs with
  | nil => cases hf
  | cons g fs ih =>
    rw [List.find?_cons]
    rcases List.mem_cons.mp hf with e | hf
    · subst e
      simp
    · have hne : (g.name == f.name) = false := by
        rw [List.map_cons, List.nodup_cons] at h
        cases q : (g.name == f.name) with
        | false => rfl
        | true => exact absurd (by rw [eq_of_beq q]; exact List.mem_map_of_mem hf) h.1
      rw [hne]
      exact ih (by rw [List.map_cons, List.nodup_cons] at h; exact h.2) hf
end
theorem repl_ints {K : PySem.W.Frag} {M : Mu} {r : List Addr} {H : Hp} : ∀ ns : List Int, RepL K M r H (ns.map D.int) (ns.map V.int)
  | [] => RepL.nil
  | n :: ns => RepL.cons (RepV.int n) (repl_ints ns)
/-- the script, held by nobody but the caller; only tables of code beside -/
theorem law_sp {K : PySem.W.Frag} {F : List D → Store → Res D} {H : Hp} {a : Addr} {ns : List Int} (hT : LamX.Tabs (TK K) H) (hS : SqL K H a (ns.map V.int)) (hF : ∃ st', F [.scr (ns.map .int)] [] = .ok (.bl true) st') : spOf K 1 F [.ref a] H (fun v _ => v = .bl true) fun _ _ _ => False := by
  obtain ⟨st', hF⟩ := hF
  refine ⟨rfl, fun _ => False, [], [], [.scr (ns.map .int)], ⟨rfl, List.nodup_nil, fun _ h => (nomatch h), fun i ds h => (nomatch h), fun _ h => False.elim h, hT⟩, RepL.cons ?_ RepL.nil, ?_⟩
  · unfold RepV
    refine ⟨a, _, rfl, ?_, repl_ints ns⟩
    rcases hS with (h | h) | h
    · exact .inr ⟨fun z => z, h⟩
    · exact .inl (.inl h)
    · exact .inl (.inr h)
  · rw [hF]
    intro v M' r' H' _ _ q
    unfold RepV at q
    exact q
end MI

set_option maxRecDepth 100000
set_option maxHeartbeats 4000000
namespace MI
open PySem PySem.Spec PyProof.Rows L2
variable [LD : LamDefs]
def eVar (i : Nat) : EX := fun env st => match env[i]? with
  | some (.v d) => .ok d st
  | _ => .stuck
def eBor (i : Nat) : EX := fun env st => match env[i]? with
  | some (.v d) => .ok d st
  | some (.own ds) => .ok (.lst ds) st
  | _ => .stuck
def eK (d : D) : EX := fun _ st => .ok d st
def eBin (op : Operator) (a b : EX) : EX := fun env st => (a env st).bind fun x st1 => (b env st1).bind fun y st2 => Res.of (opD op x y) st2
def eNot (a : EX) : EX := boolOf (fun d => (blOf d).map fun b => .bl (!b)) a
def eNeg (a : EX) : EX := boolOf (unD .USub) a
def eAnd (a b : EX) : EX := fun env st => (boolOf blOf a env st).bind fun k st1 => if k = true then b env st1 else .ok (.bl false) st1
def eOr (a b : EX) : EX := fun env st => (boolOf blOf a env st).bind fun k st1 => if k = true then .ok (.bl true) st1 else b env st1
def tCmp (op : CmpOp) (a b : EX) : TX := fun env st => (a env st).bind fun x st1 => (b env st1).bind fun y st2 => Res.of (cmpD op x y) st2
def tChain (op op' : CmpOp) (a b c : EX) : TX := fun env st =>
  (a env st).bind fun x st1 => (b env st1).bind fun y st2 => (Res.of (cmpD op x y) st2).bind fun k st3 =>
    if k = true then (c env st3).bind fun z st4 => Res.of (cmpD op' y z) st4 else .ok false st3
def eT (t : TX) : EX := fun env st => (t env st).bind fun k st1 => .ok (.bl k) st1
def eIf (t : TX) (a b : EX) : EX := fun env st => (t env st).bind fun k st1 => if k = true then a env st1 else b env st1
def aNil : AX := fun _ st => .ok [] st
def aCons (a : EX) (b : AX) : AX := fun env st => (a env st).bind fun d st1 => (b env st1).bind fun ds st2 => .ok (d :: ds) st2
def eTup (a : AX) : EX := fun env st => (a env st).bind fun ds st1 => .ok (.tup ds) st1
def eLst (a : AX) : EX := fun env st => (a env st).bind fun ds st1 => .ok (.lst ds) st1
def pNo : Env → Store → Res (Option Int) := fun _ st => .ok none st
def pYes (a : EX) : Env → Store → Res (Option Int) := fun env st => (a env st).bind fun d st1 => Res.of ((partD d).map some) st1
def eSl (a : EX) (lo hi : Env → Store → Res (Option Int)) : EX := fun env st => (a env st).bind fun x st1 => (lo env st1).bind fun i st2 => (hi env st2).bind fun j st3 => Res.of (slD x i j) st3
def eIx (a b : EX) : EX := fun env st => (a env st).bind fun x st1 => (b env st1).bind fun k st2 => Res.of (ixD x k st2) st2
def eCall (T : Tab) (f : Str) (a : AX) : EX := fun env st => (a env st).bind fun ds st1 => T f ds st1
def eInst (a : EX) (ns : List String) : EX := fun env st => (a env st).bind fun x st1 => (Res.of (isTy x st1 ns) st1).bind fun k st2 => .ok (.bl k) st2
def eBlt1 (f : Str) (a : EX) : EX := fun env st => (a env st).bind fun x st1 => Res.of (bltD f [x] st1) st1
def eBlt (f : Str) (a : AX) : EX := fun env st => (a env st).bind fun ds st1 => Res.of (bltD f ds st1) st1
def eMeth (m : Str) (o a : EX) : EX := fun env st => (o env st).bind fun x st1 => (Res.of (strD x) st1).bind fun _ st1 => (a env st1).bind fun y st2 => Res.of (methD m x [y]) st2
def eRepl (c y z y' z' : Str) (o : EX) : EX := fun env st => (o env st).bind fun d st1 => (Res.of (strD d) st1).bind fun x st2 => (Res.of (replD x y z) st2).bind fun x1 st3 => (Res.of (replD x1 y' z') st3).bind fun x2 st4 => Res.of (opD .Add (.str c) (.str x2)) st4
def eOfA (a : AX) : EX := fun env st => (a env st).bind fun ds st1 => .ok (.lst ds) st1
def tNot (a : TX) : TX := fun env st => (a env st).bind fun k st1 => .ok (!k) st1
def tAnd (a b : TX) : TX := fun env st => (a env st).bind fun k st1 => if k = true then b env st1 else .ok false st1
def tOr (a b : TX) : TX := fun env st => (a env st).bind fun k st1 => if k = true then .ok true st1 else b env st1
def tOf (a : EX) : TX := boolOf truth a
def xRange1 (a : EX) : AX := fun env st => (a env st).bind fun d st1 => Res.of (rangeOne d) st1
def xRange2 (a b : EX) : AX := fun env st => (a env st).bind fun d st1 => (b env st1).bind fun e st2 => Res.of (rangeTwo d e) st2
def xEnum (a : EX) : AX := fun env st => (a env st).bind fun d st1 => (Res.of (lstOf d) st1).bind fun ds st2 => .ok (enumD ds) st2
def xSeq (a : EX) : AX := fun env st => (a env st).bind fun d st1 => Res.of (seqOf d) st1
def xOwn (i : Nat) (a : AX) : AX := fun env st => (match ownSlot env i with
      | some ds => .ok ds st
      | none => a env st)
def gOne (i : Nat) : D → Env → Option Env := fun d env => some (env.set i (.v d))
def gMany (ps : List (Str × Nat)) : D → Env → Option Env := fun d env => match d with
  | .tup ds => setMany ps ds env
  | _ => none
def tYes : TX := fun _ st => .ok true st
def xComp (own : List Nat) (src : AX) (bind : D → Env → Option Env) (t : TX) (elt : EX) : AX := fun env st => (src env st).bind fun ds st1 =>
      if ds.length ≤ big then compL (fun d st2 => Res.tame (match bind d (wipeE env own) with
        | some env1 => (t env1 st2).bind fun k st3 => if k = true then (elt env1 st3).bind fun x st4 => .ok (some x) st4 else .ok none st3
        | none => .stuck)) ds [] st1 else .stuck
def sNil : SX := fun env st => .next env st
def sCons (a b : SX) : SX := fun env st => (a env st).then b
def sRetN : SX := fun _ st => .ret .non st
def sRet (a : EX) : SX := fun env st => (a env st).toS env fun d st1 => .ret d st1
def sRetV (i : Nat) : SX := fun env st => (match env[i]? with
          | some (.v d) => .ret d st
          | some (.own ds) => .ret (.lst ds) st
          | _ => .stuck)
def sRetNew (a : AX) : SX := fun env st => (a env st).toS env fun ds st1 => .ret (.ref st1.length) (st1 ++ [.lst ds])
def sIf (t : TX) (a b : SX) : SX := fun env st => (t env st).toS env fun k st1 => if k = true then a env st1 else b env st1
def sWhile (t : TX) (a : SX) : SX := fun env st => whileF t a lots env st
def sFor (src : AX) (bind : D → Env → Option Env) (body : SX) : SX := fun env st => (src env st).toS env fun ds st1 => forL bind body ds env st1
def sForR (is : List Nat) (src : AX) (bind : D → Env → Option Env) (body : SX) : SX := fun env st => (src (freed is env) st).toS (freed is env) fun ds st1 => forL bind body ds (freed is env) st1
def sSet (i : Nat) (a : EX) : SX := fun env st => (a env st).toS env fun d st1 => .next (env.set i (.v d)) st1
def sSetL (i : Nat) (a : AX) : SX := fun env st => (a env st).toS env fun ds st1 => .next (env.set i (.v (.lst ds))) st1
def sOwn (i : Nat) (a : AX) : SX := fun env st => (a env st).toS env fun ds st1 => .next (env.set i (.own ds)) st1
def sSetT (ps : List (Str × Nat)) (a : EX) : SX := fun env st => (a env st).toS env fun d st1 => (match gMany ps d env with
      | some env1 => .next env1 st1
      | none => .stuck)
def sStar (i j : Nat) (a : EX) : SX := fun env st => (a env st).toS env fun d st1 => (match starD i j d env with
        | some env1 => .next env1 st1
        | none => .stuck)
def eTupRg (a : EX) : EX := fun env st => (a env st).bind fun d st1 => Res.of (tupRgD d) st1
def sSub (j : Nat) (i e : EX) : SX := fun env st => (e env st).toS env fun d st1 => if known env j = true then (i env st1).toS env fun k st2 => (match env[j]?, k with
        | some (.v (.ref q)), .int z => (match st2[q]? with
          | some (.lst ds) => (match ixN ds.length z with
            | some w => .next env (st2.set q (.lst (ds.set w d)))
            | none => .stuck)
          | _ => .stuck)
        | some (.own ds), .int z => (match ixN ds.length z with
            | some w => .next (env.set j (.own (ds.set w d))) st2
            | none => .stuck)
        | _, _ => .stuck) else .stuck
def sAug (i : Nat) (op : Operator) (e : EX) : SX := fun env st => (match env[i]? with
        | some (.v (.int a)) => (e env st).toS env fun d st1 => (match augI op a d with
          | some c => .next (env.set i (.v (.int c))) st1
          | none => .stuck)
        | _ => .stuck)
def sApp (i : Nat) (a : EX) : SX := fun env st => (match ownSlot env i with
        | some ds => (a env st).toS env fun d st1 => if ds.length < big then .next (env.set i (.own (ds ++ [d]))) st1 else .stuck
        | none => .stuck)
def sBrk : SX := fun env st => .brk env st
def sCont : SX := fun env st => .cont env st
/-- a def's end -/
def run (b : SX) (env : Env) (st : Store) : Res D := match b env st with
  | .next _ st1 => .ok .non st1
  | .ret d st1 => .ok d st1
  | .exc c ns es _ st1 => .exc c ns es st1
  | _ => .stuck
/-- the lambdas of an expression, of a statement -/
def lamE : Nat → Expr → List (Scope × Expr)
  | 0, _ => []
  | n + 1, e => match e with
    | .Lambda _ b sc _ => [(sc, b)]
    | .Call f as _ _ => lamE n f ++ as.flatMap (lamE n)
    | .Tuple es _ _ => es.flatMap (lamE n)
    | .List es _ => es.flatMap (lamE n)
    | .BoolOp _ es _ => es.flatMap (lamE n)
    | .UnaryOp _ a _ => lamE n a
    | .BinOp a _ b _ => lamE n a ++ lamE n b
    | .Compare a _ bs _ => lamE n a ++ bs.flatMap (lamE n)
    | .IfExp a b c _ => lamE n a ++ lamE n b ++ lamE n c
    | _ => []
def lamS : Nat → Stmt → List (Scope × Expr)
  | 0, _ => []
  | n + 1, s => match s with
    | .Assign _ e _ => lamE 8 e
    | .Expr e _ => lamE 8 e
    | .Return (some e) _ => lamE 8 e
    | .If c a b _ => lamE 8 c ++ a.flatMap (lamS n) ++ b.flatMap (lamS n)
    | .For _ i a b _ => lamE 8 i ++ a.flatMap (lamS n) ++ b.flatMap (lamS n)
    | .While c a b _ => lamE 8 c ++ a.flatMap (lamS n) ++ b.flatMap (lamS n)
    | _ => []
def lamOf (f : Fn) (k : Nat) : Scope × Expr := ((defBody f.st).flatMap (lamS 8)).getD k (⟨.function, [], false, false, []⟩, .Constant .none 0 ⟨0, 0, 0, 0⟩)
def eLm (m : Str) (o a : EX) : EX := fun env st => (o env st).bind fun x st1 => (Res.of (lstOf x) st1).bind fun ds st1 => (a env st1).bind fun y st2 => Res.of (lmethD m ds y) st2
def eIsX (G : Glb) (t : Str) (a : EX) : EX := fun env st => (a env st).bind fun x st1 => (Res.of (isExn G t x) st1).bind fun k st2 => .ok (.bl k) st2
def eFld (G : Glb) (n : Str) (a : EX) : EX := fun env st => (a env st).bind fun x st1 => Res.of (fldD G n x) st1
def eDic0 : EX := fun _ st => .ok .edic st
def eLam (T : Tab) (f : Str) (g : EX) : EX := lamX g (T f)
def xCat (a b : EX) : AX := fun env st => (a env st).bind fun x st1 => (b env st1).bind fun y st2 => Res.of (catD x y) st2
def sRaise0 (x : Str) (a : EX) : SX := fun env st => (a env st).toS env fun _ st1 => .exc x [] [] env st1
def sRaise1 (x f : Str) (a : EX) : SX := fun env st => (a env st).toS env fun d st1 => .exc x [f] [d] env st1
def sTry (G : Glb) (c : Str) (i j : Nat) (b : SX) : SX := fun env st => match b env st with
  | .exc x ns es env1 st1 => if (G.exc x).isSome = true then (if G.sub x c = true then .next ((env1.set j (.v (.exn x ns es))).set i .no) st1 else .exc x ns es env1 st1) else .stuck
  | o => o
def sPar (i j : Nat) (a : AX) : SX := fun env st => (a env st).toS env fun ds st1 => match ds with
  | [d, e] => .next ((env.set i (.v d)).set j (.v e)) st1
  | _ => .stuck
def sParOwn (i j : Nat) (a : EX) (f : AX) : SX := fun env st => (a env st).toS env fun d st1 => (f env st1).toS env fun ds st2 => .next ((env.set i (.v d)).set j (.own ds)) st2
theorem tab_at {G : Glb} {fs : List Fn} {f : Fn} {b : Tab → Dn → SX} (n : Nat) (hf : fs.find? (fun f' => f'.name == f.name) = some f) (ht : f.told = none) (hb : ∀ T L, denSs (denS T L (lamG G f) f.N (defScope f.st) f.ow 12) (defBody f.st) = b T L) {ds : List D} (hl : ds.length = f.ps.length) (st : Store) :
    tab G fs (n + 1) f.name ds st = run (b (tab G fs n) (tabL G fs n)) (ds.map Sl.v ++ List.replicate (f.N.length - ds.length) Sl.no) st := by
  rw [tab_succ]
  unfold tabStep
  simp only [hf, ht]
  unfold runFn bodyX run
  rw [if_pos hl, hb] <;> rfl
/-- a def that tells, behind its try -/
theorem told_at {G : Glb} {fs : List Fn} {f : Fn} {t : Told} {b : Tab → Dn → SX} (n : Nat) (hf : fs.find? (fun f' => f'.name == f.name) = some f) (ht : f.told = some t) (hb : ∀ T L, denSs (denS T L (lamG G f) f.N (defScope f.st) f.ow 12) ((defBody f.st).drop 2) = b T L) (ds : List D) (st : Store) :
    tab G fs (n + 1) f.name ds st = (match ds with
      | [.tup [d]] => run (b (tab G fs n) (tabL G fs n)) (.no :: (match t.x with
        | some i => t.env.set i (.v d)
        | none => t.env)) st
      | [.exn c ns es] => if (G.exc c).isSome = true ∧ G.sub c t.c = true then run (b (tab G fs n) (tabL G fs n)) (.no :: (t.env.set t.z (.v (.exn c ns es))).set t.n .no) st else .stuck
      | _ => .stuck) := by
  rw [tab_succ]
  unfold tabStep
  simp only [hf, ht]
  unfold runTold runRest
  rw [hb]
  have e : ∀ env st, outR (b (tab G fs n) (tabL G fs n) env st) = run (b (tab G fs n) (tabL G fs n)) env st := fun env st => by
    unfold run outR
    cases b (tab G fs n) (tabL G fs n) env st <;> rfl
  split <;> simp only [e] <;> rfl
end MI

set_option maxRecDepth 100000
set_option maxHeartbeats 4000000
namespace MI
open PySem PySem.Spec PyProof.Rows L2
variable [LD : LamDefs]
def dd (f : Fn) : He.DefD := ⟨(f.name, none), f.name, f.name, defArgs f.st, defBody f.st, defScope f.st, [], []⟩
/-- an own class of exceptions: its fields, its text -/
structure Xc where
  name : Str
  fs : List Str
  st : Stmt
def clsInit : Stmt → Stmt
  | .ClassDef (body := s :: _) .. => s
  | s => s
def Xc.ini (c : Xc) : Stmt := clsInit c.st
def Xc.qual (c : Xc) : Str := c.name ++ ".__init__"
def ddI (c : Xc) : He.DefD := ⟨(c.name, some "__init__"), "__init__", c.qual, defArgs c.ini, defBody c.ini, defScope c.ini, [], []⟩
def hasIni (c : Xc) : Bool := !c.fs.isEmpty
def fnOfAll (fs : List Fn) (xs : List Xc) : List He.DefD := fs.map dd ++ (xs.filter hasIni).map ddI
def constFa : Str × D → He.Fa
  | (x, .int i) => .int x i
  | (x, .str z) => .str x z
  | (x, _) => .free x
def okC : Str × D → Bool
  | (_, .int _) => true
  | (_, .str _) => true
  | _ => false
def faOf (fs : List Fn) (free : List Str) (consts : List (Str × D)) : List He.Fa := fs.map (fun f => .glo f.name) ++ (free.map .free ++ consts.map constFa)
def mkG (fs : List Fn) (free : List Str) (consts : List (Str × D)) (xs : List Xc) (root : Str) : Glb :=
  { const := fun x => consts.lookup x, isFn := fun x => fs.any fun f => f.name == x && f.told.isNone, free := fun x => free.contains x,
    exc := fun x => (xs.find? fun c => c.name == x).map (·.fs), sub := fun x y => x == y || y == root, told := fun x => fs.any fun f => f.name == x && f.told.isSome, lamOk := false }
/-- what K must say of an own class of exceptions -/
def oexB (K : PySem.W.Frag) (C : Addr) : Bool := match K.lookup C with
  | some ⟨.type "type", _, .cls cd, sl⟩ => (match cd.mro, sl.toList with
    | .ref C' :: bm, [_, _, _, _, some (.builtin n), _] => C' == C && n == "ValueError.__new__" && !cd.hasDel && (PySem.HandSPX.refsVE bm && cd.hasDict)
    | _, _ => false)
  | _ => false
theorem oexB_ok {K : PySem.W.Frag} {C : Addr} (q : oexB K C = true) : ∃ nm q N bs bm sn sub ab col dd k0 k1 k2 k3 k5, K.lookup C = some (excClassObj nm q C N bs bm true sn sub ab col dd k0 k1 k2 k3 k5 "ValueError.__new__") ∧ PySem.HandSPX.refsVE bm = true := by
  unfold oexB at q
  split at q
  · rename_i od cd sl ho
    split at q
    · rename_i C' bm k0 k1 k2 k3 n k5 hm hs
      simp only [Bool.and_eq_true, beq_iff_eq, Bool.not_eq_true'] at q
      obtain ⟨⟨⟨rfl, rfl⟩, hdel⟩, ht, hdi⟩ := q
      obtain ⟨nm, bs, mro, ns, qn, hd, sn, sub, ab, col, del⟩ := cd
      dsimp only at hm hdel hdi
      subst hm hdel hdi
      obtain ⟨l⟩ := sl
      dsimp only at hs
      subst hs
      exact ⟨nm, qn, ns, bs, bm, sn, sub, ab, col, od, k0, k1, k2, k3, k5, ho, ht⟩
    · cases q
  · cases q
def xcB (K : PySem.W.Frag) (c : Xc) : Bool :=
  He.eqO (PySem.W.nsIn K mainGlobals c.name) (some (some (.ref (He.ga K c.name)))) && PySem.W.keepIn K (.ref (He.ga K c.name)) && (PySem.W.clsIn K (He.ga K c.name)).isSome &&
  He.eqO (PySem.W.findIn K (.ref (He.ga K c.name)) "__getattribute__") (some (some (.builtin "BaseException.__getattribute__"))) && He.eqO (PySem.W.findIn K (.ref (He.ga K c.name)) "__getattr__") (some none) &&
  decide (PySem.W.subIn K (.ref (He.ga K c.name)) (.type "BaseException") = some true) && decide (PySem.W.typeIn K (.ref (He.ga K c.name)) = some (.type "type")) && PySem.W.hasDictIn K (He.ga K c.name) &&
  He.eqO (PySem.W.findIn K (.ref (He.ga K c.name)) "__class__") (some (some (.builtin "object.__class__"))) && He.eqO (PySem.W.specialIn K (.builtin "object.__class__") "__get__") (some (some (.builtin "getset_descriptor.__get__"))) &&
  decide (PySem.W.takesIn K (.builtin "object.__class__") = some true) && decide (PySem.W.mroIn K (He.ga K c.name) (.type "object") = some true) && decide (PySem.W.kitOne K (.ref (He.ga K c.name)) (.type "ValueError") = some true)
def xsubB (K : PySem.W.Frag) (root : Str) (c d : Xc) : Bool :=
  decide (PySem.W.exmOne K (.ref (He.ga K c.name)) (.ref (He.ga K d.name)) = some (c.name == d.name || d.name == root)) && decide (PySem.W.kitOne K (.ref (He.ga K c.name)) (.ref (He.ga K d.name)) = some (c.name == d.name || d.name == root))
def xmkB (K : PySem.W.Frag) (c : Xc) : Bool := match c.fs with
  | [] => PySem.W.excIn K (He.ga K c.name) He.veBase "ValueError.__new__"
  | [f] => oexB K (He.ga K c.name) && He.eqO (PySem.W.findIn K (.ref (He.ga K c.name)) "__setattr__") (some (some (.builtin "object.__setattr__"))) && He.eqO (PySem.W.findIn K (.ref (He.ga K c.name)) f) (some none) &&
      He.eqO (PySem.W.findIn K (.ref (He.ga K c.name)) "__init__") (some (some (.ref (He.ma K (He.ga K c.name) "__init__")))) && decide (PySem.W.typeIn K (.ref (He.ma K (He.ga K c.name) "__init__")) = some (.type "function"))
  | _ => false
/-- the Bool of the head's Hook -/
def exB (xs : List Xc) (root : Str) (K : PySem.W.Frag) : Bool := xs.all (fun c => xcB K c && xmkB K c && xs.all fun d => xsubB K root c d) && (TK K).all fun p => (TK K).all fun q => !(p.1 == q.1) || p == q
def BindsEqD (name qual : Str) (st : Stmt) (ps : List Str) : Prop := ∀ (kV doc pm : Value) (an : Option Addr) (cdv ct : Value) (us : List Value), us.length = ps.length → bindArgs (PySem.W.fnOf name qual (defArgs st) (defBody st) (defScope st) .none kV doc pm an cdv ct) ⟨us, []⟩ = pure (ps.zip us)
def BindsEq (f : Fn) : Prop := BindsEqD f.name f.name f.st f.ps
/-- an __init__ that keeps what it gets in one field -/
structure IniOk (c : Xc) (f : Str) : Prop where
  ex : ∃ (a b : Str) (p1 p2 p3 p4 : Pos), defBody c.ini = [.Assign [.Attribute (.Name a p1) f p2] (.Name b p3) p4] ∧ C8.scC [a, b] [a, b] (defScope c.ini) = true ∧ BindsEqD "__init__" c.qual c.ini [a, b] ∧ Vis (defScope c.ini) a ∧ Vis (defScope c.ini) b ∧ dunder a = false ∧ dunder b = false
def iniB (c : Xc) (f a b : Str) : Bool := match defBody c.ini with
  | [.Assign [.Attribute (.Name a' _) f' _] (.Name b' _) _] => a' == a && b' == b && f' == f && C8.scC [a, b] [a, b] (defScope c.ini) && visB (defScope c.ini) a && visB (defScope c.ini) b && !dunder a && !dunder b
  | _ => false
theorem ini_by {c : Xc} {f a b : Str} (h : iniB c f a b = true) (hb : BindsEqD "__init__" c.qual c.ini [a, b]) : IniOk c f := by
  unfold iniB at h
  split at h
  · rename_i a' p1 f' p2 b' p3 p4 hbd
    simp only [Bool.and_eq_true, Bool.not_eq_true', beq_iff_eq] at h
    obtain ⟨⟨⟨⟨⟨⟨⟨rfl, rfl⟩, rfl⟩, hs⟩, va⟩, vb⟩, da⟩, db⟩ := h
    exact ⟨a', b', p1, p2, p3, p4, hbd, hs, hb, visB_vis va, visB_vis vb, da, db⟩
  · cases h
theorem cx_false {P : Program} {w : World} {H : Hp} {s : Shared} {e : Value} {s' : Shared} (h : L2.CX P w [] H s (fun _ _ _ => False) e s') : False := by
  obtain ⟨_, _, _, _, _, h⟩ := h
  simp only [and_false] at h
theorem lookup_mem {α : Type} {x : Str} {d : α} : ∀ {l : List (Str × α)}, l.lookup x = some d → (x, d) ∈ l
  | [], h => by cases h
  | (y, e) :: l, h => by
    rw [List.lookup_cons] at h
    cases q : (x == y) with
    | true =>
      rw [q] at h
      cases h
      rw [eq_of_beq q]
      exact List.mem_cons_self
    | false =>
      rw [q] at h
      exact List.mem_cons_of_mem _ (lookup_mem h)
section
variable {P : Program} {w : World} {K : PySem.W.Frag} {h base : Heap} {mg : Str → Option Value} {fs : List Fn} {free : List Str} {consts : List (Str × D)} {xs : List Xc} {root : Str}
theorem fnAt_of (X : K.In h) (Gn : h.Ns mainGlobals mg) (c : He.SaysD (faOf fs free consts) (fnOfAll fs xs) K) (hb : ∀ f ∈ fs, BindsEq f) (hs : fs.all (fun f => C8.scC f.N f.ps (defScope f.st)) = true) {f : Fn} (hf : f ∈ fs) : ∃ fd, FnAt K mg f (He.ga K f.name) fd := by
  obtain ⟨fd, F⟩ := c.defs (d := dd f) (List.mem_append_left _ (List.mem_map_of_mem hf))
  refine ⟨fd, F, He.glo_ok X Gn (c.facts (f := .glo f.name) ?_), FunD.bindsN F (hb f hf), C8.fnScope_by (List.all_eq_true.mp hs f hf)⟩
  exact List.mem_append_left _ (List.mem_map_of_mem (f := fun f : Fn => He.Fa.glo f.name) hf)
/-- __init__ keeps its promise -/
theorem ini_ok {c : Xc} {f : Str} {fI C : Addr} {fd : FuncData} (F : FunD K "__init__" c.qual (defArgs c.ini) (defBody c.ini) (defScope c.ini) [] [] fI fd) (i : IniOk c f) (O : OexC K C) (no : PySem.W.findIn K (.ref C) f = some none) :
    ∃ ps, L2.Binds K fd ps [] ∧ FnOk P w K mg base C8.CX0 1 fI fd ps (spIni C f) := by
  obtain ⟨a, b, p1, p2, p3, p4, hbd, hsc, hbi, va, vb, da, db⟩ := i.ex
  have S := C8.fnScope_by hsc
  refine ⟨[a, b], FunD.bindsN F hbi, F.ok S (fun vs H Q E ⟨_, _, e, _⟩ => by rw [e]; rfl) (fun cdv A outer s H vs Q E hr ⟨ad, v, e, ha, q⟩ => ?_)⟩
  subst e
  rw [hbd]
  refine ⟨_, pss_one (ps_ost (pe_var (i := 0) rfl va (dunder_debug da).1 (dunder_debug da).2.1) (pe_var (i := 1) rfl vb (dunder_debug db).1 (dunder_debug db).2.1)), ?_⟩
  exact ⟨v, rfl, .ref ad, rfl, ad, C, rfl, O, no, .inl ⟨ha, fun dx h1 h2 => q dx h1 h2⟩⟩
theorem exf_of (X : K.In h) (Gn : h.Ns mainGlobals mg) (c : He.SaysD (faOf fs free consts) (fnOfAll fs xs) K) (hx : exB xs root K = true) (hi : ∀ x ∈ xs, ∀ f, x.fs = [f] → IniOk x f) {x : Str} {es : List Str} (e : (mkG fs free consts xs root).exc x = some es) : ExF P w K mg base (mkG fs free consts xs root) x es := by
  unfold exB at hx
  obtain ⟨hx, _⟩ := Bool.and_eq_true_iff.mp hx
  have find : ∀ {y : Str} {gs : List Str}, (mkG fs free consts xs root).exc y = some gs → ∃ d ∈ xs, d.name = y ∧ d.fs = gs := fun {y gs} e => by
    have e' : (xs.find? fun c => c.name == y).map (·.fs) = some gs := e
    obtain ⟨d, hd, rfl⟩ := Option.map_eq_some_iff.mp e'
    exact ⟨d, List.mem_of_find?_eq_some hd, by simpa using List.find?_some hd, rfl⟩
  obtain ⟨d, hd, rfl, rfl⟩ := find e
  have q := List.all_eq_true.mp hx d hd
  simp only [Bool.and_eq_true] at q
  obtain ⟨⟨q1, q2⟩, q3⟩ := q
  unfold xcB at q1
  simp only [Bool.and_eq_true, decide_eq_true_eq] at q1
  obtain ⟨⟨⟨⟨⟨⟨⟨⟨⟨⟨⟨⟨h1, h2⟩, h3⟩, h4⟩, h5⟩, h6⟩, h7⟩, h8⟩, h9⟩, h10⟩, h11⟩, h12⟩, h13⟩ := q1
  refine ⟨PySem.W.mg_of X Gn (He.eqO_ok h1), h2, h3, He.eqO_ok h4, He.eqO_ok h5, h6, h7, h8, He.eqO_ok h9, He.eqO_ok h10, h11, h12, h13, fun y gs ey => ?_, fun e0 => ?_, fun f e1 => ?_⟩
  · obtain ⟨d2, hd2, rfl, rfl⟩ := find ey
    have q4 := List.all_eq_true.mp q3 d2 hd2
    unfold xsubB at q4
    simp only [Bool.and_eq_true, decide_eq_true_eq] at q4
    exact q4
  · unfold xmkB at q2
    rw [e0] at q2
    exact q2
  · unfold xmkB at q2
    rw [e1] at q2
    simp only [Bool.and_eq_true, decide_eq_true_eq] at q2
    obtain ⟨⟨⟨⟨r1, r2⟩, r3⟩, r4⟩, r5⟩ := q2
    have O : OexC K (He.ga K d.name) := ⟨oexB_ok r1, He.eqO_ok r2, h6, h7, h2⟩
    obtain ⟨fd, F⟩ := c.defs (d := ddI d) (List.mem_append_right _ (List.mem_map_of_mem (List.mem_filter.mpr ⟨hd, by unfold hasIni; rw [e1]; rfl⟩)))
    obtain ⟨ps, b1, b2⟩ := ini_ok (P := P) (w := w) (mg := mg) (base := base) F (hi d hd f e1) O (He.eqO_ok r3)
    exact ⟨O, He.eqO_ok r3, _, fd, ps, He.eqO_ok r4, r5, b1, b2⟩
theorem glb_ok (X : K.In h) (Gn : h.Ns mainGlobals mg) (c : He.SaysD (faOf fs free consts) (fnOfAll fs xs) K) (hx : exB xs root K = true) (hi : ∀ x ∈ xs, ∀ f, x.fs = [f] → IniOk x f) (hb : ∀ f ∈ fs, BindsEq f) (hs : fs.all (fun f => C8.scC f.N f.ps (defScope f.st)) = true) (hc : consts.all okC = true) (hn : (fs.map (·.name)).Nodup)
    (ht : ∀ f ∈ fs, ∀ t, f.told = some t → ToldAt (mkG fs free consts xs root) f t) (hl : fs.all (fun f => !f.lam || LD.ls.contains ((f.name, none), (f.name ++ ".<locals>.") ++ "<lambda>")) = true) (TB : ∀ p ∈ LD.ls, LamX.TabB base mg (He.cT K p.1).1 (He.cT K p.1).2) : GlbOk P w K mg base (mkG fs free consts xs root) fs := by
  refine ⟨fun x d e => ?_, fun x e => ?_, fun x e => ?_, fun f hf => ?_, fun x es e => exf_of X Gn c hx hi e, fun x e => ?_, fun f hf hlam a oc od dV kV doc pm an cdv ct osl hm lk => ?_, ?_⟩
  · have hm := lookup_mem (show consts.lookup x = some d from e)
    have ho := List.all_eq_true.mp hc _ hm
    have hk := c.facts (f := constFa (x, d)) (List.mem_append_right _ (List.mem_append_right _ (List.mem_map_of_mem hm)))
    cases d with
    | int i =>
      obtain ⟨t, e1⟩ := He.int_ok X Gn hk
      exact ⟨.int i, _, e1, ⟨t, rfl⟩, fun M r H => RepV.int i⟩
    | str z =>
      obtain ⟨t, e1⟩ := He.str_ok X Gn hk
      exact ⟨.str z, _, e1, ⟨t, rfl⟩, fun M r H => by unfold RepV; rfl⟩
    | _ => cases ho
  · have hm : x ∈ free := List.contains_iff_mem.mp e
    exact He.free_ok X Gn (c.facts (f := .free x) (List.mem_append_right _ (List.mem_append_left _ (List.mem_map_of_mem hm))))
  · obtain ⟨f, hf, hx⟩ := List.any_eq_true.mp (show (fs.any fun f => f.name == x && f.told.isNone) = true from e)
    rw [Bool.and_eq_true] at hx
    obtain ⟨h1, h2⟩ := hx
    have h1 := eq_of_beq h1
    subst h1
    exact ⟨f, hf, find_self hn hf, rfl, by simpa using h2⟩
  · obtain ⟨fd, F⟩ := fnAt_of X Gn c hb hs hf
    exact ⟨_, fd, F⟩
  · obtain ⟨f, hf, hx⟩ := List.any_eq_true.mp (show (fs.any fun f => f.name == x && f.told.isSome) = true from e)
    rw [Bool.and_eq_true] at hx
    obtain ⟨h1, h2⟩ := hx
    have h1 := eq_of_beq h1
    subst h1
    obtain ⟨t, e2⟩ := Option.isSome_iff_exists.mp h2
    exact ⟨f, hf, find_self hn hf, rfl, t, e2, ht f hf t e2⟩
  · have hm2 := List.all_eq_true.mp hl f hf
    rw [hlam] at hm2
    have hm3 : ((f.name, none), (f.name ++ ".<locals>.") ++ "<lambda>") ∈ LD.ls := List.contains_iff_mem.mp (by simpa using hm2)
    have hg := He.glo_ok X Gn (c.facts (f := .glo f.name) (List.mem_append_left _ (List.mem_map_of_mem (f := fun f : Fn => He.Fa.glo f.name) hf)))
    rw [hg] at hm
    cases hm
    have lk2 : K.lookup (He.fAd K (f.name, none)) = some ⟨oc, od, .func (PySem.W.fnOf f.name f.name (defArgs f.st) (defBody f.st) (defScope f.st) dV kV doc pm an cdv ct), osl⟩ := lk
    obtain ⟨fd, F⟩ := fnAt_of X Gn c hb hs hf
    obtain ⟨oc', od', dV', kV', doc', pm', an', cdv', ct', osl', rfl, lk', hcd, _, _⟩ := F.fn.ex
    rw [lk'] at lk
    cases lk
    obtain ⟨cc, e3⟩ := He.codeIn_ref hcd
    have e4 : He.codeOf K (f.name, none) = cc := He.codeOf_eq lk2 e3
    exact ⟨(He.cT K (f.name, none)).1, (He.cT K (f.name, none)).2, by rw [e3, ← e4]; rfl, TB _ hm3, List.mem_map_of_mem (f := fun p : (Str × Option Str) × Str => ((He.cT K p.1).2, p.2)) hm3⟩
  · unfold exB at hx
    obtain ⟨_, hx⟩ := Bool.and_eq_true_iff.mp hx
    intro p hp q hq e
    have z := List.all_eq_true.mp (List.all_eq_true.mp hx p hp) q hq
    rw [e] at z
    simpa using z
/-- the law's def -/
theorem law_facts {l : PySem.W.OpenLaw} {f : Addr} {fl : Fn} {p : Str} (N : Nat) (X : K.In h) (Gn : h.Ns mainGlobals mg) (hfa : mg fl.name = some (.ref f)) {tf : List He.Defn} {ts : List He.Tab} (S : He.SaysX (faOf fs free consts) (fnOfAll fs xs) ts (LD.ls.map (·.1)) (exB xs root) w h K)
    (hi : ∀ x ∈ xs, ∀ f, x.fs = [f] → IniOk x f) (hb : ∀ f ∈ fs, BindsEq f) (hs : fs.all (fun f => C8.scC f.N f.ps (defScope f.st)) = true) (hc : consts.all okC = true) (hn : (fs.map (·.name)).Nodup)
    (ht : ∀ f ∈ fs, ∀ t, f.told = some t → ToldAt (mkG fs free consts xs root) f t) (hlm : fs.all (fun f => !f.lam || LD.ls.contains ((f.name, none), (f.name ++ ".<locals>.") ++ "<lambda>")) = true) (hl : fl ∈ fs) (hlt : fl.told = none) (hp : fl.ps = [p])
    (plain : ∀ ns : List Int, ns.length ≤ 63 → (∀ z ∈ ns, Builtin.Int.intBits z ≤ 1048576) → ∃ st', tab (mkG fs free consts xs root) fs (N + 1) fl.name [.scr (ns.map .int)] [] = .ok (.bl true) st') :
    LamX.LawAtS l w K (L2.CX l.prog w) (N + 3) 63 p mg f h := by
  have c := S.t.d
  obtain ⟨fd, F⟩ := fnAt_of X Gn c hb hs hl
  have e := hfa.symm.trans F.mgf
  cases e
  refine ⟨fd, LD.ls.map fun q => He.cT K q.1, spOf K 1 (tab (mkG fs free consts xs root) fs (N + 1) fl.name), fun q hq => ?_, fun q hq => ?_, fun q hq => ?_, fun s u => ?_, fun H a ns h1 h2 hT hS => ?_, fun base KX _ TB => ?_⟩
  · obtain ⟨p, hp, rfl⟩ := List.mem_map.mp hq
    exact S.empty p.1 (List.mem_map_of_mem hp)
  · obtain ⟨p, hp, rfl⟩ := List.mem_map.mp hq
    exact S.out p.1 (List.mem_map_of_mem hp)
  · obtain ⟨p, hp, rfl⟩ := List.mem_map.mp hq
    exact PySem.W.codeHd_of_K X (S.hd p.1 (List.mem_map_of_mem hp))
  · have b := FunD.bindsA F.fn (hb fl hl) s [u] (by rw [hp]; rfl)
    rw [hp] at b
    exact b
  · refine law_sp (fun q hq => ?_) hS (plain ns h1 h2)
    obtain ⟨p, hp, rfl⟩ := List.mem_map.mp hq
    exact LamX.TabS.nil (hT (He.cT K p.1) (List.mem_map_of_mem hp))
  · have g := glb_ok (P := l.prog) (w := w) (base := base) X Gn c S.more hi hb hs hc hn ht hlm (fun p hp => TB _ (List.mem_map_of_mem hp))
    have FT := facts_ok g N
    have hL : ∀ m, N = m + 2 → Facts (tab (mkG fs free consts xs root) fs m) (mkG fs free consts xs root) (m + 2) l.prog w K mg base := fun m e => facts_ok g m
    have t := fn_ok g FT hL (find_self hn hl) hl hlt F
    rw [hp] at t
    exact t
end
end MI

set_option maxRecDepth 1000000
set_option maxHeartbeats 0
namespace K77
open PySem PySem.Spec PyProof.Rows L2 MI
def top (i : Nat) : Stmt := PySem.Challenge.pw_rolltally_k77_boards_of_rows.main.body.getD i (.Pass ⟨0, 0, 0, 0⟩)
def f_thing_text : Fn := ⟨(Str.ofString "thing_text"), [(Str.ofString "thing")], [(Str.ofString "thing"), (Str.ofString "one")], [], top 27, false, none⟩
def f_number_from : Fn := ⟨(Str.ofString "number_from"), [(Str.ofString "text"), (Str.ofString "at")], [(Str.ofString "text"), (Str.ofString "at"), (Str.ofString "end"), (Str.ofString "word"), (Str.ofString "figures")], [], top 28, false, none⟩
def f_text_from : Fn := ⟨(Str.ofString "text_from"), [(Str.ofString "text"), (Str.ofString "at")], [(Str.ofString "text"), (Str.ofString "at"), (Str.ofString "signs")], [(Str.ofString "signs")], top 29, false, none⟩
def f_tuple_from : Fn := ⟨(Str.ofString "tuple_from"), [(Str.ofString "text"), (Str.ofString "at"), (Str.ofString "deep")], [(Str.ofString "text"), (Str.ofString "at"), (Str.ofString "deep"), (Str.ofString "found"), (Str.ofString "told"), (Str.ofString "thing")], [(Str.ofString "found")], top 30, false, none⟩
def f_thing_from : Fn := ⟨(Str.ofString "thing_from"), [(Str.ofString "text"), (Str.ofString "at"), (Str.ofString "deep")], [(Str.ofString "text"), (Str.ofString "at"), (Str.ofString "deep"), (Str.ofString "sign")], [], top 31, false, none⟩
def f_read_whole : Fn := ⟨(Str.ofString "read_whole"), [(Str.ofString "text"), (Str.ofString "row")], [(Str.ofString "text"), (Str.ofString "row"), (Str.ofString "told")], [], top 32, false, none⟩
def f_board_text : Fn := ⟨(Str.ofString "board_text"), [(Str.ofString "board")], [(Str.ofString "board"), (Str.ofString "row")], [], top 33, false, none⟩
def f_read_board : Fn := ⟨(Str.ofString "read_board"), [(Str.ofString "text")], [(Str.ofString "text"), (Str.ofString "found"), (Str.ofString "rest"), (Str.ofString "at"), (Str.ofString "row"), (Str.ofString "thing"), (Str.ofString "rows")], [(Str.ofString "found")], top 34, false, none⟩
def f_law_begun : Fn := ⟨(Str.ofString "_law_begun"), [(Str.ofString "_law_cell"), (Str.ofString "_law_k")], [(Str.ofString "_law_cell"), (Str.ofString "_law_k"), (Str.ofString "_law_seed")], [(Str.ofString "return")], top 36, false, none⟩
def f_law_next : Fn := ⟨(Str.ofString "_law_next"), [(Str.ofString "_law_draw"), (Str.ofString "_law_size")], [(Str.ofString "_law_draw"), (Str.ofString "_law_size"), (Str.ofString "_law_mixed"), (Str.ofString "_law_found")], [], top 37, false, none⟩
def f_law_pick : Fn := ⟨(Str.ofString "_law_pick"), [(Str.ofString "_law_draw"), (Str.ofString "_law_some")], [(Str.ofString "_law_draw"), (Str.ofString "_law_some")], [], top 38, false, none⟩
def f_law_like : Fn := ⟨(Str.ofString "_law_like"), [(Str.ofString "_law_found"), (Str.ofString "_law_due_here")], [(Str.ofString "_law_found"), (Str.ofString "_law_due_here"), (Str.ofString "_law_wrong"), (Str.ofString "_law_k"), (Str.ofString "_law_key")], [], top 39, false, none⟩
def f_law_any_sign : Fn := ⟨(Str.ofString "_law_any_sign"), [(Str.ofString "_law_draw")], [(Str.ofString "_law_draw"), (Str.ofString "_law_some")], [], top 40, false, none⟩
def f_law_ten : Fn := ⟨(Str.ofString "_law_ten"), [(Str.ofString "_law_many")], [(Str.ofString "_law_many"), (Str.ofString "_law_found"), (Str.ofString "_law_k")], [], top 41, false, none⟩
def f_law_alone : Fn := ⟨(Str.ofString "_law_alone"), [(Str.ofString "_law_e")], [(Str.ofString "_law_e"), (Str.ofString "_law_kinds"), (Str.ofString "_law_words")], [], top 42, false, none⟩
def f_law_refusal : Fn := ⟨(Str.ofString "_law_refusal"), [(Str.ofString "_law_e")], [(Str.ofString "_law_e"), (Str.ofString "_law_word")], [], top 43, false, none⟩
def f_law_safe_told : Fn := ⟨(Str.ofString "_law_safe_told"), [(Str.ofString "_law_work")], [(Str.ofString "_law_work"), (Str.ofString "_law_found"), (Str.ofString "_law_refused"), (Str.ofString "_law_e")], [], top 44, false, some ⟨[.v .non, .v .non, .no], some 0, (Str.ofString "VoteError"), 2, 1⟩⟩
def f_law_thing : Fn := ⟨(Str.ofString "_law_thing"), [(Str.ofString "_law_draw"), (Str.ofString "_law_deep")], [(Str.ofString "_law_draw"), (Str.ofString "_law_deep"), (Str.ofString "_law_way"), (Str.ofString "_law_small"), (Str.ofString "_law_some"), (Str.ofString "_law_words"), (Str.ofString "_law_k")], [(Str.ofString "_law_words")], top 45, false, none⟩
def f_law_text : Fn := ⟨(Str.ofString "_law_text"), [(Str.ofString "_law_thing_here")], [(Str.ofString "_law_thing_here"), (Str.ofString "_law_signs"), (Str.ofString "_law_sign"), (Str.ofString "_law_one")], [], top 46, false, none⟩
def f_law_read_word : Fn := ⟨(Str.ofString "_law_read_word"), [(Str.ofString "_law_text_here"), (Str.ofString "_law_at")], [(Str.ofString "_law_text_here"), (Str.ofString "_law_at"), (Str.ofString "_law_signs"), (Str.ofString "_law_sign")], [(Str.ofString "_law_signs")], top 47, false, none⟩
def f_law_read_number : Fn := ⟨(Str.ofString "_law_read_number"), [(Str.ofString "_law_text_here"), (Str.ofString "_law_at")], [(Str.ofString "_law_text_here"), (Str.ofString "_law_at"), (Str.ofString "_law_end"), (Str.ofString "_law_word"), (Str.ofString "_law_figures")], [], top 48, false, none⟩
def f_law_read_tuple : Fn := ⟨(Str.ofString "_law_read_tuple"), [(Str.ofString "_law_text_here"), (Str.ofString "_law_at"), (Str.ofString "_law_deep")], [(Str.ofString "_law_text_here"), (Str.ofString "_law_at"), (Str.ofString "_law_deep"), (Str.ofString "_law_found"), (Str.ofString "_law_told")], [(Str.ofString "_law_found")], top 49, false, none⟩
def f_law_read_thing : Fn := ⟨(Str.ofString "_law_read_thing"), [(Str.ofString "_law_text_here"), (Str.ofString "_law_at"), (Str.ofString "_law_deep")], [(Str.ofString "_law_text_here"), (Str.ofString "_law_at"), (Str.ofString "_law_deep")], [], top 50, false, none⟩
def f_law_told_of : Fn := ⟨(Str.ofString "_law_told_of"), [(Str.ofString "_law_text_here")], [(Str.ofString "_law_text_here"), (Str.ofString "_law_told")], [], top 51, false, none⟩
def f_law_changed_text : Fn := ⟨(Str.ofString "_law_changed_text"), [(Str.ofString "_law_draw"), (Str.ofString "_law_text_here")], [(Str.ofString "_law_draw"), (Str.ofString "_law_text_here"), (Str.ofString "_law_own"), (Str.ofString "_law_sign"), (Str.ofString "_law_way"), (Str.ofString "_law_at")], [], top 52, false, none⟩
def f_law_due : Fn := ⟨(Str.ofString "_law_due"), [(Str.ofString "_law_text_here")], [(Str.ofString "_law_text_here"), (Str.ofString "_law_rows"), (Str.ofString "_law_found"), (Str.ofString "_law_at"), (Str.ofString "_law_row"), (Str.ofString "_law_told")], [(Str.ofString "_law_found")], top 53, false, none⟩
def f_law_changed_rows : Fn := ⟨(Str.ofString "_law_changed_rows"), [(Str.ofString "_law_draw"), (Str.ofString "_law_rows")], [(Str.ofString "_law_draw"), (Str.ofString "_law_rows"), (Str.ofString "_law_at"), (Str.ofString "_law_way"), (Str.ofString "_law_some"), (Str.ofString "_law_cut")], [], top 54, false, none⟩
def f_law_right : Fn := ⟨(Str.ofString "_law_right"), [(Str.ofString "_law_cell"), (Str.ofString "_law_k")], [(Str.ofString "_law_cell"), (Str.ofString "_law_k"), (Str.ofString "_law_draw"), (Str.ofString "_law_board"), (Str.ofString "_law_rows"), (Str.ofString "_law_whole"), (Str.ofString "_law_turn"), (Str.ofString "_law_odd"), (Str.ofString "_law_some"), (Str.ofString "_law_text_here"), (Str.ofString "_law_row"), (Str.ofString "_law_one")], [], top 55, true, none⟩
def f_law_is_wide : Fn := ⟨(Str.ofString "_law_is_wide"), [], [(Str.ofString "_law_board"), (Str.ofString "_law_due_here"), (Str.ofString "_law_row"), (Str.ofString "_law_k")], [], top 56, false, none⟩
def f_law : Fn := ⟨(Str.ofString "law"), [(Str.ofString "_law_script")], [(Str.ofString "_law_script"), (Str.ofString "_law_k"), (Str.ofString "_law_cell")], [], top 57, false, none⟩
def fs : List Fn := [f_thing_text, f_number_from, f_text_from, f_tuple_from, f_thing_from, f_read_whole, f_board_text, f_read_board, f_law_begun, f_law_next, f_law_pick, f_law_like, f_law_any_sign, f_law_ten, f_law_alone, f_law_refusal, f_law_safe_told, f_law_thing, f_law_text, f_law_read_word, f_law_read_number, f_law_read_tuple, f_law_read_thing, f_law_told_of, f_law_changed_text, f_law_due, f_law_changed_rows, f_law_right, f_law_is_wide, f_law]
def x_VoteError : Xc := ⟨(Str.ofString "VoteError"), [], top 1⟩
def x_NoName : Xc := ⟨(Str.ofString "NoName"), [], top 2⟩
def x_NoDay : Xc := ⟨(Str.ofString "NoDay"), [], top 3⟩
def x_NoRace : Xc := ⟨(Str.ofString "NoRace"), [], top 4⟩
def x_NoMark : Xc := ⟨(Str.ofString "NoMark"), [], top 5⟩
def x_NoCode : Xc := ⟨(Str.ofString "NoCode"), [], top 6⟩
def x_NoPlace : Xc := ⟨(Str.ofString "NoPlace"), [], top 7⟩
def x_NoStub : Xc := ⟨(Str.ofString "NoStub"), [], top 8⟩
def x_NoWay : Xc := ⟨(Str.ofString "NoWay"), [], top 9⟩
def x_NoTime : Xc := ⟨(Str.ofString "NoTime"), [], top 10⟩
def x_NoLetter : Xc := ⟨(Str.ofString "NoLetter"), [], top 11⟩
def x_NotWhole : Xc := ⟨(Str.ofString "NotWhole"), [], top 12⟩
def x_NoRuling : Xc := ⟨(Str.ofString "NoRuling"), [], top 13⟩
def x_NoChain : Xc := ⟨(Str.ofString "NoChain"), [], top 14⟩
def x_NoBits : Xc := ⟨(Str.ofString "NoBits"), [], top 15⟩
def x_NoLot : Xc := ⟨(Str.ofString "NoLot"), [], top 16⟩
def x_NoCount : Xc := ⟨(Str.ofString "NoCount"), [], top 17⟩
def x_NoPhase : Xc := ⟨(Str.ofString "NoPhase"), [], top 18⟩
def x_Twice : Xc := ⟨(Str.ofString "Twice"), [], top 19⟩
def x_NotThere : Xc := ⟨(Str.ofString "NotThere"), [(Str.ofString "thing")], top 20⟩
def x_NoRow : Xc := ⟨(Str.ofString "NoRow"), [(Str.ofString "at")], top 21⟩
def x_NoText : Xc := ⟨(Str.ofString "NoText"), [(Str.ofString "row")], top 22⟩
def xs : List Xc := [x_VoteError, x_NoName, x_NoDay, x_NoRace, x_NoMark, x_NoCode, x_NoPlace, x_NoStub, x_NoWay, x_NoTime, x_NoLetter, x_NotWhole, x_NoRuling, x_NoChain, x_NoBits, x_NoLot, x_NoCount, x_NoPhase, x_Twice, x_NotThere, x_NoRow, x_NoText]
instance : LamDefs := ⟨[(((Str.ofString "_law_right"), none), ((Str.ofString "_law_right") ++ ".<locals>.") ++ "<lambda>")]⟩
def free : List Str := [(Str.ofString "ValueError"), (Str.ofString "bool"), (Str.ofString "dict"), (Str.ofString "enumerate"), (Str.ofString "int"), (Str.ofString "isinstance"), (Str.ofString "len"), (Str.ofString "list"), (Str.ofString "max"), (Str.ofString "min"), (Str.ofString "range"), (Str.ofString "str"), (Str.ofString "tuple")]
def consts : List (Str × D) := [((Str.ofString "FIGURES"), (.str (Str.ofString "0123456789"))), ((Str.ofString "DEEPEST"), (.int 8)), ((Str.ofString "MOST_FIGURES"), (.int 400))]
def G : Glb := mkG fs free consts xs (Str.ofString "VoteError")
def b_thing_text (T : Tab) (L : Dn) : SX :=
  (sCons (sIf (tOf (eInst (eVar 0) ["tuple"]))
   (sCons (sRet (eBin .Add (eBin .Add (eK (.str (Str.ofString "("))) (eMeth (Str.ofString "join") (eK (.str (Str.ofString ", "))) (eOfA (xComp [1] (xOwn 0 (xSeq (eVar 0))) (gOne 1) tYes (eCall T (Str.ofString "thing_text") (aCons (eVar 1) aNil)))))) (eK (.str (Str.ofString ")")))))
    sNil)
   sNil)
  (sCons (sIf (tCmp .Is (eBor 0) (eK .non))
   (sCons (sRet (eK (.str (Str.ofString "none"))))
    sNil)
   sNil)
  (sCons (sIf (tOf (eInst (eVar 0) ["str"]))
   (sCons (sRet (eBin .Add (eRepl (Str.ofString "\"") (Str.ofString "\\") (Str.ofString "\\\\") (Str.ofString "\"") (Str.ofString "\\\"") (eVar 0)) (eK (.str (Str.ofString "\"")))))
    sNil)
   sNil)
  (sCons (sRet (eBlt1 (Str.ofString "str") (eBor 0)))
  sNil))))
theorem sh_thing_text (T : Tab) (L : Dn) : denSs (denS T L (lamG G f_thing_text) f_thing_text.N (defScope f_thing_text.st) f_thing_text.ow 12) (defBody f_thing_text.st) = b_thing_text T L := by kernel_rfl
theorem at_thing_text (n : Nat) (d0 : D) (st : Store) : tab G fs (n + 1) (Str.ofString "thing_text") [d0] st = run (b_thing_text (tab G fs n) (tabL G fs n)) [.v d0, .no] st :=
  tab_at (f := f_thing_text) n (by kernel_rfl) rfl sh_thing_text rfl st
def b_number_from (T : Tab) (L : Dn) : SX :=
  (sCons (sSet 2 (eIf (tCmp .Eq (eSl (eBor 0) (pYes (eVar 1)) (pYes (eBin .Add (eVar 1) (eK (.int 1))))) (eK (.str (Str.ofString "-")))) (eBin .Add (eVar 1) (eK (.int 1))) (eVar 1)))
  (sCons (sWhile (tAnd (tCmp .Lt (eBor 2) (eBlt1 (Str.ofString "len") (eBor 0))) (tCmp .In (eIx (eBor 0) (eVar 2)) (eK (.str (Str.ofString "0123456789")))))
   (sCons (sAug 2 .Add (eK (.int 1)))
    sNil))
  (sCons (sSet 3 (eSl (eBor 0) (pYes (eVar 1)) (pYes (eVar 2))))
  (sCons (sSet 4 (eMeth (Str.ofString "lstrip") (eVar 3) (eK (.str (Str.ofString "-")))))
  (sCons (sIf (tOr (tCmp .Eq (eBor 4) (eK (.str (Str.ofString "")))) (tOr (tCmp .Gt (eBlt1 (Str.ofString "len") (eBor 4)) (eK (.int 400))) (tAnd (tCmp .Eq (eIx (eBor 4) (eK (.int 0))) (eK (.str (Str.ofString "0")))) (tCmp .NotEq (eBor 3) (eK (.str (Str.ofString "0")))))))
   (sCons (sRet (eK .non))
    sNil)
   sNil)
  (sCons (sRet (eTup (aCons (eBlt1 (Str.ofString "int") (eBor 3)) (aCons (eVar 2) aNil))))
  sNil))))))
theorem sh_number_from (T : Tab) (L : Dn) : denSs (denS T L (lamG G f_number_from) f_number_from.N (defScope f_number_from.st) f_number_from.ow 12) (defBody f_number_from.st) = b_number_from T L := by kernel_rfl
theorem at_number_from (n : Nat) (d0 d1 : D) (st : Store) : tab G fs (n + 1) (Str.ofString "number_from") [d0, d1] st = run (b_number_from (tab G fs n) (tabL G fs n)) [.v d0, .v d1, .no, .no, .no] st :=
  tab_at (f := f_number_from) n (by kernel_rfl) rfl sh_number_from rfl st
def b_text_from (T : Tab) (L : Dn) : SX :=
  (sCons (sOwn 2 aNil)
  (sCons (sAug 1 .Add (eK (.int 1)))
  (sCons (sWhile (tAnd (tCmp .Lt (eBor 1) (eBlt1 (Str.ofString "len") (eBor 0))) (tCmp .NotEq (eIx (eBor 0) (eVar 1)) (eK (.str (Str.ofString "\"")))))
   (sCons (sIf (tCmp .Eq (eIx (eBor 0) (eVar 1)) (eK (.str (Str.ofString "\\"))))
     (sCons (sAug 1 .Add (eK (.int 1)))
      (sCons (sIf (tCmp .NotIn (eSl (eBor 0) (pYes (eVar 1)) (pYes (eBin .Add (eVar 1) (eK (.int 1))))) (eTup (aCons (eK (.str (Str.ofString "\""))) (aCons (eK (.str (Str.ofString "\\"))) aNil))))
       (sCons (sRet (eK .non))
        sNil)
       sNil)
      sNil))
     sNil)
    (sCons (sIf (tNot (tChain .LtE .LtE (eK (.str (Str.ofString " "))) (eIx (eBor 0) (eVar 1)) (eK (.str (Str.ofString "~")))))
     (sCons (sRet (eK .non))
      sNil)
     sNil)
    (sCons (sApp 2 (eIx (eBor 0) (eVar 1)))
    (sCons (sAug 1 .Add (eK (.int 1)))
    sNil)))))
  (sCons (sRet (eIf (tCmp .Lt (eBor 1) (eBlt1 (Str.ofString "len") (eBor 0))) (eTup (aCons (eMeth (Str.ofString "join") (eK (.str (Str.ofString ""))) (eBor 2)) (aCons (eBin .Add (eVar 1) (eK (.int 1))) aNil))) (eK .non)))
  sNil))))
theorem sh_text_from (T : Tab) (L : Dn) : denSs (denS T L (lamG G f_text_from) f_text_from.N (defScope f_text_from.st) f_text_from.ow 12) (defBody f_text_from.st) = b_text_from T L := by kernel_rfl
theorem at_text_from (n : Nat) (d0 d1 : D) (st : Store) : tab G fs (n + 1) (Str.ofString "text_from") [d0, d1] st = run (b_text_from (tab G fs n) (tabL G fs n)) [.v d0, .v d1, .no] st :=
  tab_at (f := f_text_from) n (by kernel_rfl) rfl sh_text_from rfl st
def b_tuple_from (T : Tab) (L : Dn) : SX :=
  (sCons (sIf (tCmp .Eq (eSl (eBor 0) (pYes (eBin .Add (eVar 1) (eK (.int 1)))) (pYes (eBin .Add (eVar 1) (eK (.int 2))))) (eK (.str (Str.ofString ")"))))
   (sCons (sRet (eTup (aCons (eTup aNil) (aCons (eBin .Add (eVar 1) (eK (.int 2))) aNil))))
    sNil)
   sNil)
  (sCons (sOwn 3 aNil)
  (sCons (sWhile (tOf (eK (.bl true)))
   (sCons (sSet 4 (eIf (tCmp .Gt (eBor 2) (eK (.int 0))) (eCall T (Str.ofString "thing_from") (aCons (eVar 0) (aCons (eBin .Add (eVar 1) (eK (.int 1))) (aCons (eBin .Sub (eVar 2) (eK (.int 1))) aNil)))) (eK .non)))
    (sCons (sIf (tCmp .Is (eBor 4) (eK .non))
     (sCons (sRet (eK .non))
      sNil)
     sNil)
    (sCons (sSetT [((Str.ofString "thing"), 5), ((Str.ofString "at"), 1)] (eVar 4))
    (sCons (sApp 3 (eVar 5))
    (sCons (sIf (tCmp .Eq (eSl (eBor 0) (pYes (eVar 1)) (pYes (eBin .Add (eVar 1) (eK (.int 1))))) (eK (.str (Str.ofString ")"))))
     (sCons (sRet (eTup (aCons (eBlt1 (Str.ofString "tuple") (eBor 3)) (aCons (eBin .Add (eVar 1) (eK (.int 1))) aNil))))
      sNil)
     sNil)
    (sCons (sIf (tCmp .NotEq (eSl (eBor 0) (pYes (eVar 1)) (pYes (eBin .Add (eVar 1) (eK (.int 2))))) (eK (.str (Str.ofString ", "))))
     (sCons (sRet (eK .non))
      sNil)
     sNil)
    (sCons (sAug 1 .Add (eK (.int 1)))
    sNil))))))))
  sNil)))
theorem sh_tuple_from (T : Tab) (L : Dn) : denSs (denS T L (lamG G f_tuple_from) f_tuple_from.N (defScope f_tuple_from.st) f_tuple_from.ow 12) (defBody f_tuple_from.st) = b_tuple_from T L := by kernel_rfl
theorem at_tuple_from (n : Nat) (d0 d1 d2 : D) (st : Store) : tab G fs (n + 1) (Str.ofString "tuple_from") [d0, d1, d2] st = run (b_tuple_from (tab G fs n) (tabL G fs n)) [.v d0, .v d1, .v d2, .no, .no, .no] st :=
  tab_at (f := f_tuple_from) n (by kernel_rfl) rfl sh_tuple_from rfl st
def b_thing_from (T : Tab) (L : Dn) : SX :=
  (sCons (sSet 3 (eSl (eBor 0) (pYes (eVar 1)) (pYes (eBin .Add (eVar 1) (eK (.int 1))))))
  (sCons (sIf (tCmp .Eq (eBor 3) (eK (.str (Str.ofString "("))))
   (sCons (sRet (eIf (tCmp .Gt (eBor 2) (eK (.int 0))) (eCall T (Str.ofString "tuple_from") (aCons (eVar 0) (aCons (eVar 1) (aCons (eVar 2) aNil)))) (eK .non)))
    sNil)
   sNil)
  (sCons (sIf (tCmp .Eq (eBor 3) (eK (.str (Str.ofString "\""))))
   (sCons (sRet (eCall T (Str.ofString "text_from") (aCons (eVar 0) (aCons (eVar 1) aNil))))
    sNil)
   sNil)
  (sCons (sIf (tCmp .Eq (eSl (eBor 0) (pYes (eVar 1)) (pYes (eBin .Add (eVar 1) (eK (.int 4))))) (eK (.str (Str.ofString "none"))))
   (sCons (sRet (eTup (aCons (eK .non) (aCons (eBin .Add (eVar 1) (eK (.int 4))) aNil))))
    sNil)
   sNil)
  (sCons (sRet (eCall T (Str.ofString "number_from") (aCons (eVar 0) (aCons (eVar 1) aNil))))
  sNil)))))
theorem sh_thing_from (T : Tab) (L : Dn) : denSs (denS T L (lamG G f_thing_from) f_thing_from.N (defScope f_thing_from.st) f_thing_from.ow 12) (defBody f_thing_from.st) = b_thing_from T L := by kernel_rfl
theorem at_thing_from (n : Nat) (d0 d1 d2 : D) (st : Store) : tab G fs (n + 1) (Str.ofString "thing_from") [d0, d1, d2] st = run (b_thing_from (tab G fs n) (tabL G fs n)) [.v d0, .v d1, .v d2, .no] st :=
  tab_at (f := f_thing_from) n (by kernel_rfl) rfl sh_thing_from rfl st
def b_read_whole (T : Tab) (L : Dn) : SX :=
  (sCons (sSet 2 (eCall T (Str.ofString "thing_from") (aCons (eVar 0) (aCons (eK (.int 0)) (aCons (eK (.int 8)) aNil)))))
  (sCons (sIf (tOr (tCmp .Is (eBor 2) (eK .non)) (tCmp .NotEq (eIx (eBor 2) (eK (.int 1))) (eBlt1 (Str.ofString "len") (eBor 0))))
   (sCons (sRaise1 (Str.ofString "NoText") (Str.ofString "row") (eVar 1))
    sNil)
   sNil)
  (sCons (sRet (eIx (eBor 2) (eK (.int 0))))
  sNil)))
theorem sh_read_whole (T : Tab) (L : Dn) : denSs (denS T L (lamG G f_read_whole) f_read_whole.N (defScope f_read_whole.st) f_read_whole.ow 12) (defBody f_read_whole.st) = b_read_whole T L := by kernel_rfl
theorem at_read_whole (n : Nat) (d0 d1 : D) (st : Store) : tab G fs (n + 1) (Str.ofString "read_whole") [d0, d1] st = run (b_read_whole (tab G fs n) (tabL G fs n)) [.v d0, .v d1, .no] st :=
  tab_at (f := f_read_whole) n (by kernel_rfl) rfl sh_read_whole rfl st
def b_board_text (T : Tab) (L : Dn) : SX :=
  (sCons (sRet (eMeth (Str.ofString "join") (eK (.str (Str.ofString ""))) (eOfA (xComp [1] (xOwn 0 (xSeq (eVar 0))) (gOne 1) tYes (eBin .Add (eCall T (Str.ofString "thing_text") (aCons (eVar 1) aNil)) (eK (.str (Str.ofString "\n"))))))))
  sNil)
theorem sh_board_text (T : Tab) (L : Dn) : denSs (denS T L (lamG G f_board_text) f_board_text.N (defScope f_board_text.st) f_board_text.ow 12) (defBody f_board_text.st) = b_board_text T L := by kernel_rfl
theorem at_board_text (n : Nat) (d0 : D) (st : Store) : tab G fs (n + 1) (Str.ofString "board_text") [d0] st = run (b_board_text (tab G fs n) (tabL G fs n)) [.v d0, .no] st :=
  tab_at (f := f_board_text) n (by kernel_rfl) rfl sh_board_text rfl st
def b_read_board (T : Tab) (L : Dn) : SX :=
  (sCons (sIf (tNot (tOf (eInst (eVar 0) ["str"])))
   (sCons (sRaise1 (Str.ofString "NoText") (Str.ofString "row") (eK (.int 0)))
    sNil)
   sNil)
  (sCons (sStar 6 2 (eMeth (Str.ofString "split") (eVar 0) (eK (.str (Str.ofString "\n")))))
  (sCons (sOwn 1 aNil)
  (sCons (sFor (xEnum (eVar 6)) (gMany [((Str.ofString "at"), 3), ((Str.ofString "row"), 4)])
   (sCons (sSet 5 (eCall T (Str.ofString "read_whole") (aCons (eVar 4) (aCons (eVar 3) aNil))))
    (sCons (sIf (tNot (tOf (eInst (eVar 5) ["tuple"])))
     (sCons (sRaise1 (Str.ofString "NoText") (Str.ofString "row") (eVar 3))
      sNil)
     sNil)
    (sCons (sApp 1 (eVar 5))
    sNil))))
  (sCons (sIf (tCmp .NotEq (eBor 2) (eK (.str (Str.ofString ""))))
   (sCons (sRaise1 (Str.ofString "NoText") (Str.ofString "row") (eBlt1 (Str.ofString "len") (eBor 6)))
    sNil)
   sNil)
  (sCons (sRet (eBlt1 (Str.ofString "tuple") (eBor 1)))
  sNil))))))
theorem sh_read_board (T : Tab) (L : Dn) : denSs (denS T L (lamG G f_read_board) f_read_board.N (defScope f_read_board.st) f_read_board.ow 12) (defBody f_read_board.st) = b_read_board T L := by kernel_rfl
theorem at_read_board (n : Nat) (d0 : D) (st : Store) : tab G fs (n + 1) (Str.ofString "read_board") [d0] st = run (b_read_board (tab G fs n) (tabL G fs n)) [.v d0, .no, .no, .no, .no, .no, .no] st :=
  tab_at (f := f_read_board) n (by kernel_rfl) rfl sh_read_board rfl st
def b_law_begun (T : Tab) (L : Dn) : SX :=
  (sCons (sSet 2 (eBin .Add (eK (.int 1)) (eBin .Mod (eBin .Pow (eBin .Add (eBin .Add (eBin .Mult (eBin .Mod (eVar 0) (eK (.int 2147483647))) (eK (.int 48271))) (eBin .Mult (eK (.int 104729)) (eVar 1))) (eK (.int 7))) (eK (.int 3))) (eK (.int 2147483629)))))
  (sCons (sIf (tCmp .GtE (eBor 0) (eBin .Pow (eK (.int 10)) (eK (.int 18))))
   (sCons (sRetNew (aCons (eBin .Sub (eVar 0) (eBin .Pow (eK (.int 10)) (eK (.int 18)))) (aCons (eVar 2) (aCons (eK (.int 0)) aNil))))
    sNil)
   sNil)
  (sCons (sRetNew (aCons (eK (.int 0)) (aCons (eVar 2) (aCons (eK (.int 0)) aNil))))
  sNil)))
theorem sh_law_begun (T : Tab) (L : Dn) : denSs (denS T L (lamG G f_law_begun) f_law_begun.N (defScope f_law_begun.st) f_law_begun.ow 12) (defBody f_law_begun.st) = b_law_begun T L := by kernel_rfl
theorem at_law_begun (n : Nat) (d0 d1 : D) (st : Store) : tab G fs (n + 1) (Str.ofString "_law_begun") [d0, d1] st = run (b_law_begun (tab G fs n) (tabL G fs n)) [.v d0, .v d1, .no] st :=
  tab_at (f := f_law_begun) n (by kernel_rfl) rfl sh_law_begun rfl st
def b_law_next (T : Tab) (L : Dn) : SX :=
  (sCons (sIf (tCmp .Gt (eIx (eBor 0) (eK (.int 0))) (eK (.int 0)))
   (sCons (sSet 3 (eBin .Mod (eIx (eBor 0) (eK (.int 0))) (eVar 1)))
    (sCons (sSub 0 (eK (.int 0)) (eBin .FloorDiv (eIx (eBor 0) (eK (.int 0))) (eVar 1)))
    (sCons (sRetV 3)
    sNil)))
   sNil)
  (sCons (sSub 0 (eK (.int 2)) (eBin .Add (eIx (eBor 0) (eK (.int 2))) (eK (.int 1))))
  (sCons (sSet 2 (eBin .Mod (eBin .Pow (eBin .Add (eBin .Add (eBin .Mult (eIx (eBor 0) (eK (.int 1))) (eBin .Add (eBin .Mult (eK (.int 2)) (eIx (eBor 0) (eK (.int 2)))) (eK (.int 1)))) (eBin .Mult (eBin .Mult (eK (.int 7919)) (eIx (eBor 0) (eK (.int 2)))) (eIx (eBor 0) (eK (.int 2))))) (eK (.int 11))) (eK (.int 5))) (eK (.int 2147483647))))
  (sCons (sRet (eBin .Mod (eBin .FloorDiv (eVar 2) (eK (.int 11))) (eVar 1)))
  sNil))))
theorem sh_law_next (T : Tab) (L : Dn) : denSs (denS T L (lamG G f_law_next) f_law_next.N (defScope f_law_next.st) f_law_next.ow 12) (defBody f_law_next.st) = b_law_next T L := by kernel_rfl
theorem at_law_next (n : Nat) (d0 d1 : D) (st : Store) : tab G fs (n + 1) (Str.ofString "_law_next") [d0, d1] st = run (b_law_next (tab G fs n) (tabL G fs n)) [.v d0, .v d1, .no, .no] st :=
  tab_at (f := f_law_next) n (by kernel_rfl) rfl sh_law_next rfl st
def b_law_pick (T : Tab) (L : Dn) : SX :=
  (sCons (sRet (eIx (eBor 1) (eCall T (Str.ofString "_law_next") (aCons (eVar 0) (aCons (eBlt1 (Str.ofString "len") (eBor 1)) aNil)))))
  sNil)
theorem sh_law_pick (T : Tab) (L : Dn) : denSs (denS T L (lamG G f_law_pick) f_law_pick.N (defScope f_law_pick.st) f_law_pick.ow 12) (defBody f_law_pick.st) = b_law_pick T L := by kernel_rfl
theorem at_law_pick (n : Nat) (d0 d1 : D) (st : Store) : tab G fs (n + 1) (Str.ofString "_law_pick") [d0, d1] st = run (b_law_pick (tab G fs n) (tabL G fs n)) [.v d0, .v d1] st :=
  tab_at (f := f_law_pick) n (by kernel_rfl) rfl sh_law_pick rfl st
def b_law_like (T : Tab) (L : Dn) : SX :=
  (sCons (sIf (tOf (eInst (eVar 1) ["tuple", "list"]))
   (sCons (sIf (tOr (tNot (tOf (eInst (eVar 0) ["tuple", "list"]))) (tCmp .NotEq (eInst (eVar 0) ["tuple"]) (eInst (eVar 1) ["tuple"])))
     (sCons (sRet (eK (.bl false)))
      sNil)
     sNil)
    (sCons (sSetL 2 (xComp [3] (xRange1 (eBlt (Str.ofString "min") (aCons (eBlt1 (Str.ofString "len") (eBor 0)) (aCons (eBlt1 (Str.ofString "len") (eBor 1)) aNil)))) (gOne 3) (tNot (tOf (eCall T (Str.ofString "_law_like") (aCons (eIx (eBor 0) (eVar 3)) (aCons (eIx (eBor 1) (eVar 3)) aNil))))) (eVar 3)))
    (sCons (sRet (eAnd (eT (tCmp .Eq (eBlt1 (Str.ofString "len") (eBor 0)) (eBlt1 (Str.ofString "len") (eBor 1)))) (eT (tCmp .Eq (eBor 2) (eLst aNil)))))
    sNil)))
   sNil)
  (sCons (sIf (tOf (eInst (eVar 1) ["dict"]))
   (sCons (sIf (tOr (tNot (tOf (eInst (eVar 0) ["dict"]))) (tCmp .NotEq (eBlt1 (Str.ofString "list") (eBor 0)) (eBlt1 (Str.ofString "list") (eBor 1))))
     (sCons (sRet (eK (.bl false)))
      sNil)
     sNil)
    (sCons (sRet (eT (tCmp .Eq (eOfA (xComp [4] (xOwn 1 (xSeq (eVar 1))) (gOne 4) (tNot (tOf (eCall T (Str.ofString "_law_like") (aCons (eIx (eBor 0) (eVar 4)) (aCons (eIx (eBor 1) (eVar 4)) aNil))))) (eVar 4))) (eLst aNil))))
    sNil))
   sNil)
  (sCons (sIf (tOr (tCmp .Is (eBor 1) (eK .non)) (tCmp .Is (eBor 0) (eK .non)))
   (sCons (sRet (eAnd (eT (tCmp .Is (eBor 0) (eK .non))) (eT (tCmp .Is (eBor 1) (eK .non)))))
    sNil)
   sNil)
  (sCons (sIf (tOf (eInst (eVar 1) ["str"]))
   (sCons (sRet (eAnd (eInst (eVar 0) ["str"]) (eT (tCmp .Eq (eBor 0) (eBor 1)))))
    sNil)
   sNil)
  (sCons (sRet (eAnd (eInst (eVar 0) ["int"]) (eAnd (eT (tCmp .Eq (eInst (eVar 0) ["bool"]) (eInst (eVar 1) ["bool"]))) (eT (tCmp .Eq (eBor 0) (eBor 1))))))
  sNil)))))
theorem sh_law_like (T : Tab) (L : Dn) : denSs (denS T L (lamG G f_law_like) f_law_like.N (defScope f_law_like.st) f_law_like.ow 12) (defBody f_law_like.st) = b_law_like T L := by kernel_rfl
theorem at_law_like (n : Nat) (d0 d1 : D) (st : Store) : tab G fs (n + 1) (Str.ofString "_law_like") [d0, d1] st = run (b_law_like (tab G fs n) (tabL G fs n)) [.v d0, .v d1, .no, .no, .no] st :=
  tab_at (f := f_law_like) n (by kernel_rfl) rfl sh_law_like rfl st
def b_law_any_sign (T : Tab) (L : Dn) : SX :=
  (sCons (sSet 1 (eK (.str (Str.ofString " !\"#$&'()*+,-./0123456789:;<=>?@ABCDEFGHIJKLMNOPQRSTUVWXYZ[\\]^_`abcdefghijklmnopqrstuvwxyz{|}~"))))
  (sCons (sRet (eCall T (Str.ofString "_law_pick") (aCons (eVar 0) (aCons (eVar 1) aNil))))
  sNil))
theorem sh_law_any_sign (T : Tab) (L : Dn) : denSs (denS T L (lamG G f_law_any_sign) f_law_any_sign.N (defScope f_law_any_sign.st) f_law_any_sign.ow 12) (defBody f_law_any_sign.st) = b_law_any_sign T L := by kernel_rfl
theorem at_law_any_sign (n : Nat) (d0 : D) (st : Store) : tab G fs (n + 1) (Str.ofString "_law_any_sign") [d0] st = run (b_law_any_sign (tab G fs n) (tabL G fs n)) [.v d0, .no] st :=
  tab_at (f := f_law_any_sign) n (by kernel_rfl) rfl sh_law_any_sign rfl st
def b_law_ten (T : Tab) (L : Dn) : SX :=
  (sCons (sSet 1 (eK (.int 1)))
  (sCons (sFor (xRange1 (eVar 0)) (gOne 2)
   (sCons (sSet 1 (eBin .Mult (eVar 1) (eK (.int 10))))
    sNil))
  (sCons (sRetV 1)
  sNil)))
theorem sh_law_ten (T : Tab) (L : Dn) : denSs (denS T L (lamG G f_law_ten) f_law_ten.N (defScope f_law_ten.st) f_law_ten.ow 12) (defBody f_law_ten.st) = b_law_ten T L := by kernel_rfl
theorem at_law_ten (n : Nat) (d0 : D) (st : Store) : tab G fs (n + 1) (Str.ofString "_law_ten") [d0] st = run (b_law_ten (tab G fs n) (tabL G fs n)) [.v d0, .no, .no] st :=
  tab_at (f := f_law_ten) n (by kernel_rfl) rfl sh_law_ten rfl st
def b_law_alone (T : Tab) (L : Dn) : SX :=
  (sCons (sSet 1 (eLst (aCons (eIsX G (Str.ofString "NoName") (eVar 0)) (aCons (eIsX G (Str.ofString "NoDay") (eVar 0)) (aCons (eIsX G (Str.ofString "NoRace") (eVar 0)) (aCons (eIsX G (Str.ofString "NoMark") (eVar 0)) aNil))))))
  (sCons (sSet 1 (eBin .Add (eVar 1) (eLst (aCons (eIsX G (Str.ofString "NoCode") (eVar 0)) (aCons (eIsX G (Str.ofString "NoPlace") (eVar 0)) (aCons (eIsX G (Str.ofString "NoStub") (eVar 0)) (aCons (eIsX G (Str.ofString "NoWay") (eVar 0)) aNil)))))))
  (sCons (sSet 1 (eBin .Add (eVar 1) (eLst (aCons (eIsX G (Str.ofString "NoTime") (eVar 0)) (aCons (eIsX G (Str.ofString "NoLetter") (eVar 0)) (aCons (eIsX G (Str.ofString "NotWhole") (eVar 0)) aNil))))))
  (sCons (sSet 1 (eBin .Add (eVar 1) (eLst (aCons (eIsX G (Str.ofString "NoRuling") (eVar 0)) (aCons (eIsX G (Str.ofString "NoChain") (eVar 0)) (aCons (eIsX G (Str.ofString "NoBits") (eVar 0)) (aCons (eIsX G (Str.ofString "NoLot") (eVar 0)) aNil)))))))
  (sCons (sSet 1 (eBin .Add (eVar 1) (eLst (aCons (eIsX G (Str.ofString "NoCount") (eVar 0)) (aCons (eIsX G (Str.ofString "NoPhase") (eVar 0)) (aCons (eIsX G (Str.ofString "Twice") (eVar 0)) (aCons (eIsX G (Str.ofString "NotThere") (eVar 0)) aNil)))))))
  (sCons (sSet 1 (eBin .Add (eVar 1) (eLst (aCons (eIsX G (Str.ofString "NoRow") (eVar 0)) (aCons (eIsX G (Str.ofString "NoText") (eVar 0)) aNil)))))
  (sCons (sIf (tOr (tCmp .NotEq (eLm (Str.ofString "count") (eBor 1) (eK (.bl true))) (eK (.int 1))) (tOr (tNot (tOf (eIsX G (Str.ofString "VoteError") (eVar 0)))) (tNot (tOf (eIsX G (Str.ofString "ValueError") (eVar 0))))))
   (sCons (sRet (eK (.str (Str.ofString ""))))
    sNil)
   sNil)
  (sCons (sSet 2 (eK (.str (Str.ofString "NoName NoDay NoRace NoMark NoCode NoPlace NoStub NoWay NoTime NoLetter NotWhole NoRuling"))))
  (sCons (sSet 2 (eBin .Add (eVar 2) (eK (.str (Str.ofString " NoChain NoBits NoLot NoCount NoPhase Twice NotThere NoRow NoText")))))
  (sCons (sRet (eIx (eMeth (Str.ofString "split") (eVar 2) (eK (.str (Str.ofString " ")))) (eLm (Str.ofString "index") (eBor 1) (eK (.bl true)))))
  sNil))))))))))
theorem sh_law_alone (T : Tab) (L : Dn) : denSs (denS T L (lamG G f_law_alone) f_law_alone.N (defScope f_law_alone.st) f_law_alone.ow 12) (defBody f_law_alone.st) = b_law_alone T L := by kernel_rfl
theorem at_law_alone (n : Nat) (d0 : D) (st : Store) : tab G fs (n + 1) (Str.ofString "_law_alone") [d0] st = run (b_law_alone (tab G fs n) (tabL G fs n)) [.v d0, .no, .no] st :=
  tab_at (f := f_law_alone) n (by kernel_rfl) rfl sh_law_alone rfl st
def b_law_refusal (T : Tab) (L : Dn) : SX :=
  (sCons (sSet 1 (eCall T (Str.ofString "_law_alone") (aCons (eVar 0) aNil)))
  (sCons (sIf (tCmp .Eq (eBor 1) (eK (.str (Str.ofString "NotThere"))))
   (sCons (sRet (eLst (aCons (eVar 1) (aCons (eFld G (Str.ofString "thing") (eVar 0)) aNil))))
    sNil)
   sNil)
  (sCons (sIf (tCmp .Eq (eBor 1) (eK (.str (Str.ofString "NoRow"))))
   (sCons (sRet (eLst (aCons (eVar 1) (aCons (eFld G (Str.ofString "at") (eVar 0)) aNil))))
    sNil)
   sNil)
  (sCons (sRet (eIf (tCmp .Eq (eBor 1) (eK (.str (Str.ofString "NoText")))) (eLst (aCons (eVar 1) (aCons (eFld G (Str.ofString "row") (eVar 0)) aNil))) (eLst (aCons (eVar 1) aNil))))
  sNil))))
theorem sh_law_refusal (T : Tab) (L : Dn) : denSs (denS T L (lamG G f_law_refusal) f_law_refusal.N (defScope f_law_refusal.st) f_law_refusal.ow 12) (defBody f_law_refusal.st) = b_law_refusal T L := by kernel_rfl
theorem at_law_refusal (n : Nat) (d0 : D) (st : Store) : tab G fs (n + 1) (Str.ofString "_law_refusal") [d0] st = run (b_law_refusal (tab G fs n) (tabL G fs n)) [.v d0, .no] st :=
  tab_at (f := f_law_refusal) n (by kernel_rfl) rfl sh_law_refusal rfl st
def b_law_safe_told (T : Tab) (L : Dn) : SX :=
  (sCons (sRet (eIf (tCmp .Is (eBor 2) (eK .non)) (eVar 1) (eCall T (Str.ofString "_law_refusal") (aCons (eVar 2) aNil))))
  sNil)
theorem sh_law_safe_told (T : Tab) (L : Dn) : denSs (denS T L (lamG G f_law_safe_told) f_law_safe_told.N (defScope f_law_safe_told.st) f_law_safe_told.ow 12) ((defBody f_law_safe_told.st).drop 2) = b_law_safe_told T L := by kernel_rfl
def t_law_safe_told : Told := ⟨[.v .non, .v .non, .no], some 0, (Str.ofString "VoteError"), 2, 1⟩
theorem pre_law_safe_told (T : Tab) (L : Dn) (v : V) (st : Store) : denS T L (lamG G f_law_safe_told) f_law_safe_told.N (defScope f_law_safe_told.st) f_law_safe_told.ow 12 ((defBody f_law_safe_told.st).getD 0 (.Pass ⟨0, 0, 0, 0⟩)) (.v (.lit v) :: List.replicate (f_law_safe_told.N.length - 1) .no) st = .next (.v (.lit v) :: t_law_safe_told.env) st := by kernel_rfl
theorem ta_law_safe_told : ToldAt G f_law_safe_told t_law_safe_told := ⟨by decide, ⟨(Str.ofString "_law_work"), rfl, rfl, .inl (by kernel_rfl), by decide +kernel, _, (defBody f_law_safe_told.st).getD 1 (.Pass ⟨0, 0, 0, 0⟩), (defBody f_law_safe_told.st).drop 2, by kernel_rfl, by kernel_rfl, pre_law_safe_told⟩⟩
theorem at_law_safe_told (n : Nat) (ds : List D) (st : Store) : tab G fs (n + 1) (Str.ofString "_law_safe_told") ds st = (match ds with
    | [.tup [d]] => run (b_law_safe_told (tab G fs n) (tabL G fs n)) (.no :: (match t_law_safe_told.x with
      | some i => t_law_safe_told.env.set i (.v d)
      | none => t_law_safe_told.env)) st
    | [.exn c ns es] => if (G.exc c).isSome = true ∧ G.sub c t_law_safe_told.c = true then run (b_law_safe_told (tab G fs n) (tabL G fs n)) (.no :: (t_law_safe_told.env.set t_law_safe_told.z (.v (.exn c ns es))).set t_law_safe_told.n .no) st else .stuck
    | _ => .stuck) := told_at (f := f_law_safe_told) (t := t_law_safe_told) n (by kernel_rfl) rfl sh_law_safe_told ds st
def b_law_thing (T : Tab) (L : Dn) : SX :=
  (sCons (sSet 2 (eCall T (Str.ofString "_law_next") (aCons (eVar 0) (aCons (eK (.int 8)) aNil))))
  (sCons (sIf (tCmp .Lt (eBor 2) (eK (.int 2)))
   (sCons (sSet 3 (eLst (aCons (eK (.int 0)) (aCons (eK (.int 1)) (aCons (eK (.int 7)) (aCons (eNeg (eK (.int 1))) (aCons (eK (.int 10)) (aCons (eNeg (eK (.int 10))) (aCons (eK (.int 1000000000)) (aCons (eBin .Sub (eCall T (Str.ofString "_law_next") (aCons (eVar 0) (aCons (eK (.int 5000)) aNil))) (eK (.int 2500))) (aCons (eBin .Add (eCall T (Str.ofString "_law_ten") (aCons (eK (.int 39)) aNil)) (eK (.int 7))) (aCons (eBin .Sub (eK (.int 1)) (eCall T (Str.ofString "_law_ten") (aCons (eK (.int 30)) aNil))) aNil))))))))))))
    (sCons (sRet (eCall T (Str.ofString "_law_pick") (aCons (eVar 0) (aCons (eVar 3) aNil))))
    sNil))
   sNil)
  (sCons (sIf (tCmp .Eq (eBor 2) (eK (.int 2)))
   (sCons (sRet (eK .non))
    sNil)
   sNil)
  (sCons (sIf (tOr (tCmp .Lt (eBor 2) (eK (.int 5))) (tCmp .Eq (eBor 1) (eK (.int 0))))
   (sCons (sSet 4 (eLst (aCons (eK (.str (Str.ofString "\""))) (aCons (eK (.str (Str.ofString "\\"))) (aCons (eK (.str (Str.ofString "none"))) (aCons (eK (.str (Str.ofString "("))) (aCons (eK (.str (Str.ofString ")"))) (aCons (eK (.str (Str.ofString ", "))) (aCons (eK (.str (Str.ofString "-1"))) (aCons (eK (.str (Str.ofString "a"))) (aCons (eK (.str (Str.ofString " "))) (aCons (eK (.str (Str.ofString "\\\""))) (aCons (eK (.str (Str.ofString "\"\""))) (aCons (eK (.str (Str.ofString "~"))) (aCons (eK (.str (Str.ofString "1"))) aNil)))))))))))))))
    (sCons (sOwn 5 aNil)
    (sCons (sFor (xRange1 (eCall T (Str.ofString "_law_next") (aCons (eVar 0) (aCons (eK (.int 5)) aNil)))) (gOne 6)
     (sCons (sApp 5 (eIf (tCmp .Eq (eCall T (Str.ofString "_law_next") (aCons (eVar 0) (aCons (eK (.int 2)) aNil))) (eK (.int 0))) (eCall T (Str.ofString "_law_pick") (aCons (eVar 0) (aCons (eVar 4) aNil))) (eCall T (Str.ofString "_law_any_sign") (aCons (eVar 0) aNil))))
      sNil))
    (sCons (sRet (eMeth (Str.ofString "join") (eK (.str (Str.ofString ""))) (eBor 5)))
    sNil))))
   sNil)
  (sCons (sRet (eBlt1 (Str.ofString "tuple") (eOfA (xComp [6] (xRange1 (eCall T (Str.ofString "_law_next") (aCons (eVar 0) (aCons (eK (.int 4)) aNil)))) (gOne 6) tYes (eCall T (Str.ofString "_law_thing") (aCons (eVar 0) (aCons (eBin .Sub (eVar 1) (eK (.int 1))) aNil)))))))
  sNil)))))
theorem sh_law_thing (T : Tab) (L : Dn) : denSs (denS T L (lamG G f_law_thing) f_law_thing.N (defScope f_law_thing.st) f_law_thing.ow 12) (defBody f_law_thing.st) = b_law_thing T L := by kernel_rfl
theorem at_law_thing (n : Nat) (d0 d1 : D) (st : Store) : tab G fs (n + 1) (Str.ofString "_law_thing") [d0, d1] st = run (b_law_thing (tab G fs n) (tabL G fs n)) [.v d0, .v d1, .no, .no, .no, .no, .no] st :=
  tab_at (f := f_law_thing) n (by kernel_rfl) rfl sh_law_thing rfl st
def b_law_text (T : Tab) (L : Dn) : SX :=
  (sCons (sIf (tOf (eInst (eVar 0) ["tuple"]))
   (sCons (sRet (eBin .Add (eBin .Add (eK (.str (Str.ofString "("))) (eMeth (Str.ofString "join") (eK (.str (Str.ofString ", "))) (eOfA (xComp [3] (xOwn 0 (xSeq (eVar 0))) (gOne 3) tYes (eCall T (Str.ofString "_law_text") (aCons (eVar 3) aNil)))))) (eK (.str (Str.ofString ")")))))
    sNil)
   sNil)
  (sCons (sIf (tOf (eInst (eVar 0) ["str"]))
   (sCons (sSetL 1 (xComp [2] (xOwn 0 (xSeq (eVar 0))) (gOne 2) tYes (eBin .Add (eBin .Mult (eK (.str (Str.ofString "\\"))) (eBlt1 (Str.ofString "int") (eT (tCmp .In (eBor 2) (eLst (aCons (eK (.str (Str.ofString "\""))) (aCons (eK (.str (Str.ofString "\\"))) aNil))))))) (eVar 2))))
    (sCons (sRet (eBin .Add (eBin .Add (eK (.str (Str.ofString "\""))) (eMeth (Str.ofString "join") (eK (.str (Str.ofString ""))) (eBor 1))) (eK (.str (Str.ofString "\"")))))
    sNil))
   sNil)
  (sCons (sRet (eIf (tCmp .Is (eBor 0) (eK .non)) (eK (.str (Str.ofString "none"))) (eBlt1 (Str.ofString "str") (eBor 0))))
  sNil)))
theorem sh_law_text (T : Tab) (L : Dn) : denSs (denS T L (lamG G f_law_text) f_law_text.N (defScope f_law_text.st) f_law_text.ow 12) (defBody f_law_text.st) = b_law_text T L := by kernel_rfl
theorem at_law_text (n : Nat) (d0 : D) (st : Store) : tab G fs (n + 1) (Str.ofString "_law_text") [d0] st = run (b_law_text (tab G fs n) (tabL G fs n)) [.v d0, .no, .no, .no] st :=
  tab_at (f := f_law_text) n (by kernel_rfl) rfl sh_law_text rfl st
def b_law_read_word (T : Tab) (L : Dn) : SX :=
  (sCons (sOwn 2 aNil)
  (sCons (sWhile (tCmp .Lt (eBor 1) (eBlt1 (Str.ofString "len") (eBor 0)))
   (sCons (sSet 3 (eIx (eBor 0) (eVar 1)))
    (sCons (sIf (tCmp .Eq (eBor 3) (eK (.str (Str.ofString "\""))))
     (sCons (sRet (eTup (aCons (eMeth (Str.ofString "join") (eK (.str (Str.ofString ""))) (eBor 2)) (aCons (eBin .Add (eVar 1) (eK (.int 1))) aNil))))
      sNil)
     sNil)
    (sCons (sIf (tCmp .Eq (eBor 3) (eK (.str (Str.ofString "\\"))))
     (sCons (sSet 1 (eBin .Add (eVar 1) (eK (.int 1))))
      (sCons (sSet 3 (eSl (eBor 0) (pYes (eVar 1)) (pYes (eBin .Add (eVar 1) (eK (.int 1))))))
      (sCons (sIf (tCmp .NotIn (eBor 3) (eLst (aCons (eK (.str (Str.ofString "\""))) (aCons (eK (.str (Str.ofString "\\"))) aNil))))
       (sCons (sRet (eK .non))
        sNil)
       sNil)
      sNil)))
     sNil)
    (sCons (sIf (tNot (tChain .LtE .LtE (eK (.str (Str.ofString " "))) (eVar 3) (eK (.str (Str.ofString "~")))))
     (sCons (sRet (eK .non))
      sNil)
     sNil)
    (sCons (sApp 2 (eVar 3))
    (sCons (sSet 1 (eBin .Add (eVar 1) (eK (.int 1))))
    sNil)))))))
  (sCons (sRet (eK .non))
  sNil)))
theorem sh_law_read_word (T : Tab) (L : Dn) : denSs (denS T L (lamG G f_law_read_word) f_law_read_word.N (defScope f_law_read_word.st) f_law_read_word.ow 12) (defBody f_law_read_word.st) = b_law_read_word T L := by kernel_rfl
theorem at_law_read_word (n : Nat) (d0 d1 : D) (st : Store) : tab G fs (n + 1) (Str.ofString "_law_read_word") [d0, d1] st = run (b_law_read_word (tab G fs n) (tabL G fs n)) [.v d0, .v d1, .no, .no] st :=
  tab_at (f := f_law_read_word) n (by kernel_rfl) rfl sh_law_read_word rfl st
def b_law_read_number (T : Tab) (L : Dn) : SX :=
  (sCons (sSet 2 (eVar 1))
  (sCons (sWhile (tAnd (tCmp .Lt (eBor 2) (eBlt1 (Str.ofString "len") (eBor 0))) (tOr (tCmp .In (eIx (eBor 0) (eVar 2)) (eK (.str (Str.ofString "0123456789")))) (tAnd (tCmp .Eq (eBor 2) (eBor 1)) (tCmp .Eq (eIx (eBor 0) (eVar 2)) (eK (.str (Str.ofString "-")))))))
   (sCons (sSet 2 (eBin .Add (eVar 2) (eK (.int 1))))
    sNil))
  (sCons (sSet 3 (eSl (eBor 0) (pYes (eVar 1)) (pYes (eVar 2))))
  (sCons (sSet 4 (eIf (tCmp .Eq (eSl (eBor 3) pNo (pYes (eK (.int 1)))) (eK (.str (Str.ofString "-")))) (eSl (eBor 3) (pYes (eK (.int 1))) pNo) (eVar 3)))
  (sCons (sIf (tOr (tCmp .Eq (eBor 4) (eK (.str (Str.ofString "")))) (tOr (tCmp .Gt (eBlt1 (Str.ofString "len") (eBor 4)) (eK (.int 400))) (tAnd (tCmp .Eq (eIx (eBor 4) (eK (.int 0))) (eK (.str (Str.ofString "0")))) (tCmp .NotEq (eBor 3) (eK (.str (Str.ofString "0")))))))
   (sCons (sRet (eK .non))
    sNil)
   sNil)
  (sCons (sRet (eTup (aCons (eBlt1 (Str.ofString "int") (eBor 3)) (aCons (eVar 2) aNil))))
  sNil))))))
theorem sh_law_read_number (T : Tab) (L : Dn) : denSs (denS T L (lamG G f_law_read_number) f_law_read_number.N (defScope f_law_read_number.st) f_law_read_number.ow 12) (defBody f_law_read_number.st) = b_law_read_number T L := by kernel_rfl
theorem at_law_read_number (n : Nat) (d0 d1 : D) (st : Store) : tab G fs (n + 1) (Str.ofString "_law_read_number") [d0, d1] st = run (b_law_read_number (tab G fs n) (tabL G fs n)) [.v d0, .v d1, .no, .no, .no] st :=
  tab_at (f := f_law_read_number) n (by kernel_rfl) rfl sh_law_read_number rfl st
def b_law_read_tuple (T : Tab) (L : Dn) : SX :=
  (sCons (sOwn 3 aNil)
  (sCons (sIf (tCmp .Eq (eSl (eBor 0) (pYes (eVar 1)) (pYes (eBin .Add (eVar 1) (eK (.int 1))))) (eK (.str (Str.ofString ")"))))
   (sCons (sRet (eTup (aCons (eTup aNil) (aCons (eBin .Add (eVar 1) (eK (.int 1))) aNil))))
    sNil)
   sNil)
  (sCons (sWhile (tCmp .Gt (eBor 2) (eK (.int 0)))
   (sCons (sSet 4 (eCall T (Str.ofString "_law_read_thing") (aCons (eVar 0) (aCons (eVar 1) (aCons (eBin .Sub (eVar 2) (eK (.int 1))) aNil)))))
    (sCons (sIf (tCmp .Is (eBor 4) (eK .non))
     (sCons (sRet (eK .non))
      sNil)
     sNil)
    (sCons (sApp 3 (eIx (eBor 4) (eK (.int 0))))
    (sCons (sSet 1 (eIx (eBor 4) (eK (.int 1))))
    (sCons (sIf (tCmp .Eq (eSl (eBor 0) (pYes (eVar 1)) (pYes (eBin .Add (eVar 1) (eK (.int 1))))) (eK (.str (Str.ofString ")"))))
     (sCons (sRet (eTup (aCons (eBlt1 (Str.ofString "tuple") (eBor 3)) (aCons (eBin .Add (eVar 1) (eK (.int 1))) aNil))))
      sNil)
     sNil)
    (sCons (sIf (tCmp .NotEq (eSl (eBor 0) (pYes (eVar 1)) (pYes (eBin .Add (eVar 1) (eK (.int 2))))) (eK (.str (Str.ofString ", "))))
     (sCons (sRet (eK .non))
      sNil)
     sNil)
    (sCons (sSet 1 (eBin .Add (eVar 1) (eK (.int 2))))
    sNil))))))))
  (sCons (sRet (eK .non))
  sNil))))
theorem sh_law_read_tuple (T : Tab) (L : Dn) : denSs (denS T L (lamG G f_law_read_tuple) f_law_read_tuple.N (defScope f_law_read_tuple.st) f_law_read_tuple.ow 12) (defBody f_law_read_tuple.st) = b_law_read_tuple T L := by kernel_rfl
theorem at_law_read_tuple (n : Nat) (d0 d1 d2 : D) (st : Store) : tab G fs (n + 1) (Str.ofString "_law_read_tuple") [d0, d1, d2] st = run (b_law_read_tuple (tab G fs n) (tabL G fs n)) [.v d0, .v d1, .v d2, .no, .no] st :=
  tab_at (f := f_law_read_tuple) n (by kernel_rfl) rfl sh_law_read_tuple rfl st
def b_law_read_thing (T : Tab) (L : Dn) : SX :=
  (sCons (sIf (tCmp .Eq (eSl (eBor 0) (pYes (eVar 1)) (pYes (eBin .Add (eVar 1) (eK (.int 1))))) (eK (.str (Str.ofString "("))))
   (sCons (sRet (eIf (tCmp .Gt (eBor 2) (eK (.int 0))) (eCall T (Str.ofString "_law_read_tuple") (aCons (eVar 0) (aCons (eBin .Add (eVar 1) (eK (.int 1))) (aCons (eVar 2) aNil)))) (eK .non)))
    sNil)
   sNil)
  (sCons (sIf (tCmp .Eq (eSl (eBor 0) (pYes (eVar 1)) (pYes (eBin .Add (eVar 1) (eK (.int 1))))) (eK (.str (Str.ofString "\""))))
   (sCons (sRet (eCall T (Str.ofString "_law_read_word") (aCons (eVar 0) (aCons (eBin .Add (eVar 1) (eK (.int 1))) aNil))))
    sNil)
   sNil)
  (sCons (sRet (eIf (tCmp .Eq (eSl (eBor 0) (pYes (eVar 1)) (pYes (eBin .Add (eVar 1) (eK (.int 4))))) (eK (.str (Str.ofString "none")))) (eTup (aCons (eK .non) (aCons (eBin .Add (eVar 1) (eK (.int 4))) aNil))) (eCall T (Str.ofString "_law_read_number") (aCons (eVar 0) (aCons (eVar 1) aNil)))))
  sNil)))
theorem sh_law_read_thing (T : Tab) (L : Dn) : denSs (denS T L (lamG G f_law_read_thing) f_law_read_thing.N (defScope f_law_read_thing.st) f_law_read_thing.ow 12) (defBody f_law_read_thing.st) = b_law_read_thing T L := by kernel_rfl
theorem at_law_read_thing (n : Nat) (d0 d1 d2 : D) (st : Store) : tab G fs (n + 1) (Str.ofString "_law_read_thing") [d0, d1, d2] st = run (b_law_read_thing (tab G fs n) (tabL G fs n)) [.v d0, .v d1, .v d2] st :=
  tab_at (f := f_law_read_thing) n (by kernel_rfl) rfl sh_law_read_thing rfl st
def b_law_told_of (T : Tab) (L : Dn) : SX :=
  (sCons (sSet 1 (eCall T (Str.ofString "_law_read_thing") (aCons (eVar 0) (aCons (eK (.int 0)) (aCons (eK (.int 8)) aNil)))))
  (sCons (sRet (eIf (tAnd (tCmp .IsNot (eBor 1) (eK .non)) (tCmp .Eq (eIx (eBor 1) (eK (.int 1))) (eBlt1 (Str.ofString "len") (eBor 0)))) (eLst (aCons (eIx (eBor 1) (eK (.int 0))) aNil)) (eLst aNil)))
  sNil))
theorem sh_law_told_of (T : Tab) (L : Dn) : denSs (denS T L (lamG G f_law_told_of) f_law_told_of.N (defScope f_law_told_of.st) f_law_told_of.ow 12) (defBody f_law_told_of.st) = b_law_told_of T L := by kernel_rfl
theorem at_law_told_of (n : Nat) (d0 : D) (st : Store) : tab G fs (n + 1) (Str.ofString "_law_told_of") [d0] st = run (b_law_told_of (tab G fs n) (tabL G fs n)) [.v d0, .no] st :=
  tab_at (f := f_law_told_of) n (by kernel_rfl) rfl sh_law_told_of rfl st
def b_law_changed_text (T : Tab) (L : Dn) : SX :=
  (sCons (sPar 4 5 (aCons (eCall T (Str.ofString "_law_next") (aCons (eVar 0) (aCons (eK (.int 3)) aNil))) (aCons (eCall T (Str.ofString "_law_next") (aCons (eVar 0) (aCons (eBin .Add (eBlt1 (Str.ofString "len") (eBor 1)) (eK (.int 1))) aNil))) aNil)))
  (sCons (sSet 2 (eCall T (Str.ofString "_law_pick") (aCons (eVar 0) (aCons (eBin .Add (eK (.str (Str.ofString "\"\\(), -01none"))) (eVar 1)) aNil))))
  (sCons (sSet 3 (eIf (tCmp .Gt (eCall T (Str.ofString "_law_next") (aCons (eVar 0) (aCons (eK (.int 5)) aNil))) (eK (.int 0))) (eVar 2) (eCall T (Str.ofString "_law_any_sign") (aCons (eVar 0) aNil))))
  (sCons (sIf (tCmp .Eq (eBor 4) (eK (.int 0)))
   (sCons (sRet (eBin .Add (eBin .Add (eSl (eBor 1) pNo (pYes (eVar 5))) (eVar 3)) (eSl (eBor 1) (pYes (eVar 5)) pNo)))
    sNil)
   sNil)
  (sCons (sRet (eIf (tCmp .Eq (eBor 4) (eK (.int 1))) (eBin .Add (eSl (eBor 1) pNo (pYes (eVar 5))) (eSl (eBor 1) (pYes (eBin .Add (eVar 5) (eK (.int 1)))) pNo)) (eBin .Add (eBin .Add (eSl (eBor 1) pNo (pYes (eVar 5))) (eVar 3)) (eSl (eBor 1) (pYes (eBin .Add (eVar 5) (eK (.int 1)))) pNo))))
  sNil)))))
theorem sh_law_changed_text (T : Tab) (L : Dn) : denSs (denS T L (lamG G f_law_changed_text) f_law_changed_text.N (defScope f_law_changed_text.st) f_law_changed_text.ow 12) (defBody f_law_changed_text.st) = b_law_changed_text T L := by kernel_rfl
theorem at_law_changed_text (n : Nat) (d0 d1 : D) (st : Store) : tab G fs (n + 1) (Str.ofString "_law_changed_text") [d0, d1] st = run (b_law_changed_text (tab G fs n) (tabL G fs n)) [.v d0, .v d1, .no, .no, .no, .no] st :=
  tab_at (f := f_law_changed_text) n (by kernel_rfl) rfl sh_law_changed_text rfl st
def b_law_due (T : Tab) (L : Dn) : SX :=
  (sCons (sIf (tNot (tOf (eInst (eVar 0) ["str"])))
   (sCons (sRet (eLst (aCons (eK (.str (Str.ofString "NoText"))) (aCons (eK (.int 0)) aNil))))
    sNil)
   sNil)
  (sCons (sParOwn 1 2 (eMeth (Str.ofString "split") (eVar 0) (eK (.str (Str.ofString "\n")))) aNil)
  (sCons (sFor (xEnum (eSl (eBor 1) pNo (pYes (eNeg (eK (.int 1)))))) (gMany [((Str.ofString "_law_at"), 3), ((Str.ofString "_law_row"), 4)])
   (sCons (sSet 5 (eCall T (Str.ofString "_law_told_of") (aCons (eVar 4) aNil)))
    (sCons (sIf (tOr (tCmp .Eq (eBor 5) (eLst aNil)) (tNot (tOf (eInst (eIx (eBor 5) (eK (.int 0))) ["tuple"]))))
     (sCons (sRet (eLst (aCons (eK (.str (Str.ofString "NoText"))) (aCons (eVar 3) aNil))))
      sNil)
     sNil)
    (sCons (sApp 2 (eIx (eBor 5) (eK (.int 0))))
    sNil))))
  (sCons (sRet (eIf (tCmp .Eq (eIx (eBor 1) (eNeg (eK (.int 1)))) (eK (.str (Str.ofString "")))) (eBlt1 (Str.ofString "tuple") (eBor 2)) (eLst (aCons (eK (.str (Str.ofString "NoText"))) (aCons (eBin .Sub (eBlt1 (Str.ofString "len") (eBor 1)) (eK (.int 1))) aNil)))))
  sNil))))
theorem sh_law_due (T : Tab) (L : Dn) : denSs (denS T L (lamG G f_law_due) f_law_due.N (defScope f_law_due.st) f_law_due.ow 12) (defBody f_law_due.st) = b_law_due T L := by kernel_rfl
theorem at_law_due (n : Nat) (d0 : D) (st : Store) : tab G fs (n + 1) (Str.ofString "_law_due") [d0] st = run (b_law_due (tab G fs n) (tabL G fs n)) [.v d0, .no, .no, .no, .no, .no] st :=
  tab_at (f := f_law_due) n (by kernel_rfl) rfl sh_law_due rfl st
def b_law_changed_rows (T : Tab) (L : Dn) : SX :=
  (sCons (sPar 3 2 (aCons (eCall T (Str.ofString "_law_next") (aCons (eVar 0) (aCons (eK (.int 7)) aNil))) (aCons (eCall T (Str.ofString "_law_next") (aCons (eVar 0) (aCons (eBin .Add (eBlt1 (Str.ofString "len") (eBor 1)) (eK (.int 1))) aNil))) aNil)))
  (sCons (sIf (tOr (tCmp .Eq (eBor 3) (eK (.int 0))) (tCmp .Eq (eBor 1) (eLst aNil)))
   (sCons (sSet 4 (eLst (aCons (eK (.str (Str.ofString ""))) (aCons (eK (.str (Str.ofString "none"))) (aCons (eK (.str (Str.ofString "5"))) (aCons (eK (.str (Str.ofString "()"))) (aCons (eK (.str (Str.ofString "(1)"))) (aCons (eK (.str (Str.ofString "\"a\""))) (aCons (eK (.str (Str.ofString "("))) (aCons (eK (.str (Str.ofString " ()"))) (aCons (eK (.str (Str.ofString "() "))) (aCons (eBin .Add (eBin .Add (eK (.str (Str.ofString "("))) (eBin .Mult (eK (.str (Str.ofString "1"))) (eK (.int 400)))) (eK (.str (Str.ofString ")")))) (aCons (eBin .Add (eBin .Add (eK (.str (Str.ofString "("))) (eBin .Mult (eK (.str (Str.ofString "1"))) (eK (.int 401)))) (eK (.str (Str.ofString ")")))) aNil)))))))))))))
    (sCons (sRet (eBin .Add (eBin .Add (eSl (eBor 1) pNo (pYes (eVar 2))) (eLst (aCons (eCall T (Str.ofString "_law_pick") (aCons (eVar 0) (aCons (eVar 4) aNil))) aNil))) (eSl (eBor 1) (pYes (eVar 2)) pNo)))
    sNil))
   sNil)
  (sCons (sIf (tCmp .Eq (eBor 3) (eK (.int 1)))
   (sCons (sRet (eBin .Add (eSl (eBor 1) pNo (pYes (eVar 2))) (eSl (eBor 1) (pYes (eBin .Add (eVar 2) (eK (.int 1)))) pNo)))
    sNil)
   sNil)
  (sCons (sIf (tCmp .Eq (eBor 3) (eK (.int 2)))
   (sCons (sRet (eBin .Add (eBin .Add (eSl (eBor 1) pNo (pYes (eVar 2))) (eSl (eBor 1) (pYes (eVar 2)) (pYes (eBin .Add (eVar 2) (eK (.int 1)))))) (eSl (eBor 1) (pYes (eVar 2)) pNo)))
    sNil)
   sNil)
  (sCons (sSet 2 (eBin .Mod (eVar 2) (eBlt1 (Str.ofString "len") (eBor 1))))
  (sCons (sIf (tCmp .Eq (eBor 3) (eK (.int 3)))
   (sCons (sSet 5 (eCall T (Str.ofString "_law_next") (aCons (eVar 0) (aCons (eBin .Add (eBlt1 (Str.ofString "len") (eIx (eBor 1) (eVar 2))) (eK (.int 1))) aNil))))
    (sCons (sRet (eBin .Add (eBin .Add (eSl (eBor 1) pNo (pYes (eVar 2))) (eLst (aCons (eSl (eIx (eBor 1) (eVar 2)) pNo (pYes (eVar 5))) (aCons (eSl (eIx (eBor 1) (eVar 2)) (pYes (eVar 5)) pNo) aNil)))) (eSl (eBor 1) (pYes (eBin .Add (eVar 2) (eK (.int 1)))) pNo)))
    sNil))
   sNil)
  (sCons (sRet (eBin .Add (eBin .Add (eSl (eBor 1) pNo (pYes (eVar 2))) (eLst (aCons (eCall T (Str.ofString "_law_changed_text") (aCons (eVar 0) (aCons (eIx (eBor 1) (eVar 2)) aNil))) aNil))) (eSl (eBor 1) (pYes (eBin .Add (eVar 2) (eK (.int 1)))) pNo)))
  sNil)))))))
theorem sh_law_changed_rows (T : Tab) (L : Dn) : denSs (denS T L (lamG G f_law_changed_rows) f_law_changed_rows.N (defScope f_law_changed_rows.st) f_law_changed_rows.ow 12) (defBody f_law_changed_rows.st) = b_law_changed_rows T L := by kernel_rfl
theorem at_law_changed_rows (n : Nat) (d0 d1 : D) (st : Store) : tab G fs (n + 1) (Str.ofString "_law_changed_rows") [d0, d1] st = run (b_law_changed_rows (tab G fs n) (tabL G fs n)) [.v d0, .v d1, .no, .no, .no, .no] st :=
  tab_at (f := f_law_changed_rows) n (by kernel_rfl) rfl sh_law_changed_rows rfl st
def b_law_right (T : Tab) (L : Dn) : SX :=
  (sCons (sSet 2 (eCall T (Str.ofString "_law_begun") (aCons (eVar 0) (aCons (eVar 1) aNil))))
  (sCons (sSetL 3 (xComp [10] (xRange1 (eCall T (Str.ofString "_law_next") (aCons (eVar 2) (aCons (eK (.int 7)) aNil)))) (gOne 10) tYes (eBlt1 (Str.ofString "tuple") (eOfA (xComp [11] (xRange1 (eCall T (Str.ofString "_law_next") (aCons (eVar 2) (aCons (eK (.int 5)) aNil)))) (gOne 11) tYes (eCall T (Str.ofString "_law_thing") (aCons (eVar 2) (aCons (eK (.int 2)) aNil))))))))
  (sCons (sSetL 4 (xComp [10] (xOwn 3 (xSeq (eVar 3))) (gOne 10) tYes (eCall T (Str.ofString "_law_text") (aCons (eVar 10) aNil))))
  (sCons (sSet 5 (eMeth (Str.ofString "join") (eK (.str (Str.ofString ""))) (eOfA (xComp [10] (xOwn 4 (xSeq (eVar 4))) (gOne 10) tYes (eBin .Add (eVar 10) (eK (.str (Str.ofString "\n"))))))))
  (sCons (sIf (tNot (tOf (eCall T (Str.ofString "_law_like") (aCons (eLst (aCons (eCall T (Str.ofString "board_text") (aCons (eVar 3) aNil)) (aCons (eCall T (Str.ofString "board_text") (aCons (eBlt1 (Str.ofString "tuple") (eBor 3)) aNil)) aNil))) (aCons (eLst (aCons (eVar 5) (aCons (eVar 5) aNil))) aNil)))))
   (sCons (sRet (eK (.bl false)))
    sNil)
   sNil)
  (sCons (sIf (tNot (tOf (eCall T (Str.ofString "_law_like") (aCons (eCall T (Str.ofString "read_board") (aCons (eVar 5) aNil)) (aCons (eBlt1 (Str.ofString "tuple") (eBor 3)) aNil)))))
   (sCons (sRet (eK (.bl false)))
    sNil)
   sNil)
  (sCons (sFor (xRange1 (eK (.int 6))) (gOne 6)
   (sCons (sSet 8 (eCall T (Str.ofString "_law_changed_rows") (aCons (eVar 2) (aCons (eVar 4) aNil))))
    (sCons (sSet 8 (eIf (tCmp .Eq (eCall T (Str.ofString "_law_next") (aCons (eVar 2) (aCons (eK (.int 3)) aNil))) (eK (.int 0))) (eCall T (Str.ofString "_law_changed_rows") (aCons (eVar 2) (aCons (eVar 8) aNil))) (eVar 8)))
    (sCons (sSet 9 (eMeth (Str.ofString "join") (eK (.str (Str.ofString ""))) (eOfA (xComp [10] (xOwn 8 (xSeq (eVar 8))) (gOne 10) tYes (eBin .Add (eVar 10) (eK (.str (Str.ofString "\n"))))))))
    (sCons (sSet 9 (eIf (tCmp .Eq (eCall T (Str.ofString "_law_next") (aCons (eVar 2) (aCons (eK (.int 6)) aNil))) (eK (.int 0))) (eSl (eBor 9) pNo (pYes (eNeg (eK (.int 1))))) (eVar 9)))
    (sCons (sIf (tNot (tOf (eCall T (Str.ofString "_law_like") (aCons (eLam T (Str.ofString "_law_safe_told") (L.E f_law_right.N (lamOf f_law_right 0).1 (lamOf f_law_right 0).2)) (aCons (eCall T (Str.ofString "_law_due") (aCons (eVar 9) aNil)) aNil)))))
     (sCons (sRet (eK (.bl false)))
      sNil)
     sNil)
    sNil))))))
  (sCons (sSet 7 (eCall T (Str.ofString "_law_pick") (aCons (eVar 2) (aCons (eLst (aCons (eK .non) (aCons (eK (.int 5)) (aCons (eLst aNil) (aCons (eTup aNil) (aCons (eK (.bl true)) (aCons (eLst (aCons (eVar 5) aNil)) aNil))))))) aNil))))
  (sCons (sRet (eCall T (Str.ofString "_law_like") (aCons (eLam T (Str.ofString "_law_safe_told") (L.E f_law_right.N (lamOf f_law_right 1).1 (lamOf f_law_right 1).2)) (aCons (eLst (aCons (eK (.str (Str.ofString "NoText"))) (aCons (eK (.int 0)) aNil))) aNil))))
  sNil)))))))))
theorem sh_law_right (T : Tab) (L : Dn) : denSs (denS T L (lamG G f_law_right) f_law_right.N (defScope f_law_right.st) f_law_right.ow 12) (defBody f_law_right.st) = b_law_right T L := by kernel_rfl
theorem lam_law_right_0 (T : Tab) : (den T stuckDn (noLam G) 40).E f_law_right.N (lamOf f_law_right 0).1 (lamOf f_law_right 0).2 = (eCall T (Str.ofString "read_board") (aCons (eVar 9) aNil)) := by kernel_rfl
theorem lam_law_right_1 (T : Tab) : (den T stuckDn (noLam G) 40).E f_law_right.N (lamOf f_law_right 1).1 (lamOf f_law_right 1).2 = (eCall T (Str.ofString "read_board") (aCons (eVar 7) aNil)) := by kernel_rfl
theorem at_law_right (n : Nat) (d0 d1 : D) (st : Store) : tab G fs (n + 1) (Str.ofString "_law_right") [d0, d1] st = run (b_law_right (tab G fs n) (tabL G fs n)) [.v d0, .v d1, .no, .no, .no, .no, .no, .no, .no, .no, .no, .no] st :=
  tab_at (f := f_law_right) n (by kernel_rfl) rfl sh_law_right rfl st
def b_law_is_wide (T : Tab) (L : Dn) : SX :=
  (sCons (sSet 0 (eTup (aCons (eTupRg (eK (.int 300))) (aCons (eTup (aCons (eBin .Mult (eK (.str (Str.ofString "a\\ \""))) (eK (.int 1250))) (aCons (eTup aNil) aNil))) (aCons (eBlt1 (Str.ofString "tuple") (eOfA (xComp [3] (xRange1 (eK (.int 100))) (gOne 3) tYes (eTup (aCons (eK (.str (Str.ofString "x"))) (aCons (eVar 3) aNil)))))) aNil)))))
  (sCons (sSet 1 (eMeth (Str.ofString "join") (eK (.str (Str.ofString ""))) (eOfA (xComp [2] (xOwn 0 (xSeq (eVar 0))) (gOne 2) tYes (eBin .Add (eCall T (Str.ofString "_law_text") (aCons (eVar 2) aNil)) (eK (.str (Str.ofString "\n"))))))))
  (sCons (sRet (eCall T (Str.ofString "_law_like") (aCons (eLst (aCons (eCall T (Str.ofString "board_text") (aCons (eVar 0) aNil)) (aCons (eCall T (Str.ofString "read_board") (aCons (eVar 1) aNil)) aNil))) (aCons (eLst (aCons (eVar 1) (aCons (eVar 0) aNil))) aNil))))
  sNil)))
theorem sh_law_is_wide (T : Tab) (L : Dn) : denSs (denS T L (lamG G f_law_is_wide) f_law_is_wide.N (defScope f_law_is_wide.st) f_law_is_wide.ow 12) (defBody f_law_is_wide.st) = b_law_is_wide T L := by kernel_rfl
theorem at_law_is_wide (n : Nat) (st : Store) : tab G fs (n + 1) (Str.ofString "_law_is_wide") [] st = run (b_law_is_wide (tab G fs n) (tabL G fs n)) [.no, .no, .no, .no] st :=
  tab_at (f := f_law_is_wide) n (by kernel_rfl) rfl sh_law_is_wide rfl st
def b_law (T : Tab) (L : Dn) : SX :=
  (sCons (sIf (tNot (tOf (eCall T (Str.ofString "_law_is_wide") aNil)))
   (sCons (sRet (eK (.bl false)))
    sNil)
   sNil)
  (sCons (sFor (xEnum (eSl (eBin .Add (eVar 0) (eLst (aCons (eK (.int 3)) aNil))) pNo (pYes (eBlt (Str.ofString "max") (aCons (eK (.int 1)) (aCons (eBlt (Str.ofString "min") (aCons (eK (.int 10)) (aCons (eBlt1 (Str.ofString "len") (eBor 0)) aNil))) aNil)))))) (gMany [((Str.ofString "_law_k"), 1), ((Str.ofString "_law_cell"), 2)])
   (sCons (sIf (tNot (tOf (eCall T (Str.ofString "_law_right") (aCons (eVar 2) (aCons (eVar 1) aNil)))))
     (sCons (sRet (eK (.bl false)))
      sNil)
     sNil)
    sNil))
  (sCons (sRet (eK (.bl true)))
  sNil)))
theorem sh_law (T : Tab) (L : Dn) : denSs (denS T L (lamG G f_law) f_law.N (defScope f_law.st) f_law.ow 12) (defBody f_law.st) = b_law T L := by kernel_rfl
theorem at_law (n : Nat) (d0 : D) (st : Store) : tab G fs (n + 1) (Str.ofString "law") [d0] st = run (b_law (tab G fs n) (tabL G fs n)) [.v d0, .no, .no] st :=
  tab_at (f := f_law) n (by kernel_rfl) rfl sh_law rfl st
theorem bi_thing_text : BindsEq f_thing_text := fun _ _ _ _ _ _ us hl => match us, hl with | [_], _ => by kernel_rfl
theorem bi_number_from : BindsEq f_number_from := fun _ _ _ _ _ _ us hl => match us, hl with | [_, _], _ => by kernel_rfl
theorem bi_text_from : BindsEq f_text_from := fun _ _ _ _ _ _ us hl => match us, hl with | [_, _], _ => by kernel_rfl
theorem bi_tuple_from : BindsEq f_tuple_from := fun _ _ _ _ _ _ us hl => match us, hl with | [_, _, _], _ => by kernel_rfl
theorem bi_thing_from : BindsEq f_thing_from := fun _ _ _ _ _ _ us hl => match us, hl with | [_, _, _], _ => by kernel_rfl
theorem bi_read_whole : BindsEq f_read_whole := fun _ _ _ _ _ _ us hl => match us, hl with | [_, _], _ => by kernel_rfl
theorem bi_board_text : BindsEq f_board_text := fun _ _ _ _ _ _ us hl => match us, hl with | [_], _ => by kernel_rfl
theorem bi_read_board : BindsEq f_read_board := fun _ _ _ _ _ _ us hl => match us, hl with | [_], _ => by kernel_rfl
theorem bi_law_begun : BindsEq f_law_begun := fun _ _ _ _ _ _ us hl => match us, hl with | [_, _], _ => by kernel_rfl
theorem bi_law_next : BindsEq f_law_next := fun _ _ _ _ _ _ us hl => match us, hl with | [_, _], _ => by kernel_rfl
theorem bi_law_pick : BindsEq f_law_pick := fun _ _ _ _ _ _ us hl => match us, hl with | [_, _], _ => by kernel_rfl
theorem bi_law_like : BindsEq f_law_like := fun _ _ _ _ _ _ us hl => match us, hl with | [_, _], _ => by kernel_rfl
theorem bi_law_any_sign : BindsEq f_law_any_sign := fun _ _ _ _ _ _ us hl => match us, hl with | [_], _ => by kernel_rfl
theorem bi_law_ten : BindsEq f_law_ten := fun _ _ _ _ _ _ us hl => match us, hl with | [_], _ => by kernel_rfl
theorem bi_law_alone : BindsEq f_law_alone := fun _ _ _ _ _ _ us hl => match us, hl with | [_], _ => by kernel_rfl
theorem bi_law_refusal : BindsEq f_law_refusal := fun _ _ _ _ _ _ us hl => match us, hl with | [_], _ => by kernel_rfl
theorem bi_law_safe_told : BindsEq f_law_safe_told := fun _ _ _ _ _ _ us hl => match us, hl with | [_], _ => by kernel_rfl
theorem bi_law_thing : BindsEq f_law_thing := fun _ _ _ _ _ _ us hl => match us, hl with | [_, _], _ => by kernel_rfl
theorem bi_law_text : BindsEq f_law_text := fun _ _ _ _ _ _ us hl => match us, hl with | [_], _ => by kernel_rfl
theorem bi_law_read_word : BindsEq f_law_read_word := fun _ _ _ _ _ _ us hl => match us, hl with | [_, _], _ => by kernel_rfl
theorem bi_law_read_number : BindsEq f_law_read_number := fun _ _ _ _ _ _ us hl => match us, hl with | [_, _], _ => by kernel_rfl
theorem bi_law_read_tuple : BindsEq f_law_read_tuple := fun _ _ _ _ _ _ us hl => match us, hl with | [_, _, _], _ => by kernel_rfl
theorem bi_law_read_thing : BindsEq f_law_read_thing := fun _ _ _ _ _ _ us hl => match us, hl with | [_, _, _], _ => by kernel_rfl
theorem bi_law_told_of : BindsEq f_law_told_of := fun _ _ _ _ _ _ us hl => match us, hl with | [_], _ => by kernel_rfl
theorem bi_law_changed_text : BindsEq f_law_changed_text := fun _ _ _ _ _ _ us hl => match us, hl with | [_, _], _ => by kernel_rfl
theorem bi_law_due : BindsEq f_law_due := fun _ _ _ _ _ _ us hl => match us, hl with | [_], _ => by kernel_rfl
theorem bi_law_changed_rows : BindsEq f_law_changed_rows := fun _ _ _ _ _ _ us hl => match us, hl with | [_, _], _ => by kernel_rfl
theorem bi_law_right : BindsEq f_law_right := fun _ _ _ _ _ _ us hl => match us, hl with | [_, _], _ => by kernel_rfl
theorem bi_law_is_wide : BindsEq f_law_is_wide := fun _ _ _ _ _ _ us hl => match us, hl with | [], _ => by kernel_rfl
theorem bi_law : BindsEq f_law := fun _ _ _ _ _ _ us hl => match us, hl with | [_], _ => by kernel_rfl
theorem all_bi : ∀ f ∈ fs, BindsEq f := List.forall_mem_cons.mpr ⟨bi_thing_text, List.forall_mem_cons.mpr ⟨bi_number_from, List.forall_mem_cons.mpr ⟨bi_text_from, List.forall_mem_cons.mpr ⟨bi_tuple_from, List.forall_mem_cons.mpr ⟨bi_thing_from, List.forall_mem_cons.mpr ⟨bi_read_whole, List.forall_mem_cons.mpr ⟨bi_board_text, List.forall_mem_cons.mpr ⟨bi_read_board, List.forall_mem_cons.mpr ⟨bi_law_begun, List.forall_mem_cons.mpr ⟨bi_law_next, List.forall_mem_cons.mpr ⟨bi_law_pick, List.forall_mem_cons.mpr ⟨bi_law_like, List.forall_mem_cons.mpr ⟨bi_law_any_sign, List.forall_mem_cons.mpr ⟨bi_law_ten, List.forall_mem_cons.mpr ⟨bi_law_alone, List.forall_mem_cons.mpr ⟨bi_law_refusal, List.forall_mem_cons.mpr ⟨bi_law_safe_told, List.forall_mem_cons.mpr ⟨bi_law_thing, List.forall_mem_cons.mpr ⟨bi_law_text, List.forall_mem_cons.mpr ⟨bi_law_read_word, List.forall_mem_cons.mpr ⟨bi_law_read_number, List.forall_mem_cons.mpr ⟨bi_law_read_tuple, List.forall_mem_cons.mpr ⟨bi_law_read_thing, List.forall_mem_cons.mpr ⟨bi_law_told_of, List.forall_mem_cons.mpr ⟨bi_law_changed_text, List.forall_mem_cons.mpr ⟨bi_law_due, List.forall_mem_cons.mpr ⟨bi_law_changed_rows, List.forall_mem_cons.mpr ⟨bi_law_right, List.forall_mem_cons.mpr ⟨bi_law_is_wide, List.forall_mem_cons.mpr ⟨bi_law, fun _ h => nomatch h⟩⟩⟩⟩⟩⟩⟩⟩⟩⟩⟩⟩⟩⟩⟩⟩⟩⟩⟩⟩⟩⟩⟩⟩⟩⟩⟩⟩⟩⟩
theorem ini_VoteError : ∀ f, x_VoteError.fs = [f] → IniOk x_VoteError f := fun f h => nomatch h
theorem ini_NoName : ∀ f, x_NoName.fs = [f] → IniOk x_NoName f := fun f h => nomatch h
theorem ini_NoDay : ∀ f, x_NoDay.fs = [f] → IniOk x_NoDay f := fun f h => nomatch h
theorem ini_NoRace : ∀ f, x_NoRace.fs = [f] → IniOk x_NoRace f := fun f h => nomatch h
theorem ini_NoMark : ∀ f, x_NoMark.fs = [f] → IniOk x_NoMark f := fun f h => nomatch h
theorem ini_NoCode : ∀ f, x_NoCode.fs = [f] → IniOk x_NoCode f := fun f h => nomatch h
theorem ini_NoPlace : ∀ f, x_NoPlace.fs = [f] → IniOk x_NoPlace f := fun f h => nomatch h
theorem ini_NoStub : ∀ f, x_NoStub.fs = [f] → IniOk x_NoStub f := fun f h => nomatch h
theorem ini_NoWay : ∀ f, x_NoWay.fs = [f] → IniOk x_NoWay f := fun f h => nomatch h
theorem ini_NoTime : ∀ f, x_NoTime.fs = [f] → IniOk x_NoTime f := fun f h => nomatch h
theorem ini_NoLetter : ∀ f, x_NoLetter.fs = [f] → IniOk x_NoLetter f := fun f h => nomatch h
theorem ini_NotWhole : ∀ f, x_NotWhole.fs = [f] → IniOk x_NotWhole f := fun f h => nomatch h
theorem ini_NoRuling : ∀ f, x_NoRuling.fs = [f] → IniOk x_NoRuling f := fun f h => nomatch h
theorem ini_NoChain : ∀ f, x_NoChain.fs = [f] → IniOk x_NoChain f := fun f h => nomatch h
theorem ini_NoBits : ∀ f, x_NoBits.fs = [f] → IniOk x_NoBits f := fun f h => nomatch h
theorem ini_NoLot : ∀ f, x_NoLot.fs = [f] → IniOk x_NoLot f := fun f h => nomatch h
theorem ini_NoCount : ∀ f, x_NoCount.fs = [f] → IniOk x_NoCount f := fun f h => nomatch h
theorem ini_NoPhase : ∀ f, x_NoPhase.fs = [f] → IniOk x_NoPhase f := fun f h => nomatch h
theorem ini_Twice : ∀ f, x_Twice.fs = [f] → IniOk x_Twice f := fun f h => nomatch h
theorem ini_NotThere : ∀ f, x_NotThere.fs = [f] → IniOk x_NotThere f := fun f h => by
  cases h
  exact ini_by (a := (Str.ofString "self")) (b := (Str.ofString "thing")) (by kernel_rfl) fun _ _ _ _ _ _ us hl => match us, hl with | [_, _], _ => by kernel_rfl
theorem ini_NoRow : ∀ f, x_NoRow.fs = [f] → IniOk x_NoRow f := fun f h => by
  cases h
  exact ini_by (a := (Str.ofString "self")) (b := (Str.ofString "at")) (by kernel_rfl) fun _ _ _ _ _ _ us hl => match us, hl with | [_, _], _ => by kernel_rfl
theorem ini_NoText : ∀ f, x_NoText.fs = [f] → IniOk x_NoText f := fun f h => by
  cases h
  exact ini_by (a := (Str.ofString "self")) (b := (Str.ofString "row")) (by kernel_rfl) fun _ _ _ _ _ _ us hl => match us, hl with | [_, _], _ => by kernel_rfl
theorem all_ini : ∀ x ∈ xs, ∀ f, x.fs = [f] → IniOk x f := List.forall_mem_cons.mpr ⟨ini_VoteError, List.forall_mem_cons.mpr ⟨ini_NoName, List.forall_mem_cons.mpr ⟨ini_NoDay, List.forall_mem_cons.mpr ⟨ini_NoRace, List.forall_mem_cons.mpr ⟨ini_NoMark, List.forall_mem_cons.mpr ⟨ini_NoCode, List.forall_mem_cons.mpr ⟨ini_NoPlace, List.forall_mem_cons.mpr ⟨ini_NoStub, List.forall_mem_cons.mpr ⟨ini_NoWay, List.forall_mem_cons.mpr ⟨ini_NoTime, List.forall_mem_cons.mpr ⟨ini_NoLetter, List.forall_mem_cons.mpr ⟨ini_NotWhole, List.forall_mem_cons.mpr ⟨ini_NoRuling, List.forall_mem_cons.mpr ⟨ini_NoChain, List.forall_mem_cons.mpr ⟨ini_NoBits, List.forall_mem_cons.mpr ⟨ini_NoLot, List.forall_mem_cons.mpr ⟨ini_NoCount, List.forall_mem_cons.mpr ⟨ini_NoPhase, List.forall_mem_cons.mpr ⟨ini_Twice, List.forall_mem_cons.mpr ⟨ini_NotThere, List.forall_mem_cons.mpr ⟨ini_NoRow, List.forall_mem_cons.mpr ⟨ini_NoText, fun _ h => nomatch h⟩⟩⟩⟩⟩⟩⟩⟩⟩⟩⟩⟩⟩⟩⟩⟩⟩⟩⟩⟩⟩⟩
theorem all_told : ∀ f ∈ fs, ∀ t, f.told = some t → ToldAt G f t := List.forall_mem_cons.mpr ⟨(fun t h => nomatch h), List.forall_mem_cons.mpr ⟨(fun t h => nomatch h), List.forall_mem_cons.mpr ⟨(fun t h => nomatch h), List.forall_mem_cons.mpr ⟨(fun t h => nomatch h), List.forall_mem_cons.mpr ⟨(fun t h => nomatch h), List.forall_mem_cons.mpr ⟨(fun t h => nomatch h), List.forall_mem_cons.mpr ⟨(fun t h => nomatch h), List.forall_mem_cons.mpr ⟨(fun t h => nomatch h), List.forall_mem_cons.mpr ⟨(fun t h => nomatch h), List.forall_mem_cons.mpr ⟨(fun t h => nomatch h), List.forall_mem_cons.mpr ⟨(fun t h => nomatch h), List.forall_mem_cons.mpr ⟨(fun t h => nomatch h), List.forall_mem_cons.mpr ⟨(fun t h => nomatch h), List.forall_mem_cons.mpr ⟨(fun t h => nomatch h), List.forall_mem_cons.mpr ⟨(fun t h => nomatch h), List.forall_mem_cons.mpr ⟨(fun t h => nomatch h), List.forall_mem_cons.mpr ⟨fun t h => (by cases h; exact ta_law_safe_told), List.forall_mem_cons.mpr ⟨(fun t h => nomatch h), List.forall_mem_cons.mpr ⟨(fun t h => nomatch h), List.forall_mem_cons.mpr ⟨(fun t h => nomatch h), List.forall_mem_cons.mpr ⟨(fun t h => nomatch h), List.forall_mem_cons.mpr ⟨(fun t h => nomatch h), List.forall_mem_cons.mpr ⟨(fun t h => nomatch h), List.forall_mem_cons.mpr ⟨(fun t h => nomatch h), List.forall_mem_cons.mpr ⟨(fun t h => nomatch h), List.forall_mem_cons.mpr ⟨(fun t h => nomatch h), List.forall_mem_cons.mpr ⟨(fun t h => nomatch h), List.forall_mem_cons.mpr ⟨(fun t h => nomatch h), List.forall_mem_cons.mpr ⟨(fun t h => nomatch h), List.forall_mem_cons.mpr ⟨(fun t h => nomatch h), fun _ h => nomatch h⟩⟩⟩⟩⟩⟩⟩⟩⟩⟩⟩⟩⟩⟩⟩⟩⟩⟩⟩⟩⟩⟩⟩⟩⟩⟩⟩⟩⟩⟩
end K77

set_option maxRecDepth 100000
set_option maxHeartbeats 4000000
namespace K77
open PySem MI SX
theorem bind_ok {α β : Type} (a : α) (st : Store) (f : α → Store → Res β) : (Res.ok a st).bind f = f a st := rfl
theorem of_some {α : Type} (a : α) (st : Store) : Res.of (some a) st = .ok a st := rfl
theorem toS_ok {α : Type} (a : α) (st : Store) (env : MI.Env) (f : α → Store → RS) : (Res.ok a st).toS env f = f a st := rfl
theorem then_next (env : MI.Env) (st : Store) (f : SX) : (RS.next env st).then f = f env st := rfl
theorem then_ret (d : D) (st : Store) (f : SX) : (RS.ret d st).then f = .ret d st := rfl
theorem then_brk (env : MI.Env) (st : Store) (f : SX) : (RS.brk env st).then f = .brk env st := rfl
theorem atI3_0 (a b c : D) : L2.atI [a, b, c] 0 = some a := rfl
theorem atI3_1 (a b c : D) : L2.atI [a, b, c] 1 = some b := rfl
theorem atI3_2 (a b c : D) : L2.atI [a, b, c] 2 = some c := rfl
theorem ixN3_0 : L2.ixN 3 0 = some 0 := rfl
theorem ixN3_2 : L2.ixN 3 2 = some 2 := rfl
theorem map_some {α β : Type} (f : α → β) (a : α) : Option.map f (some a) = some (f a) := rfl
theorem op_add (i j : Int) : opD .Add (.int i) (.int j) = some (.int (i + j)) := rfl
theorem op_sub (i j : Int) : opD .Sub (.int i) (.int j) = some (.int (i - j)) := rfl
theorem op_mul {i j : Int} (h : i.natAbs.log2 + j.natAbs.log2 < 1000000) : opD .Mult (.int i) (.int j) = some (.int (i * j)) := if_pos h
theorem op_div {i j : Int} (h : 0 < j) (h2 : j.natAbs.log2 < 9000) : opD .FloorDiv (.int i) (.int j) = some (.int (i / j)) := if_pos ⟨h, h2⟩
theorem op_mod {i j : Int} (h : 0 < j) : opD .Mod (.int i) (.int j) = some (.int (i % j)) := if_pos h
theorem op_pow {i j : Int} (h : 0 ≤ j) (h2 : j ≤ 1000000) (h3 : i.natAbs < 2 ^ 64) : opD .Pow (.int i) (.int j) = some (.int (i ^ j.toNat)) := if_pos ⟨h, h2, h3⟩
theorem log_small {n : Nat} (h : n < 2 ^ 64) : n.log2 < 64 := by
  by_cases h0 : n = 0
  · subst h0; decide
  · exact (Nat.log2_lt h0).mpr h
theorem op_mulS {i j : Int} (h : i.natAbs < 2 ^ 64) (h2 : j.natAbs < 2 ^ 64) : opD .Mult (.int i) (.int j) = some (.int (i * j)) := op_mul (by
  have := log_small h
  have := log_small h2
  omega)
theorem cmp_gt (i j : Int) : cmpD .Gt (.int i) (.int j) = some (decide (j < i)) := rfl
theorem cmp_ge (i j : Int) : cmpD .GtE (.int i) (.int j) = some (decide (j ≤ i)) := rfl
theorem cmp_lt (i j : Int) : cmpD .Lt (.int i) (.int j) = some (decide (i < j)) := rfl
theorem cmp_eqI (i j : Int) : cmpD .Eq (.int i) (.int j) = some (i == j) := rfl
theorem cmp_eqS (a b : Str) : cmpD .Eq (.str a) (.str b) = some (a == b) := rfl
theorem cmp_neS (a b : Str) : cmpD .NotEq (.str a) (.str b) = some (!(a == b)) := rfl
theorem cmp_neI (i j : Int) : cmpD .NotEq (.int i) (.int j) = some (!(i == j)) := rfl
theorem cmp_neB (i j : Bool) : cmpD .NotEq (.bl i) (.bl j) = some (!(i == j)) := rfl
theorem cmp_eqB (i j : Bool) : cmpD .Eq (.bl i) (.bl j) = some (i == j) := rfl
theorem cmp_is (x : D) : cmpD .Is x .non = some (isN x) := rfl
theorem ix_ref {i : Nat} {ds : List D} {st : Store} (h : st[i]? = some (.lst ds)) (k : Int) : ixD (.ref i) (.int k) st = L2.atI ds k := by
  show (match st[i]? with
    | some (.lst ds) => L2.atI ds k
    | _ => none) = _
  rw [h]
section
variable {i : Nat} {a : EX} {t : TX} {s b c : SX} {env env1 : MI.Env} {st st1 st2 : Store} {d : D} {x : AX} {ds : List D}
theorem run_set (h : a env st = .ok d st1) : MI.run (sCons (sSet i a) b) env st = MI.run b (env.set i (.v d)) st1 := by
  unfold MI.run sCons sSet
  rw [h]
  rfl
theorem run_setL (h : x env st = .ok ds st1) : MI.run (sCons (sSetL i x) b) env st = MI.run b (env.set i (.v (.lst ds))) st1 := by
  unfold MI.run sCons sSetL
  rw [h]
  rfl
theorem run_own (h : x env st = .ok ds st1) : MI.run (sCons (sOwn i x) b) env st = MI.run b (env.set i (.own ds)) st1 := by
  unfold MI.run sCons sOwn
  rw [h]
  rfl
theorem run_step (h : s env st = .next env1 st1) : MI.run (sCons s b) env st = MI.run b env1 st1 := by
  unfold MI.run sCons
  rw [h]
  rfl
theorem run_stepR (h : s env st = .ret d st1) : MI.run (sCons s b) env st = .ok d st1 := by
  unfold MI.run sCons
  rw [h]
  rfl
theorem run_while (h : whileF t s lots env st = .next env1 st1) : MI.run (sCons (sWhile t s) b) env st = MI.run b env1 st1 := run_step h
theorem run_whileR (h : whileF t s lots env st = .ret d st1) : MI.run (sCons (sWhile t s) b) env st = .ok d st1 := run_stepR h
theorem run_ret (h : a env st = .ok d st1) : MI.run (sCons (sRet a) b) env st = .ok d st1 := by
  refine run_stepR ?_
  unfold sRet
  rw [h]
  rfl
theorem run_ifF (h : t env st = .ok false st1) : MI.run (sCons (sIf t s sNil) b) env st = MI.run b env st1 := by
  refine run_step ?_
  unfold sIf
  rw [h]
  rfl
theorem run_ifR (h : t env st = .ok true st1) (h2 : s env st1 = .ret d st2) : MI.run (sCons (sIf t s c) b) env st = .ok d st2 := by
  refine run_stepR ?_
  unfold sIf
  rw [h]
  exact h2
theorem run_ifT (h : t env st = .ok true st1) : MI.run (sCons (sIf t s c) b) env st = MI.run (sCons s b) env st1 := by
  unfold MI.run sCons sIf
  rw [h]
  rfl
theorem seq_set (h : a env st = .ok d st1) : sCons (sSet i a) b env st = b (env.set i (.v d)) st1 := by
  unfold sCons sSet
  rw [h]
  rfl
theorem seq_setL (h : x env st = .ok ds st1) : sCons (sSetL i x) b env st = b (env.set i (.v (.lst ds))) st1 := by
  unfold sCons sSetL
  rw [h]
  rfl
theorem seq_own (h : x env st = .ok ds st1) : sCons (sOwn i x) b env st = b (env.set i (.own ds)) st1 := by
  unfold sCons sOwn
  rw [h]
  rfl
theorem seq_step (h : s env st = .next env1 st1) : sCons s b env st = b env1 st1 := by
  unfold sCons
  rw [h]
  rfl
theorem seq_stepR (h : s env st = .ret d st1) : sCons s b env st = .ret d st1 := by
  unfold sCons
  rw [h]
  rfl
theorem seq_ret (h : a env st = .ok d st1) : sCons (sRet a) b env st = .ret d st1 := by
  refine seq_stepR ?_
  unfold sRet
  rw [h]
  rfl
theorem seq_ifF (h : t env st = .ok false st1) : sCons (sIf t s sNil) b env st = b env st1 := by
  refine seq_step ?_
  unfold sIf
  rw [h]
  rfl
theorem seq_ifR (h : t env st = .ok true st1) (h2 : s env st1 = .ret d st2) : sCons (sIf t s c) b env st = .ret d st2 := by
  refine seq_stepR ?_
  unfold sIf
  rw [h]
  exact h2
end
structure Drw (st : Store) (i : Nat) (m : Int) : Prop where
  ex : ∃ c s t : Int, st[i]? = some (.lst [.int c, .int s, .int t]) ∧ 0 ≤ c ∧ 0 ≤ s ∧ s ≤ 2147483629 ∧ 0 ≤ t ∧ t ≤ m
theorem Drw.mono {st : Store} {i : Nat} {m m' : Int} (h : Drw st i m) (e : m ≤ m') : Drw st i m' := by
  obtain ⟨c, s, t, h1, h2, h3, h4, h5, h6⟩ := h.ex
  exact ⟨c, s, t, h1, h2, h3, h4, h5, by omega⟩
theorem set_at {st : Store} {i : Nat} {o o' : Ob} (h : st[i]? = some o) : (st.set i o')[i]? = some o' := by
  have := (List.getElem?_eq_some_iff.mp h).1
  rw [List.getElem?_set]
  simp [this]
theorem next_ok (n : Nat) {st : Store} {i : Nat} {m : Int} (h : Drw st i m) (hm : m < 1000000) {z : Int} (hz : 0 < z) (hz2 : z.natAbs < 2 ^ 64) :
    ∃ (r : Int) (st' : Store), tab G fs (n + 1) (Str.ofString "_law_next") [.ref i, .int z] st = .ok (.int r) st' ∧ 0 ≤ r ∧ r < z ∧ Drw st' i (m + 1) := by
  obtain ⟨c, s, t, h1, h2, h3, h4, h5, h6⟩ := h.ex
  rw [at_law_next]
  unfold b_law_next
  have hlog : z.natAbs.log2 < 9000 := Nat.lt_trans (log_small hz2) (by decide)
  by_cases hc : 0 < c
  · simp only [MI.run, MI.strD, MI.lstOf, MI.known, MI.sPar, MI.sTry, MI.sRaise0, MI.sRaise1, MI.sParOwn, MI.sForR, MI.sStar, MI.starD, MI.eTupRg, MI.eLm, MI.eIsX, MI.eFld, MI.eDic0, MI.eLam, MI.xCat, MI.freed, MI.sNil, MI.sCons, MI.sIf, MI.sSet, MI.sSetL, MI.sRet, MI.sRetN, MI.sRetV, MI.sSub, MI.sAug, MI.sApp, MI.sOwn, MI.sSetT, MI.sFor, MI.sWhile, MI.eVar, MI.eBor, MI.eK, MI.eBin, MI.eNeg, MI.eNot, MI.eAnd, MI.eOr, MI.eT, MI.eIf, MI.eIx, MI.eSl, MI.eCall, MI.eInst, MI.eBlt1, MI.eBlt, MI.eMeth, MI.eTup, MI.eLst, MI.eOfA, MI.aNil, MI.aCons, MI.tCmp, MI.tChain, MI.tNot, MI.tAnd, MI.tOr, MI.tOf, MI.tYes, MI.pNo, MI.pYes, MI.boolOf, MI.blOf, MI.truth, MI.partD, MI.gOne, bind_ok, of_some, toS_ok, then_next, then_ret, then_brk, map_some, List.getElem?_cons_zero, List.getElem?_cons_succ, List.set_cons_zero, List.set_cons_succ, if_true, if_false, Bool.false_eq_true, reduceIte, ix_ref h1, atI3_0, cmp_gt, decide_eq_true hc, op_mod hz, op_div hz hlog, h1, List.length_cons, List.length_nil, Nat.zero_add, Nat.reduceAdd, ixN3_0]
    refine ⟨_, _, rfl, Int.emod_nonneg _ (by omega), Int.emod_lt_of_pos _ hz, ⟨c / z, s, t, set_at h1, Int.ediv_nonneg h2 (by omega), h3, h4, h5, by omega⟩⟩
  · have h7 := set_at (o' := .lst [.int c, .int s, .int (t + 1)]) h1
    have b0 : (2 * (t + 1)).natAbs < 2 ^ 64 := by omega
    have b1 : (2 * (t + 1) + 1 : Int).natAbs < 2 ^ 64 := by omega
    have p1 : 0 ≤ s * (2 * (t + 1) + 1) := Int.mul_nonneg h3 (by omega)
    have p2 : s * (2 * (t + 1) + 1) ≤ 2147483629 * (2 * (t + 1) + 1) := Int.mul_le_mul_of_nonneg_right h4 (by omega)
    have p3 : 0 ≤ 7919 * (t + 1) * (t + 1) := Int.mul_nonneg (by omega) (by omega)
    have p4 : 7919 * (t + 1) * (t + 1) ≤ 7919 * (t + 1) * 1000000 := Int.mul_le_mul_of_nonneg_left (by omega) (by omega)
    have b2 : (s * (2 * (t + 1) + 1) + 7919 * (t + 1) * (t + 1) + 11).natAbs < 2 ^ 64 := by omega
    have q2 := op_mulS (i := 2) (j := t + 1) (by decide) (by omega)
    have q3 := op_mulS (i := s) (j := 2 * (t + 1) + 1) (by omega) b1
    have q4 := op_mulS (i := 7919) (j := t + 1) (by decide) (by omega)
    have q5 := op_mulS (i := 7919 * (t + 1)) (j := t + 1) (by omega) (by omega)
    simp only [MI.run, MI.strD, MI.lstOf, MI.known, MI.sPar, MI.sTry, MI.sRaise0, MI.sRaise1, MI.sParOwn, MI.sForR, MI.sStar, MI.starD, MI.eTupRg, MI.eLm, MI.eIsX, MI.eFld, MI.eDic0, MI.eLam, MI.xCat, MI.freed, MI.sNil, MI.sCons, MI.sIf, MI.sSet, MI.sSetL, MI.sRet, MI.sRetN, MI.sRetV, MI.sSub, MI.sAug, MI.sApp, MI.sOwn, MI.sSetT, MI.sFor, MI.sWhile, MI.eVar, MI.eBor, MI.eK, MI.eBin, MI.eNeg, MI.eNot, MI.eAnd, MI.eOr, MI.eT, MI.eIf, MI.eIx, MI.eSl, MI.eCall, MI.eInst, MI.eBlt1, MI.eBlt, MI.eMeth, MI.eTup, MI.eLst, MI.eOfA, MI.aNil, MI.aCons, MI.tCmp, MI.tChain, MI.tNot, MI.tAnd, MI.tOr, MI.tOf, MI.tYes, MI.pNo, MI.pYes, MI.boolOf, MI.blOf, MI.truth, MI.partD, MI.gOne, bind_ok, of_some, toS_ok, then_next, then_ret, then_brk, map_some, List.getElem?_cons_zero, List.getElem?_cons_succ, List.set_cons_zero, List.set_cons_succ, if_true, if_false, Bool.false_eq_true, reduceIte, ix_ref h1, ix_ref h7, atI3_0, atI3_1, atI3_2, cmp_gt, decide_eq_false hc, op_add, q2, q3, q4, q5, op_pow (i := s * (2 * (t + 1) + 1) + 7919 * (t + 1) * (t + 1) + 11) (j := 5) (by decide) (by decide) b2, op_mod hz, op_mod (j := 2147483647) (by decide), op_div (j := 11) (by decide) (by decide), h1, List.length_cons, List.length_nil, Nat.zero_add, Nat.reduceAdd, ixN3_2]
    exact ⟨_, _, rfl, Int.emod_nonneg _ (by omega), Int.emod_lt_of_pos _ hz, ⟨c, s, t + 1, h7, h2, h3, h4, by omega, by omega⟩⟩
end K77

set_option maxRecDepth 100000
set_option maxHeartbeats 2000000
namespace K77
open PySem MI SX
def esc1 (c : Nat) : List Nat := if c = 34 ∨ c = 92 then [92, c] else [c]
def esc (l : List Nat) : List Nat := l.flatMap esc1
def numT (i : Int) : List Nat := (Str.ofString (toString i)).cps.toList
mutual
def txt : D → List Nat
  | .non => [110, 111, 110, 101]
  | .int i => numT i
  | .str s => 34 :: (esc s.cps.toList ++ [34])
  | .tup ds => 40 :: (TL.joinL [44, 32] (txtL ds) ++ [41])
  | _ => []
def txtL : List D → List (List Nat)
  | [] => []
  | d :: ds => txt d :: txtL ds
end
theorem txtL_map : ∀ ds : List D, txtL ds = ds.map txt
  | [] => rfl
  | d :: ds => by
    show txt d :: txtL ds = txt d :: ds.map txt
    rw [txtL_map ds]
/-- a thing, k deep at most -/
def Th : Nat → D → Prop
  | _, .non => True
  | _, .int i => i.natAbs < 10 ^ 400
  | _, .str s => ∀ c ∈ s.cps.toList, 32 ≤ c ∧ c ≤ 126
  | k + 1, .tup ds => ∀ d ∈ ds, Th k d
  | _, _ => False
theorem l_bs : Str.ofString "\\" = S [92] := by decide +kernel
theorem l_bs2 : Str.ofString "\\\\" = S [92, 92] := by decide +kernel
theorem l_q : Str.ofString "\"" = S [34] := by decide +kernel
theorem l_bq : Str.ofString "\\\"" = S [92, 34] := by decide +kernel
theorem l_op : Str.ofString "(" = S [40] := by decide +kernel
theorem l_cl : Str.ofString ")" = S [41] := by decide +kernel
theorem l_cs : Str.ofString ", " = S [44, 32] := by decide +kernel
theorem l_none : Str.ofString "none" = S [110, 111, 110, 101] := by decide +kernel
theorem l_empty : Str.ofString "" = S [] := by decide +kernel
theorem l_minus : Str.ofString "-" = S [45] := by decide +kernel
theorem l_0 : Str.ofString "0" = S [48] := by decide +kernel
theorem l_sp : Str.ofString " " = S [32] := by decide +kernel
theorem l_til : Str.ofString "~" = S [126] := by decide +kernel
theorem l_x : Str.ofString "x" = S [120] := by decide +kernel
theorem op_cat {a b : List Nat} (h : a.length + b.length ≤ big) : opD .Add (.str (S a)) (.str (S b)) = some (.str (S (a ++ b))) := by
  show (if (S a).length + (S b).length ≤ big then some (D.str (S a ++ S b)) else none) = _
  rw [S_len, S_len, if_pos h, S_cat]
theorem comp_map {own : List Nat} {src : AX} {bind : D → MI.Env → Option MI.Env} {t : TX} {elt : EX} {env : MI.Env} {st st1 : Store} {ds : List D} {g : D → D} (hs : src env st = .ok ds st1) (hl : ds.length ≤ big)
    (h : ∀ d ∈ ds, (match bind d (wipeE env own) with
        | some env1 => (t env1 st1).bind fun k st3 => if k = true then (elt env1 st3).bind fun x st4 => .ok (some x) st4 else .ok none st3
        | none => .stuck) = .ok (some (g d)) st1) : xComp own src bind t elt env st = .ok (ds.map g) st1 := by
  have key : ∀ (es acc : List D), (∀ d ∈ es, d ∈ ds) → compL (fun d st2 => Res.tame (match bind d (wipeE env own) with
        | some env1 => (t env1 st2).bind fun k st3 => if k = true then (elt env1 st3).bind fun x st4 => .ok (some x) st4 else .ok none st3
        | none => .stuck)) es acc st1 = .ok (acc ++ es.map g) st1 := by
    intro es
    induction es with
    | nil => intro acc _; rw [List.map_nil, List.append_nil]; rfl
    | cons e es ih =>
      intro acc he
      unfold compL
      rw [h e (he e List.mem_cons_self)]
      show compL _ es (acc ++ [g e]) st1 = _
      rw [ih _ fun d hd => he d (List.mem_cons_of_mem _ hd), List.append_assoc]
      rfl
  unfold xComp
  rw [hs]
  show (if ds.length ≤ big then _ else _) = _
  rw [if_pos hl]
  have := key ds [] fun d hd => hd
  rw [List.nil_append] at this
  exact this
theorem strsOf_S : ∀ l : List (List Nat), strsOf (l.map fun a => D.str (S a)) = some (l.map S)
  | [] => rfl
  | a :: l => by
    show (strsOf (l.map fun a => D.str (S a))).map (fun r => S a :: r) = _
    rw [strsOf_S l]
    rfl
theorem joinL_len (z : List Nat) : ∀ l : List (List Nat), (l.map List.length).sum + l.length * z.length ≤ (TL.joinL z l).length + z.length
  | [] => by simp [TL.joinL]
  | [p] => by simp [TL.joinL]
  | p :: q :: r => by
    have ih := joinL_len z (q :: r)
    show (p.length + ((q :: r).map List.length).sum) + ((q :: r).length + 1) * z.length ≤ (p ++ (z ++ TL.joinL z (q :: r))).length + z.length
    rw [List.length_append, List.length_append, Nat.add_mul]
    omega
theorem join_ok {z : List Nat} {l : List (List Nat)} (h : (TL.joinL z l).length + z.length ≤ big) : joinD (S z) (l.map fun a => D.str (S a)) = some (.str (S (TL.joinL z l))) := by
  unfold joinD
  rw [strsOf_S]
  have h1 := joinL_len z l
  have h2 : ((l.map S).map (·.length)).sum + (l.map S).length * (S z).length ≤ 16777216 := by
    rw [lens, List.length_map, S_len]
    exact Nat.le_trans h1 h
  show (if ((l.map S).map (·.length)).sum + (l.map S).length * (S z).length ≤ 16777216 then some (D.str (Txt.join (S z) (l.map S))) else none) = _
  rw [if_pos h2, join_S]
theorem meth_join (z : Str) (ds : List D) : methD (Str.ofString "join") (.str z) [.lst ds] = joinD z ds := rfl
theorem repl1 (c : Nat) (z l : List Nat) : PySem.StrLaws.replL [c] z l = l.flatMap fun x => if x = c then z else [x] := by
  induction l with
  | nil => exact PySem.StrLaws.replL_nil
  | cons x l ih =>
    rw [List.flatMap_cons]
    by_cases h : x = c
    · subst h
      rw [PySem.StrLaws.replL_hit (by simp) (by simp), if_pos rfl]
      show z ++ PySem.StrLaws.replL [x] z l = _
      rw [ih]
    · rw [PySem.StrLaws.replL_miss (by simpa using h), if_neg h, ih]
      rfl
theorem replD_ok {x : List Nat} {c : Nat} {z : List Nat} (h : x.length + (x.length + 1) * z.length ≤ 16777216) : replD (S x) (S [c]) (S z) = some (S (x.flatMap fun y => if y = c then z else [y])) := by
  unfold replD
  rw [S_len, S_len, if_pos h]
  refine congrArg some (TL.ext_tl ?_)
  show (Txt.replace (S x) (S [c]) (S z)).cps.toList = _
  rw [PySem.StrLaws.replace_list (by rw [S_len]; exact Nat.le_refl 1)]
  exact repl1 c z x
theorem esc_two (l : List Nat) : ((l.flatMap fun y => if y = 92 then [92, 92] else [y]).flatMap fun y => if y = 34 then [92, 34] else [y]) = esc l := by
  unfold esc
  rw [List.flatMap_assoc]
  refine congrArg (fun f => l.flatMap f) (funext fun c => ?_)
  unfold esc1
  by_cases h : c = 92
  · subst h; rfl
  · rw [if_neg h]
    by_cases h2 : c = 34
    · subst h2; rfl
    · rw [if_neg (by rintro (z | z); exact h2 z; exact h z)]
      simp [h2]
theorem esc_len (l : List Nat) : l.length ≤ (esc l).length := by
  induction l with
  | nil => exact Nat.le_refl _
  | cons c l ih =>
    have : esc (c :: l) = esc1 c ++ esc l := List.flatMap_cons ..
    rw [this, List.length_append, List.length_cons]
    have h : 1 ≤ (esc1 c).length := by
      unfold esc1
      split <;> simp
    omega
theorem one_len (c : Nat) (z l : List Nat) (hz : z.length ≤ 2) : (l.flatMap fun y => if y = c then z else [y]).length ≤ 2 * l.length := by
  induction l with
  | nil => exact Nat.le_refl _
  | cons x l ih =>
    rw [List.flatMap_cons, List.length_append, List.length_cons]
    have h : (if x = c then z else [x]).length ≤ 2 := by
      split
      · exact hz
      · show 1 ≤ 2; decide
    omega
/-- of a number -/
theorem str_ok {i : Int} (h : i.natAbs < 10 ^ 400) : strF [.int i] = some (.str (S (numT i))) := by
  have : i.natAbs.log2 < 1920 := by
    by_cases h0 : i.natAbs = 0
    · rw [h0]; decide
    · refine (Nat.log2_lt h0).mpr (Nat.lt_trans h (by decide +kernel))
  show (if i.natAbs.log2 < 1920 then some (D.str (Str.ofString (toString i))) else none) = _
  rw [if_pos this]
  exact congrArg (fun z => some (D.str z)) (S_tl _).symm
theorem is_tup (ds : List D) (st : Store) : isTy (.tup ds) st ["tuple"] = some true := rfl
theorem Th.cases {k : Nat} {d : D} (h : Th k d) : d = .non ∨ (∃ i, d = .int i ∧ i.natAbs < 10 ^ 400) ∨ (∃ l, d = .str (S l) ∧ ∀ c ∈ l, 32 ≤ c ∧ c ≤ 126) ∨ ∃ j ds, k = j + 1 ∧ d = .tup ds ∧ ∀ d ∈ ds, Th j d := by
  cases d with
  | non => exact .inl rfl
  | int i =>
    unfold Th at h
    exact .inr (.inl ⟨i, rfl, h⟩)
  | str s =>
    unfold Th at h
    exact .inr (.inr (.inl ⟨s.cps.toList, by rw [S_tl], h⟩))
  | tup ds =>
    cases k with
    | zero => unfold Th at h; exact h.elim
    | succ j =>
      unfold Th at h
      exact .inr (.inr (.inr ⟨j, ds, rfl, rfl, h⟩))
  | _ => cases k <;> (unfold Th at h; exact h.elim)
theorem part_len {z : List Nat} {l : List (List Nat)} {p : List Nat} (h : p ∈ l) : p.length ≤ (TL.joinL z l).length := by
  have h1 := joinL_len z l
  have h2 : p.length ≤ (l.map List.length).sum := by
    clear h1
    induction l with
    | nil => cases h
    | cons q l ih =>
      rw [List.map_cons, List.sum_cons]
      rcases List.mem_cons.mp h with e | e
      · subst e; omega
      · have := ih e; omega
  have h3 : 1 ≤ l.length := List.length_pos_of_mem h
  have h4 : z.length ≤ l.length * z.length := Nat.le_mul_of_pos_left _ h3
  omega
theorem tup_len {ds : List D} {d : D} (h : d ∈ ds) : (txt d).length ≤ (txt (.tup ds)).length := by
  have : txt (.tup ds) = 40 :: (TL.joinL [44, 32] (txtL ds) ++ [41]) := rfl
  rw [this, txtL_map, List.length_cons, List.length_append]
  have := part_len (z := [44, 32]) (List.mem_map_of_mem (f := txt) h)
  omega
/-- the text of the program -/
theorem text_ok : ∀ (k n : Nat) (d : D) (st : Store), Th k d → (txt d).length ≤ 2000000 → tab G fs (n + k + 1) (Str.ofString "thing_text") [d] st = .ok (.str (S (txt d))) st := by
  intro k
  induction k with
  | zero =>
    intro n d st h hl
    rw [Nat.add_zero, at_thing_text]
    unfold b_thing_text
    rcases h.cases with rfl | ⟨i, rfl, hi⟩ | ⟨l, rfl, hc⟩ | ⟨j, ds, e, _⟩
    · simp only [MI.run, MI.strD, MI.lstOf, MI.known, MI.sPar, MI.sTry, MI.sRaise0, MI.sRaise1, MI.sParOwn, MI.sForR, MI.sStar, MI.starD, MI.eTupRg, MI.eLm, MI.eIsX, MI.eFld, MI.eDic0, MI.eLam, MI.xCat, MI.freed, MI.sNil, MI.sCons, MI.sIf, MI.sSet, MI.sSetL, MI.sRet, MI.sRetN, MI.sRetV, MI.sSub, MI.sAug, MI.sApp, MI.sOwn, MI.sSetT, MI.sFor, MI.sWhile, MI.eVar, MI.eBor, MI.eK, MI.eBin, MI.eNeg, MI.eNot, MI.eAnd, MI.eOr, MI.eT, MI.eIf, MI.eIx, MI.eSl, MI.eCall, MI.eInst, MI.eBlt1, MI.eBlt, MI.eMeth, MI.eTup, MI.eLst, MI.eOfA, MI.aNil, MI.aCons, MI.tCmp, MI.tChain, MI.tNot, MI.tAnd, MI.tOr, MI.tOf, MI.tYes, MI.pNo, MI.pYes, MI.boolOf, MI.blOf, MI.truth, MI.partD, MI.gOne, bind_ok, of_some, toS_ok, then_next, then_ret, then_brk, map_some, List.getElem?_cons_zero, List.getElem?_cons_succ, List.set_cons_zero, List.set_cons_succ, if_true, if_false, Bool.false_eq_true, reduceIte, show isTy D.non st ["tuple"] = some false from rfl, cmp_is, isN, l_none]
      rfl
    · simp only [MI.run, MI.strD, MI.lstOf, MI.known, MI.sPar, MI.sTry, MI.sRaise0, MI.sRaise1, MI.sParOwn, MI.sForR, MI.sStar, MI.starD, MI.eTupRg, MI.eLm, MI.eIsX, MI.eFld, MI.eDic0, MI.eLam, MI.xCat, MI.freed, MI.sNil, MI.sCons, MI.sIf, MI.sSet, MI.sSetL, MI.sRet, MI.sRetN, MI.sRetV, MI.sSub, MI.sAug, MI.sApp, MI.sOwn, MI.sSetT, MI.sFor, MI.sWhile, MI.eVar, MI.eBor, MI.eK, MI.eBin, MI.eNeg, MI.eNot, MI.eAnd, MI.eOr, MI.eT, MI.eIf, MI.eIx, MI.eSl, MI.eCall, MI.eInst, MI.eBlt1, MI.eBlt, MI.eMeth, MI.eTup, MI.eLst, MI.eOfA, MI.aNil, MI.aCons, MI.tCmp, MI.tChain, MI.tNot, MI.tAnd, MI.tOr, MI.tOf, MI.tYes, MI.pNo, MI.pYes, MI.boolOf, MI.blOf, MI.truth, MI.partD, MI.gOne, bind_ok, of_some, toS_ok, then_next, then_ret, then_brk, map_some, List.getElem?_cons_zero, List.getElem?_cons_succ, List.set_cons_zero, List.set_cons_succ, if_true, if_false, Bool.false_eq_true, reduceIte, show isTy (D.int i) st ["tuple"] = some false from rfl, show isTy (D.int i) st ["str"] = some false from rfl, cmp_is, isN, show bltD (Str.ofString "str") [D.int i] st = strF [.int i] from rfl, str_ok hi]
      rfl
    · have hl2 : (34 :: (esc l ++ [34])).length ≤ 2000000 := hl
      rw [List.length_cons, List.length_append, List.length_singleton] at hl2
      have h1 := esc_len l
      have h2 := one_len 92 [92, 92] l (Nat.le_refl _)
      simp only [MI.run, MI.strD, MI.lstOf, MI.known, MI.sPar, MI.sTry, MI.sRaise0, MI.sRaise1, MI.sParOwn, MI.sForR, MI.sStar, MI.starD, MI.eTupRg, MI.eLm, MI.eIsX, MI.eFld, MI.eDic0, MI.eLam, MI.xCat, MI.freed, MI.sNil, MI.sCons, MI.sIf, MI.sSet, MI.sSetL, MI.sRet, MI.sRetN, MI.sRetV, MI.sSub, MI.sAug, MI.sApp, MI.sOwn, MI.sSetT, MI.sFor, MI.sWhile, MI.eVar, MI.eBor, MI.eK, MI.eBin, MI.eNeg, MI.eNot, MI.eAnd, MI.eOr, MI.eT, MI.eIf, MI.eIx, MI.eSl, MI.eCall, MI.eInst, MI.eBlt1, MI.eBlt, MI.eMeth, MI.eTup, MI.eLst, MI.eOfA, MI.aNil, MI.aCons, MI.tCmp, MI.tChain, MI.tNot, MI.tAnd, MI.tOr, MI.tOf, MI.tYes, MI.pNo, MI.pYes, MI.boolOf, MI.blOf, MI.truth, MI.partD, MI.gOne, bind_ok, of_some, toS_ok, then_next, then_ret, then_brk, map_some, List.getElem?_cons_zero, List.getElem?_cons_succ, List.set_cons_zero, List.set_cons_succ, if_true, if_false, Bool.false_eq_true, reduceIte, show isTy (D.str (S l)) st ["tuple"] = some false from rfl, show isTy (D.str (S l)) st ["str"] = some true from rfl, cmp_is, isN, l_bs, l_bs2, l_q, l_bq, eRepl, strD]
      rw [replD_ok (by show l.length + (l.length + 1) * 2 ≤ 16777216; omega)]
      simp only [MI.run, MI.strD, MI.lstOf, MI.known, MI.sPar, MI.sTry, MI.sRaise0, MI.sRaise1, MI.sParOwn, MI.sForR, MI.sStar, MI.starD, MI.eTupRg, MI.eLm, MI.eIsX, MI.eFld, MI.eDic0, MI.eLam, MI.xCat, MI.freed, MI.sNil, MI.sCons, MI.sIf, MI.sSet, MI.sSetL, MI.sRet, MI.sRetN, MI.sRetV, MI.sSub, MI.sAug, MI.sApp, MI.sOwn, MI.sSetT, MI.sFor, MI.sWhile, MI.eVar, MI.eBor, MI.eK, MI.eBin, MI.eNeg, MI.eNot, MI.eAnd, MI.eOr, MI.eT, MI.eIf, MI.eIx, MI.eSl, MI.eCall, MI.eInst, MI.eBlt1, MI.eBlt, MI.eMeth, MI.eTup, MI.eLst, MI.eOfA, MI.aNil, MI.aCons, MI.tCmp, MI.tChain, MI.tNot, MI.tAnd, MI.tOr, MI.tOf, MI.tYes, MI.pNo, MI.pYes, MI.boolOf, MI.blOf, MI.truth, MI.partD, MI.gOne, bind_ok, of_some, toS_ok, then_next, then_ret, then_brk, map_some, List.getElem?_cons_zero, List.getElem?_cons_succ, List.set_cons_zero, List.set_cons_succ, if_true, if_false, Bool.false_eq_true, reduceIte]
      rw [replD_ok (by show _ + (_ + 1) * 2 ≤ 16777216; omega), esc_two]
      simp only [MI.run, MI.strD, MI.lstOf, MI.known, MI.sPar, MI.sTry, MI.sRaise0, MI.sRaise1, MI.sParOwn, MI.sForR, MI.sStar, MI.starD, MI.eTupRg, MI.eLm, MI.eIsX, MI.eFld, MI.eDic0, MI.eLam, MI.xCat, MI.freed, MI.sNil, MI.sCons, MI.sIf, MI.sSet, MI.sSetL, MI.sRet, MI.sRetN, MI.sRetV, MI.sSub, MI.sAug, MI.sApp, MI.sOwn, MI.sSetT, MI.sFor, MI.sWhile, MI.eVar, MI.eBor, MI.eK, MI.eBin, MI.eNeg, MI.eNot, MI.eAnd, MI.eOr, MI.eT, MI.eIf, MI.eIx, MI.eSl, MI.eCall, MI.eInst, MI.eBlt1, MI.eBlt, MI.eMeth, MI.eTup, MI.eLst, MI.eOfA, MI.aNil, MI.aCons, MI.tCmp, MI.tChain, MI.tNot, MI.tAnd, MI.tOr, MI.tOf, MI.tYes, MI.pNo, MI.pYes, MI.boolOf, MI.blOf, MI.truth, MI.partD, MI.gOne, bind_ok, of_some, toS_ok, then_next, then_ret, then_brk, map_some, List.getElem?_cons_zero, List.getElem?_cons_succ, List.set_cons_zero, List.set_cons_succ, if_true, if_false, Bool.false_eq_true, reduceIte]
      rw [op_cat (by show 1 + _ ≤ 16777216; omega)]
      simp only [MI.run, MI.strD, MI.lstOf, MI.known, MI.sPar, MI.sTry, MI.sRaise0, MI.sRaise1, MI.sParOwn, MI.sForR, MI.sStar, MI.starD, MI.eTupRg, MI.eLm, MI.eIsX, MI.eFld, MI.eDic0, MI.eLam, MI.xCat, MI.freed, MI.sNil, MI.sCons, MI.sIf, MI.sSet, MI.sSetL, MI.sRet, MI.sRetN, MI.sRetV, MI.sSub, MI.sAug, MI.sApp, MI.sOwn, MI.sSetT, MI.sFor, MI.sWhile, MI.eVar, MI.eBor, MI.eK, MI.eBin, MI.eNeg, MI.eNot, MI.eAnd, MI.eOr, MI.eT, MI.eIf, MI.eIx, MI.eSl, MI.eCall, MI.eInst, MI.eBlt1, MI.eBlt, MI.eMeth, MI.eTup, MI.eLst, MI.eOfA, MI.aNil, MI.aCons, MI.tCmp, MI.tChain, MI.tNot, MI.tAnd, MI.tOr, MI.tOf, MI.tYes, MI.pNo, MI.pYes, MI.boolOf, MI.blOf, MI.truth, MI.partD, MI.gOne, bind_ok, of_some, toS_ok, then_next, then_ret, then_brk, map_some, List.getElem?_cons_zero, List.getElem?_cons_succ, List.set_cons_zero, List.set_cons_succ, if_true, if_false, Bool.false_eq_true, reduceIte]
      rw [op_cat (by show (34 :: esc l).length + 1 ≤ 16777216; rw [List.length_cons]; omega)]
      rfl
    · cases e
  | succ k ih =>
    intro n d st h hl
    rcases h.cases with rfl | ⟨i, rfl, hi⟩ | ⟨l, rfl, hc⟩ | ⟨j, ds, e, rfl, ha⟩
    · have := ih (n + 1) .non st (by unfold Th; trivial) hl
      rw [show n + 1 + k + 1 = n + (k + 1) + 1 by omega] at this
      exact this
    · have := ih (n + 1) (.int i) st (by unfold Th; exact hi) hl
      rw [show n + 1 + k + 1 = n + (k + 1) + 1 by omega] at this
      exact this
    · have := ih (n + 1) (.str (S l)) st (by unfold Th; exact hc) hl
      rw [show n + 1 + k + 1 = n + (k + 1) + 1 by omega] at this
      exact this
    · cases e
      have e1 : txt (.tup ds) = 40 :: (TL.joinL [44, 32] (ds.map txt) ++ [41]) := by
        rw [← txtL_map]; rfl
      have hl2 := hl
      rw [e1, List.length_cons, List.length_append, List.length_singleton] at hl2
      have hn : ds.length ≤ (TL.joinL [44, 32] (ds.map txt)).length + 2 := by
        have := joinL_len [44, 32] (ds.map txt)
        rw [List.length_map] at this
        have h2 : ([44, 32] : List Nat).length = 2 := rfl
        rw [h2] at this
        omega
      have hc : xComp [1] (xOwn 0 (xSeq (eVar 0))) (gOne 1) MI.tYes (eCall (tab G fs (n + (k + 1))) (Str.ofString "thing_text") (aCons (eVar 1) aNil)) [.v (.tup ds), .no] st = .ok (ds.map fun d => .str (S (txt d))) st := by
        refine comp_map (g := fun d => .str (S (txt d))) rfl (Nat.le_trans hn (by show _ ≤ 16777216; omega)) fun d hd => ?_
        show ((tab G fs (n + (k + 1)) (Str.ofString "thing_text") [d] st).bind fun x st4 => Res.ok (some x) st4) = _
        have hd2 := tup_len hd
        rw [show n + (k + 1) = n + k + 1 by omega, ih n d st (ha d hd) (by omega)]
        rfl
      rw [at_thing_text]
      unfold b_thing_text
      simp only [MI.run, MI.strD, MI.lstOf, MI.known, MI.sPar, MI.sTry, MI.sRaise0, MI.sRaise1, MI.sParOwn, MI.sForR, MI.sStar, MI.starD, MI.eTupRg, MI.eLm, MI.eIsX, MI.eFld, MI.eDic0, MI.eLam, MI.xCat, MI.freed, MI.sNil, MI.sCons, MI.sIf, MI.sSet, MI.sSetL, MI.sRet, MI.sRetN, MI.sRetV, MI.sSub, MI.sAug, MI.sApp, MI.sOwn, MI.sSetT, MI.sFor, MI.sWhile, MI.eVar, MI.eBor, MI.eK, MI.eBin, MI.eNeg, MI.eNot, MI.eAnd, MI.eOr, MI.eT, MI.eIf, MI.eIx, MI.eSl, MI.eCall, MI.eInst, MI.eBlt1, MI.eBlt, MI.eMeth, MI.eTup, MI.eLst, MI.eOfA, MI.aNil, MI.aCons, MI.tCmp, MI.tChain, MI.tNot, MI.tAnd, MI.tOr, MI.tOf, MI.tYes, MI.pNo, MI.pYes, MI.boolOf, MI.blOf, MI.truth, MI.partD, MI.gOne, bind_ok, of_some, toS_ok, then_next, then_ret, then_brk, map_some, List.getElem?_cons_zero, List.getElem?_cons_succ, List.set_cons_zero, List.set_cons_succ, if_true, if_false, Bool.false_eq_true, reduceIte, is_tup, hc, meth_join, l_op, l_cl, l_cs]
      rw [show (ds.map fun d => D.str (S (txt d))) = (ds.map txt).map (fun a => D.str (S a)) by rw [List.map_map]; rfl, join_ok (by show _ + 2 ≤ 16777216; omega)]
      simp only [MI.run, MI.strD, MI.lstOf, MI.known, MI.sPar, MI.sTry, MI.sRaise0, MI.sRaise1, MI.sParOwn, MI.sForR, MI.sStar, MI.starD, MI.eTupRg, MI.eLm, MI.eIsX, MI.eFld, MI.eDic0, MI.eLam, MI.xCat, MI.freed, MI.sNil, MI.sCons, MI.sIf, MI.sSet, MI.sSetL, MI.sRet, MI.sRetN, MI.sRetV, MI.sSub, MI.sAug, MI.sApp, MI.sOwn, MI.sSetT, MI.sFor, MI.sWhile, MI.eVar, MI.eBor, MI.eK, MI.eBin, MI.eNeg, MI.eNot, MI.eAnd, MI.eOr, MI.eT, MI.eIf, MI.eIx, MI.eSl, MI.eCall, MI.eInst, MI.eBlt1, MI.eBlt, MI.eMeth, MI.eTup, MI.eLst, MI.eOfA, MI.aNil, MI.aCons, MI.tCmp, MI.tChain, MI.tNot, MI.tAnd, MI.tOr, MI.tOf, MI.tYes, MI.pNo, MI.pYes, MI.boolOf, MI.blOf, MI.truth, MI.partD, MI.gOne, bind_ok, of_some, toS_ok, then_next, then_ret, then_brk, map_some, List.getElem?_cons_zero, List.getElem?_cons_succ, List.set_cons_zero, List.set_cons_succ, if_true, if_false, Bool.false_eq_true, reduceIte]
      rw [op_cat (by show 1 + _ ≤ 16777216; omega)]
      simp only [MI.run, MI.strD, MI.lstOf, MI.known, MI.sPar, MI.sTry, MI.sRaise0, MI.sRaise1, MI.sParOwn, MI.sForR, MI.sStar, MI.starD, MI.eTupRg, MI.eLm, MI.eIsX, MI.eFld, MI.eDic0, MI.eLam, MI.xCat, MI.freed, MI.sNil, MI.sCons, MI.sIf, MI.sSet, MI.sSetL, MI.sRet, MI.sRetN, MI.sRetV, MI.sSub, MI.sAug, MI.sApp, MI.sOwn, MI.sSetT, MI.sFor, MI.sWhile, MI.eVar, MI.eBor, MI.eK, MI.eBin, MI.eNeg, MI.eNot, MI.eAnd, MI.eOr, MI.eT, MI.eIf, MI.eIx, MI.eSl, MI.eCall, MI.eInst, MI.eBlt1, MI.eBlt, MI.eMeth, MI.eTup, MI.eLst, MI.eOfA, MI.aNil, MI.aCons, MI.tCmp, MI.tChain, MI.tNot, MI.tAnd, MI.tOr, MI.tOf, MI.tYes, MI.pNo, MI.pYes, MI.boolOf, MI.blOf, MI.truth, MI.partD, MI.gOne, bind_ok, of_some, toS_ok, then_next, then_ret, then_brk, map_some, List.getElem?_cons_zero, List.getElem?_cons_succ, List.set_cons_zero, List.set_cons_succ, if_true, if_false, Bool.false_eq_true, reduceIte]
      rw [op_cat (by show (40 :: TL.joinL [44, 32] (ds.map txt)).length + 1 ≤ 16777216; rw [List.length_cons]; omega), e1]
      rfl
end K77

set_option maxRecDepth 100000
set_option maxHeartbeats 4000000
namespace K77
open PySem MI SX
theorem joinL_nil : ∀ l : List (List Nat), TL.joinL [] l = l.flatten
  | [] => rfl
  | [p] => by simp [TL.joinL]
  | p :: q :: r => by
    show p ++ ([] ++ TL.joinL [] (q :: r)) = _
    rw [joinL_nil (q :: r), List.nil_append, ← List.flatten_cons]
theorem in_two (c : Nat) : inD (.str (S [c])) (.lst [.str (S [34]), .str (S [92])]) = some (decide (c = 34 ∨ c = 92)) := by
  show (if flat (D.str (S [c])) = true ∧ [D.str (S [34]), D.str (S [92])].all flat = true then some ([D.str (S [34]), D.str (S [92])].any fun d => eqF d (D.str (S [c]))) else none) = _
  rw [if_pos ⟨rfl, rfl⟩]
  show some ((S [34] == S [c]) || ((S [92] == S [c]) || false)) = _
  rw [S_beq_eq, S_beq_eq]
  refine congrArg some ?_
  by_cases h1 : c = 34
  · subst h1; rfl
  · by_cases h2 : c = 92
    · subst h2; rfl
    · rw [decide_eq_false (by intro e; exact h1 (by simpa using e.symm)), decide_eq_false (by intro e; exact h2 (by simpa using e.symm)), decide_eq_false (by rintro (z | z); exact h1 z; exact h2 z)]
      rfl
theorem cmp_in (x y : D) : cmpD .In x y = inD x y := rfl
theorem mul_bs (b : Bool) : opD .Mult (.str (S [92])) (.int (if b = true then 1 else 0)) = some (.str (S (if b = true then [92] else []))) := by
  cases b
  · show (if (S [92]).length ≤ 16 ∧ (0 : Int) ≤ 0 ∧ (0 : Int) ≤ 1000000 then some (D.str (Txt.mul (S [92]) 0)) else none) = _
    rw [if_pos (by decide)]
    rfl
  · show (if (S [92]).length ≤ 16 ∧ (0 : Int) ≤ 1 ∧ (1 : Int) ≤ 1000000 then some (D.str (Txt.mul (S [92]) 1)) else none) = _
    rw [if_pos (by decide)]
    rfl
theorem int_bl (b : Bool) (st : Store) : bltD (Str.ofString "int") [.bl b] st = some (.int (if b = true then 1 else 0)) := rfl
theorem chars_map (l : List Nat) : (seqOf (.str (S l))) = some (l.map fun c => .str (S [c])) := rfl
/-- the law's text -/
theorem ltext_ok : ∀ (k n : Nat) (d : D) (st : Store), Th k d → (txt d).length ≤ 2000000 → tab G fs (n + k + 1) (Str.ofString "_law_text") [d] st = .ok (.str (S (txt d))) st := by
  intro k
  induction k with
  | zero =>
    intro n d st h hl
    rw [Nat.add_zero, at_law_text]
    unfold b_law_text
    rcases h.cases with rfl | ⟨i, rfl, hi⟩ | ⟨l, rfl, hc⟩ | ⟨j, ds, e, _⟩
    · simp only [MI.run, MI.strD, MI.lstOf, MI.known, MI.sPar, MI.sTry, MI.sRaise0, MI.sRaise1, MI.sParOwn, MI.sForR, MI.sStar, MI.starD, MI.eTupRg, MI.eLm, MI.eIsX, MI.eFld, MI.eDic0, MI.eLam, MI.xCat, MI.freed, MI.sNil, MI.sCons, MI.sIf, MI.sSet, MI.sSetL, MI.sRet, MI.sRetN, MI.sRetV, MI.sSub, MI.sAug, MI.sApp, MI.sOwn, MI.sSetT, MI.sFor, MI.sWhile, MI.eVar, MI.eBor, MI.eK, MI.eBin, MI.eNeg, MI.eNot, MI.eAnd, MI.eOr, MI.eT, MI.eIf, MI.eIx, MI.eSl, MI.eCall, MI.eInst, MI.eBlt1, MI.eBlt, MI.eMeth, MI.eTup, MI.eLst, MI.eOfA, MI.aNil, MI.aCons, MI.tCmp, MI.tChain, MI.tNot, MI.tAnd, MI.tOr, MI.tOf, MI.tYes, MI.pNo, MI.pYes, MI.boolOf, MI.blOf, MI.truth, MI.partD, MI.gOne, bind_ok, of_some, toS_ok, then_next, then_ret, then_brk, map_some, List.getElem?_cons_zero, List.getElem?_cons_succ, List.set_cons_zero, List.set_cons_succ, if_true, if_false, Bool.false_eq_true, reduceIte, show isTy D.non st ["tuple"] = some false from rfl, show isTy D.non st ["str"] = some false from rfl, cmp_is, isN, l_none]
      rfl
    · simp only [MI.run, MI.strD, MI.lstOf, MI.known, MI.sPar, MI.sTry, MI.sRaise0, MI.sRaise1, MI.sParOwn, MI.sForR, MI.sStar, MI.starD, MI.eTupRg, MI.eLm, MI.eIsX, MI.eFld, MI.eDic0, MI.eLam, MI.xCat, MI.freed, MI.sNil, MI.sCons, MI.sIf, MI.sSet, MI.sSetL, MI.sRet, MI.sRetN, MI.sRetV, MI.sSub, MI.sAug, MI.sApp, MI.sOwn, MI.sSetT, MI.sFor, MI.sWhile, MI.eVar, MI.eBor, MI.eK, MI.eBin, MI.eNeg, MI.eNot, MI.eAnd, MI.eOr, MI.eT, MI.eIf, MI.eIx, MI.eSl, MI.eCall, MI.eInst, MI.eBlt1, MI.eBlt, MI.eMeth, MI.eTup, MI.eLst, MI.eOfA, MI.aNil, MI.aCons, MI.tCmp, MI.tChain, MI.tNot, MI.tAnd, MI.tOr, MI.tOf, MI.tYes, MI.pNo, MI.pYes, MI.boolOf, MI.blOf, MI.truth, MI.partD, MI.gOne, bind_ok, of_some, toS_ok, then_next, then_ret, then_brk, map_some, List.getElem?_cons_zero, List.getElem?_cons_succ, List.set_cons_zero, List.set_cons_succ, if_true, if_false, Bool.false_eq_true, reduceIte, show isTy (D.int i) st ["tuple"] = some false from rfl, show isTy (D.int i) st ["str"] = some false from rfl, cmp_is, isN, show bltD (Str.ofString "str") [D.int i] st = strF [.int i] from rfl, str_ok hi]
      rfl
    · have hl2 : (34 :: (esc l ++ [34])).length ≤ 2000000 := hl
      rw [List.length_cons, List.length_append, List.length_singleton] at hl2
      have h1 := esc_len l
      have hc2 : xComp [2] (xOwn 0 (xSeq (eVar 0))) (gOne 2) MI.tYes (eBin .Add (eBin .Mult (eK (.str (Str.ofString "\\"))) (eBlt1 (Str.ofString "int") (eT (MI.tCmp .In (eBor 2) (eLst (aCons (eK (.str (Str.ofString "\""))) (aCons (eK (.str (Str.ofString "\\"))) aNil))))))) (eVar 2)) [.v (.str (S l)), .no, .no, .no] st = .ok ((l.map fun c => D.str (S [c])).map fun d => match d with
          | .str z => .str (S (esc z.cps.toList))
          | d => d) st := by
        refine comp_map rfl (by rw [List.length_map]; show _ ≤ 16777216; omega) fun d hd => ?_
        obtain ⟨c, hc3, rfl⟩ := List.mem_map.mp hd
        show ((eBin .Add _ _ [.v (.str (S l)), .no, .v (.str (S [c])), .no] st).bind _) = _
        simp only [MI.run, MI.strD, MI.lstOf, MI.known, MI.sPar, MI.sTry, MI.sRaise0, MI.sRaise1, MI.sParOwn, MI.sForR, MI.sStar, MI.starD, MI.eTupRg, MI.eLm, MI.eIsX, MI.eFld, MI.eDic0, MI.eLam, MI.xCat, MI.freed, MI.sNil, MI.sCons, MI.sIf, MI.sSet, MI.sSetL, MI.sRet, MI.sRetN, MI.sRetV, MI.sSub, MI.sAug, MI.sApp, MI.sOwn, MI.sSetT, MI.sFor, MI.sWhile, MI.eVar, MI.eBor, MI.eK, MI.eBin, MI.eNeg, MI.eNot, MI.eAnd, MI.eOr, MI.eT, MI.eIf, MI.eIx, MI.eSl, MI.eCall, MI.eInst, MI.eBlt1, MI.eBlt, MI.eMeth, MI.eTup, MI.eLst, MI.eOfA, MI.aNil, MI.aCons, MI.tCmp, MI.tChain, MI.tNot, MI.tAnd, MI.tOr, MI.tOf, MI.tYes, MI.pNo, MI.pYes, MI.boolOf, MI.blOf, MI.truth, MI.partD, MI.gOne, bind_ok, of_some, toS_ok, then_next, then_ret, then_brk, map_some, List.getElem?_cons_zero, List.getElem?_cons_succ, List.set_cons_zero, List.set_cons_succ, if_true, if_false, Bool.false_eq_true, reduceIte, l_bs, l_q, cmp_in, in_two, int_bl, mul_bs]
        rw [op_cat (by split <;> (show _ ≤ 16777216; simp))]
        simp only [MI.run, MI.strD, MI.lstOf, MI.known, MI.sPar, MI.sTry, MI.sRaise0, MI.sRaise1, MI.sParOwn, MI.sForR, MI.sStar, MI.starD, MI.eTupRg, MI.eLm, MI.eIsX, MI.eFld, MI.eDic0, MI.eLam, MI.xCat, MI.freed, MI.sNil, MI.sCons, MI.sIf, MI.sSet, MI.sSetL, MI.sRet, MI.sRetN, MI.sRetV, MI.sSub, MI.sAug, MI.sApp, MI.sOwn, MI.sSetT, MI.sFor, MI.sWhile, MI.eVar, MI.eBor, MI.eK, MI.eBin, MI.eNeg, MI.eNot, MI.eAnd, MI.eOr, MI.eT, MI.eIf, MI.eIx, MI.eSl, MI.eCall, MI.eInst, MI.eBlt1, MI.eBlt, MI.eMeth, MI.eTup, MI.eLst, MI.eOfA, MI.aNil, MI.aCons, MI.tCmp, MI.tChain, MI.tNot, MI.tAnd, MI.tOr, MI.tOf, MI.tYes, MI.pNo, MI.pYes, MI.boolOf, MI.blOf, MI.truth, MI.partD, MI.gOne, bind_ok, of_some, toS_ok, then_next, then_ret, then_brk, map_some, List.getElem?_cons_zero, List.getElem?_cons_succ, List.set_cons_zero, List.set_cons_succ, if_true, if_false, Bool.false_eq_true, reduceIte]
        have e : (if decide (c = 34 ∨ c = 92) = true then [92] else []) ++ [c] = esc [c] := by
          show _ = esc1 c ++ []
          unfold esc1
          by_cases h : c = 34 ∨ c = 92
          · rw [decide_eq_true h, if_pos rfl, if_pos h]; rfl
          · rw [decide_eq_false h, if_neg h, if_neg (by simp)]; rfl
        rw [e]
      have e2 : ((l.map fun c => D.str (S [c])).map fun d => match d with
          | .str z => .str (S (esc z.cps.toList))
          | d => d) = (l.map esc1).map fun a => D.str (S a) := by
        rw [List.map_map, List.map_map]
        refine List.map_congr_left fun c _ => ?_
        show D.str (S (esc1 c ++ [])) = _
        rw [List.append_nil]
        rfl
      rw [e2] at hc2
      have e3 : TL.joinL [] (l.map esc1) = esc l := by rw [joinL_nil]; exact List.flatMap_def.symm
      simp only [MI.run, MI.strD, MI.lstOf, MI.known, MI.sPar, MI.sTry, MI.sRaise0, MI.sRaise1, MI.sParOwn, MI.sForR, MI.sStar, MI.starD, MI.eTupRg, MI.eLm, MI.eIsX, MI.eFld, MI.eDic0, MI.eLam, MI.xCat, MI.freed, MI.sNil, MI.sCons, MI.sIf, MI.sSet, MI.sSetL, MI.sRet, MI.sRetN, MI.sRetV, MI.sSub, MI.sAug, MI.sApp, MI.sOwn, MI.sSetT, MI.sFor, MI.sWhile, MI.eVar, MI.eBor, MI.eK, MI.eBin, MI.eNeg, MI.eNot, MI.eAnd, MI.eOr, MI.eT, MI.eIf, MI.eIx, MI.eSl, MI.eCall, MI.eInst, MI.eBlt1, MI.eBlt, MI.eMeth, MI.eTup, MI.eLst, MI.eOfA, MI.aNil, MI.aCons, MI.tCmp, MI.tChain, MI.tNot, MI.tAnd, MI.tOr, MI.tOf, MI.tYes, MI.pNo, MI.pYes, MI.boolOf, MI.blOf, MI.truth, MI.partD, MI.gOne, bind_ok, of_some, toS_ok, then_next, then_ret, then_brk, map_some, List.getElem?_cons_zero, List.getElem?_cons_succ, List.set_cons_zero, List.set_cons_succ, if_true, if_false, Bool.false_eq_true, reduceIte, show isTy (D.str (S l)) st ["tuple"] = some false from rfl, show isTy (D.str (S l)) st ["str"] = some true from rfl, hc2, meth_join, l_empty]
      rw [join_ok (by rw [e3]; show _ + 0 ≤ 16777216; omega), e3]
      simp only [MI.run, MI.strD, MI.lstOf, MI.known, MI.sPar, MI.sTry, MI.sRaise0, MI.sRaise1, MI.sParOwn, MI.sForR, MI.sStar, MI.starD, MI.eTupRg, MI.eLm, MI.eIsX, MI.eFld, MI.eDic0, MI.eLam, MI.xCat, MI.freed, MI.sNil, MI.sCons, MI.sIf, MI.sSet, MI.sSetL, MI.sRet, MI.sRetN, MI.sRetV, MI.sSub, MI.sAug, MI.sApp, MI.sOwn, MI.sSetT, MI.sFor, MI.sWhile, MI.eVar, MI.eBor, MI.eK, MI.eBin, MI.eNeg, MI.eNot, MI.eAnd, MI.eOr, MI.eT, MI.eIf, MI.eIx, MI.eSl, MI.eCall, MI.eInst, MI.eBlt1, MI.eBlt, MI.eMeth, MI.eTup, MI.eLst, MI.eOfA, MI.aNil, MI.aCons, MI.tCmp, MI.tChain, MI.tNot, MI.tAnd, MI.tOr, MI.tOf, MI.tYes, MI.pNo, MI.pYes, MI.boolOf, MI.blOf, MI.truth, MI.partD, MI.gOne, bind_ok, of_some, toS_ok, then_next, then_ret, then_brk, map_some, List.getElem?_cons_zero, List.getElem?_cons_succ, List.set_cons_zero, List.set_cons_succ, if_true, if_false, Bool.false_eq_true, reduceIte, l_q]
      rw [op_cat (by show 1 + _ ≤ 16777216; omega)]
      simp only [MI.run, MI.strD, MI.lstOf, MI.known, MI.sPar, MI.sTry, MI.sRaise0, MI.sRaise1, MI.sParOwn, MI.sForR, MI.sStar, MI.starD, MI.eTupRg, MI.eLm, MI.eIsX, MI.eFld, MI.eDic0, MI.eLam, MI.xCat, MI.freed, MI.sNil, MI.sCons, MI.sIf, MI.sSet, MI.sSetL, MI.sRet, MI.sRetN, MI.sRetV, MI.sSub, MI.sAug, MI.sApp, MI.sOwn, MI.sSetT, MI.sFor, MI.sWhile, MI.eVar, MI.eBor, MI.eK, MI.eBin, MI.eNeg, MI.eNot, MI.eAnd, MI.eOr, MI.eT, MI.eIf, MI.eIx, MI.eSl, MI.eCall, MI.eInst, MI.eBlt1, MI.eBlt, MI.eMeth, MI.eTup, MI.eLst, MI.eOfA, MI.aNil, MI.aCons, MI.tCmp, MI.tChain, MI.tNot, MI.tAnd, MI.tOr, MI.tOf, MI.tYes, MI.pNo, MI.pYes, MI.boolOf, MI.blOf, MI.truth, MI.partD, MI.gOne, bind_ok, of_some, toS_ok, then_next, then_ret, then_brk, map_some, List.getElem?_cons_zero, List.getElem?_cons_succ, List.set_cons_zero, List.set_cons_succ, if_true, if_false, Bool.false_eq_true, reduceIte]
      rw [op_cat (by show (34 :: esc l).length + 1 ≤ 16777216; rw [List.length_cons]; omega)]
      rfl
    · cases e
  | succ k ih =>
    intro n d st h hl
    rcases h.cases with rfl | ⟨i, rfl, hi⟩ | ⟨l, rfl, hc⟩ | ⟨j, ds, e, rfl, ha⟩
    · have := ih (n + 1) .non st (by unfold Th; trivial) hl
      rw [show n + 1 + k + 1 = n + (k + 1) + 1 by omega] at this
      exact this
    · have := ih (n + 1) (.int i) st (by unfold Th; exact hi) hl
      rw [show n + 1 + k + 1 = n + (k + 1) + 1 by omega] at this
      exact this
    · have := ih (n + 1) (.str (S l)) st (by unfold Th; exact hc) hl
      rw [show n + 1 + k + 1 = n + (k + 1) + 1 by omega] at this
      exact this
    · cases e
      have e1 : txt (.tup ds) = 40 :: (TL.joinL [44, 32] (ds.map txt) ++ [41]) := by
        rw [← txtL_map]; rfl
      have hl2 := hl
      rw [e1, List.length_cons, List.length_append, List.length_singleton] at hl2
      have hn : ds.length ≤ (TL.joinL [44, 32] (ds.map txt)).length + 2 := by
        have := joinL_len [44, 32] (ds.map txt)
        rw [List.length_map] at this
        have h2 : ([44, 32] : List Nat).length = 2 := rfl
        rw [h2] at this
        omega
      have hc : xComp [3] (xOwn 0 (xSeq (eVar 0))) (gOne 3) MI.tYes (eCall (tab G fs (n + (k + 1))) (Str.ofString "_law_text") (aCons (eVar 3) aNil)) [.v (.tup ds), .no, .no, .no] st = .ok (ds.map fun d => .str (S (txt d))) st := by
        refine comp_map (g := fun d => .str (S (txt d))) rfl (Nat.le_trans hn (by show _ ≤ 16777216; omega)) fun d hd => ?_
        show ((tab G fs (n + (k + 1)) (Str.ofString "_law_text") [d] st).bind fun x st4 => Res.ok (some x) st4) = _
        have hd2 := tup_len hd
        rw [show n + (k + 1) = n + k + 1 by omega, ih n d st (ha d hd) (by omega)]
        rfl
      rw [at_law_text]
      unfold b_law_text
      simp only [MI.run, MI.strD, MI.lstOf, MI.known, MI.sPar, MI.sTry, MI.sRaise0, MI.sRaise1, MI.sParOwn, MI.sForR, MI.sStar, MI.starD, MI.eTupRg, MI.eLm, MI.eIsX, MI.eFld, MI.eDic0, MI.eLam, MI.xCat, MI.freed, MI.sNil, MI.sCons, MI.sIf, MI.sSet, MI.sSetL, MI.sRet, MI.sRetN, MI.sRetV, MI.sSub, MI.sAug, MI.sApp, MI.sOwn, MI.sSetT, MI.sFor, MI.sWhile, MI.eVar, MI.eBor, MI.eK, MI.eBin, MI.eNeg, MI.eNot, MI.eAnd, MI.eOr, MI.eT, MI.eIf, MI.eIx, MI.eSl, MI.eCall, MI.eInst, MI.eBlt1, MI.eBlt, MI.eMeth, MI.eTup, MI.eLst, MI.eOfA, MI.aNil, MI.aCons, MI.tCmp, MI.tChain, MI.tNot, MI.tAnd, MI.tOr, MI.tOf, MI.tYes, MI.pNo, MI.pYes, MI.boolOf, MI.blOf, MI.truth, MI.partD, MI.gOne, bind_ok, of_some, toS_ok, then_next, then_ret, then_brk, map_some, List.getElem?_cons_zero, List.getElem?_cons_succ, List.set_cons_zero, List.set_cons_succ, if_true, if_false, Bool.false_eq_true, reduceIte, is_tup, hc, meth_join, l_op, l_cl, l_cs]
      rw [show (ds.map fun d => D.str (S (txt d))) = (ds.map txt).map (fun a => D.str (S a)) by rw [List.map_map]; rfl, join_ok (by show _ + 2 ≤ 16777216; omega)]
      simp only [MI.run, MI.strD, MI.lstOf, MI.known, MI.sPar, MI.sTry, MI.sRaise0, MI.sRaise1, MI.sParOwn, MI.sForR, MI.sStar, MI.starD, MI.eTupRg, MI.eLm, MI.eIsX, MI.eFld, MI.eDic0, MI.eLam, MI.xCat, MI.freed, MI.sNil, MI.sCons, MI.sIf, MI.sSet, MI.sSetL, MI.sRet, MI.sRetN, MI.sRetV, MI.sSub, MI.sAug, MI.sApp, MI.sOwn, MI.sSetT, MI.sFor, MI.sWhile, MI.eVar, MI.eBor, MI.eK, MI.eBin, MI.eNeg, MI.eNot, MI.eAnd, MI.eOr, MI.eT, MI.eIf, MI.eIx, MI.eSl, MI.eCall, MI.eInst, MI.eBlt1, MI.eBlt, MI.eMeth, MI.eTup, MI.eLst, MI.eOfA, MI.aNil, MI.aCons, MI.tCmp, MI.tChain, MI.tNot, MI.tAnd, MI.tOr, MI.tOf, MI.tYes, MI.pNo, MI.pYes, MI.boolOf, MI.blOf, MI.truth, MI.partD, MI.gOne, bind_ok, of_some, toS_ok, then_next, then_ret, then_brk, map_some, List.getElem?_cons_zero, List.getElem?_cons_succ, List.set_cons_zero, List.set_cons_succ, if_true, if_false, Bool.false_eq_true, reduceIte]
      rw [op_cat (by show 1 + _ ≤ 16777216; omega)]
      simp only [MI.run, MI.strD, MI.lstOf, MI.known, MI.sPar, MI.sTry, MI.sRaise0, MI.sRaise1, MI.sParOwn, MI.sForR, MI.sStar, MI.starD, MI.eTupRg, MI.eLm, MI.eIsX, MI.eFld, MI.eDic0, MI.eLam, MI.xCat, MI.freed, MI.sNil, MI.sCons, MI.sIf, MI.sSet, MI.sSetL, MI.sRet, MI.sRetN, MI.sRetV, MI.sSub, MI.sAug, MI.sApp, MI.sOwn, MI.sSetT, MI.sFor, MI.sWhile, MI.eVar, MI.eBor, MI.eK, MI.eBin, MI.eNeg, MI.eNot, MI.eAnd, MI.eOr, MI.eT, MI.eIf, MI.eIx, MI.eSl, MI.eCall, MI.eInst, MI.eBlt1, MI.eBlt, MI.eMeth, MI.eTup, MI.eLst, MI.eOfA, MI.aNil, MI.aCons, MI.tCmp, MI.tChain, MI.tNot, MI.tAnd, MI.tOr, MI.tOf, MI.tYes, MI.pNo, MI.pYes, MI.boolOf, MI.blOf, MI.truth, MI.partD, MI.gOne, bind_ok, of_some, toS_ok, then_next, then_ret, then_brk, map_some, List.getElem?_cons_zero, List.getElem?_cons_succ, List.set_cons_zero, List.set_cons_succ, if_true, if_false, Bool.false_eq_true, reduceIte]
      rw [op_cat (by show (40 :: TL.joinL [44, 32] (ds.map txt)).length + 1 ≤ 16777216; rw [List.length_cons]; omega), e1]
      rfl
end K77

set_option maxRecDepth 100000
set_option maxHeartbeats 4000000
namespace K77
open PySem MI SX
def isF (c : Nat) : Bool := decide (48 ≤ c) && decide (c ≤ 57)
def sgn (s : List Nat) : List Nat := if s.take 1 = [45] then [45] else []
def figs (s : List Nat) : List Nat := (s.drop (sgn s).length).takeWhile isF
def numV (s : List Nat) : Int := if s.take 1 = [45] then -((NumText.digitsVal (figs s) : Nat) : Int) else ((NumText.digitsVal (figs s) : Nat) : Int)
/-- a number at a text's begin -/
def numP (s : List Nat) : Option (D × Nat) :=
  if figs s = [] ∨ 400 < (figs s).length ∨ ((figs s).take 1 = [48] ∧ sgn s ++ figs s ≠ [48]) then none else some (.int (numV s), (sgn s).length + (figs s).length)
/-- what a reader gives out that began at the place a -/
def told (a : Nat) : Option (D × Nat) → D
  | none => .non
  | some (d, c) => .tup [d, .int ((a + c : Nat) : Int)]
theorem len_ok {t : List Nat} (h : t.length ≤ big) (st : Store) : bltD (Str.ofString "len") [.str (S t)] st = some (.int (t.length : Nat)) := by
  show (lenD (.str (S t)) st).map (fun n => D.int (n : Nat)) = _
  have : lenD (.str (S t)) st = some t.length := by
    show (if (S t).length ≤ big then some (S t).length else none) = _
    rw [S_len, if_pos h]
  rw [this]
  rfl
theorem sl_ok {t : List Nat} (h : t.length ≤ big) (a b : Nat) : slD (.str (S t)) (some (a : Int)) (some (b : Int)) = some (.str (S ((t.drop a).take (b - a)))) := by
  show (if (S t).length ≤ big then some (D.str (L2.cutS (S t) (some (a : Int)) (some (b : Int)))) else none) = _
  rw [S_len, if_pos h]
  refine congrArg (fun z => some (D.str z)) (TL.ext_tl ?_)
  show (t.drop (HT.sIx (S t).length 0 (some (a : Int)))).take (HT.sIx (S t).length (S t).length (some (b : Int)) - HT.sIx (S t).length 0 (some (a : Int))) = (t.drop a).take (b - a)
  rw [HT.sIx_nat, HT.sIx_nat, S_len]
  by_cases ha : a ≤ t.length
  · rw [Nat.min_eq_left ha]
    by_cases hb : b ≤ t.length
    · rw [Nat.min_eq_left hb]
    · rw [Nat.min_eq_right (by omega), List.take_of_length_le (by rw [List.length_drop]; omega), List.take_of_length_le (by rw [List.length_drop]; omega)]
  · rw [show min a t.length = t.length by omega, List.drop_eq_nil_of_le (Nat.le_refl _), List.drop_eq_nil_of_le (show t.length ≤ a by omega)]
    simp
theorem sl1 {t : List Nat} (h : t.length ≤ big) (a : Nat) (k : Nat) : slD (.str (S t)) (some (a : Int)) (some ((a : Int) + (k : Nat))) = some (.str (S ((t.drop a).take k))) := by
  have := sl_ok h a (a + k)
  rw [show ((a + k : Nat) : Int) = (a : Int) + (k : Nat) by omega, show a + k - a = k by omega] at this
  exact this
theorem sl_1 {t : List Nat} (h : t.length ≤ big) (a : Nat) : slD (.str (S t)) (some (a : Int)) (some ((a : Int) + 1)) = some (.str (S ((t.drop a).take 1))) := sl1 h a 1
theorem sl_2 {t : List Nat} (h : t.length ≤ big) (a : Nat) : slD (.str (S t)) (some (a : Int)) (some ((a : Int) + 2)) = some (.str (S ((t.drop a).take 2))) := sl1 h a 2
theorem sl_4 {t : List Nat} (h : t.length ≤ big) (a : Nat) : slD (.str (S t)) (some (a : Int)) (some ((a : Int) + 4)) = some (.str (S ((t.drop a).take 4))) := sl1 h a 4
theorem sl_12 {t : List Nat} (h : t.length ≤ big) (a : Nat) : slD (.str (S t)) (some ((a : Int) + 1)) (some ((a : Int) + 2)) = some (.str (S ((t.drop (a + 1)).take 1))) := by
  have := sl_ok h (a + 1) (a + 2)
  rw [show a + 2 - (a + 1) = 1 by omega] at this
  exact this
theorem ix_ok {t : List Nat} (h : t.length ≤ big) {a c : Nat} (hc : t[a]? = some c) (st : Store) : ixD (.str (S t)) (.int (a : Int)) st = some (.str (S [c])) := by
  show (if (S t).length ≤ big then (L2.atI t (a : Int)).map (fun c => D.str ⟨#[c]⟩) else none) = _
  rw [S_len, if_pos h, L2.atI_nat hc]
  rfl
theorem eqS (a b : List Nat) : cmpD .Eq (.str (S a)) (.str (S b)) = some (decide (a = b)) := by
  rw [cmp_eqS, S_beq_eq]
theorem neS (a b : List Nat) : cmpD .NotEq (.str (S a)) (.str (S b)) = some (!decide (a = b)) := by
  rw [cmp_neS, S_beq_eq]
theorem fig_in (c : Nat) : cmpD .In (.str (S [c])) (.str (Str.ofString "0123456789")) = some (isF c) := by
  show some (decide (c ∈ (Str.ofString "0123456789").cps.toList)) = _
  have e : (Str.ofString "0123456789").cps.toList = [48, 49, 50, 51, 52, 53, 54, 55, 56, 57] := by decide +kernel
  rw [e]
  refine congrArg some ?_
  unfold isF
  by_cases h : 48 ≤ c ∧ c ≤ 57
  · rw [decide_eq_true h.1, decide_eq_true h.2]
    refine decide_eq_true ?_
    have : c = 48 ∨ c = 49 ∨ c = 50 ∨ c = 51 ∨ c = 52 ∨ c = 53 ∨ c = 54 ∨ c = 55 ∨ c = 56 ∨ c = 57 := by omega
    simpa using this
  · have h2 : ¬ c ∈ [48, 49, 50, 51, 52, 53, 54, 55, 56, 57] := by
      intro hm
      simp only [List.mem_cons, List.not_mem_nil, or_false] at hm
      omega
    rw [decide_eq_false h2]
    by_cases h3 : 48 ≤ c
    · rw [decide_eq_true h3, decide_eq_false (by omega)]; rfl
    · rw [decide_eq_false h3]; rfl
theorem drop_cons {t : List Nat} {a c : Nat} {r : List Nat} (h : t.drop a = c :: r) : t[a]? = some c ∧ t.drop (a + 1) = r ∧ a < t.length := by
  have h1 : a < t.length := by
    by_cases hl : a < t.length
    · exact hl
    · rw [List.drop_eq_nil_of_le (by omega)] at h; cases h
  refine ⟨?_, ?_, h1⟩
  · rw [List.getElem?_eq_getElem h1]
    rw [List.drop_eq_getElem_cons h1] at h
    cases h; rfl
  · rw [← List.tail_drop, h]; rfl
theorem drop_nil {t : List Nat} {a : Nat} (h : t.drop a = []) : t.length ≤ a := List.drop_eq_nil_iff.mp h
theorem num_loop {t : List Nat} (ht : t.length ≤ big) (x : Sl) (st : Store) : ∀ (g : List Nat) (e m : Nat), (t.drop e).takeWhile isF = g → g.length < m →
    whileF (MI.tAnd (MI.tCmp .Lt (eBor 2) (eBlt1 (Str.ofString "len") (eBor 0))) (MI.tCmp .In (eIx (eBor 0) (eVar 2)) (eK (.str (Str.ofString "0123456789"))))) (sCons (sAug 2 .Add (eK (.int 1))) sNil) m [.v (.str (S t)), x, .v (.int (e : Nat)), .no, .no] st =
      .next [.v (.str (S t)), x, .v (.int ((e + g.length : Nat) : Int)), .no, .no] st := by
  intro g
  induction g with
  | nil =>
    intro e m hg hm
    obtain ⟨m, rfl⟩ : ∃ k, m = k + 1 := ⟨m - 1, by simp at hm; omega⟩
    unfold whileF
    cases hd : t.drop e with
    | nil =>
      have := drop_nil hd
      simp only [MI.run, MI.strD, MI.lstOf, MI.known, MI.sPar, MI.sTry, MI.sRaise0, MI.sRaise1, MI.sParOwn, MI.sForR, MI.sStar, MI.starD, MI.eTupRg, MI.eLm, MI.eIsX, MI.eFld, MI.eDic0, MI.eLam, MI.xCat, MI.freed, MI.sNil, MI.sCons, MI.sIf, MI.sSet, MI.sSetL, MI.sRet, MI.sRetN, MI.sRetV, MI.sSub, MI.sAug, MI.sApp, MI.sOwn, MI.sSetT, MI.sFor, MI.sWhile, MI.eVar, MI.eBor, MI.eK, MI.eBin, MI.eNeg, MI.eNot, MI.eAnd, MI.eOr, MI.eT, MI.eIf, MI.eIx, MI.eSl, MI.eCall, MI.eInst, MI.eBlt1, MI.eBlt, MI.eMeth, MI.eTup, MI.eLst, MI.eOfA, MI.aNil, MI.aCons, MI.tCmp, MI.tChain, MI.tNot, MI.tAnd, MI.tOr, MI.tOf, MI.tYes, MI.pNo, MI.pYes, MI.boolOf, MI.blOf, MI.truth, MI.partD, MI.gOne, bind_ok, of_some, toS_ok, then_next, then_ret, then_brk, map_some, List.getElem?_cons_zero, List.getElem?_cons_succ, List.set_cons_zero, List.set_cons_succ, if_true, if_false, Bool.false_eq_true, reduceIte, len_ok ht, cmp_lt, decide_eq_false (show ¬ (e : Int) < (t.length : Nat) by omega)]
      rfl
    | cons c r =>
      obtain ⟨h1, h2, h3⟩ := drop_cons hd
      rw [hd, List.takeWhile_cons] at hg
      have hf : isF c = false := by
        cases hq : isF c with
        | false => rfl
        | true => rw [hq] at hg; simp at hg
      simp only [MI.run, MI.strD, MI.lstOf, MI.known, MI.sPar, MI.sTry, MI.sRaise0, MI.sRaise1, MI.sParOwn, MI.sForR, MI.sStar, MI.starD, MI.eTupRg, MI.eLm, MI.eIsX, MI.eFld, MI.eDic0, MI.eLam, MI.xCat, MI.freed, MI.sNil, MI.sCons, MI.sIf, MI.sSet, MI.sSetL, MI.sRet, MI.sRetN, MI.sRetV, MI.sSub, MI.sAug, MI.sApp, MI.sOwn, MI.sSetT, MI.sFor, MI.sWhile, MI.eVar, MI.eBor, MI.eK, MI.eBin, MI.eNeg, MI.eNot, MI.eAnd, MI.eOr, MI.eT, MI.eIf, MI.eIx, MI.eSl, MI.eCall, MI.eInst, MI.eBlt1, MI.eBlt, MI.eMeth, MI.eTup, MI.eLst, MI.eOfA, MI.aNil, MI.aCons, MI.tCmp, MI.tChain, MI.tNot, MI.tAnd, MI.tOr, MI.tOf, MI.tYes, MI.pNo, MI.pYes, MI.boolOf, MI.blOf, MI.truth, MI.partD, MI.gOne, bind_ok, of_some, toS_ok, then_next, then_ret, then_brk, map_some, List.getElem?_cons_zero, List.getElem?_cons_succ, List.set_cons_zero, List.set_cons_succ, if_true, if_false, Bool.false_eq_true, reduceIte, len_ok ht, cmp_lt, decide_eq_true (show (e : Int) < (t.length : Nat) by omega), ix_ok ht h1, fig_in, hf]
      rfl
  | cons c g ih =>
    intro e m hg hm
    obtain ⟨m, rfl⟩ : ∃ k, m = k + 1 := ⟨m - 1, by simp at hm; omega⟩
    unfold whileF
    cases hd : t.drop e with
    | nil => rw [hd] at hg; cases hg
    | cons c' r =>
      obtain ⟨h1, h2, h3⟩ := drop_cons hd
      rw [hd, List.takeWhile_cons] at hg
      cases hq : isF c' with
      | false => rw [hq] at hg; simp at hg
      | true =>
        rw [hq] at hg
        simp only [if_true, List.cons.injEq] at hg
        obtain ⟨rfl, hg⟩ := hg
        simp only [MI.run, MI.strD, MI.lstOf, MI.known, MI.sPar, MI.sTry, MI.sRaise0, MI.sRaise1, MI.sParOwn, MI.sForR, MI.sStar, MI.starD, MI.eTupRg, MI.eLm, MI.eIsX, MI.eFld, MI.eDic0, MI.eLam, MI.xCat, MI.freed, MI.sNil, MI.sCons, MI.sIf, MI.sSet, MI.sSetL, MI.sRet, MI.sRetN, MI.sRetV, MI.sSub, MI.sAug, MI.sApp, MI.sOwn, MI.sSetT, MI.sFor, MI.sWhile, MI.eVar, MI.eBor, MI.eK, MI.eBin, MI.eNeg, MI.eNot, MI.eAnd, MI.eOr, MI.eT, MI.eIf, MI.eIx, MI.eSl, MI.eCall, MI.eInst, MI.eBlt1, MI.eBlt, MI.eMeth, MI.eTup, MI.eLst, MI.eOfA, MI.aNil, MI.aCons, MI.tCmp, MI.tChain, MI.tNot, MI.tAnd, MI.tOr, MI.tOf, MI.tYes, MI.pNo, MI.pYes, MI.boolOf, MI.blOf, MI.truth, MI.partD, MI.gOne, bind_ok, of_some, toS_ok, then_next, then_ret, then_brk, map_some, List.getElem?_cons_zero, List.getElem?_cons_succ, List.set_cons_zero, List.set_cons_succ, if_true, if_false, Bool.false_eq_true, reduceIte, len_ok ht, cmp_lt, decide_eq_true (show (e : Int) < (t.length : Nat) by omega), ix_ok ht h1, fig_in, hq, augI]
        have := ih (e + 1) m (by rw [h2]; exact hg) (by simp at hm; omega)
        rw [show ((e + 1 : Nat) : Int) = (e : Int) + 1 by omega] at this
        rw [this]
        rw [List.length_cons]
        refine congrArg (fun z => RS.next [.v (.str (S t)), x, .v (.int z), .no, .no] st) ?_
        omega
theorem lstrip_ok (w : List Nat) : Txt.lstripChars (S w) (S [45]) = S (w.dropWhile (· == 45)) := by
  have hg : (S [45]).cps.contains = fun c => c == 45 := by
    funext c
    show (#[45] : Array Nat).contains c = (c == 45)
    simp [Array.contains, BEq.comm]
  have key : ∀ w : List Nat, w.dropWhile (· == 45) = w.drop (w.takeWhile (· == 45)).length := fun w => by
    induction w with
    | nil => rfl
    | cons c w ih =>
      rw [List.dropWhile_cons, List.takeWhile_cons]
      split
      · rw [List.length_cons, List.drop_succ_cons]; exact ih
      · rfl
  show Txt.stripBy (S [45]).cps.contains true false (S w) = _
  rw [hg]
  unfold Txt.stripBy
  split
  · rename_i h
    refine congrArg S ?_
    have h1 : ((stripLo (fun c => c == 45) true (S w)) == 0) = true := by
      unfold stripSame at h
      simp only [Bool.and_eq_true] at h
      exact h.1
    have h2 : (w.takeWhile (· == 45)).length = 0 := eq_of_beq h1
    rw [key, h2]; rfl
  · refine TL.ext_tl ?_
    show (stripped (fun c => c == 45) true false (S w)).cps.toList = w.dropWhile (· == 45)
    unfold stripped
    rw [PySem.StrLaws.strSub_toList]
    show (w.drop (w.takeWhile (· == 45)).length).take ((S w).length - _) = _
    rw [key, S_len, List.take_of_length_le]
    rw [List.length_drop]
    exact Nat.le_refl _
theorem take1_ne {s : List Nat} : s.take 1 = [45] ↔ ∃ r, s = 45 :: r := by
  cases s with
  | nil => simp
  | cons c r => simp
theorem tw_all {p : Nat → Bool} : ∀ l : List Nat, ∀ c ∈ l.takeWhile p, p c = true
  | [], c, h => by cases h
  | x :: l, c, h => by
    rw [List.takeWhile_cons] at h
    split at h
    · rename_i hx
      rcases List.mem_cons.mp h with e | e
      · rw [e]; exact hx
      · exact tw_all l c e
    · cases h
theorem figs_all (s : List Nat) : ∀ c ∈ figs s, isF c = true := tw_all _
theorem drop_minus {l : List Nat} (h : ∀ c ∈ l, isF c = true) : l.dropWhile (· == 45) = l := by
  cases l with
  | nil => rfl
  | cons c r =>
    have := h c List.mem_cons_self
    rw [List.dropWhile_cons]
    have : (c == 45) = false := by
      rw [beq_eq_false_iff_ne]
      intro e
      subst e
      exact absurd this (by decide)
    rw [this]
    rfl
theorem word_eq (s : List Nat) : s.take ((sgn s).length + (figs s).length) = sgn s ++ figs s := by
  have h1 : s = sgn s ++ s.drop (sgn s).length := by
    unfold sgn
    split
    · rename_i h
      obtain ⟨r, rfl⟩ := take1_ne.mp h
      rfl
    · rfl
  have h2 : (s.drop (sgn s).length).take (figs s).length = figs s := by
    unfold figs
    exact (List.prefix_iff_eq_take.mp (List.takeWhile_prefix isF)).symm
  have e : s.take ((sgn s).length + (figs s).length) = (sgn s ++ s.drop (sgn s).length).take ((sgn s).length + (figs s).length) := by rw [← h1]
  rw [e, List.take_append, List.take_of_length_le (by omega), Nat.add_sub_cancel_left, h2]
theorem strip_word (s : List Nat) : Txt.lstripChars (S (sgn s ++ figs s)) (S [45]) = S (figs s) := by
  rw [lstrip_ok]
  refine congrArg S ?_
  have h : (sgn s ++ figs s).dropWhile (· == 45) = (figs s).dropWhile (· == 45) := by
    unfold sgn
    split <;> rfl
  rw [h, drop_minus (figs_all s)]
theorem isF_iff {c : Nat} : isF c = true ↔ 48 ≤ c ∧ c ≤ 57 := by
  unfold isF
  rw [Bool.and_eq_true, decide_eq_true_eq, decide_eq_true_eq]
theorem int_word {s : List Nat} (h1 : figs s ≠ []) (h2 : (figs s).length ≤ 400) (st : Store) : bltD (Str.ofString "int") [.str (S (sgn s ++ figs s))] st = some (.int (numV s)) := by
  have hl : (sgn s ++ figs s).length ≤ 401 := by
    rw [List.length_append]
    have : (sgn s).length ≤ 1 := by
      unfold sgn; split <;> simp
    omega
  show (if (S (sgn s ++ figs s)).length ≤ 640 then (PySem.intText? (S (sgn s ++ figs s))).map (fun n => D.int n) else none) = _
  rw [S_len, if_pos (by omega)]
  have hd : ∀ c ∈ figs s, 48 ≤ c ∧ c ≤ 57 := fun c hc => isF_iff.mp (figs_all s c hc)
  unfold numV sgn
  split
  · rename_i h
    have := PySem.intText_neg (x := S ([45] ++ figs s)) (cs := figs s) rfl hd h1 (by rw [S_len, List.length_append]; have : ([45] : List Nat).length = 1 := rfl; omega)
    rw [this]
    rfl
  · have := PySem.intText_digits (x := S ([] ++ figs s)) (by exact hd) (by exact h1) (by rw [S_len, List.nil_append]; omega)
    rw [this]
    rfl
theorem ltLots {n : Nat} (h : n ≤ big) : n < lots := Nat.lt_of_le_of_lt h (by decide)
/-- number_from -/
theorem num_ok (n : Nat) {t : List Nat} (ht : t.length ≤ 4000000) (a : Nat) (st : Store) : tab G fs (n + 1) (Str.ofString "number_from") [.str (S t), .int (a : Nat)] st = .ok (told a (numP (t.drop a))) st := by
  have hb : t.length ≤ big := Nat.le_trans ht (by decide)
  rw [at_number_from]
  unfold b_number_from
  have e1 : (MI.eIf (MI.tCmp .Eq (eSl (eBor 0) (pYes (eVar 1)) (pYes (eBin .Add (eVar 1) (eK (.int 1))))) (eK (.str (Str.ofString "-")))) (eBin .Add (eVar 1) (eK (.int 1))) (eVar 1)) [.v (.str (S t)), .v (.int (a : Nat)), .no, .no, .no] st = .ok (.int ((a + (sgn (t.drop a)).length : Nat) : Int)) st := by
    simp only [MI.run, MI.strD, MI.lstOf, MI.known, MI.sPar, MI.sTry, MI.sRaise0, MI.sRaise1, MI.sParOwn, MI.sForR, MI.sStar, MI.starD, MI.eTupRg, MI.eLm, MI.eIsX, MI.eFld, MI.eDic0, MI.eLam, MI.xCat, MI.freed, MI.sNil, MI.sCons, MI.sIf, MI.sSet, MI.sSetL, MI.sRet, MI.sRetN, MI.sRetV, MI.sSub, MI.sAug, MI.sApp, MI.sOwn, MI.sSetT, MI.sFor, MI.sWhile, MI.eVar, MI.eBor, MI.eK, MI.eBin, MI.eNeg, MI.eNot, MI.eAnd, MI.eOr, MI.eT, MI.eIf, MI.eIx, MI.eSl, MI.eCall, MI.eInst, MI.eBlt1, MI.eBlt, MI.eMeth, MI.eTup, MI.eLst, MI.eOfA, MI.aNil, MI.aCons, MI.tCmp, MI.tChain, MI.tNot, MI.tAnd, MI.tOr, MI.tOf, MI.tYes, MI.pNo, MI.pYes, MI.boolOf, MI.blOf, MI.truth, MI.partD, MI.gOne, bind_ok, of_some, toS_ok, then_next, then_ret, then_brk, map_some, List.getElem?_cons_zero, List.getElem?_cons_succ, List.set_cons_zero, List.set_cons_succ, if_true, if_false, Bool.false_eq_true, reduceIte, op_add, sl_1 hb, l_minus, eqS]
    unfold sgn
    by_cases h : (t.drop a).take 1 = [45]
    · rw [decide_eq_true h, if_pos h]
      simp only [MI.run, MI.strD, MI.lstOf, MI.known, MI.sPar, MI.sTry, MI.sRaise0, MI.sRaise1, MI.sParOwn, MI.sForR, MI.sStar, MI.starD, MI.eTupRg, MI.eLm, MI.eIsX, MI.eFld, MI.eDic0, MI.eLam, MI.xCat, MI.freed, MI.sNil, MI.sCons, MI.sIf, MI.sSet, MI.sSetL, MI.sRet, MI.sRetN, MI.sRetV, MI.sSub, MI.sAug, MI.sApp, MI.sOwn, MI.sSetT, MI.sFor, MI.sWhile, MI.eVar, MI.eBor, MI.eK, MI.eBin, MI.eNeg, MI.eNot, MI.eAnd, MI.eOr, MI.eT, MI.eIf, MI.eIx, MI.eSl, MI.eCall, MI.eInst, MI.eBlt1, MI.eBlt, MI.eMeth, MI.eTup, MI.eLst, MI.eOfA, MI.aNil, MI.aCons, MI.tCmp, MI.tChain, MI.tNot, MI.tAnd, MI.tOr, MI.tOf, MI.tYes, MI.pNo, MI.pYes, MI.boolOf, MI.blOf, MI.truth, MI.partD, MI.gOne, bind_ok, of_some, toS_ok, then_next, then_ret, then_brk, map_some, List.getElem?_cons_zero, List.getElem?_cons_succ, List.set_cons_zero, List.set_cons_succ, if_true, if_false, Bool.false_eq_true, reduceIte, op_add]
      rfl
    · rw [decide_eq_false h, if_neg h]
      simp only [MI.run, MI.strD, MI.lstOf, MI.known, MI.sPar, MI.sTry, MI.sRaise0, MI.sRaise1, MI.sParOwn, MI.sForR, MI.sStar, MI.starD, MI.eTupRg, MI.eLm, MI.eIsX, MI.eFld, MI.eDic0, MI.eLam, MI.xCat, MI.freed, MI.sNil, MI.sCons, MI.sIf, MI.sSet, MI.sSetL, MI.sRet, MI.sRetN, MI.sRetV, MI.sSub, MI.sAug, MI.sApp, MI.sOwn, MI.sSetT, MI.sFor, MI.sWhile, MI.eVar, MI.eBor, MI.eK, MI.eBin, MI.eNeg, MI.eNot, MI.eAnd, MI.eOr, MI.eT, MI.eIf, MI.eIx, MI.eSl, MI.eCall, MI.eInst, MI.eBlt1, MI.eBlt, MI.eMeth, MI.eTup, MI.eLst, MI.eOfA, MI.aNil, MI.aCons, MI.tCmp, MI.tChain, MI.tNot, MI.tAnd, MI.tOr, MI.tOf, MI.tYes, MI.pNo, MI.pYes, MI.boolOf, MI.blOf, MI.truth, MI.partD, MI.gOne, bind_ok, of_some, toS_ok, then_next, then_ret, then_brk, map_some, List.getElem?_cons_zero, List.getElem?_cons_succ, List.set_cons_zero, List.set_cons_succ, if_true, if_false, Bool.false_eq_true, reduceIte, op_add]
      rfl
  have e2 := num_loop hb (.v (.int (a : Nat))) st (figs (t.drop a)) (a + (sgn (t.drop a)).length) lots (by unfold figs; rw [List.drop_drop]) (ltLots (Nat.le_trans (by
    have := word_eq (t.drop a)
    have h3 := congrArg List.length this
    rw [List.length_take, List.length_append, List.length_drop] at h3
    omega) hb))
  have e3 := sl_ok hb a (a + (sgn (t.drop a)).length + (figs (t.drop a)).length)
  rw [show a + (sgn (t.drop a)).length + (figs (t.drop a)).length - a = (sgn (t.drop a)).length + (figs (t.drop a)).length by omega, word_eq] at e3
  refine (run_set e1).trans ?_
  refine (run_while e2).trans ?_
  have e4 : (eSl (eBor 0) (pYes (eVar 1)) (pYes (eVar 2))) [.v (.str (S t)), .v (.int (a : Nat)), .v (.int ((a + (sgn (t.drop a)).length + (figs (t.drop a)).length : Nat) : Int)), .no, .no] st = .ok (.str (S (sgn (t.drop a) ++ figs (t.drop a)))) st := by
    simp only [MI.run, MI.strD, MI.lstOf, MI.known, MI.sPar, MI.sTry, MI.sRaise0, MI.sRaise1, MI.sParOwn, MI.sForR, MI.sStar, MI.starD, MI.eTupRg, MI.eLm, MI.eIsX, MI.eFld, MI.eDic0, MI.eLam, MI.xCat, MI.freed, MI.sNil, MI.sCons, MI.sIf, MI.sSet, MI.sSetL, MI.sRet, MI.sRetN, MI.sRetV, MI.sSub, MI.sAug, MI.sApp, MI.sOwn, MI.sSetT, MI.sFor, MI.sWhile, MI.eVar, MI.eBor, MI.eK, MI.eBin, MI.eNeg, MI.eNot, MI.eAnd, MI.eOr, MI.eT, MI.eIf, MI.eIx, MI.eSl, MI.eCall, MI.eInst, MI.eBlt1, MI.eBlt, MI.eMeth, MI.eTup, MI.eLst, MI.eOfA, MI.aNil, MI.aCons, MI.tCmp, MI.tChain, MI.tNot, MI.tAnd, MI.tOr, MI.tOf, MI.tYes, MI.pNo, MI.pYes, MI.boolOf, MI.blOf, MI.truth, MI.partD, MI.gOne, bind_ok, of_some, toS_ok, then_next, then_ret, then_brk, map_some, List.getElem?_cons_zero, List.getElem?_cons_succ, List.set_cons_zero, List.set_cons_succ, if_true, if_false, Bool.false_eq_true, reduceIte, e3]
  refine (run_set e4).trans ?_
  have hw : (sgn (t.drop a) ++ figs (t.drop a)).length ≤ big := by
    rw [← word_eq, List.length_take, List.length_drop]
    omega
  have e5 : (eMeth (Str.ofString "lstrip") (eVar 3) (eK (.str (Str.ofString "-")))) [.v (.str (S t)), .v (.int (a : Nat)), .v (.int ((a + (sgn (t.drop a)).length + (figs (t.drop a)).length : Nat) : Int)), .v (.str (S (sgn (t.drop a) ++ figs (t.drop a)))), .no] st = .ok (.str (S (figs (t.drop a)))) st := by
    have q : methD (Str.ofString "lstrip") (.str (S (sgn (t.drop a) ++ figs (t.drop a)))) [.str (S [45])] = some (.str (S (figs (t.drop a)))) := by
      show (if (S (sgn (t.drop a) ++ figs (t.drop a))).length ≤ big then some (D.str (Txt.lstripChars (S (sgn (t.drop a) ++ figs (t.drop a))) (S [45]))) else none) = _
      rw [S_len, if_pos hw, strip_word]
    simp only [MI.run, MI.strD, MI.lstOf, MI.known, MI.sPar, MI.sTry, MI.sRaise0, MI.sRaise1, MI.sParOwn, MI.sForR, MI.sStar, MI.starD, MI.eTupRg, MI.eLm, MI.eIsX, MI.eFld, MI.eDic0, MI.eLam, MI.xCat, MI.freed, MI.sNil, MI.sCons, MI.sIf, MI.sSet, MI.sSetL, MI.sRet, MI.sRetN, MI.sRetV, MI.sSub, MI.sAug, MI.sApp, MI.sOwn, MI.sSetT, MI.sFor, MI.sWhile, MI.eVar, MI.eBor, MI.eK, MI.eBin, MI.eNeg, MI.eNot, MI.eAnd, MI.eOr, MI.eT, MI.eIf, MI.eIx, MI.eSl, MI.eCall, MI.eInst, MI.eBlt1, MI.eBlt, MI.eMeth, MI.eTup, MI.eLst, MI.eOfA, MI.aNil, MI.aCons, MI.tCmp, MI.tChain, MI.tNot, MI.tAnd, MI.tOr, MI.tOf, MI.tYes, MI.pNo, MI.pYes, MI.boolOf, MI.blOf, MI.truth, MI.partD, MI.gOne, bind_ok, of_some, toS_ok, then_next, then_ret, then_brk, map_some, List.getElem?_cons_zero, List.getElem?_cons_succ, List.set_cons_zero, List.set_cons_succ, if_true, if_false, Bool.false_eq_true, reduceIte, l_minus, q]
  refine (run_set e5).trans ?_
  generalize hs : t.drop a = s at *
  have hf : (figs s).length ≤ big := by
    rw [List.length_append] at hw
    omega
  unfold numP
  have e6 : (MI.tOr (MI.tCmp .Eq (eBor 4) (eK (.str (Str.ofString "")))) (MI.tOr (MI.tCmp .Gt (eBlt1 (Str.ofString "len") (eBor 4)) (eK (.int 400))) (MI.tAnd (MI.tCmp .Eq (eIx (eBor 4) (eK (.int 0))) (eK (.str (Str.ofString "0")))) (MI.tCmp .NotEq (eBor 3) (eK (.str (Str.ofString "0"))))))) [.v (.str (S t)), .v (.int (a : Nat)), .v (.int ((a + (sgn s).length + (figs s).length : Nat) : Int)), .v (.str (S (sgn s ++ figs s))), .v (.str (S (figs s)))] st = .ok (decide (figs s = [] ∨ 400 < (figs s).length ∨ ((figs s).take 1 = [48] ∧ sgn s ++ figs s ≠ [48]))) st := by
    by_cases h1 : figs s = []
    · simp only [MI.run, MI.strD, MI.lstOf, MI.known, MI.sPar, MI.sTry, MI.sRaise0, MI.sRaise1, MI.sParOwn, MI.sForR, MI.sStar, MI.starD, MI.eTupRg, MI.eLm, MI.eIsX, MI.eFld, MI.eDic0, MI.eLam, MI.xCat, MI.freed, MI.sNil, MI.sCons, MI.sIf, MI.sSet, MI.sSetL, MI.sRet, MI.sRetN, MI.sRetV, MI.sSub, MI.sAug, MI.sApp, MI.sOwn, MI.sSetT, MI.sFor, MI.sWhile, MI.eVar, MI.eBor, MI.eK, MI.eBin, MI.eNeg, MI.eNot, MI.eAnd, MI.eOr, MI.eT, MI.eIf, MI.eIx, MI.eSl, MI.eCall, MI.eInst, MI.eBlt1, MI.eBlt, MI.eMeth, MI.eTup, MI.eLst, MI.eOfA, MI.aNil, MI.aCons, MI.tCmp, MI.tChain, MI.tNot, MI.tAnd, MI.tOr, MI.tOf, MI.tYes, MI.pNo, MI.pYes, MI.boolOf, MI.blOf, MI.truth, MI.partD, MI.gOne, bind_ok, of_some, toS_ok, then_next, then_ret, then_brk, map_some, List.getElem?_cons_zero, List.getElem?_cons_succ, List.set_cons_zero, List.set_cons_succ, if_true, if_false, Bool.false_eq_true, reduceIte, l_empty, eqS, decide_eq_true h1]
      rw [decide_eq_true (.inl h1)]
    · by_cases h2 : 400 < (figs s).length
      · simp only [MI.run, MI.strD, MI.lstOf, MI.known, MI.sPar, MI.sTry, MI.sRaise0, MI.sRaise1, MI.sParOwn, MI.sForR, MI.sStar, MI.starD, MI.eTupRg, MI.eLm, MI.eIsX, MI.eFld, MI.eDic0, MI.eLam, MI.xCat, MI.freed, MI.sNil, MI.sCons, MI.sIf, MI.sSet, MI.sSetL, MI.sRet, MI.sRetN, MI.sRetV, MI.sSub, MI.sAug, MI.sApp, MI.sOwn, MI.sSetT, MI.sFor, MI.sWhile, MI.eVar, MI.eBor, MI.eK, MI.eBin, MI.eNeg, MI.eNot, MI.eAnd, MI.eOr, MI.eT, MI.eIf, MI.eIx, MI.eSl, MI.eCall, MI.eInst, MI.eBlt1, MI.eBlt, MI.eMeth, MI.eTup, MI.eLst, MI.eOfA, MI.aNil, MI.aCons, MI.tCmp, MI.tChain, MI.tNot, MI.tAnd, MI.tOr, MI.tOf, MI.tYes, MI.pNo, MI.pYes, MI.boolOf, MI.blOf, MI.truth, MI.partD, MI.gOne, bind_ok, of_some, toS_ok, then_next, then_ret, then_brk, map_some, List.getElem?_cons_zero, List.getElem?_cons_succ, List.set_cons_zero, List.set_cons_succ, if_true, if_false, Bool.false_eq_true, reduceIte, l_empty, eqS, decide_eq_false h1, len_ok hf, cmp_gt, decide_eq_true (show (400 : Int) < ((figs s).length : Nat) by omega)]
        rw [decide_eq_true (.inr (.inl h2))]
      · cases hg : figs s with
        | nil => exact absurd hg h1
        | cons c r =>
          have hx : ixD (.str (S (figs s))) (.int 0) st = some (.str (S [c])) := by
            have := ix_ok hf (a := 0) (c := c) (by rw [hg]; rfl) st
            exact this
          rw [hg] at hx h1 h2 hf
          have e7 : decide ([c] = [48]) = decide ((c :: r).take 1 = [48]) := rfl
          by_cases h3 : [c] = [48]
          · by_cases h4 : sgn s ++ c :: r = [48]
            · simp only [MI.run, MI.strD, MI.lstOf, MI.known, MI.sPar, MI.sTry, MI.sRaise0, MI.sRaise1, MI.sParOwn, MI.sForR, MI.sStar, MI.starD, MI.eTupRg, MI.eLm, MI.eIsX, MI.eFld, MI.eDic0, MI.eLam, MI.xCat, MI.freed, MI.sNil, MI.sCons, MI.sIf, MI.sSet, MI.sSetL, MI.sRet, MI.sRetN, MI.sRetV, MI.sSub, MI.sAug, MI.sApp, MI.sOwn, MI.sSetT, MI.sFor, MI.sWhile, MI.eVar, MI.eBor, MI.eK, MI.eBin, MI.eNeg, MI.eNot, MI.eAnd, MI.eOr, MI.eT, MI.eIf, MI.eIx, MI.eSl, MI.eCall, MI.eInst, MI.eBlt1, MI.eBlt, MI.eMeth, MI.eTup, MI.eLst, MI.eOfA, MI.aNil, MI.aCons, MI.tCmp, MI.tChain, MI.tNot, MI.tAnd, MI.tOr, MI.tOf, MI.tYes, MI.pNo, MI.pYes, MI.boolOf, MI.blOf, MI.truth, MI.partD, MI.gOne, bind_ok, of_some, toS_ok, then_next, then_ret, then_brk, map_some, List.getElem?_cons_zero, List.getElem?_cons_succ, List.set_cons_zero, List.set_cons_succ, if_true, if_false, Bool.false_eq_true, reduceIte, l_empty, eqS, neS, decide_eq_false h1, len_ok hf, cmp_gt, decide_eq_false (show ¬ (400 : Int) < ((c :: r).length : Nat) by omega), hx, l_0, decide_eq_true h3, decide_eq_true h4, Bool.not_true]
              rw [decide_eq_false (by rintro (z | z | z); exact h1 z; exact h2 z; exact z.2 h4)]
            · simp only [MI.run, MI.strD, MI.lstOf, MI.known, MI.sPar, MI.sTry, MI.sRaise0, MI.sRaise1, MI.sParOwn, MI.sForR, MI.sStar, MI.starD, MI.eTupRg, MI.eLm, MI.eIsX, MI.eFld, MI.eDic0, MI.eLam, MI.xCat, MI.freed, MI.sNil, MI.sCons, MI.sIf, MI.sSet, MI.sSetL, MI.sRet, MI.sRetN, MI.sRetV, MI.sSub, MI.sAug, MI.sApp, MI.sOwn, MI.sSetT, MI.sFor, MI.sWhile, MI.eVar, MI.eBor, MI.eK, MI.eBin, MI.eNeg, MI.eNot, MI.eAnd, MI.eOr, MI.eT, MI.eIf, MI.eIx, MI.eSl, MI.eCall, MI.eInst, MI.eBlt1, MI.eBlt, MI.eMeth, MI.eTup, MI.eLst, MI.eOfA, MI.aNil, MI.aCons, MI.tCmp, MI.tChain, MI.tNot, MI.tAnd, MI.tOr, MI.tOf, MI.tYes, MI.pNo, MI.pYes, MI.boolOf, MI.blOf, MI.truth, MI.partD, MI.gOne, bind_ok, of_some, toS_ok, then_next, then_ret, then_brk, map_some, List.getElem?_cons_zero, List.getElem?_cons_succ, List.set_cons_zero, List.set_cons_succ, if_true, if_false, Bool.false_eq_true, reduceIte, l_empty, eqS, neS, decide_eq_false h1, len_ok hf, cmp_gt, decide_eq_false (show ¬ (400 : Int) < ((c :: r).length : Nat) by omega), hx, l_0, decide_eq_true h3, decide_eq_false h4, Bool.not_false]
              rw [decide_eq_true (.inr (.inr ⟨h3, h4⟩))]
          · simp only [MI.run, MI.strD, MI.lstOf, MI.known, MI.sPar, MI.sTry, MI.sRaise0, MI.sRaise1, MI.sParOwn, MI.sForR, MI.sStar, MI.starD, MI.eTupRg, MI.eLm, MI.eIsX, MI.eFld, MI.eDic0, MI.eLam, MI.xCat, MI.freed, MI.sNil, MI.sCons, MI.sIf, MI.sSet, MI.sSetL, MI.sRet, MI.sRetN, MI.sRetV, MI.sSub, MI.sAug, MI.sApp, MI.sOwn, MI.sSetT, MI.sFor, MI.sWhile, MI.eVar, MI.eBor, MI.eK, MI.eBin, MI.eNeg, MI.eNot, MI.eAnd, MI.eOr, MI.eT, MI.eIf, MI.eIx, MI.eSl, MI.eCall, MI.eInst, MI.eBlt1, MI.eBlt, MI.eMeth, MI.eTup, MI.eLst, MI.eOfA, MI.aNil, MI.aCons, MI.tCmp, MI.tChain, MI.tNot, MI.tAnd, MI.tOr, MI.tOf, MI.tYes, MI.pNo, MI.pYes, MI.boolOf, MI.blOf, MI.truth, MI.partD, MI.gOne, bind_ok, of_some, toS_ok, then_next, then_ret, then_brk, map_some, List.getElem?_cons_zero, List.getElem?_cons_succ, List.set_cons_zero, List.set_cons_succ, if_true, if_false, Bool.false_eq_true, reduceIte, l_empty, eqS, neS, decide_eq_false h1, len_ok hf, cmp_gt, decide_eq_false (show ¬ (400 : Int) < ((c :: r).length : Nat) by omega), hx, l_0, decide_eq_false h3]
            rw [decide_eq_false (by rintro (z | z | z); exact h1 z; exact h2 z; exact h3 z.1)]
  by_cases hc : figs s = [] ∨ 400 < (figs s).length ∨ ((figs s).take 1 = [48] ∧ sgn s ++ figs s ≠ [48])
  · rw [decide_eq_true hc] at e6
    rw [if_pos hc]
    exact run_ifR e6 rfl
  · rw [decide_eq_false hc] at e6
    rw [if_neg hc]
    refine (run_ifF e6).trans ?_
    refine run_ret ?_
    have hi := int_word (s := s) (fun z => hc (.inl z)) (by
      by_cases z : (figs s).length ≤ 400
      · exact z
      · exact absurd (.inr (.inl (by omega))) hc) st
    simp only [MI.run, MI.strD, MI.lstOf, MI.known, MI.sPar, MI.sTry, MI.sRaise0, MI.sRaise1, MI.sParOwn, MI.sForR, MI.sStar, MI.starD, MI.eTupRg, MI.eLm, MI.eIsX, MI.eFld, MI.eDic0, MI.eLam, MI.xCat, MI.freed, MI.sNil, MI.sCons, MI.sIf, MI.sSet, MI.sSetL, MI.sRet, MI.sRetN, MI.sRetV, MI.sSub, MI.sAug, MI.sApp, MI.sOwn, MI.sSetT, MI.sFor, MI.sWhile, MI.eVar, MI.eBor, MI.eK, MI.eBin, MI.eNeg, MI.eNot, MI.eAnd, MI.eOr, MI.eT, MI.eIf, MI.eIx, MI.eSl, MI.eCall, MI.eInst, MI.eBlt1, MI.eBlt, MI.eMeth, MI.eTup, MI.eLst, MI.eOfA, MI.aNil, MI.aCons, MI.tCmp, MI.tChain, MI.tNot, MI.tAnd, MI.tOr, MI.tOf, MI.tYes, MI.pNo, MI.pYes, MI.boolOf, MI.blOf, MI.truth, MI.partD, MI.gOne, bind_ok, of_some, toS_ok, then_next, then_ret, then_brk, map_some, List.getElem?_cons_zero, List.getElem?_cons_succ, List.set_cons_zero, List.set_cons_succ, if_true, if_false, Bool.false_eq_true, reduceIte, hi]
    unfold told
    rw [Nat.add_assoc]
end K77

set_option maxRecDepth 100000
set_option maxHeartbeats 4000000
namespace K77
open PySem MI SX
/-- a text behind its first stroke: its signs, how many places -/
def txP : List Nat → Option (List Nat × Nat)
  | [] => none
  | [c] => if c = 34 then some ([], 1) else none
  | c :: e :: r => if c = 34 then some ([], 1)
    else if c = 92 then (if e = 34 ∨ e = 92 then (txP r).map fun q => (e :: q.1, q.2 + 2) else none)
    else if 32 ≤ c ∧ c ≤ 126 then (txP (e :: r)).map fun q => (c :: q.1, q.2 + 1) else none
def ch (c : Nat) : D := .str (S [c])
def toldT (a : Nat) (acc : List Nat) : Option (List Nat × Nat) → D
  | none => .non
  | some (l, k) => .tup [.str (S (acc ++ l)), .int ((a + k : Nat) : Int)]
/-- what follows a loop -/
def fin (b : SX) : RS → Res D
  | .next e1 s1 => MI.run b e1 s1
  | .ret d s1 => .ok d s1
  | .exc c ns es _ s1 => .exc c ns es s1
  | _ => .stuck
theorem fin_next (b : SX) (env : MI.Env) (st : Store) : fin b (.next env st) = MI.run b env st := rfl
theorem fin_ret (b : SX) (d : D) (st : Store) : fin b (.ret d st) = .ok d st := rfl
theorem run_whileX {t : TX} {s b : SX} {env : MI.Env} {st : Store} : MI.run (sCons (sWhile t s) b) env st = fin b (whileF t s lots env st) := by
  unfold MI.run sCons sWhile
  cases whileF t s lots env st <;> rfl
theorem le_one (a c : Nat) : cmpD .LtE (.str (S [a])) (.str (S [c])) = some (decide (a ≤ c)) := by
  show some (!decide ([c] < [a])) = _
  refine congrArg some ?_
  by_cases h : a ≤ c
  · rw [decide_eq_true h, decide_eq_false]
    · rfl
    · intro z
      rcases List.cons_lt_cons_iff.mp z with z | ⟨_, z⟩
      · omega
      · exact absurd z (by decide)
  · rw [decide_eq_false h, decide_eq_true]
    · rfl
    · exact List.cons_lt_cons_iff.mpr (.inl (by omega))
theorem notin_two (x : List Nat) (h : x.length ≤ 1) : cmpD .NotIn (.str (S x)) (.tup [.str (S [34]), .str (S [92])]) = some (!decide (x = [34] ∨ x = [92])) := by
  show ((if flat (D.str (S x)) = true ∧ [D.str (S [34]), D.str (S [92])].all flat = true then some ([D.str (S [34]), D.str (S [92])].any fun d => eqF d (D.str (S x))) else none).map not) = _
  rw [if_pos ⟨rfl, rfl⟩]
  show some (!((S [34] == S x) || ((S [92] == S x) || false))) = _
  rw [S_beq_eq, S_beq_eq]
  refine congrArg (fun b => some (!b)) ?_
  by_cases h1 : x = [34]
  · subst h1; rfl
  · by_cases h2 : x = [92]
    · subst h2; rfl
    · rw [decide_eq_false (fun e => h1 e.symm), decide_eq_false (fun e => h2 e.symm), decide_eq_false (by rintro (z | z); exact h1 z; exact h2 z)]
      rfl
theorem singles : ∀ l : List Nat, (l.map fun c => [c]).flatten = l
  | [] => rfl
  | c :: l => by rw [List.map_cons, List.flatten_cons, singles l]; rfl
theorem join_chars {l : List Nat} (h : l.length ≤ big) : joinD (S []) (l.map ch) = some (.str (S l)) := by
  have e : l.map ch = (l.map fun c => [c]).map fun a => D.str (S a) := by rw [List.map_map]; rfl
  have e2 : TL.joinL [] (l.map fun c => [c]) = l := by
    rw [joinL_nil, singles]
  rw [e, join_ok (by rw [e2]; exact h), e2]
abbrev txC : TX := MI.tAnd (MI.tCmp .Lt (eBor 1) (eBlt1 (Str.ofString "len") (eBor 0))) (MI.tCmp .NotEq (eIx (eBor 0) (eVar 1)) (eK (.str (Str.ofString "\""))))
abbrev txB : SX := (sCons (sIf (MI.tCmp .Eq (eIx (eBor 0) (eVar 1)) (eK (.str (Str.ofString "\\"))))
     (sCons (sAug 1 .Add (eK (.int 1)))
      (sCons (sIf (MI.tCmp .NotIn (eSl (eBor 0) (pYes (eVar 1)) (pYes (eBin .Add (eVar 1) (eK (.int 1))))) (eTup (aCons (eK (.str (Str.ofString "\""))) (aCons (eK (.str (Str.ofString "\\"))) aNil))))
       (sCons (sRet (eK .non))
        sNil)
       sNil)
      sNil))
     sNil)
    (sCons (sIf (MI.tNot (MI.tChain .LtE .LtE (eK (.str (Str.ofString " "))) (eIx (eBor 0) (eVar 1)) (eK (.str (Str.ofString "~")))))
     (sCons (sRet (eK .non))
      sNil)
     sNil)
    (sCons (sApp 2 (eIx (eBor 0) (eVar 1)))
    (sCons (sAug 1 .Add (eK (.int 1)))
    sNil))))
abbrev txR : SX := (sCons (sRet (MI.eIf (MI.tCmp .Lt (eBor 1) (eBlt1 (Str.ofString "len") (eBor 0))) (eTup (aCons (eMeth (Str.ofString "join") (eK (.str (Str.ofString ""))) (eBor 2)) (aCons (eBin .Add (eVar 1) (eK (.int 1))) aNil))) (eK .non)))
  sNil)
theorem ownSlot_2 (a b : Sl) (ds : List D) : ownSlot [a, b, .own ds] 2 = some ds := rfl
theorem tx_loop {t : List Nat} (ht : t.length ≤ 4000000) (st : Store) : ∀ (j a m : Nat) (acc : List Nat), t.length - a ≤ j → j < m → acc.length ≤ a →
    fin txR (whileF txC txB m [.v (.str (S t)), .v (.int (a : Nat)), .own (acc.map ch)] st) = .ok (toldT a acc (txP (t.drop a))) st := by
  have hb : t.length ≤ big := Nat.le_trans ht (by decide)
  intro j
  induction j using Nat.strongRecOn with
  | _ j ih =>
    intro a m acc hj hm hacc
    obtain ⟨m, rfl⟩ : ∃ k, m = k + 1 := ⟨m - 1, by omega⟩
    unfold whileF
    cases hd : t.drop a with
    | nil =>
      have h0 := drop_nil hd
      simp only [MI.run, MI.strD, MI.lstOf, MI.known, MI.sPar, MI.sTry, MI.sRaise0, MI.sRaise1, MI.sParOwn, MI.sForR, MI.sStar, MI.starD, MI.eTupRg, MI.eLm, MI.eIsX, MI.eFld, MI.eDic0, MI.eLam, MI.xCat, MI.freed, MI.sNil, MI.sCons, MI.sIf, MI.sSet, MI.sSetL, MI.sRet, MI.sRetN, MI.sRetV, MI.sSub, MI.sAug, MI.sApp, MI.sOwn, MI.sSetT, MI.sFor, MI.sWhile, MI.eVar, MI.eBor, MI.eK, MI.eBin, MI.eNeg, MI.eNot, MI.eAnd, MI.eOr, MI.eT, MI.eIf, MI.eIx, MI.eSl, MI.eCall, MI.eInst, MI.eBlt1, MI.eBlt, MI.eMeth, MI.eTup, MI.eLst, MI.eOfA, MI.aNil, MI.aCons, MI.tCmp, MI.tChain, MI.tNot, MI.tAnd, MI.tOr, MI.tOf, MI.tYes, MI.pNo, MI.pYes, MI.boolOf, MI.blOf, MI.truth, MI.partD, MI.gOne, bind_ok, of_some, toS_ok, then_next, then_ret, then_brk, map_some, List.getElem?_cons_zero, List.getElem?_cons_succ, List.set_cons_zero, List.set_cons_succ, if_true, if_false, Bool.false_eq_true, reduceIte, fin_next, fin_ret, len_ok hb, cmp_lt, decide_eq_false (show ¬ (a : Int) < (t.length : Nat) by omega)]
      unfold txP
      rfl
    | cons c r =>
      obtain ⟨h1, h2, h3⟩ := drop_cons hd
      have ha : acc.length ≤ big := by omega
      have happ : ∀ e : Nat, (acc.map ch) ++ [D.str (S [e])] = (acc ++ [e]).map ch := fun e => by rw [List.map_append]; rfl
      have hlt : (acc.map ch).length < big := by
        rw [List.length_map]
        exact Nat.lt_of_le_of_lt (Nat.le_trans hacc (Nat.le_trans (Nat.le_of_lt h3) ht)) (by decide)
      by_cases hq : c = 34
      · subst hq
        have e : txP (34 :: r) = some ([], 1) := by
          cases r <;> (unfold txP; rfl)
        rw [e]
        simp only [MI.run, MI.strD, MI.lstOf, MI.known, MI.sPar, MI.sTry, MI.sRaise0, MI.sRaise1, MI.sParOwn, MI.sForR, MI.sStar, MI.starD, MI.eTupRg, MI.eLm, MI.eIsX, MI.eFld, MI.eDic0, MI.eLam, MI.xCat, MI.freed, MI.sNil, MI.sCons, MI.sIf, MI.sSet, MI.sSetL, MI.sRet, MI.sRetN, MI.sRetV, MI.sSub, MI.sAug, MI.sApp, MI.sOwn, MI.sSetT, MI.sFor, MI.sWhile, MI.eVar, MI.eBor, MI.eK, MI.eBin, MI.eNeg, MI.eNot, MI.eAnd, MI.eOr, MI.eT, MI.eIf, MI.eIx, MI.eSl, MI.eCall, MI.eInst, MI.eBlt1, MI.eBlt, MI.eMeth, MI.eTup, MI.eLst, MI.eOfA, MI.aNil, MI.aCons, MI.tCmp, MI.tChain, MI.tNot, MI.tAnd, MI.tOr, MI.tOf, MI.tYes, MI.pNo, MI.pYes, MI.boolOf, MI.blOf, MI.truth, MI.partD, MI.gOne, bind_ok, of_some, toS_ok, then_next, then_ret, then_brk, map_some, List.getElem?_cons_zero, List.getElem?_cons_succ, List.set_cons_zero, List.set_cons_succ, if_true, if_false, Bool.false_eq_true, reduceIte, fin_next, fin_ret, len_ok hb, cmp_lt, decide_eq_true (show (a : Int) < (t.length : Nat) by omega), ix_ok hb h1, l_q, neS, decide_true, Bool.not_true, meth_join, l_empty, join_chars ha, op_add]
        simp only [toldT, List.append_nil]
        rfl
      · by_cases hs : c = 92
        · subst hs
          cases r with
          | nil =>
            have e : txP [92] = none := by unfold txP; rfl
            rw [e]
            have h5 : (t.drop (a + 1)).take 1 = [] := by rw [h2]; rfl
            have h6 := sl_1 hb (a + 1)
            rw [h5] at h6
            rw [show ((a + 1 : Nat) : Int) = (a : Int) + 1 by omega] at h6
            simp only [MI.run, MI.strD, MI.lstOf, MI.known, MI.sPar, MI.sTry, MI.sRaise0, MI.sRaise1, MI.sParOwn, MI.sForR, MI.sStar, MI.starD, MI.eTupRg, MI.eLm, MI.eIsX, MI.eFld, MI.eDic0, MI.eLam, MI.xCat, MI.freed, MI.sNil, MI.sCons, MI.sIf, MI.sSet, MI.sSetL, MI.sRet, MI.sRetN, MI.sRetV, MI.sSub, MI.sAug, MI.sApp, MI.sOwn, MI.sSetT, MI.sFor, MI.sWhile, MI.eVar, MI.eBor, MI.eK, MI.eBin, MI.eNeg, MI.eNot, MI.eAnd, MI.eOr, MI.eT, MI.eIf, MI.eIx, MI.eSl, MI.eCall, MI.eInst, MI.eBlt1, MI.eBlt, MI.eMeth, MI.eTup, MI.eLst, MI.eOfA, MI.aNil, MI.aCons, MI.tCmp, MI.tChain, MI.tNot, MI.tAnd, MI.tOr, MI.tOf, MI.tYes, MI.pNo, MI.pYes, MI.boolOf, MI.blOf, MI.truth, MI.partD, MI.gOne, bind_ok, of_some, toS_ok, then_next, then_ret, then_brk, map_some, List.getElem?_cons_zero, List.getElem?_cons_succ, List.set_cons_zero, List.set_cons_succ, if_true, if_false, Bool.false_eq_true, reduceIte, fin_next, fin_ret, len_ok hb, cmp_lt, decide_eq_true (show (a : Int) < (t.length : Nat) by omega), ix_ok hb h1, l_q, l_bs, neS, eqS, show decide ([92] = [34]) = false from rfl, Bool.not_false, decide_true, augI, op_add, h6, notin_two [] (by decide), show decide (([] : List Nat) = [34] ∨ ([] : List Nat) = [92]) = false from rfl]
            rfl
          | cons e r =>
            have h5 : (t.drop (a + 1)).take 1 = [e] := by rw [h2]; rfl
            have h6 := sl_1 hb (a + 1)
            rw [h5] at h6
            rw [show ((a + 1 : Nat) : Int) = (a : Int) + 1 by omega] at h6
            obtain ⟨g1, g2, g3⟩ := drop_cons h2
            have g4 := ix_ok hb g1 st
            rw [show ((a + 1 : Nat) : Int) = (a : Int) + 1 by omega] at g4
            by_cases he : e = 34 ∨ e = 92
            · have e1 : txP (92 :: e :: r) = (txP r).map fun q => (e :: q.1, q.2 + 2) := by
                show (if (92 : Nat) = 34 then _ else _) = _
                rw [if_neg (by decide), if_pos rfl, if_pos he]
              have hin : decide ([e] = [34] ∨ [e] = [92]) = true := decide_eq_true (by simpa using he)
              have r1 : 32 ≤ e := by omega
              have r2 : e ≤ 126 := by omega
              simp only [MI.run, MI.strD, MI.lstOf, MI.known, MI.sPar, MI.sTry, MI.sRaise0, MI.sRaise1, MI.sParOwn, MI.sForR, MI.sStar, MI.starD, MI.eTupRg, MI.eLm, MI.eIsX, MI.eFld, MI.eDic0, MI.eLam, MI.xCat, MI.freed, MI.sNil, MI.sCons, MI.sIf, MI.sSet, MI.sSetL, MI.sRet, MI.sRetN, MI.sRetV, MI.sSub, MI.sAug, MI.sApp, MI.sOwn, MI.sSetT, MI.sFor, MI.sWhile, MI.eVar, MI.eBor, MI.eK, MI.eBin, MI.eNeg, MI.eNot, MI.eAnd, MI.eOr, MI.eT, MI.eIf, MI.eIx, MI.eSl, MI.eCall, MI.eInst, MI.eBlt1, MI.eBlt, MI.eMeth, MI.eTup, MI.eLst, MI.eOfA, MI.aNil, MI.aCons, MI.tCmp, MI.tChain, MI.tNot, MI.tAnd, MI.tOr, MI.tOf, MI.tYes, MI.pNo, MI.pYes, MI.boolOf, MI.blOf, MI.truth, MI.partD, MI.gOne, bind_ok, of_some, toS_ok, then_next, then_ret, then_brk, map_some, List.getElem?_cons_zero, List.getElem?_cons_succ, List.set_cons_zero, List.set_cons_succ, if_true, if_false, Bool.false_eq_true, reduceIte, fin_next, fin_ret, len_ok hb, cmp_lt, decide_eq_true (show (a : Int) < (t.length : Nat) by omega), ix_ok hb h1, l_q, l_bs, neS, eqS, show decide ([92] = [34]) = false from rfl, Bool.not_false, decide_true, augI, op_add, h6, notin_two [e] (Nat.le_refl 1), hin, Bool.not_true, l_sp, l_til, g4, le_one, decide_eq_true r1, decide_eq_true r2, ownSlot_2, hlt, happ]
              have := ih (t.length - (a + 2)) (by omega) (a + 2) m (acc ++ [e]) (Nat.le_refl _) (by omega) (by rw [List.length_append, List.length_singleton]; omega)
              rw [show t.drop (a + 2) = r from g2, show ((a + 2 : Nat) : Int) = (a : Int) + 1 + 1 by omega] at this
              rw [this, e1]
              cases txP r with
              | none => rfl
              | some q =>
                obtain ⟨l, k⟩ := q
                unfold toldT
                simp only [Option.map_some, List.append_assoc]
                refine congrArg (fun z => Res.ok (D.tup [D.str (S (acc ++ ([e] ++ l))), D.int z]) st) ?_
                omega
            · have e1 : txP (92 :: e :: r) = none := by
                show (if (92 : Nat) = 34 then _ else _) = _
                rw [if_neg (by decide), if_pos rfl, if_neg he]
              have hin : decide ([e] = [34] ∨ [e] = [92]) = false := decide_eq_false (by simpa using he)
              rw [e1]
              simp only [MI.run, MI.strD, MI.lstOf, MI.known, MI.sPar, MI.sTry, MI.sRaise0, MI.sRaise1, MI.sParOwn, MI.sForR, MI.sStar, MI.starD, MI.eTupRg, MI.eLm, MI.eIsX, MI.eFld, MI.eDic0, MI.eLam, MI.xCat, MI.freed, MI.sNil, MI.sCons, MI.sIf, MI.sSet, MI.sSetL, MI.sRet, MI.sRetN, MI.sRetV, MI.sSub, MI.sAug, MI.sApp, MI.sOwn, MI.sSetT, MI.sFor, MI.sWhile, MI.eVar, MI.eBor, MI.eK, MI.eBin, MI.eNeg, MI.eNot, MI.eAnd, MI.eOr, MI.eT, MI.eIf, MI.eIx, MI.eSl, MI.eCall, MI.eInst, MI.eBlt1, MI.eBlt, MI.eMeth, MI.eTup, MI.eLst, MI.eOfA, MI.aNil, MI.aCons, MI.tCmp, MI.tChain, MI.tNot, MI.tAnd, MI.tOr, MI.tOf, MI.tYes, MI.pNo, MI.pYes, MI.boolOf, MI.blOf, MI.truth, MI.partD, MI.gOne, bind_ok, of_some, toS_ok, then_next, then_ret, then_brk, map_some, List.getElem?_cons_zero, List.getElem?_cons_succ, List.set_cons_zero, List.set_cons_succ, if_true, if_false, Bool.false_eq_true, reduceIte, fin_next, fin_ret, len_ok hb, cmp_lt, decide_eq_true (show (a : Int) < (t.length : Nat) by omega), ix_ok hb h1, l_q, l_bs, neS, eqS, show decide ([92] = [34]) = false from rfl, Bool.not_false, decide_true, augI, op_add, h6, notin_two [e] (Nat.le_refl 1), hin]
              rfl
        · have e1 : txP (c :: r) = if 32 ≤ c ∧ c ≤ 126 then (txP r).map fun q => (c :: q.1, q.2 + 1) else none := by
            cases r with
            | nil =>
              have : txP [c] = none := by unfold txP; rw [if_neg hq]
              rw [this]
              split <;> (first | rfl | (unfold txP; rfl))
            | cons e r =>
              show (if c = 34 then _ else _) = _
              rw [if_neg hq, if_neg hs]
          have n1 : decide ([c] = [34]) = false := decide_eq_false (by simpa using hq)
          have n2 : decide ([c] = [92]) = false := decide_eq_false (by simpa using hs)
          by_cases hp : 32 ≤ c ∧ c ≤ 126
          · rw [if_pos hp] at e1
            simp only [MI.run, MI.strD, MI.lstOf, MI.known, MI.sPar, MI.sTry, MI.sRaise0, MI.sRaise1, MI.sParOwn, MI.sForR, MI.sStar, MI.starD, MI.eTupRg, MI.eLm, MI.eIsX, MI.eFld, MI.eDic0, MI.eLam, MI.xCat, MI.freed, MI.sNil, MI.sCons, MI.sIf, MI.sSet, MI.sSetL, MI.sRet, MI.sRetN, MI.sRetV, MI.sSub, MI.sAug, MI.sApp, MI.sOwn, MI.sSetT, MI.sFor, MI.sWhile, MI.eVar, MI.eBor, MI.eK, MI.eBin, MI.eNeg, MI.eNot, MI.eAnd, MI.eOr, MI.eT, MI.eIf, MI.eIx, MI.eSl, MI.eCall, MI.eInst, MI.eBlt1, MI.eBlt, MI.eMeth, MI.eTup, MI.eLst, MI.eOfA, MI.aNil, MI.aCons, MI.tCmp, MI.tChain, MI.tNot, MI.tAnd, MI.tOr, MI.tOf, MI.tYes, MI.pNo, MI.pYes, MI.boolOf, MI.blOf, MI.truth, MI.partD, MI.gOne, bind_ok, of_some, toS_ok, then_next, then_ret, then_brk, map_some, List.getElem?_cons_zero, List.getElem?_cons_succ, List.set_cons_zero, List.set_cons_succ, if_true, if_false, Bool.false_eq_true, reduceIte, fin_next, fin_ret, len_ok hb, cmp_lt, decide_eq_true (show (a : Int) < (t.length : Nat) by omega), ix_ok hb h1, l_q, l_bs, neS, eqS, n1, n2, Bool.not_false, augI, op_add, Bool.not_true, l_sp, l_til, le_one, decide_eq_true hp.1, decide_eq_true hp.2, ownSlot_2, hlt, happ]
            have := ih (t.length - (a + 1)) (by omega) (a + 1) m (acc ++ [c]) (Nat.le_refl _) (by omega) (by rw [List.length_append, List.length_singleton]; omega)
            rw [h2, show ((a + 1 : Nat) : Int) = (a : Int) + 1 by omega] at this
            rw [this, e1]
            cases txP r with
            | none => rfl
            | some q =>
              obtain ⟨l, k⟩ := q
              unfold toldT
              simp only [Option.map_some, List.append_assoc]
              refine congrArg (fun z => Res.ok (D.tup [D.str (S (acc ++ ([c] ++ l))), D.int z]) st) ?_
              omega
          · rw [if_neg hp] at e1
            rw [e1]
            by_cases p1 : 32 ≤ c
            · have p2 : ¬ c ≤ 126 := fun z => hp ⟨p1, z⟩
              simp only [MI.run, MI.strD, MI.lstOf, MI.known, MI.sPar, MI.sTry, MI.sRaise0, MI.sRaise1, MI.sParOwn, MI.sForR, MI.sStar, MI.starD, MI.eTupRg, MI.eLm, MI.eIsX, MI.eFld, MI.eDic0, MI.eLam, MI.xCat, MI.freed, MI.sNil, MI.sCons, MI.sIf, MI.sSet, MI.sSetL, MI.sRet, MI.sRetN, MI.sRetV, MI.sSub, MI.sAug, MI.sApp, MI.sOwn, MI.sSetT, MI.sFor, MI.sWhile, MI.eVar, MI.eBor, MI.eK, MI.eBin, MI.eNeg, MI.eNot, MI.eAnd, MI.eOr, MI.eT, MI.eIf, MI.eIx, MI.eSl, MI.eCall, MI.eInst, MI.eBlt1, MI.eBlt, MI.eMeth, MI.eTup, MI.eLst, MI.eOfA, MI.aNil, MI.aCons, MI.tCmp, MI.tChain, MI.tNot, MI.tAnd, MI.tOr, MI.tOf, MI.tYes, MI.pNo, MI.pYes, MI.boolOf, MI.blOf, MI.truth, MI.partD, MI.gOne, bind_ok, of_some, toS_ok, then_next, then_ret, then_brk, map_some, List.getElem?_cons_zero, List.getElem?_cons_succ, List.set_cons_zero, List.set_cons_succ, if_true, if_false, Bool.false_eq_true, reduceIte, fin_next, fin_ret, len_ok hb, cmp_lt, decide_eq_true (show (a : Int) < (t.length : Nat) by omega), ix_ok hb h1, l_q, l_bs, neS, eqS, n1, n2, Bool.not_false, augI, op_add, Bool.not_true, l_sp, l_til, le_one, decide_eq_true p1, decide_eq_false p2]
              rfl
            · simp only [MI.run, MI.strD, MI.lstOf, MI.known, MI.sPar, MI.sTry, MI.sRaise0, MI.sRaise1, MI.sParOwn, MI.sForR, MI.sStar, MI.starD, MI.eTupRg, MI.eLm, MI.eIsX, MI.eFld, MI.eDic0, MI.eLam, MI.xCat, MI.freed, MI.sNil, MI.sCons, MI.sIf, MI.sSet, MI.sSetL, MI.sRet, MI.sRetN, MI.sRetV, MI.sSub, MI.sAug, MI.sApp, MI.sOwn, MI.sSetT, MI.sFor, MI.sWhile, MI.eVar, MI.eBor, MI.eK, MI.eBin, MI.eNeg, MI.eNot, MI.eAnd, MI.eOr, MI.eT, MI.eIf, MI.eIx, MI.eSl, MI.eCall, MI.eInst, MI.eBlt1, MI.eBlt, MI.eMeth, MI.eTup, MI.eLst, MI.eOfA, MI.aNil, MI.aCons, MI.tCmp, MI.tChain, MI.tNot, MI.tAnd, MI.tOr, MI.tOf, MI.tYes, MI.pNo, MI.pYes, MI.boolOf, MI.blOf, MI.truth, MI.partD, MI.gOne, bind_ok, of_some, toS_ok, then_next, then_ret, then_brk, map_some, List.getElem?_cons_zero, List.getElem?_cons_succ, List.set_cons_zero, List.set_cons_succ, if_true, if_false, Bool.false_eq_true, reduceIte, fin_next, fin_ret, len_ok hb, cmp_lt, decide_eq_true (show (a : Int) < (t.length : Nat) by omega), ix_ok hb h1, l_q, l_bs, neS, eqS, n1, n2, Bool.not_false, augI, op_add, Bool.not_true, l_sp, l_til, le_one, decide_eq_false p1]
              rfl
/-- text_from, at a stroke -/
theorem txt_from_ok (n : Nat) {t : List Nat} (ht : t.length ≤ 4000000) (a : Nat) (st : Store) : tab G fs (n + 1) (Str.ofString "text_from") [.str (S t), .int (a : Nat)] st = .ok (toldT (a + 1) [] (txP (t.drop (a + 1)))) st := by
  rw [at_text_from]
  unfold b_text_from
  refine (run_own (ds := []) (st1 := st) rfl).trans ?_
  refine (run_step (env1 := [.v (.str (S t)), .v (.int ((a + 1 : Nat) : Int)), .own []]) (st1 := st) ?_).trans ?_
  · simp only [MI.run, MI.strD, MI.lstOf, MI.known, MI.sPar, MI.sTry, MI.sRaise0, MI.sRaise1, MI.sParOwn, MI.sForR, MI.sStar, MI.starD, MI.eTupRg, MI.eLm, MI.eIsX, MI.eFld, MI.eDic0, MI.eLam, MI.xCat, MI.freed, MI.sNil, MI.sCons, MI.sIf, MI.sSet, MI.sSetL, MI.sRet, MI.sRetN, MI.sRetV, MI.sSub, MI.sAug, MI.sApp, MI.sOwn, MI.sSetT, MI.sFor, MI.sWhile, MI.eVar, MI.eBor, MI.eK, MI.eBin, MI.eNeg, MI.eNot, MI.eAnd, MI.eOr, MI.eT, MI.eIf, MI.eIx, MI.eSl, MI.eCall, MI.eInst, MI.eBlt1, MI.eBlt, MI.eMeth, MI.eTup, MI.eLst, MI.eOfA, MI.aNil, MI.aCons, MI.tCmp, MI.tChain, MI.tNot, MI.tAnd, MI.tOr, MI.tOf, MI.tYes, MI.pNo, MI.pYes, MI.boolOf, MI.blOf, MI.truth, MI.partD, MI.gOne, bind_ok, of_some, toS_ok, then_next, then_ret, then_brk, map_some, List.getElem?_cons_zero, List.getElem?_cons_succ, List.set_cons_zero, List.set_cons_succ, if_true, if_false, Bool.false_eq_true, reduceIte, augI]
    rfl
  rw [run_whileX]
  exact tx_loop ht st (t.length - (a + 1)) (a + 1) lots [] (Nat.le_refl _) (by
    have : (4000000 : Nat) < lots := by decide
    omega) (Nat.zero_le _)
end K77

set_option maxRecDepth 100000
set_option maxHeartbeats 4000000
namespace K77
open PySem MI SX
/-- things behind an opened bracket -/
def loopP (p : List Nat → Option (D × Nat)) : Nat → List Nat → Option (List D × Nat)
  | 0, _ => none
  | m + 1, s => match p s with
    | none => none
    | some (d, c) => if (s.drop c).take 1 = [41] then some ([d], c + 1) else if (s.drop c).take 2 = [44, 32] then (loopP p m (s.drop (c + 2))).map fun q => (d :: q.1, q.2 + c + 2) else none
def tuP (p : List Nat → Option (D × Nat)) (s : List Nat) : Option (D × Nat) :=
  if (s.drop 1).take 1 = [41] then some (.tup [], 2) else (loopP p (s.length + 1) (s.drop 1)).map fun q => (.tup q.1, q.2 + 1)
def flP (s : List Nat) : Option (D × Nat) :=
  if s.take 1 = [34] then (txP (s.drop 1)).map fun q => (.str (S q.1), q.2 + 1) else if s.take 4 = [110, 111, 110, 101] then some (.non, 4) else numP s
/-- the thing at a text's begin, j deep at most -/
def thP : Nat → List Nat → Option (D × Nat)
  | 0, s => if s.take 1 = [40] then none else flP s
  | j + 1, s => if s.take 1 = [40] then tuP (thP j) s else flP s
def tuC : TX := MI.tOf (eK (.bl true))
theorem tuC_ok (env : MI.Env) (st : Store) : tuC env st = .ok true st := rfl
abbrev tuB (T : Tab) : SX := (sCons (sSet 4 (MI.eIf (MI.tCmp .Gt (eBor 2) (eK (.int 0))) (eCall T (Str.ofString "thing_from") (aCons (eVar 0) (aCons (eBin .Add (eVar 1) (eK (.int 1))) (aCons (eBin .Sub (eVar 2) (eK (.int 1))) aNil)))) (eK .non)))
    (sCons (sIf (MI.tCmp .Is (eBor 4) (eK .non))
     (sCons (sRet (eK .non))
      sNil)
     sNil)
    (sCons (sSetT [((Str.ofString "thing"), 5), ((Str.ofString "at"), 1)] (eVar 4))
    (sCons (sApp 3 (eVar 5))
    (sCons (sIf (MI.tCmp .Eq (eSl (eBor 0) (pYes (eVar 1)) (pYes (eBin .Add (eVar 1) (eK (.int 1))))) (eK (.str (Str.ofString ")"))))
     (sCons (sRet (eTup (aCons (eBlt1 (Str.ofString "tuple") (eBor 3)) (aCons (eBin .Add (eVar 1) (eK (.int 1))) aNil))))
      sNil)
     sNil)
    (sCons (sIf (MI.tCmp .NotEq (eSl (eBor 0) (pYes (eVar 1)) (pYes (eBin .Add (eVar 1) (eK (.int 2))))) (eK (.str (Str.ofString ", "))))
     (sCons (sRet (eK .non))
      sNil)
     sNil)
    (sCons (sAug 1 .Add (eK (.int 1)))
    sNil)))))))
def toldL (a : Nat) (acc : List D) : Option (List D × Nat) → D
  | none => .non
  | some (l, k) => .tup [.tup (acc ++ l), .int ((a + k : Nat) : Int)]
theorem gM2 (x y : Str) (i j : Nat) (a b : D) (env : MI.Env) : gMany [(x, i), (y, j)] (.tup [a, b]) env = some ((env.set i (.v a)).set j (.v b)) := rfl
theorem ownSlot_3 (a b c e f : Sl) (ds : List D) : ownSlot [a, b, c, .own ds, e, f] 3 = some ds := rfl
theorem tup_of (ds : List D) (st : Store) : bltD (Str.ofString "tuple") [.lst ds] st = some (.tup ds) := rfl
theorem tu_loop {T : Tab} {j : Nat} {t : List Nat} (ht : t.length ≤ 4000000) {st : Store} (hT : ∀ a : Nat, T (Str.ofString "thing_from") [.str (S t), .int (a : Nat), .int (j : Nat)] st = .ok (told a (thP j (t.drop a))) st) :
    ∀ (m k a : Nat) (acc : List D) (x y : Sl), (t.drop (a + 1)).length < k → k ≤ m → acc.length ≤ a → a ≤ t.length →
      whileF tuC (tuB T) m [.v (.str (S t)), .v (.int (a : Nat)), .v (.int ((j + 1 : Nat) : Int)), .own acc, x, y] st = .ret (toldL (a + 1) acc (loopP (thP j) k (t.drop (a + 1)))) st := by
  have hb : t.length ≤ big := Nat.le_trans ht (by decide)
  intro m
  induction m with
  | zero => intro k a acc x y h1 h2 _ _; omega
  | succ m ih =>
    intro k a acc x y hk hm hacc hat
    obtain ⟨k, rfl⟩ : ∃ q, k = q + 1 := ⟨k - 1, by omega⟩
    unfold whileF
    have hc := hT (a + 1)
    rw [show ((a + 1 : Nat) : Int) = (a : Int) + 1 by omega] at hc
    have hdeep : ((j + 1 : Nat) : Int) - 1 = (j : Nat) := by omega
    have hpos : decide ((0 : Int) < ((j + 1 : Nat) : Int)) = true := decide_eq_true (by omega)
    unfold loopP
    cases hp : thP j (t.drop (a + 1)) with
    | none =>
      rw [hp] at hc
      simp only [MI.run, MI.strD, MI.lstOf, MI.known, MI.sPar, MI.sTry, MI.sRaise0, MI.sRaise1, MI.sParOwn, MI.sForR, MI.sStar, MI.starD, MI.eTupRg, MI.eLm, MI.eIsX, MI.eFld, MI.eDic0, MI.eLam, MI.xCat, MI.freed, MI.sNil, MI.sCons, MI.sIf, MI.sSet, MI.sSetL, MI.sRet, MI.sRetN, MI.sRetV, MI.sSub, MI.sAug, MI.sApp, MI.sOwn, MI.sSetT, MI.sFor, MI.sWhile, MI.eVar, MI.eBor, MI.eK, MI.eBin, MI.eNeg, MI.eNot, MI.eAnd, MI.eOr, MI.eT, MI.eIf, MI.eIx, MI.eSl, MI.eCall, MI.eInst, MI.eBlt1, MI.eBlt, MI.eMeth, MI.eTup, MI.eLst, MI.eOfA, MI.aNil, MI.aCons, MI.tCmp, MI.tChain, MI.tNot, MI.tAnd, MI.tOr, MI.tOf, MI.tYes, MI.pNo, MI.pYes, MI.boolOf, MI.blOf, MI.truth, MI.partD, MI.gOne, bind_ok, of_some, toS_ok, then_next, then_ret, then_brk, map_some, List.getElem?_cons_zero, List.getElem?_cons_succ, List.set_cons_zero, List.set_cons_succ, if_true, if_false, Bool.false_eq_true, reduceIte, tuC_ok, cmp_gt, hpos, op_add, op_sub, hdeep, hc, told, cmp_is, isN]
      rfl
    | some q =>
      obtain ⟨d, c⟩ := q
      rw [hp] at hc
      have hs1 := sl_1 hb (a + 1 + c)
      have hs2 := sl_2 hb (a + 1 + c)
      have hlt : acc.length < big := Nat.lt_of_le_of_lt (Nat.le_trans hacc (Nat.le_trans hat ht)) (by decide)
      have e0 : (t.drop (a + 1)).drop c = t.drop (a + 1 + c) := List.drop_drop
      simp only [e0]
      by_cases g1 : (t.drop (a + 1 + c)).take 1 = [41]
      · rw [if_pos g1]
        simp only [MI.run, MI.strD, MI.lstOf, MI.known, MI.sPar, MI.sTry, MI.sRaise0, MI.sRaise1, MI.sParOwn, MI.sForR, MI.sStar, MI.starD, MI.eTupRg, MI.eLm, MI.eIsX, MI.eFld, MI.eDic0, MI.eLam, MI.xCat, MI.freed, MI.sNil, MI.sCons, MI.sIf, MI.sSet, MI.sSetL, MI.sRet, MI.sRetN, MI.sRetV, MI.sSub, MI.sAug, MI.sApp, MI.sOwn, MI.sSetT, MI.sFor, MI.sWhile, MI.eVar, MI.eBor, MI.eK, MI.eBin, MI.eNeg, MI.eNot, MI.eAnd, MI.eOr, MI.eT, MI.eIf, MI.eIx, MI.eSl, MI.eCall, MI.eInst, MI.eBlt1, MI.eBlt, MI.eMeth, MI.eTup, MI.eLst, MI.eOfA, MI.aNil, MI.aCons, MI.tCmp, MI.tChain, MI.tNot, MI.tAnd, MI.tOr, MI.tOf, MI.tYes, MI.pNo, MI.pYes, MI.boolOf, MI.blOf, MI.truth, MI.partD, MI.gOne, bind_ok, of_some, toS_ok, then_next, then_ret, then_brk, map_some, List.getElem?_cons_zero, List.getElem?_cons_succ, List.set_cons_zero, List.set_cons_succ, if_true, if_false, Bool.false_eq_true, reduceIte, tuC_ok, cmp_gt, hpos, op_add, op_sub, hdeep, hc, told, cmp_is, isN, gM2, ownSlot_3, hlt, hs1, l_cl, eqS, decide_eq_true g1, tup_of]
        rfl
      · rw [if_neg g1]
        by_cases g2 : (t.drop (a + 1 + c)).take 2 = [44, 32]
        · rw [if_pos g2]
          simp only [MI.run, MI.strD, MI.lstOf, MI.known, MI.sPar, MI.sTry, MI.sRaise0, MI.sRaise1, MI.sParOwn, MI.sForR, MI.sStar, MI.starD, MI.eTupRg, MI.eLm, MI.eIsX, MI.eFld, MI.eDic0, MI.eLam, MI.xCat, MI.freed, MI.sNil, MI.sCons, MI.sIf, MI.sSet, MI.sSetL, MI.sRet, MI.sRetN, MI.sRetV, MI.sSub, MI.sAug, MI.sApp, MI.sOwn, MI.sSetT, MI.sFor, MI.sWhile, MI.eVar, MI.eBor, MI.eK, MI.eBin, MI.eNeg, MI.eNot, MI.eAnd, MI.eOr, MI.eT, MI.eIf, MI.eIx, MI.eSl, MI.eCall, MI.eInst, MI.eBlt1, MI.eBlt, MI.eMeth, MI.eTup, MI.eLst, MI.eOfA, MI.aNil, MI.aCons, MI.tCmp, MI.tChain, MI.tNot, MI.tAnd, MI.tOr, MI.tOf, MI.tYes, MI.pNo, MI.pYes, MI.boolOf, MI.blOf, MI.truth, MI.partD, MI.gOne, bind_ok, of_some, toS_ok, then_next, then_ret, then_brk, map_some, List.getElem?_cons_zero, List.getElem?_cons_succ, List.set_cons_zero, List.set_cons_succ, if_true, if_false, Bool.false_eq_true, reduceIte, tuC_ok, cmp_gt, hpos, op_add, op_sub, hdeep, hc, told, cmp_is, isN, gM2, ownSlot_3, hlt, hs1, hs2, l_cl, l_cs, eqS, neS, decide_eq_false g1, decide_eq_true g2, Bool.not_true, augI]
          have hl2 := congrArg List.length g2
          rw [List.length_take, List.length_drop] at hl2
          have hl3 : ([44, 32] : List Nat).length = 2 := rfl
          rw [hl3] at hl2
          rw [List.length_drop] at hk
          have := ih k (a + 1 + c + 1) (acc ++ [d]) (.v (.tup [d, .int ((a + 1 + c : Nat) : Int)])) (.v d) (by rw [List.length_drop]; omega) (by omega) (by rw [List.length_append, List.length_singleton]; omega) (by omega)
          rw [show ((a + 1 + c + 1 : Nat) : Int) = ((a + 1 + c : Nat) : Int) + 1 by omega] at this
          rw [this, List.drop_drop, show a + 1 + c + 1 + 1 = a + 1 + (c + 2) by omega]
          cases loopP (thP j) k (t.drop (a + 1 + (c + 2))) with
          | none => rfl
          | some q =>
            obtain ⟨l, z⟩ := q
            simp only [Option.map_some, toldL, List.append_assoc]
            refine congrArg (fun z => RS.ret (D.tup [D.tup (acc ++ ([d] ++ l)), D.int z]) st) ?_
            omega
        · rw [if_neg g2]
          simp only [MI.run, MI.strD, MI.lstOf, MI.known, MI.sPar, MI.sTry, MI.sRaise0, MI.sRaise1, MI.sParOwn, MI.sForR, MI.sStar, MI.starD, MI.eTupRg, MI.eLm, MI.eIsX, MI.eFld, MI.eDic0, MI.eLam, MI.xCat, MI.freed, MI.sNil, MI.sCons, MI.sIf, MI.sSet, MI.sSetL, MI.sRet, MI.sRetN, MI.sRetV, MI.sSub, MI.sAug, MI.sApp, MI.sOwn, MI.sSetT, MI.sFor, MI.sWhile, MI.eVar, MI.eBor, MI.eK, MI.eBin, MI.eNeg, MI.eNot, MI.eAnd, MI.eOr, MI.eT, MI.eIf, MI.eIx, MI.eSl, MI.eCall, MI.eInst, MI.eBlt1, MI.eBlt, MI.eMeth, MI.eTup, MI.eLst, MI.eOfA, MI.aNil, MI.aCons, MI.tCmp, MI.tChain, MI.tNot, MI.tAnd, MI.tOr, MI.tOf, MI.tYes, MI.pNo, MI.pYes, MI.boolOf, MI.blOf, MI.truth, MI.partD, MI.gOne, bind_ok, of_some, toS_ok, then_next, then_ret, then_brk, map_some, List.getElem?_cons_zero, List.getElem?_cons_succ, List.set_cons_zero, List.set_cons_succ, if_true, if_false, Bool.false_eq_true, reduceIte, tuC_ok, cmp_gt, hpos, op_add, op_sub, hdeep, hc, told, cmp_is, isN, gM2, ownSlot_3, hlt, hs1, hs2, l_cl, l_cs, eqS, neS, decide_eq_false g1, decide_eq_false g2, Bool.not_false]
          rfl
theorem toldL_map (a : Nat) (q : Option (List D × Nat)) : toldL (a + 1) [] q = told a (q.map fun q => (.tup q.1, q.2 + 1)) := by
  cases q with
  | none => rfl
  | some q =>
    obtain ⟨l, k⟩ := q
    simp only [toldL, told, Option.map_some, List.nil_append]
    refine congrArg (fun z => D.tup [D.tup l, D.int z]) ?_
    omega
theorem toldT_map (a : Nat) (q : Option (List Nat × Nat)) : toldT (a + 1) [] q = told a (q.map fun q => (.str (S q.1), q.2 + 1)) := by
  cases q with
  | none => rfl
  | some q =>
    obtain ⟨l, k⟩ := q
    simp only [toldT, told, Option.map_some, List.nil_append]
    refine congrArg (fun z => D.tup [D.str (S l), D.int z]) ?_
    omega
theorem tuple_ok (n : Nat) {j : Nat} {t : List Nat} (ht : t.length ≤ 4000000) {st : Store} (hT : ∀ a : Nat, tab G fs n (Str.ofString "thing_from") [.str (S t), .int (a : Nat), .int (j : Nat)] st = .ok (told a (thP j (t.drop a))) st) (a : Nat) (ha : a ≤ t.length) :
    tab G fs (n + 1) (Str.ofString "tuple_from") [.str (S t), .int (a : Nat), .int ((j + 1 : Nat) : Int)] st = .ok (told a (tuP (thP j) (t.drop a))) st := by
  have hb : t.length ≤ big := Nat.le_trans ht (by decide)
  rw [at_tuple_from]
  unfold b_tuple_from tuP
  rw [List.drop_drop]
  have e1 : (MI.tCmp .Eq (eSl (eBor 0) (pYes (eBin .Add (eVar 1) (eK (.int 1)))) (pYes (eBin .Add (eVar 1) (eK (.int 2))))) (eK (.str (Str.ofString ")")))) [.v (.str (S t)), .v (.int (a : Nat)), .v (.int ((j + 1 : Nat) : Int)), .no, .no, .no] st = .ok (decide ((t.drop (a + 1)).take 1 = [41])) st := by
    simp only [MI.run, MI.strD, MI.lstOf, MI.known, MI.sPar, MI.sTry, MI.sRaise0, MI.sRaise1, MI.sParOwn, MI.sForR, MI.sStar, MI.starD, MI.eTupRg, MI.eLm, MI.eIsX, MI.eFld, MI.eDic0, MI.eLam, MI.xCat, MI.freed, MI.sNil, MI.sCons, MI.sIf, MI.sSet, MI.sSetL, MI.sRet, MI.sRetN, MI.sRetV, MI.sSub, MI.sAug, MI.sApp, MI.sOwn, MI.sSetT, MI.sFor, MI.sWhile, MI.eVar, MI.eBor, MI.eK, MI.eBin, MI.eNeg, MI.eNot, MI.eAnd, MI.eOr, MI.eT, MI.eIf, MI.eIx, MI.eSl, MI.eCall, MI.eInst, MI.eBlt1, MI.eBlt, MI.eMeth, MI.eTup, MI.eLst, MI.eOfA, MI.aNil, MI.aCons, MI.tCmp, MI.tChain, MI.tNot, MI.tAnd, MI.tOr, MI.tOf, MI.tYes, MI.pNo, MI.pYes, MI.boolOf, MI.blOf, MI.truth, MI.partD, MI.gOne, bind_ok, of_some, toS_ok, then_next, then_ret, then_brk, map_some, List.getElem?_cons_zero, List.getElem?_cons_succ, List.set_cons_zero, List.set_cons_succ, if_true, if_false, Bool.false_eq_true, reduceIte, op_add, sl_12 hb, l_cl, eqS]
  by_cases g : (t.drop (a + 1)).take 1 = [41]
  · rw [decide_eq_true g] at e1
    rw [if_pos g]
    exact run_ifR e1 rfl
  · rw [decide_eq_false g] at e1
    rw [if_neg g]
    refine (run_ifF e1).trans ?_
    refine (run_own (ds := []) (st1 := st) rfl).trans ?_
    have := tu_loop ht hT lots ((t.drop a).length + 1) a [] .no .no (by rw [List.length_drop, List.length_drop]; omega) (by
      rw [List.length_drop]
      have : (4000000 : Nat) < lots := by decide
      omega) (Nat.zero_le _) ha
    rw [toldL_map] at this
    exact run_whileR this
theorem flat_from {t : List Nat} (ht : t.length ≤ 4000000) (st : Store) (n a j : Nat) :
    MI.run (sCons (sIf (MI.tCmp .Eq (eBor 3) (eK (.str (Str.ofString "\""))))
   (sCons (sRet (eCall (tab G fs (n + 1)) (Str.ofString "text_from") (aCons (eVar 0) (aCons (eVar 1) aNil))))
    sNil)
   sNil)
  (sCons (sIf (MI.tCmp .Eq (eSl (eBor 0) (pYes (eVar 1)) (pYes (eBin .Add (eVar 1) (eK (.int 4))))) (eK (.str (Str.ofString "none"))))
   (sCons (sRet (eTup (aCons (eK .non) (aCons (eBin .Add (eVar 1) (eK (.int 4))) aNil))))
    sNil)
   sNil)
  (sCons (sRet (eCall (tab G fs (n + 1)) (Str.ofString "number_from") (aCons (eVar 0) (aCons (eVar 1) aNil))))
  sNil))) [.v (.str (S t)), .v (.int (a : Nat)), .v (.int (j : Nat)), .v (.str (S ((t.drop a).take 1)))] st = .ok (told a (flP (t.drop a))) st := by
  have hb : t.length ≤ big := Nat.le_trans ht (by decide)
  unfold flP
  have e1 : (MI.tCmp .Eq (eBor 3) (eK (.str (Str.ofString "\"")))) [.v (.str (S t)), .v (.int (a : Nat)), .v (.int (j : Nat)), .v (.str (S ((t.drop a).take 1)))] st = .ok (decide ((t.drop a).take 1 = [34])) st := by
    simp only [MI.run, MI.strD, MI.lstOf, MI.known, MI.sPar, MI.sTry, MI.sRaise0, MI.sRaise1, MI.sParOwn, MI.sForR, MI.sStar, MI.starD, MI.eTupRg, MI.eLm, MI.eIsX, MI.eFld, MI.eDic0, MI.eLam, MI.xCat, MI.freed, MI.sNil, MI.sCons, MI.sIf, MI.sSet, MI.sSetL, MI.sRet, MI.sRetN, MI.sRetV, MI.sSub, MI.sAug, MI.sApp, MI.sOwn, MI.sSetT, MI.sFor, MI.sWhile, MI.eVar, MI.eBor, MI.eK, MI.eBin, MI.eNeg, MI.eNot, MI.eAnd, MI.eOr, MI.eT, MI.eIf, MI.eIx, MI.eSl, MI.eCall, MI.eInst, MI.eBlt1, MI.eBlt, MI.eMeth, MI.eTup, MI.eLst, MI.eOfA, MI.aNil, MI.aCons, MI.tCmp, MI.tChain, MI.tNot, MI.tAnd, MI.tOr, MI.tOf, MI.tYes, MI.pNo, MI.pYes, MI.boolOf, MI.blOf, MI.truth, MI.partD, MI.gOne, bind_ok, of_some, toS_ok, then_next, then_ret, then_brk, map_some, List.getElem?_cons_zero, List.getElem?_cons_succ, List.set_cons_zero, List.set_cons_succ, if_true, if_false, Bool.false_eq_true, reduceIte, l_q, eqS]
  by_cases g : (t.drop a).take 1 = [34]
  · rw [decide_eq_true g] at e1
    rw [if_pos g, List.drop_drop, ← toldT_map]
    refine run_ifR e1 ?_
    simp only [MI.run, MI.strD, MI.lstOf, MI.known, MI.sPar, MI.sTry, MI.sRaise0, MI.sRaise1, MI.sParOwn, MI.sForR, MI.sStar, MI.starD, MI.eTupRg, MI.eLm, MI.eIsX, MI.eFld, MI.eDic0, MI.eLam, MI.xCat, MI.freed, MI.sNil, MI.sCons, MI.sIf, MI.sSet, MI.sSetL, MI.sRet, MI.sRetN, MI.sRetV, MI.sSub, MI.sAug, MI.sApp, MI.sOwn, MI.sSetT, MI.sFor, MI.sWhile, MI.eVar, MI.eBor, MI.eK, MI.eBin, MI.eNeg, MI.eNot, MI.eAnd, MI.eOr, MI.eT, MI.eIf, MI.eIx, MI.eSl, MI.eCall, MI.eInst, MI.eBlt1, MI.eBlt, MI.eMeth, MI.eTup, MI.eLst, MI.eOfA, MI.aNil, MI.aCons, MI.tCmp, MI.tChain, MI.tNot, MI.tAnd, MI.tOr, MI.tOf, MI.tYes, MI.pNo, MI.pYes, MI.boolOf, MI.blOf, MI.truth, MI.partD, MI.gOne, bind_ok, of_some, toS_ok, then_next, then_ret, then_brk, map_some, List.getElem?_cons_zero, List.getElem?_cons_succ, List.set_cons_zero, List.set_cons_succ, if_true, if_false, Bool.false_eq_true, reduceIte, txt_from_ok n ht a st]
  · rw [decide_eq_false g] at e1
    rw [if_neg g]
    refine (run_ifF e1).trans ?_
    have e2 : (MI.tCmp .Eq (eSl (eBor 0) (pYes (eVar 1)) (pYes (eBin .Add (eVar 1) (eK (.int 4))))) (eK (.str (Str.ofString "none")))) [.v (.str (S t)), .v (.int (a : Nat)), .v (.int (j : Nat)), .v (.str (S ((t.drop a).take 1)))] st = .ok (decide ((t.drop a).take 4 = [110, 111, 110, 101])) st := by
      simp only [MI.run, MI.strD, MI.lstOf, MI.known, MI.sPar, MI.sTry, MI.sRaise0, MI.sRaise1, MI.sParOwn, MI.sForR, MI.sStar, MI.starD, MI.eTupRg, MI.eLm, MI.eIsX, MI.eFld, MI.eDic0, MI.eLam, MI.xCat, MI.freed, MI.sNil, MI.sCons, MI.sIf, MI.sSet, MI.sSetL, MI.sRet, MI.sRetN, MI.sRetV, MI.sSub, MI.sAug, MI.sApp, MI.sOwn, MI.sSetT, MI.sFor, MI.sWhile, MI.eVar, MI.eBor, MI.eK, MI.eBin, MI.eNeg, MI.eNot, MI.eAnd, MI.eOr, MI.eT, MI.eIf, MI.eIx, MI.eSl, MI.eCall, MI.eInst, MI.eBlt1, MI.eBlt, MI.eMeth, MI.eTup, MI.eLst, MI.eOfA, MI.aNil, MI.aCons, MI.tCmp, MI.tChain, MI.tNot, MI.tAnd, MI.tOr, MI.tOf, MI.tYes, MI.pNo, MI.pYes, MI.boolOf, MI.blOf, MI.truth, MI.partD, MI.gOne, bind_ok, of_some, toS_ok, then_next, then_ret, then_brk, map_some, List.getElem?_cons_zero, List.getElem?_cons_succ, List.set_cons_zero, List.set_cons_succ, if_true, if_false, Bool.false_eq_true, reduceIte, op_add, sl_4 hb, l_none, eqS]
    by_cases g2 : (t.drop a).take 4 = [110, 111, 110, 101]
    · rw [decide_eq_true g2] at e2
      rw [if_pos g2]
      exact run_ifR e2 rfl
    · rw [decide_eq_false g2] at e2
      rw [if_neg g2]
      refine (run_ifF e2).trans ?_
      refine run_ret ?_
      simp only [MI.run, MI.strD, MI.lstOf, MI.known, MI.sPar, MI.sTry, MI.sRaise0, MI.sRaise1, MI.sParOwn, MI.sForR, MI.sStar, MI.starD, MI.eTupRg, MI.eLm, MI.eIsX, MI.eFld, MI.eDic0, MI.eLam, MI.xCat, MI.freed, MI.sNil, MI.sCons, MI.sIf, MI.sSet, MI.sSetL, MI.sRet, MI.sRetN, MI.sRetV, MI.sSub, MI.sAug, MI.sApp, MI.sOwn, MI.sSetT, MI.sFor, MI.sWhile, MI.eVar, MI.eBor, MI.eK, MI.eBin, MI.eNeg, MI.eNot, MI.eAnd, MI.eOr, MI.eT, MI.eIf, MI.eIx, MI.eSl, MI.eCall, MI.eInst, MI.eBlt1, MI.eBlt, MI.eMeth, MI.eTup, MI.eLst, MI.eOfA, MI.aNil, MI.aCons, MI.tCmp, MI.tChain, MI.tNot, MI.tAnd, MI.tOr, MI.tOf, MI.tYes, MI.pNo, MI.pYes, MI.boolOf, MI.blOf, MI.truth, MI.partD, MI.gOne, bind_ok, of_some, toS_ok, then_next, then_ret, then_brk, map_some, List.getElem?_cons_zero, List.getElem?_cons_succ, List.set_cons_zero, List.set_cons_succ, if_true, if_false, Bool.false_eq_true, reduceIte, num_ok n ht a st]
/-- thing_from -/
theorem thing_ok {t : List Nat} (ht : t.length ≤ 4000000) (st : Store) : ∀ (j n a : Nat), tab G fs (n + 2 * j + 2) (Str.ofString "thing_from") [.str (S t), .int (a : Nat), .int (j : Nat)] st = .ok (told a (thP j (t.drop a))) st := by
  have hb : t.length ≤ big := Nat.le_trans ht (by decide)
  intro j
  induction j with
  | zero =>
    intro n a
    rw [at_thing_from]
    unfold b_thing_from
    refine (run_set (d := .str (S ((t.drop a).take 1))) (st1 := st) (by simp only [MI.run, MI.strD, MI.lstOf, MI.known, MI.sPar, MI.sTry, MI.sRaise0, MI.sRaise1, MI.sParOwn, MI.sForR, MI.sStar, MI.starD, MI.eTupRg, MI.eLm, MI.eIsX, MI.eFld, MI.eDic0, MI.eLam, MI.xCat, MI.freed, MI.sNil, MI.sCons, MI.sIf, MI.sSet, MI.sSetL, MI.sRet, MI.sRetN, MI.sRetV, MI.sSub, MI.sAug, MI.sApp, MI.sOwn, MI.sSetT, MI.sFor, MI.sWhile, MI.eVar, MI.eBor, MI.eK, MI.eBin, MI.eNeg, MI.eNot, MI.eAnd, MI.eOr, MI.eT, MI.eIf, MI.eIx, MI.eSl, MI.eCall, MI.eInst, MI.eBlt1, MI.eBlt, MI.eMeth, MI.eTup, MI.eLst, MI.eOfA, MI.aNil, MI.aCons, MI.tCmp, MI.tChain, MI.tNot, MI.tAnd, MI.tOr, MI.tOf, MI.tYes, MI.pNo, MI.pYes, MI.boolOf, MI.blOf, MI.truth, MI.partD, MI.gOne, bind_ok, of_some, toS_ok, then_next, then_ret, then_brk, map_some, List.getElem?_cons_zero, List.getElem?_cons_succ, List.set_cons_zero, List.set_cons_succ, if_true, if_false, Bool.false_eq_true, reduceIte, op_add, sl_1 hb])).trans ?_
    unfold thP
    have e1 : (MI.tCmp .Eq (eBor 3) (eK (.str (Str.ofString "(")))) [.v (.str (S t)), .v (.int (a : Nat)), .v (.int (0 : Nat)), .v (.str (S ((t.drop a).take 1)))] st = .ok (decide ((t.drop a).take 1 = [40])) st := by
      simp only [MI.run, MI.strD, MI.lstOf, MI.known, MI.sPar, MI.sTry, MI.sRaise0, MI.sRaise1, MI.sParOwn, MI.sForR, MI.sStar, MI.starD, MI.eTupRg, MI.eLm, MI.eIsX, MI.eFld, MI.eDic0, MI.eLam, MI.xCat, MI.freed, MI.sNil, MI.sCons, MI.sIf, MI.sSet, MI.sSetL, MI.sRet, MI.sRetN, MI.sRetV, MI.sSub, MI.sAug, MI.sApp, MI.sOwn, MI.sSetT, MI.sFor, MI.sWhile, MI.eVar, MI.eBor, MI.eK, MI.eBin, MI.eNeg, MI.eNot, MI.eAnd, MI.eOr, MI.eT, MI.eIf, MI.eIx, MI.eSl, MI.eCall, MI.eInst, MI.eBlt1, MI.eBlt, MI.eMeth, MI.eTup, MI.eLst, MI.eOfA, MI.aNil, MI.aCons, MI.tCmp, MI.tChain, MI.tNot, MI.tAnd, MI.tOr, MI.tOf, MI.tYes, MI.pNo, MI.pYes, MI.boolOf, MI.blOf, MI.truth, MI.partD, MI.gOne, bind_ok, of_some, toS_ok, then_next, then_ret, then_brk, map_some, List.getElem?_cons_zero, List.getElem?_cons_succ, List.set_cons_zero, List.set_cons_succ, if_true, if_false, Bool.false_eq_true, reduceIte, l_op, eqS]
    by_cases g : (t.drop a).take 1 = [40]
    · rw [decide_eq_true g] at e1
      rw [if_pos g]
      exact run_ifR e1 rfl
    · rw [decide_eq_false g] at e1
      rw [if_neg g]
      refine (run_ifF e1).trans ?_
      exact flat_from ht st n a 0
  | succ j ih =>
    intro n a
    rw [show n + 2 * (j + 1) + 2 = (n + 2 * j + 3) + 1 by omega, at_thing_from]
    unfold b_thing_from
    refine (run_set (d := .str (S ((t.drop a).take 1))) (st1 := st) (by simp only [MI.run, MI.strD, MI.lstOf, MI.known, MI.sPar, MI.sTry, MI.sRaise0, MI.sRaise1, MI.sParOwn, MI.sForR, MI.sStar, MI.starD, MI.eTupRg, MI.eLm, MI.eIsX, MI.eFld, MI.eDic0, MI.eLam, MI.xCat, MI.freed, MI.sNil, MI.sCons, MI.sIf, MI.sSet, MI.sSetL, MI.sRet, MI.sRetN, MI.sRetV, MI.sSub, MI.sAug, MI.sApp, MI.sOwn, MI.sSetT, MI.sFor, MI.sWhile, MI.eVar, MI.eBor, MI.eK, MI.eBin, MI.eNeg, MI.eNot, MI.eAnd, MI.eOr, MI.eT, MI.eIf, MI.eIx, MI.eSl, MI.eCall, MI.eInst, MI.eBlt1, MI.eBlt, MI.eMeth, MI.eTup, MI.eLst, MI.eOfA, MI.aNil, MI.aCons, MI.tCmp, MI.tChain, MI.tNot, MI.tAnd, MI.tOr, MI.tOf, MI.tYes, MI.pNo, MI.pYes, MI.boolOf, MI.blOf, MI.truth, MI.partD, MI.gOne, bind_ok, of_some, toS_ok, then_next, then_ret, then_brk, map_some, List.getElem?_cons_zero, List.getElem?_cons_succ, List.set_cons_zero, List.set_cons_succ, if_true, if_false, Bool.false_eq_true, reduceIte, op_add, sl_1 hb])).trans ?_
    unfold thP
    have e1 : (MI.tCmp .Eq (eBor 3) (eK (.str (Str.ofString "(")))) [.v (.str (S t)), .v (.int (a : Nat)), .v (.int ((j + 1 : Nat) : Int)), .v (.str (S ((t.drop a).take 1)))] st = .ok (decide ((t.drop a).take 1 = [40])) st := by
      simp only [MI.run, MI.strD, MI.lstOf, MI.known, MI.sPar, MI.sTry, MI.sRaise0, MI.sRaise1, MI.sParOwn, MI.sForR, MI.sStar, MI.starD, MI.eTupRg, MI.eLm, MI.eIsX, MI.eFld, MI.eDic0, MI.eLam, MI.xCat, MI.freed, MI.sNil, MI.sCons, MI.sIf, MI.sSet, MI.sSetL, MI.sRet, MI.sRetN, MI.sRetV, MI.sSub, MI.sAug, MI.sApp, MI.sOwn, MI.sSetT, MI.sFor, MI.sWhile, MI.eVar, MI.eBor, MI.eK, MI.eBin, MI.eNeg, MI.eNot, MI.eAnd, MI.eOr, MI.eT, MI.eIf, MI.eIx, MI.eSl, MI.eCall, MI.eInst, MI.eBlt1, MI.eBlt, MI.eMeth, MI.eTup, MI.eLst, MI.eOfA, MI.aNil, MI.aCons, MI.tCmp, MI.tChain, MI.tNot, MI.tAnd, MI.tOr, MI.tOf, MI.tYes, MI.pNo, MI.pYes, MI.boolOf, MI.blOf, MI.truth, MI.partD, MI.gOne, bind_ok, of_some, toS_ok, then_next, then_ret, then_brk, map_some, List.getElem?_cons_zero, List.getElem?_cons_succ, List.set_cons_zero, List.set_cons_succ, if_true, if_false, Bool.false_eq_true, reduceIte, l_op, eqS]
    by_cases g : (t.drop a).take 1 = [40]
    · rw [decide_eq_true g] at e1
      rw [if_pos g]
      have hal : a ≤ t.length := by
        by_cases z : a ≤ t.length
        · exact z
        · rw [List.drop_eq_nil_of_le (by omega)] at g
          cases g
      have ht2 := tuple_ok (n + 2 * j + 2) ht (fun a => ih n a) a hal
      refine run_ifR e1 (d := told a (tuP (thP j) (t.drop a))) (st2 := st) ?_
      simp only [MI.run, MI.strD, MI.lstOf, MI.known, MI.sPar, MI.sTry, MI.sRaise0, MI.sRaise1, MI.sParOwn, MI.sForR, MI.sStar, MI.starD, MI.eTupRg, MI.eLm, MI.eIsX, MI.eFld, MI.eDic0, MI.eLam, MI.xCat, MI.freed, MI.sNil, MI.sCons, MI.sIf, MI.sSet, MI.sSetL, MI.sRet, MI.sRetN, MI.sRetV, MI.sSub, MI.sAug, MI.sApp, MI.sOwn, MI.sSetT, MI.sFor, MI.sWhile, MI.eVar, MI.eBor, MI.eK, MI.eBin, MI.eNeg, MI.eNot, MI.eAnd, MI.eOr, MI.eT, MI.eIf, MI.eIx, MI.eSl, MI.eCall, MI.eInst, MI.eBlt1, MI.eBlt, MI.eMeth, MI.eTup, MI.eLst, MI.eOfA, MI.aNil, MI.aCons, MI.tCmp, MI.tChain, MI.tNot, MI.tAnd, MI.tOr, MI.tOf, MI.tYes, MI.pNo, MI.pYes, MI.boolOf, MI.blOf, MI.truth, MI.partD, MI.gOne, bind_ok, of_some, toS_ok, then_next, then_ret, then_brk, map_some, List.getElem?_cons_zero, List.getElem?_cons_succ, List.set_cons_zero, List.set_cons_succ, if_true, if_false, Bool.false_eq_true, reduceIte, cmp_gt, decide_eq_true (show (0 : Int) < ((j + 1 : Nat) : Int) by omega), ht2]
    · rw [decide_eq_false g] at e1
      rw [if_neg g]
      refine (run_ifF e1).trans ?_
      exact flat_from ht st (n + 2 * j + 2) a (j + 1)
end K77

set_option maxRecDepth 100000
set_option maxHeartbeats 4000000
namespace K77
open PySem MI SX
theorem numT_nat (m : Nat) : numT (m : Nat) = TL.numL m := TL.tl_num m
theorem numT_neg (m : Nat) : numT (Int.negSucc m) = 45 :: TL.numL (m + 1) := by
  have e : (toString (Int.negSucc m) : String) = "-" ++ toString (m + 1) := rfl
  unfold numT
  rw [e, PyProof.Rows.signs_ofString, String.toList_append, List.map_append]
  have h := numT_nat (m + 1)
  unfold numT at h
  rw [PyProof.Rows.signs_ofString] at h
  have e2 : (toString ((m + 1 : Nat) : Int) : String) = toString (m + 1) := rfl
  rw [e2] at h
  rw [h]
  rfl
theorem head_ne0 : ∀ n : Nat, 0 < n → ∀ r, TL.numL n ≠ 48 :: r := by
  intro n
  induction n using Nat.strongRecOn with
  | _ n ih =>
    intro hn r e
    by_cases h : n < 10
    · rw [TL.numL_lt h] at e
      simp at e
      omega
    · rw [TL.numL_step (by omega)] at e
      cases hq : TL.numL (n / 10) with
      | nil => exact TL.numL_ne _ hq
      | cons c q =>
        rw [hq, List.cons_append] at e
        cases e
        exact ih (n / 10) (by omega) (by omega) q hq
/-- what may stand behind -/
def Beh (post : List Nat) : Prop := ∀ c r, post = c :: r → isF c = false
theorem tw_app {l post : List Nat} (h : ∀ c ∈ l, isF c = true) (hp : Beh post) : (l ++ post).takeWhile isF = l := by
  induction l with
  | nil =>
    cases post with
    | nil => rfl
    | cons c r => rw [List.nil_append, List.takeWhile_cons, hp c r rfl]; rfl
  | cons c l ih =>
    rw [List.cons_append, List.takeWhile_cons, h c List.mem_cons_self, if_pos rfl, ih fun d hd => h d (List.mem_cons_of_mem _ hd)]
theorem numL_isF (n : Nat) : ∀ c ∈ TL.numL n, isF c = true := fun c hc => isF_iff.mpr (TL.numL_digits n c hc)
theorem num_head (n : Nat) : ∃ c r, TL.numL n = c :: r ∧ isF c = true := by
  cases h : TL.numL n with
  | nil => exact absurd h (TL.numL_ne n)
  | cons c r => exact ⟨c, r, rfl, numL_isF n c (by rw [h]; exact List.mem_cons_self)⟩
theorem numP_zero {post : List Nat} (hp : Beh post) : numP (numT ((0 : Nat) : Int) ++ post) = some (.int ((0 : Nat) : Int), (numT ((0 : Nat) : Int)).length) := by
  have e0 : numT ((0 : Nat) : Int) = [48] := by rw [numT_nat, TL.numL_lt (by decide)]
  rw [e0]
  have hs : sgn ([48] ++ post) = [] := rfl
  have hf : figs ([48] ++ post) = [48] := by
    unfold figs
    rw [hs]
    exact tw_app (by intro c hc; rw [List.mem_singleton.mp hc]; rfl) hp
  have hv : numV ([48] ++ post) = ((0 : Nat) : Int) := by
    unfold numV
    rw [hf]
    rfl
  unfold numP
  rw [hf, hs, hv]
  rfl
theorem numP_ok {i : Int} (hi : i.natAbs < 10 ^ 400) {post : List Nat} (hp : Beh post) : numP (numT i ++ post) = some (.int i, (numT i).length) := by
  rcases Int.eq_nat_or_neg i with ⟨n, hn | hn⟩
  · subst hn
    rw [numT_nat]
    obtain ⟨c, r, e, hc⟩ := num_head n
    have hs : sgn (TL.numL n ++ post) = [] := by
      unfold sgn
      rw [if_neg]
      rw [e]
      intro z
      have : c = 45 := by simpa using z
      subst this
      exact absurd hc (by decide)
    have hf : figs (TL.numL n ++ post) = TL.numL n := by
      unfold figs
      rw [hs]
      exact tw_app (numL_isF n) hp
    have hv : numV (TL.numL n ++ post) = (n : Nat) := by
      unfold numV
      rw [hf, TL.numL_val, if_neg]
      rw [e]
      intro z
      have : c = 45 := by simpa using z
      subst this
      exact absurd hc (by decide)
    have hl : (TL.numL n).length ≤ 400 := TL.numL_len (by decide) (by simpa using hi)
    unfold numP
    rw [hf, hs, hv, if_neg]
    · rw [List.length_nil, Nat.zero_add]
    · rintro (z | z | ⟨z1, z2⟩)
      · exact TL.numL_ne n z
      · omega
      · rw [e] at z1
        have hc0 : c = 48 := by simpa using z1
        by_cases h0 : n = 0
        · subst h0
          exact z2 rfl
        · exact head_ne0 n (by omega) r (by rw [e, hc0])
  · cases n with
    | zero =>
      have : i = ((0 : Nat) : Int) := by omega
      subst this
      exact numP_zero hp
    | succ m =>
      have : i = Int.negSucc m := by omega
      subst this
      rw [numT_neg]
      have hs : sgn (45 :: TL.numL (m + 1) ++ post) = [45] := rfl
      have hf : figs (45 :: TL.numL (m + 1) ++ post) = TL.numL (m + 1) := by
        unfold figs
        rw [hs]
        exact tw_app (numL_isF _) hp
      have hv : numV (45 :: TL.numL (m + 1) ++ post) = Int.negSucc m := by
        unfold numV
        rw [hf, TL.numL_val, if_pos (show List.take 1 (45 :: TL.numL (m + 1) ++ post) = [45] from rfl)]
        exact hn.symm
      have hl : (TL.numL (m + 1)).length ≤ 400 := TL.numL_len (by decide) (by
        have : (Int.negSucc m).natAbs = m + 1 := rfl
        rw [this] at hi
        exact hi)
      obtain ⟨c, r, e, hc⟩ := num_head (m + 1)
      unfold numP
      rw [hf, hs, hv, if_neg]
      · refine congrArg (fun z => some (D.int (Int.negSucc m), z)) ?_
        show 1 + (TL.numL (m + 1)).length = (TL.numL (m + 1)).length + 1
        omega
      · rintro (z | z | ⟨z1, z2⟩)
        · exact TL.numL_ne _ z
        · omega
        · rw [e] at z1
          have hc0 : c = 48 := by simpa using z1
          exact head_ne0 (m + 1) (by omega) r (by rw [e, hc0])
theorem txP_ok {post : List Nat} : ∀ {l : List Nat}, (∀ c ∈ l, 32 ≤ c ∧ c ≤ 126) → txP (esc l ++ 34 :: post) = some (l, (esc l).length + 1)
  | [], _ => by
    cases post <;> rfl
  | c :: l, h => by
    have ih := txP_ok (post := post) (l := l) fun d hd => h d (List.mem_cons_of_mem _ hd)
    have e : esc (c :: l) = esc1 c ++ esc l := List.flatMap_cons ..
    have hc := h c List.mem_cons_self
    rw [e]
    by_cases h1 : c = 34 ∨ c = 92
    · have e1 : esc1 c = [92, c] := if_pos h1
      rw [e1]
      show txP (92 :: c :: (esc l ++ 34 :: post)) = _
      show (if (92 : Nat) = 34 then _ else _) = _
      rw [if_neg (by decide), if_pos rfl, if_pos h1, ih]
      rfl
    · have e1 : esc1 c = [c] := if_neg h1
      rw [e1]
      obtain ⟨x, r, hx⟩ : ∃ x r, esc l ++ 34 :: post = x :: r := by
        cases esc l with
        | nil => exact ⟨_, _, rfl⟩
        | cons x r => exact ⟨_, _, rfl⟩
      show txP (c :: (esc l ++ 34 :: post)) = _
      rw [hx] at ih ⊢
      show (if c = 34 then _ else _) = _
      rw [if_neg (fun z => h1 (.inl z)), if_neg (fun z => h1 (.inr z)), if_pos hc, ih]
      simp only [Option.map_some, List.length_append, List.length_singleton]
      refine congrArg (fun z => some (c :: l, z)) ?_
      omega
theorem flat_ok {k : Nat} {s : List Nat} (h : s.take 1 ≠ [40]) : thP k s = flP s := by
  cases k <;> (unfold thP; rw [if_neg h])
theorem flat_non {k : Nat} {post : List Nat} : thP k (txt .non ++ post) = some (.non, (txt .non).length) := by
  rw [flat_ok (by show [110] ≠ [40]; decide)]
  rfl
theorem flat_txt {k : Nat} {l post : List Nat} (h : ∀ c ∈ l, 32 ≤ c ∧ c ≤ 126) : thP k (txt (.str (S l)) ++ post) = some (.str (S l), (txt (.str (S l))).length) := by
  have e : txt (.str (S l)) ++ post = 34 :: (esc l ++ 34 :: post) := by
    show 34 :: (esc l ++ [34]) ++ post = _
    simp
  rw [flat_ok (by rw [e]; show [34] ≠ [40]; decide), e]
  unfold flP
  rw [if_pos (by rfl)]
  show (txP (esc l ++ 34 :: post)).map _ = _
  rw [txP_ok h]
  show some (D.str (S l), (esc l).length + 1 + 1) = some (D.str (S l), (34 :: (esc l ++ [34])).length)
  simp
theorem txt_head {k : Nat} {d : D} (h : Th k d) : ∃ c r, txt d = c :: r ∧ c ≠ 41 := by
  rcases h.cases with rfl | ⟨i, rfl, hi⟩ | ⟨l, rfl, hc⟩ | ⟨j, ds, e, rfl, ha⟩
  · exact ⟨_, _, rfl, by decide⟩
  · cases i with
    | ofNat n =>
      obtain ⟨c, r, e, hc⟩ := num_head n
      refine ⟨c, r, (numT_nat n).trans e, fun z => ?_⟩
      subst z
      exact absurd hc (by decide)
    | negSucc m => exact ⟨45, _, numT_neg m, by decide⟩
  · exact ⟨_, _, rfl, by decide⟩
  · exact ⟨_, _, rfl, by decide⟩
theorem num_no {i : Int} {post : List Nat} : ∃ c r, numT i ++ post = c :: r ∧ (c = 45 ∨ isF c = true) := by
  cases i with
  | ofNat n =>
    obtain ⟨c, r, e, hc⟩ := num_head n
    exact ⟨c, r ++ post, by rw [show numT (Int.ofNat n) = TL.numL n from numT_nat n, e]; rfl, .inr hc⟩
  | negSucc m => exact ⟨45, TL.numL (m + 1) ++ post, by rw [numT_neg]; rfl, .inl rfl⟩
theorem flat_num {k : Nat} {i : Int} (hi : i.natAbs < 10 ^ 400) {post : List Nat} (hp : Beh post) : thP k (txt (.int i) ++ post) = some (.int i, (txt (.int i)).length) := by
  show thP k (numT i ++ post) = some (.int i, (numT i).length)
  obtain ⟨c, r, e, hc⟩ := num_no (i := i) (post := post)
  have ne : ∀ x : Nat, x ≠ 45 → isF x = false → c ≠ x := fun x h1 h2 z => by
    subst z
    rcases hc with z | z
    · exact h1 z
    · rw [h2] at z; cases z
  have n40 := ne 40 (by decide) (by decide)
  have n34 := ne 34 (by decide) (by decide)
  have n110 := ne 110 (by decide) (by decide)
  rw [flat_ok (by rw [e]; intro z; exact n40 (by simpa using z))]
  unfold flP
  rw [if_neg (by rw [e]; intro z; exact n34 (by simpa using z)), if_neg (by rw [e]; intro z; exact n110 (by simp at z; exact z.1)), numP_ok hi hp]
theorem beh_cons {c : Nat} {r : List Nat} (h : isF c = false) : Beh (c :: r) := fun d q e => by cases e; exact h
theorem loop_ok {p : List Nat → Option (D × Nat)} : ∀ (ds : List D) (m : Nat) (post : List Nat), ds ≠ [] → (∀ d ∈ ds, ∀ post, Beh post → p (txt d ++ post) = some (d, (txt d).length)) → ds.length ≤ m →
    loopP p m (TL.joinL [44, 32] (ds.map txt) ++ 41 :: post) = some (ds, (TL.joinL [44, 32] (ds.map txt)).length + 1)
  | [], _, _, h, _, _ => absurd rfl h
  | [d], m, post, _, h, hm => by
    obtain ⟨m, rfl⟩ : ∃ q, m = q + 1 := ⟨m - 1, by simp at hm; omega⟩
    show loopP p (m + 1) (txt d ++ 41 :: post) = _
    unfold loopP
    rw [h d List.mem_cons_self (41 :: post) (beh_cons (by decide))]
    simp only [List.drop_left]
    rw [if_pos (show List.take 1 (41 :: post) = [41] from rfl)]
    rfl
  | d :: e :: ds, m, post, _, h, hm => by
    obtain ⟨m, rfl⟩ : ∃ q, m = q + 1 := ⟨m - 1, by simp at hm; omega⟩
    have ih := loop_ok (p := p) (e :: ds) m post (by simp) (fun d hd => h d (List.mem_cons_of_mem _ hd)) (by simp at hm ⊢; omega)
    have e1 : TL.joinL [44, 32] ((d :: e :: ds).map txt) = txt d ++ ([44, 32] ++ TL.joinL [44, 32] ((e :: ds).map txt)) := rfl
    rw [e1]
    have e2 : txt d ++ ([44, 32] ++ TL.joinL [44, 32] ((e :: ds).map txt)) ++ 41 :: post = txt d ++ (44 :: 32 :: (TL.joinL [44, 32] ((e :: ds).map txt) ++ 41 :: post)) := by simp
    rw [e2]
    unfold loopP
    rw [h d List.mem_cons_self _ (beh_cons (by decide))]
    simp only [List.drop_left]
    rw [if_neg (by simp), if_pos (by simp), show (txt d ++ 44 :: 32 :: (TL.joinL [44, 32] ((e :: ds).map txt) ++ 41 :: post)).drop ((txt d).length + 2) = TL.joinL [44, 32] ((e :: ds).map txt) ++ 41 :: post by
      rw [← List.drop_drop, List.drop_left]; rfl, ih]
    simp only [Option.map_some, List.length_append, List.length_cons, List.length_nil]
    refine congrArg (fun z => some (d :: e :: ds, z)) ?_
    omega
/-- what is written is read -/
theorem round : ∀ (k : Nat) (d : D), Th k d → ∀ post, Beh post → thP k (txt d ++ post) = some (d, (txt d).length) := by
  intro k
  induction k with
  | zero =>
    intro d h post hp
    rcases h.cases with rfl | ⟨i, rfl, hi⟩ | ⟨l, rfl, hc⟩ | ⟨j, ds, e, rfl, ha⟩
    · exact flat_non
    · exact flat_num hi hp
    · exact flat_txt hc
    · cases e
  | succ k ih =>
    intro d h post hp
    rcases h.cases with rfl | ⟨i, rfl, hi⟩ | ⟨l, rfl, hc⟩ | ⟨j, ds, e, rfl, ha⟩
    · exact flat_non
    · exact flat_num hi hp
    · exact flat_txt hc
    · cases e
      have e1 : txt (.tup ds) = 40 :: (TL.joinL [44, 32] (ds.map txt) ++ [41]) := by
        rw [← txtL_map]; rfl
      rw [e1]
      have e2 : 40 :: (TL.joinL [44, 32] (ds.map txt) ++ [41]) ++ post = 40 :: (TL.joinL [44, 32] (ds.map txt) ++ 41 :: post) := by simp
      rw [e2]
      unfold thP
      rw [if_pos (show List.take 1 (40 :: (TL.joinL [44, 32] (ds.map txt) ++ 41 :: post)) = [40] from rfl)]
      unfold tuP
      show (if (TL.joinL [44, 32] (ds.map txt) ++ 41 :: post).take 1 = [41] then _ else _) = _
      cases ds with
      | nil => rfl
      | cons d ds =>
        have hne : (TL.joinL [44, 32] ((d :: ds).map txt) ++ 41 :: post).take 1 ≠ [41] := by
          obtain ⟨c, r, hc, hn⟩ := txt_head (ha d List.mem_cons_self)
          obtain ⟨q, hq⟩ : ∃ q, TL.joinL [44, 32] ((d :: ds).map txt) ++ 41 :: post = c :: q := by
            cases ds with
            | nil => exact ⟨_, by show txt d ++ _ = _; rw [hc]; rfl⟩
            | cons e ds => exact ⟨_, by show txt d ++ _ ++ _ = _; rw [hc]; rfl⟩
          rw [hq]
          intro z
          exact hn (by simpa using z)
        rw [if_neg hne]
        have hj := joinL_len [44, 32] ((d :: ds).map txt)
        rw [List.length_map, show ([44, 32] : List Nat).length = 2 from rfl] at hj
        have := loop_ok (p := thP k) (d :: ds) ((40 :: (TL.joinL [44, 32] ((d :: ds).map txt) ++ 41 :: post)).length + 1) post (by simp) (fun d hd post hp => ih d (ha d hd) post hp) (by
          simp only [List.length_cons, List.length_append] at hj ⊢
          omega)
        show (loopP (thP k) _ (TL.joinL [44, 32] ((d :: ds).map txt) ++ 41 :: post)).map _ = _
        rw [this]
        simp only [Option.map_some, List.length_append, List.length_cons, List.length_nil]
end K77

set_option maxRecDepth 100000
set_option maxHeartbeats 4000000
namespace K77
open PySem MI SX
theorem comp_none {own : List Nat} {src : AX} {bind : D → MI.Env → Option MI.Env} {t : TX} {elt : EX} {env : MI.Env} {st st1 : Store} {ds : List D} (hs : src env st = .ok ds st1) (hl : ds.length ≤ big)
    (h : ∀ d ∈ ds, (match bind d (wipeE env own) with
        | some env1 => (t env1 st1).bind fun k st3 => if k = true then (elt env1 st3).bind fun x st4 => .ok (some x) st4 else .ok none st3
        | none => .stuck) = .ok none st1) : xComp own src bind t elt env st = .ok [] st1 := by
  have key : ∀ (es : List D), (∀ d ∈ es, d ∈ ds) → compL (fun d st2 => Res.tame (match bind d (wipeE env own) with
        | some env1 => (t env1 st2).bind fun k st3 => if k = true then (elt env1 st3).bind fun x st4 => .ok (some x) st4 else .ok none st3
        | none => .stuck)) es [] st1 = .ok [] st1 := by
    intro es
    induction es with
    | nil => intro _; rfl
    | cons e es ih =>
      intro he
      unfold compL
      rw [h e (he e List.mem_cons_self)]
      exact ih fun d hd => he d (List.mem_cons_of_mem _ hd)
  unfold xComp
  rw [hs]
  show (if ds.length ≤ big then _ else _) = _
  rw [if_pos hl]
  exact key ds fun d hd => hd
theorem range_nat {n : Nat} (h : n ≤ big) : rangeOne (.int (n : Nat)) = some (rangeD 0 n) := by
  have h2 : n < 2 ^ 62 := Nat.lt_of_le_of_lt h (by decide)
  show (if smallI ((n : Nat) : Int) = true then some (rangeD 0 ((n : Nat) : Int).toNat) else none) = _
  rw [if_pos, Int.toNat_natCast]
  unfold smallI
  rw [Bool.and_eq_true, decide_eq_true_eq, decide_eq_true_eq]
  omega
theorem range_src {a : EX} {env : MI.Env} {st st1 : Store} {n : Nat} (h : a env st = .ok (.int (n : Nat)) st1) (hn : n ≤ big) : xRange1 a env st = .ok (rangeD 0 n) st1 := by
  have e : xRange1 a env st = (a env st).bind fun d st1 => Res.of (rangeOne d) st1 := rfl
  rw [e, h, bind_ok, range_nat hn, of_some]
theorem range_mem {n : Nat} {d : D} (h : d ∈ rangeD 0 n) : ∃ i, i < n ∧ d = .int (i : Nat) := by
  unfold rangeD at h
  obtain ⟨i, hi, rfl⟩ := List.mem_map.mp h
  exact ⟨i, List.mem_range.mp hi, by rw [Int.zero_add]⟩
theorem range_len (lo : Int) (n : Nat) : (rangeD lo n).length = n := by
  unfold rangeD
  rw [List.length_map, List.length_range]
theorem min_same (n : Int) (st : Store) : bltD (Str.ofString "min") [.int n, .int n] st = some (.int n) := by
  show some (D.int (if n < n then n else n)) = _
  rw [if_neg (Int.lt_irrefl n)]
theorem eq_nil : cmpD .Eq (.lst []) (.lst []) = some true := by decide +kernel
theorem like_seq {n : Nat} {ds : List D} {st : Store} (hl : ds.length ≤ big) (h : ∀ d ∈ ds, tab G fs n (Str.ofString "_law_like") [d, d] st = .ok (.bl true) st) {v : D} (hv : v = .tup ds ∨ v = .lst ds) :
    tab G fs (n + 1) (Str.ofString "_law_like") [v, v] st = .ok (.bl true) st := by
  rw [at_law_like]
  unfold b_law_like
  have ht : isTy v st ["tuple", "list"] = some true := by rcases hv with rfl | rfl <;> rfl
  have hln : bltD (Str.ofString "len") [v] st = some (.int (ds.length : Nat)) := by rcases hv with rfl | rfl <;> rfl
  have hix : ∀ i : Nat, i < ds.length → ∃ d ∈ ds, ixD v (.int (i : Nat)) st = some d := fun i hi => by
    refine ⟨ds[i], List.getElem_mem hi, ?_⟩
    rcases hv with rfl | rfl
    · exact L2.atI_nat (List.getElem?_eq_getElem hi)
    · exact L2.atI_nat (List.getElem?_eq_getElem hi)
  obtain ⟨b, hb⟩ : ∃ b, isTy v st ["tuple"] = some b := by rcases hv with rfl | rfl <;> exact ⟨_, rfl⟩
  have hc : xComp [3] (xRange1 (eBlt (Str.ofString "min") (aCons (eBlt1 (Str.ofString "len") (eBor 0)) (aCons (eBlt1 (Str.ofString "len") (eBor 1)) aNil)))) (gOne 3) (MI.tNot (MI.tOf (eCall (tab G fs n) (Str.ofString "_law_like") (aCons (eIx (eBor 0) (eVar 3)) (aCons (eIx (eBor 1) (eVar 3)) aNil))))) (eVar 3) [.v v, .v v, .no, .no, .no] st = .ok [] st := by
    refine comp_none (ds := rangeD 0 ds.length) ?_ (by rw [range_len]; exact hl) fun d hd => ?_
    · exact range_src (by simp only [MI.run, MI.strD, MI.lstOf, MI.known, MI.sPar, MI.sTry, MI.sRaise0, MI.sRaise1, MI.sParOwn, MI.sForR, MI.sStar, MI.starD, MI.eTupRg, MI.eLm, MI.eIsX, MI.eFld, MI.eDic0, MI.eLam, MI.xCat, MI.freed, MI.sNil, MI.sCons, MI.sIf, MI.sSet, MI.sSetL, MI.sRet, MI.sRetN, MI.sRetV, MI.sSub, MI.sAug, MI.sApp, MI.sOwn, MI.sSetT, MI.sFor, MI.sWhile, MI.eVar, MI.eBor, MI.eK, MI.eBin, MI.eNeg, MI.eNot, MI.eAnd, MI.eOr, MI.eT, MI.eIf, MI.eIx, MI.eSl, MI.eCall, MI.eInst, MI.eBlt1, MI.eBlt, MI.eMeth, MI.eTup, MI.eLst, MI.eOfA, MI.aNil, MI.aCons, MI.tCmp, MI.tChain, MI.tNot, MI.tAnd, MI.tOr, MI.tOf, MI.tYes, MI.pNo, MI.pYes, MI.boolOf, MI.blOf, MI.truth, MI.partD, MI.gOne, bind_ok, of_some, toS_ok, then_next, then_ret, then_brk, map_some, List.getElem?_cons_zero, List.getElem?_cons_succ, List.set_cons_zero, List.set_cons_succ, if_true, if_false, Bool.false_eq_true, reduceIte, hln, min_same]) hl
    · obtain ⟨i, hi, rfl⟩ := range_mem hd
      obtain ⟨d, hd, hx⟩ := hix i hi
      show ((MI.tNot _ [.v v, .v v, .no, .v (.int (i : Nat)), .no] st).bind _) = _
      simp only [MI.run, MI.strD, MI.lstOf, MI.known, MI.sPar, MI.sTry, MI.sRaise0, MI.sRaise1, MI.sParOwn, MI.sForR, MI.sStar, MI.starD, MI.eTupRg, MI.eLm, MI.eIsX, MI.eFld, MI.eDic0, MI.eLam, MI.xCat, MI.freed, MI.sNil, MI.sCons, MI.sIf, MI.sSet, MI.sSetL, MI.sRet, MI.sRetN, MI.sRetV, MI.sSub, MI.sAug, MI.sApp, MI.sOwn, MI.sSetT, MI.sFor, MI.sWhile, MI.eVar, MI.eBor, MI.eK, MI.eBin, MI.eNeg, MI.eNot, MI.eAnd, MI.eOr, MI.eT, MI.eIf, MI.eIx, MI.eSl, MI.eCall, MI.eInst, MI.eBlt1, MI.eBlt, MI.eMeth, MI.eTup, MI.eLst, MI.eOfA, MI.aNil, MI.aCons, MI.tCmp, MI.tChain, MI.tNot, MI.tAnd, MI.tOr, MI.tOf, MI.tYes, MI.pNo, MI.pYes, MI.boolOf, MI.blOf, MI.truth, MI.partD, MI.gOne, bind_ok, of_some, toS_ok, then_next, then_ret, then_brk, map_some, List.getElem?_cons_zero, List.getElem?_cons_succ, List.set_cons_zero, List.set_cons_succ, if_true, if_false, Bool.false_eq_true, reduceIte, hx, h d hd, Bool.not_true]
  refine run_ifR (st1 := st) (by simp only [MI.run, MI.strD, MI.lstOf, MI.known, MI.sPar, MI.sTry, MI.sRaise0, MI.sRaise1, MI.sParOwn, MI.sForR, MI.sStar, MI.starD, MI.eTupRg, MI.eLm, MI.eIsX, MI.eFld, MI.eDic0, MI.eLam, MI.xCat, MI.freed, MI.sNil, MI.sCons, MI.sIf, MI.sSet, MI.sSetL, MI.sRet, MI.sRetN, MI.sRetV, MI.sSub, MI.sAug, MI.sApp, MI.sOwn, MI.sSetT, MI.sFor, MI.sWhile, MI.eVar, MI.eBor, MI.eK, MI.eBin, MI.eNeg, MI.eNot, MI.eAnd, MI.eOr, MI.eT, MI.eIf, MI.eIx, MI.eSl, MI.eCall, MI.eInst, MI.eBlt1, MI.eBlt, MI.eMeth, MI.eTup, MI.eLst, MI.eOfA, MI.aNil, MI.aCons, MI.tCmp, MI.tChain, MI.tNot, MI.tAnd, MI.tOr, MI.tOf, MI.tYes, MI.pNo, MI.pYes, MI.boolOf, MI.blOf, MI.truth, MI.partD, MI.gOne, bind_ok, of_some, toS_ok, then_next, then_ret, then_brk, map_some, List.getElem?_cons_zero, List.getElem?_cons_succ, List.set_cons_zero, List.set_cons_succ, if_true, if_false, Bool.false_eq_true, reduceIte, ht]) ?_
  refine (seq_ifF (st1 := st) (by simp only [MI.run, MI.strD, MI.lstOf, MI.known, MI.sPar, MI.sTry, MI.sRaise0, MI.sRaise1, MI.sParOwn, MI.sForR, MI.sStar, MI.starD, MI.eTupRg, MI.eLm, MI.eIsX, MI.eFld, MI.eDic0, MI.eLam, MI.xCat, MI.freed, MI.sNil, MI.sCons, MI.sIf, MI.sSet, MI.sSetL, MI.sRet, MI.sRetN, MI.sRetV, MI.sSub, MI.sAug, MI.sApp, MI.sOwn, MI.sSetT, MI.sFor, MI.sWhile, MI.eVar, MI.eBor, MI.eK, MI.eBin, MI.eNeg, MI.eNot, MI.eAnd, MI.eOr, MI.eT, MI.eIf, MI.eIx, MI.eSl, MI.eCall, MI.eInst, MI.eBlt1, MI.eBlt, MI.eMeth, MI.eTup, MI.eLst, MI.eOfA, MI.aNil, MI.aCons, MI.tCmp, MI.tChain, MI.tNot, MI.tAnd, MI.tOr, MI.tOf, MI.tYes, MI.pNo, MI.pYes, MI.boolOf, MI.blOf, MI.truth, MI.partD, MI.gOne, bind_ok, of_some, toS_ok, then_next, then_ret, then_brk, map_some, List.getElem?_cons_zero, List.getElem?_cons_succ, List.set_cons_zero, List.set_cons_succ, if_true, if_false, Bool.false_eq_true, reduceIte, ht, hb, cmp_neB, beq_self_eq_true, Bool.not_true])).trans ?_
  refine (seq_setL hc).trans ?_
  refine seq_ret ?_
  simp only [MI.run, MI.strD, MI.lstOf, MI.known, MI.sPar, MI.sTry, MI.sRaise0, MI.sRaise1, MI.sParOwn, MI.sForR, MI.sStar, MI.starD, MI.eTupRg, MI.eLm, MI.eIsX, MI.eFld, MI.eDic0, MI.eLam, MI.xCat, MI.freed, MI.sNil, MI.sCons, MI.sIf, MI.sSet, MI.sSetL, MI.sRet, MI.sRetN, MI.sRetV, MI.sSub, MI.sAug, MI.sApp, MI.sOwn, MI.sSetT, MI.sFor, MI.sWhile, MI.eVar, MI.eBor, MI.eK, MI.eBin, MI.eNeg, MI.eNot, MI.eAnd, MI.eOr, MI.eT, MI.eIf, MI.eIx, MI.eSl, MI.eCall, MI.eInst, MI.eBlt1, MI.eBlt, MI.eMeth, MI.eTup, MI.eLst, MI.eOfA, MI.aNil, MI.aCons, MI.tCmp, MI.tChain, MI.tNot, MI.tAnd, MI.tOr, MI.tOf, MI.tYes, MI.pNo, MI.pYes, MI.boolOf, MI.blOf, MI.truth, MI.partD, MI.gOne, bind_ok, of_some, toS_ok, then_next, then_ret, then_brk, map_some, List.getElem?_cons_zero, List.getElem?_cons_succ, List.set_cons_zero, List.set_cons_succ, if_true, if_false, Bool.false_eq_true, reduceIte, hln, cmp_eqI, beq_self_eq_true, eq_nil]
theorem like_ok : ∀ (k n : Nat) (d : D) (st : Store), Th k d → (txt d).length ≤ 2000000 → tab G fs (n + k + 1) (Str.ofString "_law_like") [d, d] st = .ok (.bl true) st := by
  intro k
  induction k with
  | zero =>
    intro n d st h hl
    rw [Nat.add_zero, at_law_like]
    unfold b_law_like
    rcases h.cases with rfl | ⟨i, rfl, hi⟩ | ⟨l, rfl, hc⟩ | ⟨j, ds, e, _⟩
    · simp only [MI.run, MI.strD, MI.lstOf, MI.known, MI.sPar, MI.sTry, MI.sRaise0, MI.sRaise1, MI.sParOwn, MI.sForR, MI.sStar, MI.starD, MI.eTupRg, MI.eLm, MI.eIsX, MI.eFld, MI.eDic0, MI.eLam, MI.xCat, MI.freed, MI.sNil, MI.sCons, MI.sIf, MI.sSet, MI.sSetL, MI.sRet, MI.sRetN, MI.sRetV, MI.sSub, MI.sAug, MI.sApp, MI.sOwn, MI.sSetT, MI.sFor, MI.sWhile, MI.eVar, MI.eBor, MI.eK, MI.eBin, MI.eNeg, MI.eNot, MI.eAnd, MI.eOr, MI.eT, MI.eIf, MI.eIx, MI.eSl, MI.eCall, MI.eInst, MI.eBlt1, MI.eBlt, MI.eMeth, MI.eTup, MI.eLst, MI.eOfA, MI.aNil, MI.aCons, MI.tCmp, MI.tChain, MI.tNot, MI.tAnd, MI.tOr, MI.tOf, MI.tYes, MI.pNo, MI.pYes, MI.boolOf, MI.blOf, MI.truth, MI.partD, MI.gOne, bind_ok, of_some, toS_ok, then_next, then_ret, then_brk, map_some, List.getElem?_cons_zero, List.getElem?_cons_succ, List.set_cons_zero, List.set_cons_succ, if_true, if_false, Bool.false_eq_true, reduceIte, show isTy D.non st ["tuple", "list"] = some false from rfl, show isTy D.non st ["dict"] = some false from rfl, cmp_is, isN]
    · simp only [MI.run, MI.strD, MI.lstOf, MI.known, MI.sPar, MI.sTry, MI.sRaise0, MI.sRaise1, MI.sParOwn, MI.sForR, MI.sStar, MI.starD, MI.eTupRg, MI.eLm, MI.eIsX, MI.eFld, MI.eDic0, MI.eLam, MI.xCat, MI.freed, MI.sNil, MI.sCons, MI.sIf, MI.sSet, MI.sSetL, MI.sRet, MI.sRetN, MI.sRetV, MI.sSub, MI.sAug, MI.sApp, MI.sOwn, MI.sSetT, MI.sFor, MI.sWhile, MI.eVar, MI.eBor, MI.eK, MI.eBin, MI.eNeg, MI.eNot, MI.eAnd, MI.eOr, MI.eT, MI.eIf, MI.eIx, MI.eSl, MI.eCall, MI.eInst, MI.eBlt1, MI.eBlt, MI.eMeth, MI.eTup, MI.eLst, MI.eOfA, MI.aNil, MI.aCons, MI.tCmp, MI.tChain, MI.tNot, MI.tAnd, MI.tOr, MI.tOf, MI.tYes, MI.pNo, MI.pYes, MI.boolOf, MI.blOf, MI.truth, MI.partD, MI.gOne, bind_ok, of_some, toS_ok, then_next, then_ret, then_brk, map_some, List.getElem?_cons_zero, List.getElem?_cons_succ, List.set_cons_zero, List.set_cons_succ, if_true, if_false, Bool.false_eq_true, reduceIte, show isTy (D.int i) st ["tuple", "list"] = some false from rfl, show isTy (D.int i) st ["dict"] = some false from rfl, show isTy (D.int i) st ["str"] = some false from rfl, show isTy (D.int i) st ["int"] = some true from rfl, show isTy (D.int i) st ["bool"] = some false from rfl, cmp_is, isN, cmp_eqB, cmp_eqI, beq_self_eq_true]
    · simp only [MI.run, MI.strD, MI.lstOf, MI.known, MI.sPar, MI.sTry, MI.sRaise0, MI.sRaise1, MI.sParOwn, MI.sForR, MI.sStar, MI.starD, MI.eTupRg, MI.eLm, MI.eIsX, MI.eFld, MI.eDic0, MI.eLam, MI.xCat, MI.freed, MI.sNil, MI.sCons, MI.sIf, MI.sSet, MI.sSetL, MI.sRet, MI.sRetN, MI.sRetV, MI.sSub, MI.sAug, MI.sApp, MI.sOwn, MI.sSetT, MI.sFor, MI.sWhile, MI.eVar, MI.eBor, MI.eK, MI.eBin, MI.eNeg, MI.eNot, MI.eAnd, MI.eOr, MI.eT, MI.eIf, MI.eIx, MI.eSl, MI.eCall, MI.eInst, MI.eBlt1, MI.eBlt, MI.eMeth, MI.eTup, MI.eLst, MI.eOfA, MI.aNil, MI.aCons, MI.tCmp, MI.tChain, MI.tNot, MI.tAnd, MI.tOr, MI.tOf, MI.tYes, MI.pNo, MI.pYes, MI.boolOf, MI.blOf, MI.truth, MI.partD, MI.gOne, bind_ok, of_some, toS_ok, then_next, then_ret, then_brk, map_some, List.getElem?_cons_zero, List.getElem?_cons_succ, List.set_cons_zero, List.set_cons_succ, if_true, if_false, Bool.false_eq_true, reduceIte, show isTy (D.str (S l)) st ["tuple", "list"] = some false from rfl, show isTy (D.str (S l)) st ["dict"] = some false from rfl, show isTy (D.str (S l)) st ["str"] = some true from rfl, cmp_is, isN, cmp_eqS, beq_self_eq_true]
    · cases e
  | succ k ih =>
    intro n d st h hl
    rcases h.cases with rfl | ⟨i, rfl, hi⟩ | ⟨l, rfl, hc⟩ | ⟨j, ds, e, rfl, ha⟩
    · have := ih (n + 1) .non st (by unfold Th; trivial) hl
      rw [show n + 1 + k + 1 = n + (k + 1) + 1 by omega] at this
      exact this
    · have := ih (n + 1) (.int i) st (by unfold Th; exact hi) hl
      rw [show n + 1 + k + 1 = n + (k + 1) + 1 by omega] at this
      exact this
    · have := ih (n + 1) (.str (S l)) st (by unfold Th; exact hc) hl
      rw [show n + 1 + k + 1 = n + (k + 1) + 1 by omega] at this
      exact this
    · cases e
      have e1 : txt (.tup ds) = 40 :: (TL.joinL [44, 32] (ds.map txt) ++ [41]) := by
        rw [← txtL_map]; rfl
      have hl2 := hl
      rw [e1, List.length_cons, List.length_append, List.length_singleton] at hl2
      have hn : ds.length ≤ big := by
        have := joinL_len [44, 32] (ds.map txt)
        rw [List.length_map] at this
        have h2 : ([44, 32] : List Nat).length = 2 := rfl
        rw [h2] at this
        show _ ≤ 16777216
        omega
      refine like_seq hn (fun d hd => ?_) (.inl rfl)
      have := ih n d st (ha d hd) (by have := tup_len hd; omega)
      exact this
end K77

set_option maxRecDepth 100000
set_option maxHeartbeats 4000000
set_option exponentiation.threshold 4000
namespace K77
open PySem MI SX
theorem run_for {src : AX} {bind : D → MI.Env → Option MI.Env} {s b : SX} {env : MI.Env} {st st1 : Store} {ds : List D} (h : src env st = .ok ds st1) : MI.run (sCons (sFor src bind s) b) env st = fin b (forL bind s ds env st1) := by
  unfold MI.run sCons sFor
  rw [h]
  show (match (forL bind s ds env st1).then b with
    | .next _ st1 => Res.ok D.non st1
    | .ret d st1 => .ok d st1
    | .exc c ns es _ st1 => .exc c ns es st1
    | _ => .stuck) = _
  cases forL bind s ds env st1 <;> rfl
theorem seq_for {src : AX} {bind : D → MI.Env → Option MI.Env} {s b : SX} {env : MI.Env} {st st1 : Store} {ds : List D} (h : src env st = .ok ds st1) : sCons (sFor src bind s) b env st = (forL bind s ds env st1).then b := by
  unfold sCons sFor
  rw [h]
  rfl
theorem for_inv {bind : D → MI.Env → Option MI.Env} {s : SX} (Inv : Nat → MI.Env → Store → Prop) : ∀ (ds : List D) (i : Nat), (∀ d ∈ ds, ∀ j env st, j < i + ds.length → Inv j env st → ∃ env1 env2 st2, bind d env = some env1 ∧ s env1 st = .next env2 st2 ∧ Inv (j + 1) env2 st2) → ∀ (env : MI.Env) (st : Store), Inv i env st →
    ∃ env' st', forL bind s ds env st = .next env' st' ∧ Inv (i + ds.length) env' st'
  | [], i, _, env, st, h => ⟨env, st, rfl, h⟩
  | d :: ds, i, step, env, st, h => by
    obtain ⟨env1, env2, st2, h1, h2, h3⟩ := step d List.mem_cons_self i env st (by rw [List.length_cons]; omega) h
    obtain ⟨env', st', h4, h5⟩ := for_inv Inv ds (i + 1) (fun d hd j env st hj => step d (List.mem_cons_of_mem _ hd) j env st (by rw [List.length_cons]; omega)) env2 st2 h3
    refine ⟨env', st', ?_, by rw [List.length_cons]; rw [show i + (ds.length + 1) = i + 1 + ds.length by omega]; exact h5⟩
    unfold forL
    rw [h1]
    show (match s env1 st with
      | .next env2 st2 => forL bind s ds env2 st2
      | .cont env2 st2 => forL bind s ds env2 st2
      | .brk env2 st2 => .next env2 st2
      | .ret d st2 => .ret d st2
      | .exc c ns es env2 st2 => .exc c ns es env2 st2
      | .stuck => .stuck) = _
    rw [h2]
    exact h4
theorem log_ten {j : Nat} (h : j ≤ 400) : ((10 : Int) ^ j).natAbs.log2 < 2000 := by
  have e : ((10 : Int) ^ j).natAbs = 10 ^ j := by rw [Int.natAbs_pow]; rfl
  rw [e]
  have h1 : (10 : Nat) ^ j ≤ 10 ^ 400 := Nat.pow_le_pow_right (by decide) h
  have h2 : 10 ^ j ≠ 0 := Nat.pos_iff_ne_zero.mp (Nat.pow_pos (by decide))
  exact (Nat.log2_lt h2).mpr (Nat.lt_of_le_of_lt h1 (by decide +kernel))
theorem ten_ok (n : Nat) {m : Nat} (hm : m ≤ 400) (st : Store) : tab G fs (n + 1) (Str.ofString "_law_ten") [.int (m : Nat)] st = .ok (.int (10 ^ m)) st := by
  rw [at_law_ten]
  unfold b_law_ten
  refine (run_set (d := .int 1) (st1 := st) rfl).trans ?_
  refine (run_for (ds := rangeD 0 m) (st1 := st) (range_src rfl (Nat.le_trans hm (by decide)))).trans ?_
  obtain ⟨env', st', h1, h2⟩ := for_inv (bind := gOne 2) (s := sCons (sSet 1 (eBin .Mult (eVar 1) (eK (.int 10)))) sNil) (fun j env st' => st' = st ∧ ∃ x, env = [.v (.int (m : Nat)), .v (.int (10 ^ j)), x]) (rangeD 0 m) 0 (fun d hd j env st' hj hI => by
      obtain ⟨rfl, x, rfl⟩ := hI
      rw [range_len] at hj
      refine ⟨_, [.v (.int (m : Nat)), .v (.int (10 ^ (j + 1))), .v d], st', rfl, ?_, rfl, _, rfl⟩
      have hmul : opD .Mult (.int (10 ^ j)) (.int 10) = some (.int (10 ^ j * 10)) := op_mul (by
        have := log_ten (j := j) (by omega)
        have h10 : (10 : Int).natAbs.log2 < 10 := by decide
        omega)
      simp only [MI.run, MI.strD, MI.lstOf, MI.known, MI.sPar, MI.sTry, MI.sRaise0, MI.sRaise1, MI.sParOwn, MI.sForR, MI.sStar, MI.starD, MI.eTupRg, MI.eLm, MI.eIsX, MI.eFld, MI.eDic0, MI.eLam, MI.xCat, MI.freed, MI.sNil, MI.sCons, MI.sIf, MI.sSet, MI.sSetL, MI.sRet, MI.sRetN, MI.sRetV, MI.sSub, MI.sAug, MI.sApp, MI.sOwn, MI.sSetT, MI.sFor, MI.sWhile, MI.eVar, MI.eBor, MI.eK, MI.eBin, MI.eNeg, MI.eNot, MI.eAnd, MI.eOr, MI.eT, MI.eIf, MI.eIx, MI.eSl, MI.eCall, MI.eInst, MI.eBlt1, MI.eBlt, MI.eMeth, MI.eTup, MI.eLst, MI.eOfA, MI.aNil, MI.aCons, MI.tCmp, MI.tChain, MI.tNot, MI.tAnd, MI.tOr, MI.tOf, MI.tYes, MI.pNo, MI.pYes, MI.boolOf, MI.blOf, MI.truth, MI.partD, MI.gOne, bind_ok, of_some, toS_ok, then_next, then_ret, then_brk, map_some, List.getElem?_cons_zero, List.getElem?_cons_succ, List.set_cons_zero, List.set_cons_succ, if_true, if_false, Bool.false_eq_true, reduceIte, hmul, Int.pow_succ]) [.v (.int (m : Nat)), .v (.int 1), .no] st ⟨rfl, _, rfl⟩
  obtain ⟨rfl, x, rfl⟩ := h2
  rw [range_len, Nat.zero_add] at h1
  show fin _ (forL _ _ (rangeD 0 m) [.v (.int (m : Nat)), .v (.int 1), .no] st') = _
  rw [h1, fin_next]
  rfl
theorem pick_ok (n : Nat) {st : Store} {i : Nat} {m : Int} (h : Drw st i m) (hm : m < 1000000) {ds : List D} (hne : ds ≠ []) (hl : ds.length ≤ 1000) :
    ∃ (x : D) (st' : Store), tab G fs (n + 2) (Str.ofString "_law_pick") [.ref i, .lst ds] st = .ok x st' ∧ x ∈ ds ∧ Drw st' i (m + 1) := by
  have hp : 0 < ds.length := List.length_pos_iff.mpr hne
  obtain ⟨r, st', h1, h2, h3, h4⟩ := next_ok n h hm (z := (ds.length : Nat)) (by omega) (by omega)
  obtain ⟨k, rfl⟩ := Int.eq_ofNat_of_zero_le h2
  have hk : k < ds.length := by omega
  have hx : L2.atI ds ((k : Nat) : Int) = some ds[k] := L2.atI_nat (List.getElem?_eq_getElem hk)
  refine ⟨ds[k], st', ?_, List.getElem_mem hk, h4⟩
  rw [at_law_pick]
  unfold b_law_pick
  simp only [MI.run, MI.strD, MI.lstOf, MI.known, MI.sPar, MI.sTry, MI.sRaise0, MI.sRaise1, MI.sParOwn, MI.sForR, MI.sStar, MI.starD, MI.eTupRg, MI.eLm, MI.eIsX, MI.eFld, MI.eDic0, MI.eLam, MI.xCat, MI.freed, MI.sNil, MI.sCons, MI.sIf, MI.sSet, MI.sSetL, MI.sRet, MI.sRetN, MI.sRetV, MI.sSub, MI.sAug, MI.sApp, MI.sOwn, MI.sSetT, MI.sFor, MI.sWhile, MI.eVar, MI.eBor, MI.eK, MI.eBin, MI.eNeg, MI.eNot, MI.eAnd, MI.eOr, MI.eT, MI.eIf, MI.eIx, MI.eSl, MI.eCall, MI.eInst, MI.eBlt1, MI.eBlt, MI.eMeth, MI.eTup, MI.eLst, MI.eOfA, MI.aNil, MI.aCons, MI.tCmp, MI.tChain, MI.tNot, MI.tAnd, MI.tOr, MI.tOf, MI.tYes, MI.pNo, MI.pYes, MI.boolOf, MI.blOf, MI.truth, MI.partD, MI.gOne, bind_ok, of_some, toS_ok, then_next, then_ret, then_brk, map_some, List.getElem?_cons_zero, List.getElem?_cons_succ, List.set_cons_zero, List.set_cons_succ, if_true, if_false, Bool.false_eq_true, reduceIte, show bltD (Str.ofString "len") [.lst ds] st = some (.int (ds.length : Nat)) from rfl, h1, show ixD (.lst ds) (.int ((k : Nat) : Int)) st' = L2.atI ds ((k : Nat) : Int) from rfl, hx]
theorem picks_ok (n : Nat) {st : Store} {i : Nat} {m : Int} (h : Drw st i m) (hm : m < 1000000) {t : List Nat} (hne : t ≠ []) (hl : t.length ≤ 1000) :
    ∃ (c : Nat) (st' : Store), tab G fs (n + 2) (Str.ofString "_law_pick") [.ref i, .str (S t)] st = .ok (.str (S [c])) st' ∧ c ∈ t ∧ Drw st' i (m + 1) := by
  have hp : 0 < t.length := List.length_pos_iff.mpr hne
  have hb : t.length ≤ big := Nat.le_trans hl (by decide)
  obtain ⟨r, st', h1, h2, h3, h4⟩ := next_ok n h hm (z := (t.length : Nat)) (by omega) (by omega)
  obtain ⟨k, rfl⟩ := Int.eq_ofNat_of_zero_le h2
  have hk : k < t.length := by omega
  refine ⟨t[k], st', ?_, List.getElem_mem hk, h4⟩
  rw [at_law_pick]
  unfold b_law_pick
  simp only [MI.run, MI.strD, MI.lstOf, MI.known, MI.sPar, MI.sTry, MI.sRaise0, MI.sRaise1, MI.sParOwn, MI.sForR, MI.sStar, MI.starD, MI.eTupRg, MI.eLm, MI.eIsX, MI.eFld, MI.eDic0, MI.eLam, MI.xCat, MI.freed, MI.sNil, MI.sCons, MI.sIf, MI.sSet, MI.sSetL, MI.sRet, MI.sRetN, MI.sRetV, MI.sSub, MI.sAug, MI.sApp, MI.sOwn, MI.sSetT, MI.sFor, MI.sWhile, MI.eVar, MI.eBor, MI.eK, MI.eBin, MI.eNeg, MI.eNot, MI.eAnd, MI.eOr, MI.eT, MI.eIf, MI.eIx, MI.eSl, MI.eCall, MI.eInst, MI.eBlt1, MI.eBlt, MI.eMeth, MI.eTup, MI.eLst, MI.eOfA, MI.aNil, MI.aCons, MI.tCmp, MI.tChain, MI.tNot, MI.tAnd, MI.tOr, MI.tOf, MI.tYes, MI.pNo, MI.pYes, MI.boolOf, MI.blOf, MI.truth, MI.partD, MI.gOne, bind_ok, of_some, toS_ok, then_next, then_ret, then_brk, map_some, List.getElem?_cons_zero, List.getElem?_cons_succ, List.set_cons_zero, List.set_cons_succ, if_true, if_false, Bool.false_eq_true, reduceIte, len_ok hb, h1, ix_ok hb (List.getElem?_eq_getElem hk)]
theorem any_ok (n : Nat) {st : Store} {i : Nat} {m : Int} (h : Drw st i m) (hm : m < 1000000) :
    ∃ (c : Nat) (st' : Store), tab G fs (n + 3) (Str.ofString "_law_any_sign") [.ref i] st = .ok (.str (S [c])) st' ∧ (32 ≤ c ∧ c ≤ 126) ∧ Drw st' i (m + 1) := by
  rw [at_law_any_sign]
  unfold b_law_any_sign
  generalize hz : Str.ofString _ = z
  have hall : z.cps.toList.all (fun c => decide (32 ≤ c) && decide (c ≤ 126)) = true := by rw [← hz]; decide +kernel
  have hlen : decide (z.cps.toList.length ≤ 1000) = true := by rw [← hz]; decide +kernel
  have hne : decide (z.cps.toList ≠ []) = true := by rw [← hz]; decide +kernel
  obtain ⟨c, st', h1, h2, h3⟩ := picks_ok n h hm (of_decide_eq_true hne) (of_decide_eq_true hlen)
  rw [S_tl] at h1
  refine ⟨c, st', ?_, ?_, h3⟩
  · simp only [MI.run, MI.strD, MI.lstOf, MI.known, MI.sPar, MI.sTry, MI.sRaise0, MI.sRaise1, MI.sParOwn, MI.sForR, MI.sStar, MI.starD, MI.eTupRg, MI.eLm, MI.eIsX, MI.eFld, MI.eDic0, MI.eLam, MI.xCat, MI.freed, MI.sNil, MI.sCons, MI.sIf, MI.sSet, MI.sSetL, MI.sRet, MI.sRetN, MI.sRetV, MI.sSub, MI.sAug, MI.sApp, MI.sOwn, MI.sSetT, MI.sFor, MI.sWhile, MI.eVar, MI.eBor, MI.eK, MI.eBin, MI.eNeg, MI.eNot, MI.eAnd, MI.eOr, MI.eT, MI.eIf, MI.eIx, MI.eSl, MI.eCall, MI.eInst, MI.eBlt1, MI.eBlt, MI.eMeth, MI.eTup, MI.eLst, MI.eOfA, MI.aNil, MI.aCons, MI.tCmp, MI.tChain, MI.tNot, MI.tAnd, MI.tOr, MI.tOf, MI.tYes, MI.pNo, MI.pYes, MI.boolOf, MI.blOf, MI.truth, MI.partD, MI.gOne, bind_ok, of_some, toS_ok, then_next, then_ret, then_brk, map_some, List.getElem?_cons_zero, List.getElem?_cons_succ, List.set_cons_zero, List.set_cons_succ, if_true, if_false, Bool.false_eq_true, reduceIte, h1]
  · have := List.all_eq_true.mp hall c h2
    rw [Bool.and_eq_true, decide_eq_true_eq, decide_eq_true_eq] at this
    exact this
theorem numT_len {i : Int} {k : Nat} (hk : 0 < k) (h : i.natAbs < 10 ^ k) : (numT i).length ≤ k + 1 := by
  cases i with
  | ofNat n =>
    rw [show numT (Int.ofNat n) = TL.numL n from numT_nat n]
    have := TL.numL_len hk (n := n) h
    omega
  | negSucc n =>
    rw [numT_neg, List.length_cons]
    have := TL.numL_len hk (n := n + 1) h
    omega
theorem joinL_le {z : List Nat} {b : Nat} : ∀ {l : List (List Nat)}, (∀ p ∈ l, p.length ≤ b) → (TL.joinL z l).length ≤ l.length * (b + z.length)
  | [], _ => by simp [TL.joinL]
  | [p], h => by
    have := h p List.mem_cons_self
    show p.length ≤ 1 * (b + z.length)
    omega
  | p :: q :: r, h => by
    have ih := joinL_le (z := z) (l := q :: r) fun d hd => h d (List.mem_cons_of_mem _ hd)
    have := h p List.mem_cons_self
    show (p ++ (z ++ TL.joinL z (q :: r))).length ≤ ((q :: r).length + 1) * (b + z.length)
    rw [List.length_append, List.length_append, Nat.add_mul, Nat.one_mul]
    omega
theorem esc_le (l : List Nat) : (esc l).length ≤ 2 * l.length := by
  induction l with
  | nil => exact Nat.le_refl _
  | cons c l ih =>
    have e : esc (c :: l) = esc1 c ++ esc l := List.flatMap_cons ..
    rw [e, List.length_append, List.length_cons]
    have : (esc1 c).length ≤ 2 := by unfold esc1; split <;> simp
    omega
theorem tup_le {ds : List D} {b : Nat} (h : ∀ d ∈ ds, (txt d).length ≤ b) : (txt (.tup ds)).length ≤ ds.length * (b + 2) + 2 := by
  have e1 : txt (.tup ds) = 40 :: (TL.joinL [44, 32] (ds.map txt) ++ [41]) := by
    rw [← txtL_map]; rfl
  rw [e1, List.length_cons, List.length_append, List.length_singleton]
  have := joinL_le (z := [44, 32]) (b := b) (l := ds.map txt) fun p hp => by
    obtain ⟨d, hd, rfl⟩ := List.mem_map.mp hp
    exact h d hd
  rw [List.length_map, show ([44, 32] : List Nat).length = 2 from rfl] at this
  omega
/-- a thing that a draw may give: k deep, b signs at most -/
structure Bd (k b : Nat) (d : D) : Prop where
  th : Th k d
  len : (txt d).length ≤ b
theorem Th.mono {k : Nat} : ∀ {j : Nat} {d : D}, Th j d → j ≤ k → Th k d := by
  induction k with
  | zero =>
    intro j d h hj
    have : j = 0 := by omega
    subst this; exact h
  | succ k ih =>
    intro j d h hj
    rcases h.cases with rfl | ⟨i, rfl, hi⟩ | ⟨l, rfl, hc⟩ | ⟨q, ds, e, rfl, ha⟩
    · unfold Th; trivial
    · unfold Th; exact hi
    · unfold Th; exact hc
    · unfold Th
      exact fun d hd => ih (ha d hd) (by omega)
theorem Bd.mono {k b j c : Nat} {d : D} (h : Bd k b d) (h1 : k ≤ j) (h2 : b ≤ c) : Bd j c d := ⟨h.th.mono h1, Nat.le_trans h.len h2⟩
theorem bd_int {i : Int} {k : Nat} (hk : 0 < k) (h : i.natAbs < 10 ^ k) (h2 : k ≤ 400) {q : Nat} : Bd q (k + 1) (.int i) := ⟨by
  have : i.natAbs < 10 ^ 400 := Nat.lt_of_lt_of_le h (Nat.pow_le_pow_right (by decide) h2)
  cases q <;> (unfold Th; exact this), numT_len hk h⟩
theorem bd_non {q : Nat} : Bd q 4 .non := ⟨by cases q <;> (unfold Th; trivial), Nat.le_refl _⟩
theorem bd_str {l : List Nat} (h : ∀ c ∈ l, 32 ≤ c ∧ c ≤ 126) {q : Nat} : Bd q (2 * l.length + 2) (.str (S l)) := ⟨by cases q <;> (unfold Th; exact h), by
  show (34 :: (esc l ++ [34])).length ≤ _
  rw [List.length_cons, List.length_append, List.length_singleton]
  have := esc_le l
  omega⟩
theorem bd_tup {ds : List D} {k b : Nat} (h : ∀ d ∈ ds, Bd k b d) : Bd (k + 1) (ds.length * (b + 2) + 2) (.tup ds) := ⟨by unfold Th; exact fun d hd => (h d hd).th, tup_le fun d hd => (h d hd).len⟩
end K77

set_option maxRecDepth 100000
set_option maxHeartbeats 4000000
set_option exponentiation.threshold 4000
namespace K77
open PySem MI SX
/-- a list comprehension whose each turn draws -/
theorem comp_draw {own : List Nat} {src : AX} {bind : D → MI.Env → Option MI.Env} {elt : EX} {env : MI.Env} {st st1 : Store} {ds : List D} {i : Nat} {m c M : Int} {P : D → Prop} (hs : src env st = .ok ds st1) (hl : ds.length ≤ 1000) (hc : 0 ≤ c) (hM : m + ds.length * c ≤ M) (h0 : Drw st1 i m)
    (h : ∀ d ∈ ds, ∀ st m, Drw st i m → m + c ≤ M → ∃ x st2, (match bind d (wipeE env own) with
        | some env1 => (MI.tYes env1 st).bind fun k st3 => if k = true then (elt env1 st3).bind fun x st4 => .ok (some x) st4 else .ok none st3
        | none => .stuck) = .ok (some x) st2 ∧ P x ∧ Drw st2 i (m + c)) :
    ∃ xs st2, xComp own src bind MI.tYes elt env st = .ok xs st2 ∧ xs.length = ds.length ∧ (∀ x ∈ xs, P x) ∧ Drw st2 i (m + ds.length * c) := by
  have key : ∀ (es acc : List D) (st : Store) (m : Int), (∀ d ∈ es, d ∈ ds) → m + es.length * c ≤ M → Drw st i m → (∀ x ∈ acc, P x) →
      ∃ xs st2, compL (fun d st2 => Res.tame (match bind d (wipeE env own) with
        | some env1 => (MI.tYes env1 st2).bind fun k st3 => if k = true then (elt env1 st3).bind fun x st4 => .ok (some x) st4 else .ok none st3
        | none => .stuck)) es acc st = .ok xs st2 ∧ xs.length = acc.length + es.length ∧ (∀ x ∈ xs, P x) ∧ Drw st2 i (m + es.length * c) := by
    intro es
    induction es with
    | nil =>
      intro acc st m _ _ hd ha
      exact ⟨acc, st, rfl, rfl, ha, hd.mono (by simp)⟩
    | cons e es ih =>
      intro acc st m he hm hd ha
      rw [List.length_cons, Int.natCast_add, Int.add_mul, Int.natCast_one, Int.one_mul] at hm
      have hp : 0 ≤ (es.length : Int) * c := Int.mul_nonneg (by omega) hc
      obtain ⟨x, st2, h1, h2, h3⟩ := h e (he e List.mem_cons_self) st m hd (by omega)
      obtain ⟨xs, st3, h4, h5, h6, h7⟩ := ih (acc ++ [x]) st2 (m + c) (fun d hd => he d (List.mem_cons_of_mem _ hd)) (by omega) h3 (fun y hy => by
        rcases List.mem_append.mp hy with z | z
        · exact ha y z
        · rw [List.mem_singleton.mp z]; exact h2)
      refine ⟨xs, st3, ?_, by rw [h5, List.length_append, List.length_singleton, List.length_cons]; omega, h6, ?_⟩
      · unfold compL
        rw [h1]
        exact h4
      · rw [List.length_cons, Int.natCast_add, Int.add_mul, Int.natCast_one, Int.one_mul]
        exact h7.mono (by omega)
  obtain ⟨xs, st2, h1, h2, h3, h4⟩ := key ds [] st1 m (fun d hd => hd) hM h0 (fun x hx => by cases hx)
  refine ⟨xs, st2, ?_, by rw [h2]; simp, h3, h4⟩
  unfold xComp
  rw [hs]
  show (if ds.length ≤ big then _ else _) = _
  rw [if_pos (Nat.le_trans hl (by decide))]
  exact h1
def okS : D → Bool
  | .str s => s.cps.toList.all (fun c => decide (32 ≤ c) && decide (c ≤ 126)) && decide (s.cps.toList.length ≤ 4)
  | _ => false
theorem okS_of {d : D} (h : okS d = true) : ∃ l, d = .str (S l) ∧ (∀ c ∈ l, 32 ≤ c ∧ c ≤ 126) ∧ l.length ≤ 4 := by
  cases d with
  | str s =>
    unfold okS at h
    rw [Bool.and_eq_true, decide_eq_true_eq] at h
    refine ⟨s.cps.toList, by rw [S_tl], fun c hc => ?_, h.2⟩
    have := List.all_eq_true.mp h.1 c hc
    rw [Bool.and_eq_true, decide_eq_true_eq, decide_eq_true_eq] at this
    exact this
  | _ => cases h
def someL : List D := [.str (Str.ofString "\""), .str (Str.ofString "\\"), .str (Str.ofString "none"), .str (Str.ofString "("), .str (Str.ofString ")"), .str (Str.ofString ", "), .str (Str.ofString "-1"), .str (Str.ofString "a"), .str (Str.ofString " "), .str (Str.ofString "\\\""), .str (Str.ofString "\"\""), .str (Str.ofString "~"), .str (Str.ofString "1")]
theorem someL_ok : someL.all okS = true := by decide +kernel
theorem ownSlot_5 (a b c d e g : Sl) (ds : List D) : ownSlot [a, b, c, d, e, .own ds, g] 5 = some ds := rfl
/-- a word -/
def Wd (d : D) : Prop := ∃ l, d = .str (S l) ∧ (∀ c ∈ l, 32 ≤ c ∧ c ≤ 126) ∧ l.length ≤ 4
theorem wds_join : ∀ {ws : List D}, (∀ d ∈ ws, Wd d) → ∃ ls : List (List Nat), ws = ls.map (fun a => D.str (S a)) ∧ ∀ l ∈ ls, (∀ c ∈ l, 32 ≤ c ∧ c ≤ 126) ∧ l.length ≤ 4
  | [], _ => ⟨[], rfl, fun l h => by cases h⟩
  | d :: ws, h => by
    obtain ⟨ls, e, hl⟩ := wds_join fun d hd => h d (List.mem_cons_of_mem _ hd)
    obtain ⟨l, rfl, h1, h2⟩ := h d List.mem_cons_self
    refine ⟨l :: ls, by rw [e]; rfl, fun q hq => ?_⟩
    rcases List.mem_cons.mp hq with z | z
    · rw [z]; exact ⟨h1, h2⟩
    · exact hl q z
theorem flat_len : ∀ {ls : List (List Nat)}, (∀ l ∈ ls, l.length ≤ 4) → ls.flatten.length ≤ 4 * ls.length
  | [], _ => Nat.le_refl _
  | l :: ls, h => by
    have := flat_len fun q hq => h q (List.mem_cons_of_mem _ hq)
    have := h l List.mem_cons_self
    rw [List.flatten_cons, List.length_append, List.length_cons]
    omega
abbrev wB (T : Tab) : SX := (sCons (sApp 5 (MI.eIf (MI.tCmp .Eq (eCall T (Str.ofString "_law_next") (aCons (eVar 0) (aCons (eK (.int 2)) aNil))) (eK (.int 0))) (eCall T (Str.ofString "_law_pick") (aCons (eVar 0) (aCons (eVar 4) aNil))) (eCall T (Str.ofString "_law_any_sign") (aCons (eVar 0) aNil))))
      sNil)
theorem word_ok (n : Nat) {st : Store} {i : Nat} {m : Int} (h : Drw st i m) (hm : m + 2 < 1000000) (a b c d : Sl) {ws : List D} (hw : ws.length ≤ 1000) : ∃ x st2, wB (tab G fs (n + 3)) [.v (.ref i), a, b, c, .v (.lst someL), .own ws, d] st = .next [.v (.ref i), a, b, c, .v (.lst someL), .own (ws ++ [x]), d] st2 ∧ Wd x ∧ Drw st2 i (m + 2) := by
  have hlt : ws.length < big := Nat.lt_of_le_of_lt hw (by decide)
  obtain ⟨r, st1, h1, h2, h3, h4⟩ := next_ok (n + 2) h (by omega) (z := 2) (by omega) (by omega)
  by_cases hr : r = 0
  · subst hr
    obtain ⟨x, st2, g1, g2, g3⟩ := pick_ok (n + 1) h4 (by omega) (ds := someL) (by unfold someL; simp) (by decide)
    refine ⟨x, st2, ?_, okS_of (List.all_eq_true.mp someL_ok x g2), g3.mono (by omega)⟩
    simp only [MI.run, MI.strD, MI.lstOf, MI.known, MI.sPar, MI.sTry, MI.sRaise0, MI.sRaise1, MI.sParOwn, MI.sForR, MI.sStar, MI.starD, MI.eTupRg, MI.eLm, MI.eIsX, MI.eFld, MI.eDic0, MI.eLam, MI.xCat, MI.freed, MI.sNil, MI.sCons, MI.sIf, MI.sSet, MI.sSetL, MI.sRet, MI.sRetN, MI.sRetV, MI.sSub, MI.sAug, MI.sApp, MI.sOwn, MI.sSetT, MI.sFor, MI.sWhile, MI.eVar, MI.eBor, MI.eK, MI.eBin, MI.eNeg, MI.eNot, MI.eAnd, MI.eOr, MI.eT, MI.eIf, MI.eIx, MI.eSl, MI.eCall, MI.eInst, MI.eBlt1, MI.eBlt, MI.eMeth, MI.eTup, MI.eLst, MI.eOfA, MI.aNil, MI.aCons, MI.tCmp, MI.tChain, MI.tNot, MI.tAnd, MI.tOr, MI.tOf, MI.tYes, MI.pNo, MI.pYes, MI.boolOf, MI.blOf, MI.truth, MI.partD, MI.gOne, bind_ok, of_some, toS_ok, then_next, then_ret, then_brk, map_some, List.getElem?_cons_zero, List.getElem?_cons_succ, List.set_cons_zero, List.set_cons_succ, if_true, if_false, Bool.false_eq_true, reduceIte, ownSlot_5, h1, cmp_eqI, beq_self_eq_true, g1, hlt]
  · obtain ⟨e, st2, g1, g2, g3⟩ := any_ok n h4 (by omega)
    refine ⟨.str (S [e]), st2, ?_, ⟨[e], rfl, fun c hc => by rw [List.mem_singleton.mp hc]; exact g2, show 1 ≤ 4 by decide⟩, g3.mono (by omega)⟩
    have hr2 : (r == 0) = false := beq_eq_false_iff_ne.mpr hr
    simp only [MI.run, MI.strD, MI.lstOf, MI.known, MI.sPar, MI.sTry, MI.sRaise0, MI.sRaise1, MI.sParOwn, MI.sForR, MI.sStar, MI.starD, MI.eTupRg, MI.eLm, MI.eIsX, MI.eFld, MI.eDic0, MI.eLam, MI.xCat, MI.freed, MI.sNil, MI.sCons, MI.sIf, MI.sSet, MI.sSetL, MI.sRet, MI.sRetN, MI.sRetV, MI.sSub, MI.sAug, MI.sApp, MI.sOwn, MI.sSetT, MI.sFor, MI.sWhile, MI.eVar, MI.eBor, MI.eK, MI.eBin, MI.eNeg, MI.eNot, MI.eAnd, MI.eOr, MI.eT, MI.eIf, MI.eIx, MI.eSl, MI.eCall, MI.eInst, MI.eBlt1, MI.eBlt, MI.eMeth, MI.eTup, MI.eLst, MI.eOfA, MI.aNil, MI.aCons, MI.tCmp, MI.tChain, MI.tNot, MI.tAnd, MI.tOr, MI.tOf, MI.tYes, MI.pNo, MI.pYes, MI.boolOf, MI.blOf, MI.truth, MI.partD, MI.gOne, bind_ok, of_some, toS_ok, then_next, then_ret, then_brk, map_some, List.getElem?_cons_zero, List.getElem?_cons_succ, List.set_cons_zero, List.set_cons_succ, if_true, if_false, Bool.false_eq_true, reduceIte, ownSlot_5, h1, cmp_eqI, hr2, g1, hlt]
/-- a text drawn -/
theorem words_ok (n : Nat) {st : Store} {i : Nat} {m : Int} (h : Drw st i m) (hm : m + 9 < 1000000) (a b c : Sl) :
    ∃ x st2, (sCons (sSet 4 (eLst (aCons (eK (.str (Str.ofString "\""))) (aCons (eK (.str (Str.ofString "\\"))) (aCons (eK (.str (Str.ofString "none"))) (aCons (eK (.str (Str.ofString "("))) (aCons (eK (.str (Str.ofString ")"))) (aCons (eK (.str (Str.ofString ", "))) (aCons (eK (.str (Str.ofString "-1"))) (aCons (eK (.str (Str.ofString "a"))) (aCons (eK (.str (Str.ofString " "))) (aCons (eK (.str (Str.ofString "\\\""))) (aCons (eK (.str (Str.ofString "\"\""))) (aCons (eK (.str (Str.ofString "~"))) (aCons (eK (.str (Str.ofString "1"))) aNil)))))))))))))))
    (sCons (sOwn 5 aNil)
    (sCons (sFor (xRange1 (eCall (tab G fs (n + 3)) (Str.ofString "_law_next") (aCons (eVar 0) (aCons (eK (.int 5)) aNil)))) (gOne 6) (wB (tab G fs (n + 3))))
    (sCons (sRet (eMeth (Str.ofString "join") (eK (.str (Str.ofString ""))) (eBor 5)))
    sNil)))) [.v (.ref i), a, b, c, .no, .no, .no] st = .ret x st2 ∧ Bd 0 50 x ∧ Drw st2 i (m + 9) := by
  obtain ⟨r, st1, h1, h2, h3, h4⟩ := next_ok (n + 2) h (by omega) (z := 5) (by omega) (by omega)
  obtain ⟨k, rfl⟩ := Int.eq_ofNat_of_zero_le h2
  obtain ⟨env', st2, g1, g2⟩ := for_inv (bind := gOne 6) (s := wB (tab G fs (n + 3))) (fun j env st' => ∃ ws y, env = [.v (.ref i), a, b, c, .v (.lst someL), .own ws, y] ∧ ws.length = j ∧ (∀ d ∈ ws, Wd d) ∧ Drw st' i (m + 1 + 2 * j)) (rangeD 0 k) 0 (fun d hd j env st' hj hI => by
      obtain ⟨ws, y, rfl, hw1, hw2, hw3⟩ := hI
      rw [range_len] at hj
      obtain ⟨x, st3, q1, q2, q3⟩ := word_ok n hw3 (by omega) a b c (.v d) (ws := ws) (by omega)
      refine ⟨_, _, st3, rfl, q1, ws ++ [x], _, rfl, by rw [List.length_append, hw1]; rfl, fun e he => ?_, q3.mono (by omega)⟩
      rcases List.mem_append.mp he with z | z
      · exact hw2 e z
      · rw [List.mem_singleton.mp z]; exact q2) [.v (.ref i), a, b, c, .v (.lst someL), .own [], .no] st1 ⟨[], _, rfl, rfl, (fun d hd => (nomatch hd)), h4.mono (by omega)⟩
  obtain ⟨ws, y, rfl, hw1, hw2, hw3⟩ := g2
  obtain ⟨ls, rfl, hls⟩ := wds_join hw2
  rw [range_len, Nat.zero_add] at hw1 hw3
  rw [List.length_map] at hw1
  have hfl := flat_len fun l hl => (hls l hl).2
  have hjl : TL.joinL [] ls = ls.flatten := joinL_nil ls
  refine ⟨.str (S ls.flatten), st2, ?_, (bd_str (q := 0) fun c hc => ?_).mono (Nat.le_refl _) (by omega), hw3.mono (by omega)⟩
  · refine (seq_set (d := .lst someL) (st1 := st) rfl).trans ?_
    refine (seq_own (ds := []) (st1 := st) rfl).trans ?_
    refine (seq_for (ds := rangeD 0 k) (st1 := st1) (range_src (by simp only [MI.run, MI.strD, MI.lstOf, MI.known, MI.sPar, MI.sTry, MI.sRaise0, MI.sRaise1, MI.sParOwn, MI.sForR, MI.sStar, MI.starD, MI.eTupRg, MI.eLm, MI.eIsX, MI.eFld, MI.eDic0, MI.eLam, MI.xCat, MI.freed, MI.sNil, MI.sCons, MI.sIf, MI.sSet, MI.sSetL, MI.sRet, MI.sRetN, MI.sRetV, MI.sSub, MI.sAug, MI.sApp, MI.sOwn, MI.sSetT, MI.sFor, MI.sWhile, MI.eVar, MI.eBor, MI.eK, MI.eBin, MI.eNeg, MI.eNot, MI.eAnd, MI.eOr, MI.eT, MI.eIf, MI.eIx, MI.eSl, MI.eCall, MI.eInst, MI.eBlt1, MI.eBlt, MI.eMeth, MI.eTup, MI.eLst, MI.eOfA, MI.aNil, MI.aCons, MI.tCmp, MI.tChain, MI.tNot, MI.tAnd, MI.tOr, MI.tOf, MI.tYes, MI.pNo, MI.pYes, MI.boolOf, MI.blOf, MI.truth, MI.partD, MI.gOne, bind_ok, of_some, toS_ok, then_next, then_ret, then_brk, map_some, List.getElem?_cons_zero, List.getElem?_cons_succ, List.set_cons_zero, List.set_cons_succ, if_true, if_false, Bool.false_eq_true, reduceIte, h1]) (Nat.le_trans (show k ≤ 5 by omega) (by decide)))).trans ?_
    show (forL _ _ (rangeD 0 k) [.v (.ref i), a, b, c, .v (.lst someL), .own [], .no] st1).then _ = _
    rw [g1, then_next]
    refine seq_ret ?_
    simp only [MI.run, MI.strD, MI.lstOf, MI.known, MI.sPar, MI.sTry, MI.sRaise0, MI.sRaise1, MI.sParOwn, MI.sForR, MI.sStar, MI.starD, MI.eTupRg, MI.eLm, MI.eIsX, MI.eFld, MI.eDic0, MI.eLam, MI.xCat, MI.freed, MI.sNil, MI.sCons, MI.sIf, MI.sSet, MI.sSetL, MI.sRet, MI.sRetN, MI.sRetV, MI.sSub, MI.sAug, MI.sApp, MI.sOwn, MI.sSetT, MI.sFor, MI.sWhile, MI.eVar, MI.eBor, MI.eK, MI.eBin, MI.eNeg, MI.eNot, MI.eAnd, MI.eOr, MI.eT, MI.eIf, MI.eIx, MI.eSl, MI.eCall, MI.eInst, MI.eBlt1, MI.eBlt, MI.eMeth, MI.eTup, MI.eLst, MI.eOfA, MI.aNil, MI.aCons, MI.tCmp, MI.tChain, MI.tNot, MI.tAnd, MI.tOr, MI.tOf, MI.tYes, MI.pNo, MI.pYes, MI.boolOf, MI.blOf, MI.truth, MI.partD, MI.gOne, bind_ok, of_some, toS_ok, then_next, then_ret, then_brk, map_some, List.getElem?_cons_zero, List.getElem?_cons_succ, List.set_cons_zero, List.set_cons_succ, if_true, if_false, Bool.false_eq_true, reduceIte, meth_join, l_empty]
    rw [join_ok (by rw [hjl]; exact Nat.le_trans (show _ ≤ 20 by show _ + 0 ≤ 20; omega) (by decide)), hjl]
    rfl
  · obtain ⟨l, hl, hcl⟩ := List.mem_flatten.mp hc
    exact (hls l hl).1 c hcl
end K77

set_option maxRecDepth 100000
set_option maxHeartbeats 4000000
set_option exponentiation.threshold 4000
namespace K77
open PySem MI SX
theorem small_bd {r : Int} (h1 : 0 ≤ r) (h2 : r < 5000) {k : Nat} : ∀ x ∈ ([.int 0, .int 1, .int 7, .int (-1), .int 10, .int (-10), .int 1000000000, .int (r - 2500), .int (10 ^ 39 + 7), .int (1 - 10 ^ 30)] : List D), Bd k 50 x := by
  intro x hx
  have key : ∀ i : Int, i.natAbs < 10 ^ 40 → Bd k 50 (.int i) := fun i hi => (bd_int (k := 40) (by decide) hi (by decide)).mono (Nat.le_refl _) (by decide)
  simp only [List.mem_cons, List.not_mem_nil, or_false] at hx
  rcases hx with rfl | rfl | rfl | rfl | rfl | rfl | rfl | rfl | rfl | rfl
  all_goals first
    | exact key _ (by decide +kernel)
    | exact key _ (Nat.lt_trans (show (r - 2500).natAbs < 10000 by omega) (by decide +kernel))
/-- the branches without a tuple -/
theorem thing_rest (n : Nat) {st st1 : Store} {i k : Nat} {m r : Int} (h : Drw st1 i (m + 1)) (hm : m + 10 < 1000000) (hk : k = 0 ∨ r < 5) (h1 : 0 ≤ r) (h2 : r < 8) (e1 : (eCall (tab G fs (n + 3)) (Str.ofString "_law_next") (aCons (eVar 0) (aCons (eK (.int 8)) aNil))) [.v (.ref i), .v (.int (k : Nat)), .no, .no, .no, .no, .no] st = .ok (.int r) st1) :
    ∃ d st2, MI.run (b_law_thing (tab G fs (n + 3)) (tabL G fs (n + 3))) [.v (.ref i), .v (.int (k : Nat)), .no, .no, .no, .no, .no] st = .ok d st2 ∧ Bd 0 50 d ∧ Drw st2 i (m + 10) := by
  unfold b_law_thing
  by_cases c1 : r < 2
  · obtain ⟨q, st2, g1, g2, g3, g4⟩ := next_ok (n + 2) h (by omega) (z := 5000) (by omega) (by omega)
    obtain ⟨x, st3, p1, p2, p3⟩ := pick_ok (n + 1) g4 (by omega) (ds := [.int 0, .int 1, .int 7, .int (-1), .int 10, .int (-10), .int 1000000000, .int (q - 2500), .int (10 ^ 39 + 7), .int (1 - 10 ^ 30)]) (by simp) (by simp)
    refine ⟨x, st3, ?_, small_bd g2 g3 x p2, p3.mono (by omega)⟩
    refine (run_set e1).trans ?_
    refine run_ifR (st1 := st1) (by simp only [MI.run, MI.strD, MI.lstOf, MI.known, MI.sPar, MI.sTry, MI.sRaise0, MI.sRaise1, MI.sParOwn, MI.sForR, MI.sStar, MI.starD, MI.eTupRg, MI.eLm, MI.eIsX, MI.eFld, MI.eDic0, MI.eLam, MI.xCat, MI.freed, MI.sNil, MI.sCons, MI.sIf, MI.sSet, MI.sSetL, MI.sRet, MI.sRetN, MI.sRetV, MI.sSub, MI.sAug, MI.sApp, MI.sOwn, MI.sSetT, MI.sFor, MI.sWhile, MI.eVar, MI.eBor, MI.eK, MI.eBin, MI.eNeg, MI.eNot, MI.eAnd, MI.eOr, MI.eT, MI.eIf, MI.eIx, MI.eSl, MI.eCall, MI.eInst, MI.eBlt1, MI.eBlt, MI.eMeth, MI.eTup, MI.eLst, MI.eOfA, MI.aNil, MI.aCons, MI.tCmp, MI.tChain, MI.tNot, MI.tAnd, MI.tOr, MI.tOf, MI.tYes, MI.pNo, MI.pYes, MI.boolOf, MI.blOf, MI.truth, MI.partD, MI.gOne, bind_ok, of_some, toS_ok, then_next, then_ret, then_brk, map_some, List.getElem?_cons_zero, List.getElem?_cons_succ, List.set_cons_zero, List.set_cons_succ, if_true, if_false, Bool.false_eq_true, reduceIte, cmp_lt, decide_eq_true c1]) ?_
    have t1 : tab G fs (n + 3) (Str.ofString "_law_ten") [.int 39] st2 = .ok (.int (10 ^ 39)) st2 := ten_ok (n + 2) (m := 39) (by decide) st2
    have t2 : tab G fs (n + 3) (Str.ofString "_law_ten") [.int 30] st2 = .ok (.int (10 ^ 30)) st2 := ten_ok (n + 2) (m := 30) (by decide) st2
    have un : ∀ z : Int, unD .USub (.int z) = some (.int (-z)) := fun _ => rfl
    refine (seq_set (d := .lst [.int 0, .int 1, .int 7, .int (-1), .int 10, .int (-10), .int 1000000000, .int (q - 2500), .int (10 ^ 39 + 7), .int (1 - 10 ^ 30)]) (st1 := st2) ?_).trans ?_
    · simp only [MI.run, MI.strD, MI.lstOf, MI.known, MI.sPar, MI.sTry, MI.sRaise0, MI.sRaise1, MI.sParOwn, MI.sForR, MI.sStar, MI.starD, MI.eTupRg, MI.eLm, MI.eIsX, MI.eFld, MI.eDic0, MI.eLam, MI.xCat, MI.freed, MI.sNil, MI.sCons, MI.sIf, MI.sSet, MI.sSetL, MI.sRet, MI.sRetN, MI.sRetV, MI.sSub, MI.sAug, MI.sApp, MI.sOwn, MI.sSetT, MI.sFor, MI.sWhile, MI.eVar, MI.eBor, MI.eK, MI.eBin, MI.eNeg, MI.eNot, MI.eAnd, MI.eOr, MI.eT, MI.eIf, MI.eIx, MI.eSl, MI.eCall, MI.eInst, MI.eBlt1, MI.eBlt, MI.eMeth, MI.eTup, MI.eLst, MI.eOfA, MI.aNil, MI.aCons, MI.tCmp, MI.tChain, MI.tNot, MI.tAnd, MI.tOr, MI.tOf, MI.tYes, MI.pNo, MI.pYes, MI.boolOf, MI.blOf, MI.truth, MI.partD, MI.gOne, bind_ok, of_some, toS_ok, then_next, then_ret, then_brk, map_some, List.getElem?_cons_zero, List.getElem?_cons_succ, List.set_cons_zero, List.set_cons_succ, if_true, if_false, Bool.false_eq_true, reduceIte, un, g1, op_sub, op_add, t1, t2]
    · refine seq_ret ?_
      simp only [MI.run, MI.strD, MI.lstOf, MI.known, MI.sPar, MI.sTry, MI.sRaise0, MI.sRaise1, MI.sParOwn, MI.sForR, MI.sStar, MI.starD, MI.eTupRg, MI.eLm, MI.eIsX, MI.eFld, MI.eDic0, MI.eLam, MI.xCat, MI.freed, MI.sNil, MI.sCons, MI.sIf, MI.sSet, MI.sSetL, MI.sRet, MI.sRetN, MI.sRetV, MI.sSub, MI.sAug, MI.sApp, MI.sOwn, MI.sSetT, MI.sFor, MI.sWhile, MI.eVar, MI.eBor, MI.eK, MI.eBin, MI.eNeg, MI.eNot, MI.eAnd, MI.eOr, MI.eT, MI.eIf, MI.eIx, MI.eSl, MI.eCall, MI.eInst, MI.eBlt1, MI.eBlt, MI.eMeth, MI.eTup, MI.eLst, MI.eOfA, MI.aNil, MI.aCons, MI.tCmp, MI.tChain, MI.tNot, MI.tAnd, MI.tOr, MI.tOf, MI.tYes, MI.pNo, MI.pYes, MI.boolOf, MI.blOf, MI.truth, MI.partD, MI.gOne, bind_ok, of_some, toS_ok, then_next, then_ret, then_brk, map_some, List.getElem?_cons_zero, List.getElem?_cons_succ, List.set_cons_zero, List.set_cons_succ, if_true, if_false, Bool.false_eq_true, reduceIte, p1]
  · by_cases c2 : r = 2
    · subst c2
      refine ⟨.non, st1, ?_, bd_non.mono (Nat.le_refl _) (by decide), h.mono (by omega)⟩
      refine (run_set e1).trans ?_
      refine (run_ifF (st1 := st1) (by simp only [MI.run, MI.strD, MI.lstOf, MI.known, MI.sPar, MI.sTry, MI.sRaise0, MI.sRaise1, MI.sParOwn, MI.sForR, MI.sStar, MI.starD, MI.eTupRg, MI.eLm, MI.eIsX, MI.eFld, MI.eDic0, MI.eLam, MI.xCat, MI.freed, MI.sNil, MI.sCons, MI.sIf, MI.sSet, MI.sSetL, MI.sRet, MI.sRetN, MI.sRetV, MI.sSub, MI.sAug, MI.sApp, MI.sOwn, MI.sSetT, MI.sFor, MI.sWhile, MI.eVar, MI.eBor, MI.eK, MI.eBin, MI.eNeg, MI.eNot, MI.eAnd, MI.eOr, MI.eT, MI.eIf, MI.eIx, MI.eSl, MI.eCall, MI.eInst, MI.eBlt1, MI.eBlt, MI.eMeth, MI.eTup, MI.eLst, MI.eOfA, MI.aNil, MI.aCons, MI.tCmp, MI.tChain, MI.tNot, MI.tAnd, MI.tOr, MI.tOf, MI.tYes, MI.pNo, MI.pYes, MI.boolOf, MI.blOf, MI.truth, MI.partD, MI.gOne, bind_ok, of_some, toS_ok, then_next, then_ret, then_brk, map_some, List.getElem?_cons_zero, List.getElem?_cons_succ, List.set_cons_zero, List.set_cons_succ, if_true, if_false, Bool.false_eq_true, reduceIte, cmp_lt, decide_eq_false c1])).trans ?_
      exact run_ifR (st1 := st1) (by simp only [MI.run, MI.strD, MI.lstOf, MI.known, MI.sPar, MI.sTry, MI.sRaise0, MI.sRaise1, MI.sParOwn, MI.sForR, MI.sStar, MI.starD, MI.eTupRg, MI.eLm, MI.eIsX, MI.eFld, MI.eDic0, MI.eLam, MI.xCat, MI.freed, MI.sNil, MI.sCons, MI.sIf, MI.sSet, MI.sSetL, MI.sRet, MI.sRetN, MI.sRetV, MI.sSub, MI.sAug, MI.sApp, MI.sOwn, MI.sSetT, MI.sFor, MI.sWhile, MI.eVar, MI.eBor, MI.eK, MI.eBin, MI.eNeg, MI.eNot, MI.eAnd, MI.eOr, MI.eT, MI.eIf, MI.eIx, MI.eSl, MI.eCall, MI.eInst, MI.eBlt1, MI.eBlt, MI.eMeth, MI.eTup, MI.eLst, MI.eOfA, MI.aNil, MI.aCons, MI.tCmp, MI.tChain, MI.tNot, MI.tAnd, MI.tOr, MI.tOf, MI.tYes, MI.pNo, MI.pYes, MI.boolOf, MI.blOf, MI.truth, MI.partD, MI.gOne, bind_ok, of_some, toS_ok, then_next, then_ret, then_brk, map_some, List.getElem?_cons_zero, List.getElem?_cons_succ, List.set_cons_zero, List.set_cons_succ, if_true, if_false, Bool.false_eq_true, reduceIte, cmp_eqI, beq_self_eq_true]) rfl
    · obtain ⟨x, st2, w1, w2, w3⟩ := words_ok n h (by omega) (.v (.int (k : Nat))) (.v (.int r)) .no
      refine ⟨x, st2, ?_, w2, w3.mono (by omega)⟩
      refine (run_set e1).trans ?_
      refine (run_ifF (st1 := st1) (by simp only [MI.run, MI.strD, MI.lstOf, MI.known, MI.sPar, MI.sTry, MI.sRaise0, MI.sRaise1, MI.sParOwn, MI.sForR, MI.sStar, MI.starD, MI.eTupRg, MI.eLm, MI.eIsX, MI.eFld, MI.eDic0, MI.eLam, MI.xCat, MI.freed, MI.sNil, MI.sCons, MI.sIf, MI.sSet, MI.sSetL, MI.sRet, MI.sRetN, MI.sRetV, MI.sSub, MI.sAug, MI.sApp, MI.sOwn, MI.sSetT, MI.sFor, MI.sWhile, MI.eVar, MI.eBor, MI.eK, MI.eBin, MI.eNeg, MI.eNot, MI.eAnd, MI.eOr, MI.eT, MI.eIf, MI.eIx, MI.eSl, MI.eCall, MI.eInst, MI.eBlt1, MI.eBlt, MI.eMeth, MI.eTup, MI.eLst, MI.eOfA, MI.aNil, MI.aCons, MI.tCmp, MI.tChain, MI.tNot, MI.tAnd, MI.tOr, MI.tOf, MI.tYes, MI.pNo, MI.pYes, MI.boolOf, MI.blOf, MI.truth, MI.partD, MI.gOne, bind_ok, of_some, toS_ok, then_next, then_ret, then_brk, map_some, List.getElem?_cons_zero, List.getElem?_cons_succ, List.set_cons_zero, List.set_cons_succ, if_true, if_false, Bool.false_eq_true, reduceIte, cmp_lt, decide_eq_false c1])).trans ?_
      refine (run_ifF (st1 := st1) (by simp only [MI.run, MI.strD, MI.lstOf, MI.known, MI.sPar, MI.sTry, MI.sRaise0, MI.sRaise1, MI.sParOwn, MI.sForR, MI.sStar, MI.starD, MI.eTupRg, MI.eLm, MI.eIsX, MI.eFld, MI.eDic0, MI.eLam, MI.xCat, MI.freed, MI.sNil, MI.sCons, MI.sIf, MI.sSet, MI.sSetL, MI.sRet, MI.sRetN, MI.sRetV, MI.sSub, MI.sAug, MI.sApp, MI.sOwn, MI.sSetT, MI.sFor, MI.sWhile, MI.eVar, MI.eBor, MI.eK, MI.eBin, MI.eNeg, MI.eNot, MI.eAnd, MI.eOr, MI.eT, MI.eIf, MI.eIx, MI.eSl, MI.eCall, MI.eInst, MI.eBlt1, MI.eBlt, MI.eMeth, MI.eTup, MI.eLst, MI.eOfA, MI.aNil, MI.aCons, MI.tCmp, MI.tChain, MI.tNot, MI.tAnd, MI.tOr, MI.tOf, MI.tYes, MI.pNo, MI.pYes, MI.boolOf, MI.blOf, MI.truth, MI.partD, MI.gOne, bind_ok, of_some, toS_ok, then_next, then_ret, then_brk, map_some, List.getElem?_cons_zero, List.getElem?_cons_succ, List.set_cons_zero, List.set_cons_succ, if_true, if_false, Bool.false_eq_true, reduceIte, cmp_eqI, beq_eq_false_iff_ne.mpr c2])).trans ?_
      refine run_ifR (st1 := st1) ?_ w1
      rcases hk with rfl | hk
      · by_cases c5 : r < 5
        · simp only [MI.run, MI.strD, MI.lstOf, MI.known, MI.sPar, MI.sTry, MI.sRaise0, MI.sRaise1, MI.sParOwn, MI.sForR, MI.sStar, MI.starD, MI.eTupRg, MI.eLm, MI.eIsX, MI.eFld, MI.eDic0, MI.eLam, MI.xCat, MI.freed, MI.sNil, MI.sCons, MI.sIf, MI.sSet, MI.sSetL, MI.sRet, MI.sRetN, MI.sRetV, MI.sSub, MI.sAug, MI.sApp, MI.sOwn, MI.sSetT, MI.sFor, MI.sWhile, MI.eVar, MI.eBor, MI.eK, MI.eBin, MI.eNeg, MI.eNot, MI.eAnd, MI.eOr, MI.eT, MI.eIf, MI.eIx, MI.eSl, MI.eCall, MI.eInst, MI.eBlt1, MI.eBlt, MI.eMeth, MI.eTup, MI.eLst, MI.eOfA, MI.aNil, MI.aCons, MI.tCmp, MI.tChain, MI.tNot, MI.tAnd, MI.tOr, MI.tOf, MI.tYes, MI.pNo, MI.pYes, MI.boolOf, MI.blOf, MI.truth, MI.partD, MI.gOne, bind_ok, of_some, toS_ok, then_next, then_ret, then_brk, map_some, List.getElem?_cons_zero, List.getElem?_cons_succ, List.set_cons_zero, List.set_cons_succ, if_true, if_false, Bool.false_eq_true, reduceIte, cmp_lt, decide_eq_true c5]
        · simp only [MI.run, MI.strD, MI.lstOf, MI.known, MI.sPar, MI.sTry, MI.sRaise0, MI.sRaise1, MI.sParOwn, MI.sForR, MI.sStar, MI.starD, MI.eTupRg, MI.eLm, MI.eIsX, MI.eFld, MI.eDic0, MI.eLam, MI.xCat, MI.freed, MI.sNil, MI.sCons, MI.sIf, MI.sSet, MI.sSetL, MI.sRet, MI.sRetN, MI.sRetV, MI.sSub, MI.sAug, MI.sApp, MI.sOwn, MI.sSetT, MI.sFor, MI.sWhile, MI.eVar, MI.eBor, MI.eK, MI.eBin, MI.eNeg, MI.eNot, MI.eAnd, MI.eOr, MI.eT, MI.eIf, MI.eIx, MI.eSl, MI.eCall, MI.eInst, MI.eBlt1, MI.eBlt, MI.eMeth, MI.eTup, MI.eLst, MI.eOfA, MI.aNil, MI.aCons, MI.tCmp, MI.tChain, MI.tNot, MI.tAnd, MI.tOr, MI.tOf, MI.tYes, MI.pNo, MI.pYes, MI.boolOf, MI.blOf, MI.truth, MI.partD, MI.gOne, bind_ok, of_some, toS_ok, then_next, then_ret, then_brk, map_some, List.getElem?_cons_zero, List.getElem?_cons_succ, List.set_cons_zero, List.set_cons_succ, if_true, if_false, Bool.false_eq_true, reduceIte, cmp_lt, decide_eq_false c5, cmp_eqI, show (((0 : Nat) : Int) == 0) = true from rfl]
      · simp only [MI.run, MI.strD, MI.lstOf, MI.known, MI.sPar, MI.sTry, MI.sRaise0, MI.sRaise1, MI.sParOwn, MI.sForR, MI.sStar, MI.starD, MI.eTupRg, MI.eLm, MI.eIsX, MI.eFld, MI.eDic0, MI.eLam, MI.xCat, MI.freed, MI.sNil, MI.sCons, MI.sIf, MI.sSet, MI.sSetL, MI.sRet, MI.sRetN, MI.sRetV, MI.sSub, MI.sAug, MI.sApp, MI.sOwn, MI.sSetT, MI.sFor, MI.sWhile, MI.eVar, MI.eBor, MI.eK, MI.eBin, MI.eNeg, MI.eNot, MI.eAnd, MI.eOr, MI.eT, MI.eIf, MI.eIx, MI.eSl, MI.eCall, MI.eInst, MI.eBlt1, MI.eBlt, MI.eMeth, MI.eTup, MI.eLst, MI.eOfA, MI.aNil, MI.aCons, MI.tCmp, MI.tChain, MI.tNot, MI.tAnd, MI.tOr, MI.tOf, MI.tYes, MI.pNo, MI.pYes, MI.boolOf, MI.blOf, MI.truth, MI.partD, MI.gOne, bind_ok, of_some, toS_ok, then_next, then_ret, then_brk, map_some, List.getElem?_cons_zero, List.getElem?_cons_succ, List.set_cons_zero, List.set_cons_succ, if_true, if_false, Bool.false_eq_true, reduceIte, cmp_lt, decide_eq_true hk]
theorem thing_gen : ∀ (k n : Nat) (st : Store) (i : Nat) (m : Int), Drw st i m → m + ((10 * 4 ^ k : Nat) : Int) < 1000000 →
    ∃ d st2, tab G fs (n + k + 4) (Str.ofString "_law_thing") [.ref i, .int (k : Nat)] st = .ok d st2 ∧ Bd k (50 * 4 ^ k) d ∧ Drw st2 i (m + ((10 * 4 ^ k : Nat) : Int)) := by
  intro k
  induction k with
  | zero =>
    intro n st i m h hm
    have hm2 : m + 10 < 1000000 := hm
    obtain ⟨r, st1, h1, h2, h3, h4⟩ := next_ok (n + 2) h (by omega) (z := 8) (by omega) (by omega)
    rw [show n + 0 + 4 = n + 3 + 1 by omega, at_law_thing]
    show ∃ d st2, _ ∧ Bd 0 50 d ∧ Drw st2 i (m + 10)
    have e1 : (eCall (tab G fs (n + 3)) (Str.ofString "_law_next") (aCons (eVar 0) (aCons (eK (.int 8)) aNil))) [.v (.ref i), .v (.int ((0 : Nat) : Int)), .no, .no, .no, .no, .no] st = .ok (.int r) st1 := by simp only [MI.run, MI.strD, MI.lstOf, MI.known, MI.sPar, MI.sTry, MI.sRaise0, MI.sRaise1, MI.sParOwn, MI.sForR, MI.sStar, MI.starD, MI.eTupRg, MI.eLm, MI.eIsX, MI.eFld, MI.eDic0, MI.eLam, MI.xCat, MI.freed, MI.sNil, MI.sCons, MI.sIf, MI.sSet, MI.sSetL, MI.sRet, MI.sRetN, MI.sRetV, MI.sSub, MI.sAug, MI.sApp, MI.sOwn, MI.sSetT, MI.sFor, MI.sWhile, MI.eVar, MI.eBor, MI.eK, MI.eBin, MI.eNeg, MI.eNot, MI.eAnd, MI.eOr, MI.eT, MI.eIf, MI.eIx, MI.eSl, MI.eCall, MI.eInst, MI.eBlt1, MI.eBlt, MI.eMeth, MI.eTup, MI.eLst, MI.eOfA, MI.aNil, MI.aCons, MI.tCmp, MI.tChain, MI.tNot, MI.tAnd, MI.tOr, MI.tOf, MI.tYes, MI.pNo, MI.pYes, MI.boolOf, MI.blOf, MI.truth, MI.partD, MI.gOne, bind_ok, of_some, toS_ok, then_next, then_ret, then_brk, map_some, List.getElem?_cons_zero, List.getElem?_cons_succ, List.set_cons_zero, List.set_cons_succ, if_true, if_false, Bool.false_eq_true, reduceIte, h1]
    exact thing_rest n h4 (by omega) (.inl rfl) h2 h3 e1
  | succ k ih =>
    intro n st i m h hm
    have hp : 1 ≤ 4 ^ k := Nat.pow_pos (by decide)
    rw [Nat.pow_succ] at hm ⊢
    obtain ⟨r, st1, h1, h2, h3, h4⟩ := next_ok (n + k + 3) h (by omega) (z := 8) (by omega) (by omega)
    rw [show n + (k + 1) + 4 = n + k + 4 + 1 by omega, at_law_thing]
    have e1 : (eCall (tab G fs (n + k + 4)) (Str.ofString "_law_next") (aCons (eVar 0) (aCons (eK (.int 8)) aNil))) [.v (.ref i), .v (.int ((k + 1 : Nat) : Int)), .no, .no, .no, .no, .no] st = .ok (.int r) st1 := by simp only [MI.run, MI.strD, MI.lstOf, MI.known, MI.sPar, MI.sTry, MI.sRaise0, MI.sRaise1, MI.sParOwn, MI.sForR, MI.sStar, MI.starD, MI.eTupRg, MI.eLm, MI.eIsX, MI.eFld, MI.eDic0, MI.eLam, MI.xCat, MI.freed, MI.sNil, MI.sCons, MI.sIf, MI.sSet, MI.sSetL, MI.sRet, MI.sRetN, MI.sRetV, MI.sSub, MI.sAug, MI.sApp, MI.sOwn, MI.sSetT, MI.sFor, MI.sWhile, MI.eVar, MI.eBor, MI.eK, MI.eBin, MI.eNeg, MI.eNot, MI.eAnd, MI.eOr, MI.eT, MI.eIf, MI.eIx, MI.eSl, MI.eCall, MI.eInst, MI.eBlt1, MI.eBlt, MI.eMeth, MI.eTup, MI.eLst, MI.eOfA, MI.aNil, MI.aCons, MI.tCmp, MI.tChain, MI.tNot, MI.tAnd, MI.tOr, MI.tOf, MI.tYes, MI.pNo, MI.pYes, MI.boolOf, MI.blOf, MI.truth, MI.partD, MI.gOne, bind_ok, of_some, toS_ok, then_next, then_ret, then_brk, map_some, List.getElem?_cons_zero, List.getElem?_cons_succ, List.set_cons_zero, List.set_cons_succ, if_true, if_false, Bool.false_eq_true, reduceIte, h1]
    by_cases hr : r < 5
    · obtain ⟨d, st2, g1, g2, g3⟩ := thing_rest (n + k + 1) h4 (by omega) (.inr hr) h2 h3 e1
      exact ⟨d, st2, g1, g2.mono (by omega) (by omega), g3.mono (by omega)⟩
    · unfold b_law_thing
      obtain ⟨q, st2, g1, g2, g3, g4⟩ := next_ok (n + k + 3) h4 (by omega) (z := 4) (by omega) (by omega)
      obtain ⟨q, rfl⟩ := Int.eq_ofNat_of_zero_le g2
      have hsrc : xRange1 (eCall (tab G fs (n + k + 4)) (Str.ofString "_law_next") (aCons (eVar 0) (aCons (eK (.int 4)) aNil))) [.v (.ref i), .v (.int ((k + 1 : Nat) : Int)), .v (.int r), .no, .no, .no, .no] st1 = .ok (rangeD 0 q) st2 := range_src (by simp only [MI.run, MI.strD, MI.lstOf, MI.known, MI.sPar, MI.sTry, MI.sRaise0, MI.sRaise1, MI.sParOwn, MI.sForR, MI.sStar, MI.starD, MI.eTupRg, MI.eLm, MI.eIsX, MI.eFld, MI.eDic0, MI.eLam, MI.xCat, MI.freed, MI.sNil, MI.sCons, MI.sIf, MI.sSet, MI.sSetL, MI.sRet, MI.sRetN, MI.sRetV, MI.sSub, MI.sAug, MI.sApp, MI.sOwn, MI.sSetT, MI.sFor, MI.sWhile, MI.eVar, MI.eBor, MI.eK, MI.eBin, MI.eNeg, MI.eNot, MI.eAnd, MI.eOr, MI.eT, MI.eIf, MI.eIx, MI.eSl, MI.eCall, MI.eInst, MI.eBlt1, MI.eBlt, MI.eMeth, MI.eTup, MI.eLst, MI.eOfA, MI.aNil, MI.aCons, MI.tCmp, MI.tChain, MI.tNot, MI.tAnd, MI.tOr, MI.tOf, MI.tYes, MI.pNo, MI.pYes, MI.boolOf, MI.blOf, MI.truth, MI.partD, MI.gOne, bind_ok, of_some, toS_ok, then_next, then_ret, then_brk, map_some, List.getElem?_cons_zero, List.getElem?_cons_succ, List.set_cons_zero, List.set_cons_succ, if_true, if_false, Bool.false_eq_true, reduceIte, g1]) (Nat.le_trans (show q ≤ 4 by omega) (by decide))
      have hq : (((rangeD 0 q).length : Nat) : Int) * ((10 * 4 ^ k : Nat) : Int) ≤ 3 * ((10 * 4 ^ k : Nat) : Int) := Int.mul_le_mul_of_nonneg_right (by rw [range_len]; omega) (by omega)
      obtain ⟨xs, st3, c1, c2, c3, c4⟩ := comp_draw (own := [6]) (bind := gOne 6) (elt := eCall (tab G fs (n + k + 4)) (Str.ofString "_law_thing") (aCons (eVar 0) (aCons (eBin .Sub (eVar 1) (eK (.int 1))) aNil))) (P := Bd k (50 * 4 ^ k)) (c := ((10 * 4 ^ k : Nat) : Int)) (M := 999999) hsrc (by rw [range_len]; omega) (by omega) (by omega) g4 (fun d hd st m hD hM => by
        obtain ⟨x, st4, t1, t2, t3⟩ := ih n st i m hD (by omega)
        refine ⟨x, st4, ?_, t2, t3⟩
        have hk : ((k + 1 : Nat) : Int) - 1 = (k : Nat) := by omega
        show ((MI.tYes _ st).bind _) = _
        simp only [MI.run, MI.strD, MI.lstOf, MI.known, MI.sPar, MI.sTry, MI.sRaise0, MI.sRaise1, MI.sParOwn, MI.sForR, MI.sStar, MI.starD, MI.eTupRg, MI.eLm, MI.eIsX, MI.eFld, MI.eDic0, MI.eLam, MI.xCat, MI.freed, MI.sNil, MI.sCons, MI.sIf, MI.sSet, MI.sSetL, MI.sRet, MI.sRetN, MI.sRetV, MI.sSub, MI.sAug, MI.sApp, MI.sOwn, MI.sSetT, MI.sFor, MI.sWhile, MI.eVar, MI.eBor, MI.eK, MI.eBin, MI.eNeg, MI.eNot, MI.eAnd, MI.eOr, MI.eT, MI.eIf, MI.eIx, MI.eSl, MI.eCall, MI.eInst, MI.eBlt1, MI.eBlt, MI.eMeth, MI.eTup, MI.eLst, MI.eOfA, MI.aNil, MI.aCons, MI.tCmp, MI.tChain, MI.tNot, MI.tAnd, MI.tOr, MI.tOf, MI.tYes, MI.pNo, MI.pYes, MI.boolOf, MI.blOf, MI.truth, MI.partD, MI.gOne, bind_ok, of_some, toS_ok, then_next, then_ret, then_brk, map_some, List.getElem?_cons_zero, List.getElem?_cons_succ, List.set_cons_zero, List.set_cons_succ, if_true, if_false, Bool.false_eq_true, reduceIte, wipeE, op_sub, hk, t1])
      refine ⟨.tup xs, st3, ?_, ?_, c4.mono (by omega)⟩
      · refine (run_set e1).trans ?_
        refine (run_ifF (st1 := st1) (by simp only [MI.run, MI.strD, MI.lstOf, MI.known, MI.sPar, MI.sTry, MI.sRaise0, MI.sRaise1, MI.sParOwn, MI.sForR, MI.sStar, MI.starD, MI.eTupRg, MI.eLm, MI.eIsX, MI.eFld, MI.eDic0, MI.eLam, MI.xCat, MI.freed, MI.sNil, MI.sCons, MI.sIf, MI.sSet, MI.sSetL, MI.sRet, MI.sRetN, MI.sRetV, MI.sSub, MI.sAug, MI.sApp, MI.sOwn, MI.sSetT, MI.sFor, MI.sWhile, MI.eVar, MI.eBor, MI.eK, MI.eBin, MI.eNeg, MI.eNot, MI.eAnd, MI.eOr, MI.eT, MI.eIf, MI.eIx, MI.eSl, MI.eCall, MI.eInst, MI.eBlt1, MI.eBlt, MI.eMeth, MI.eTup, MI.eLst, MI.eOfA, MI.aNil, MI.aCons, MI.tCmp, MI.tChain, MI.tNot, MI.tAnd, MI.tOr, MI.tOf, MI.tYes, MI.pNo, MI.pYes, MI.boolOf, MI.blOf, MI.truth, MI.partD, MI.gOne, bind_ok, of_some, toS_ok, then_next, then_ret, then_brk, map_some, List.getElem?_cons_zero, List.getElem?_cons_succ, List.set_cons_zero, List.set_cons_succ, if_true, if_false, Bool.false_eq_true, reduceIte, cmp_lt, decide_eq_false (show ¬ r < 2 by omega)])).trans ?_
        refine (run_ifF (st1 := st1) (by simp only [MI.run, MI.strD, MI.lstOf, MI.known, MI.sPar, MI.sTry, MI.sRaise0, MI.sRaise1, MI.sParOwn, MI.sForR, MI.sStar, MI.starD, MI.eTupRg, MI.eLm, MI.eIsX, MI.eFld, MI.eDic0, MI.eLam, MI.xCat, MI.freed, MI.sNil, MI.sCons, MI.sIf, MI.sSet, MI.sSetL, MI.sRet, MI.sRetN, MI.sRetV, MI.sSub, MI.sAug, MI.sApp, MI.sOwn, MI.sSetT, MI.sFor, MI.sWhile, MI.eVar, MI.eBor, MI.eK, MI.eBin, MI.eNeg, MI.eNot, MI.eAnd, MI.eOr, MI.eT, MI.eIf, MI.eIx, MI.eSl, MI.eCall, MI.eInst, MI.eBlt1, MI.eBlt, MI.eMeth, MI.eTup, MI.eLst, MI.eOfA, MI.aNil, MI.aCons, MI.tCmp, MI.tChain, MI.tNot, MI.tAnd, MI.tOr, MI.tOf, MI.tYes, MI.pNo, MI.pYes, MI.boolOf, MI.blOf, MI.truth, MI.partD, MI.gOne, bind_ok, of_some, toS_ok, then_next, then_ret, then_brk, map_some, List.getElem?_cons_zero, List.getElem?_cons_succ, List.set_cons_zero, List.set_cons_succ, if_true, if_false, Bool.false_eq_true, reduceIte, cmp_eqI, beq_eq_false_iff_ne.mpr (show r ≠ 2 by omega)])).trans ?_
        refine (run_ifF (st1 := st1) (by simp only [MI.run, MI.strD, MI.lstOf, MI.known, MI.sPar, MI.sTry, MI.sRaise0, MI.sRaise1, MI.sParOwn, MI.sForR, MI.sStar, MI.starD, MI.eTupRg, MI.eLm, MI.eIsX, MI.eFld, MI.eDic0, MI.eLam, MI.xCat, MI.freed, MI.sNil, MI.sCons, MI.sIf, MI.sSet, MI.sSetL, MI.sRet, MI.sRetN, MI.sRetV, MI.sSub, MI.sAug, MI.sApp, MI.sOwn, MI.sSetT, MI.sFor, MI.sWhile, MI.eVar, MI.eBor, MI.eK, MI.eBin, MI.eNeg, MI.eNot, MI.eAnd, MI.eOr, MI.eT, MI.eIf, MI.eIx, MI.eSl, MI.eCall, MI.eInst, MI.eBlt1, MI.eBlt, MI.eMeth, MI.eTup, MI.eLst, MI.eOfA, MI.aNil, MI.aCons, MI.tCmp, MI.tChain, MI.tNot, MI.tAnd, MI.tOr, MI.tOf, MI.tYes, MI.pNo, MI.pYes, MI.boolOf, MI.blOf, MI.truth, MI.partD, MI.gOne, bind_ok, of_some, toS_ok, then_next, then_ret, then_brk, map_some, List.getElem?_cons_zero, List.getElem?_cons_succ, List.set_cons_zero, List.set_cons_succ, if_true, if_false, Bool.false_eq_true, reduceIte, cmp_lt, decide_eq_false hr, cmp_eqI, beq_eq_false_iff_ne.mpr (show ((k + 1 : Nat) : Int) ≠ 0 by omega)])).trans ?_
        refine run_ret ?_
        have e2 : eOfA (xComp [6] (xRange1 (eCall (tab G fs (n + k + 4)) (Str.ofString "_law_next") (aCons (eVar 0) (aCons (eK (.int 4)) aNil)))) (gOne 6) MI.tYes (eCall (tab G fs (n + k + 4)) (Str.ofString "_law_thing") (aCons (eVar 0) (aCons (eBin .Sub (eVar 1) (eK (.int 1))) aNil)))) [.v (.ref i), .v (.int ((k + 1 : Nat) : Int)), .v (.int r), .no, .no, .no, .no] st1 = .ok (.lst xs) st3 := by
          unfold eOfA
          rw [c1]
          rfl
        show (eBlt1 _ _ [.v (.ref i), .v (.int ((k + 1 : Nat) : Int)), .v (.int r), .no, .no, .no, .no] st1) = _
        unfold eBlt1
        rw [e2]
        rfl
      · refine (bd_tup c3).mono (Nat.le_refl _) ?_
        rw [c2, range_len]
        have : q * (50 * 4 ^ k + 2) ≤ 3 * (50 * 4 ^ k + 2) := Nat.mul_le_mul_right _ (by omega)
        omega
end K77

set_option maxRecDepth 100000
set_option maxHeartbeats 4000000
set_option exponentiation.threshold 4000
namespace K77
open PySem MI SX
theorem one_bd {k b : Nat} {ds : List D} {n : Nat} (hn : ds.length ≤ n) (h : ∀ d ∈ ds, Bd k b d) {c : Nat} (hc : n * (b + 2) + 2 ≤ c) : Bd (k + 1) c (.tup ds) := (bd_tup h).mono (Nat.le_refl _) (by
  have : ds.length * (b + 2) ≤ n * (b + 2) := Nat.mul_le_mul_right _ hn
  omega)
/-- f within one more bracket -/
theorem bin_of {op : Operator} {a b : EX} {env : MI.Env} {st st1 st2 : Store} {x y z : D} (ha : a env st = .ok x st1) (hb : b env st1 = .ok y st2) (h : opD op x y = some z) : eBin op a b env st = .ok z st2 := by
  unfold eBin
  rw [ha, bind_ok, hb, bind_ok, h, of_some]
theorem ten_plus {a b : Nat} (ha : a < 400) (hb : b < 9) : ((10 : Int) ^ a + (b : Nat)).natAbs < 10 ^ 400 := by
  have e1 : (10 : Int) ^ a + (b : Nat) = ((10 ^ a + b : Nat) : Int) := by simp
  rw [e1, Int.natAbs_natCast]
  have e2 : (10 : Nat) ^ a ≤ 10 ^ 399 := Nat.pow_le_pow_right (by decide) (Nat.le_of_lt_succ ha)
  have e3 : (10 : Nat) ^ 399 + 9 < 10 ^ 400 := by decide +kernel
  exact Nat.lt_trans (Nat.add_lt_add_of_le_of_lt e2 hb) e3
end K77

set_option maxRecDepth 100000
set_option maxHeartbeats 4000000
set_option exponentiation.threshold 2000
namespace K77
open PySem MI SX
theorem numL_canon : ∀ (n : Nat) (f : List Nat), f.length = n → f ≠ [] → (∀ c ∈ f, isF c = true) → (f.take 1 ≠ [48] ∨ f = [48]) → TL.numL (NumText.digitsVal f) = f ∧ (f ≠ [48] → 0 < NumText.digitsVal f) := by
  intro n
  induction n using Nat.strongRecOn with
  | _ n ih =>
    intro f hn hne hd hc
    obtain ⟨g, c, rfl⟩ : ∃ g c, f = g ++ [c] := ⟨f.dropLast, f.getLast hne, (List.dropLast_concat_getLast hne).symm⟩
    have hcd := isF_iff.mp (hd c (by simp))
    have hv : NumText.digitsVal (g ++ [c]) = 10 * NumText.digitsVal g + (c - 48) := by
      rw [NumText.digitsVal_snoc, Nat.mul_comm]
    by_cases hg : g = []
    · subst hg
      have hv' : NumText.digitsVal ([] ++ [c]) = c - 48 := by rw [hv]; simp [NumText.digitsVal]
      refine ⟨?_, fun h => ?_⟩
      · rw [hv', TL.numL_lt (by omega)]
        simp
        omega
      · rw [hv']
        have : c ≠ 48 := fun z => h (by rw [z]; rfl)
        omega
    · have hl : g.length < n := by rw [← hn]; simp
      have hgt : (g ++ [c]).take 1 = g.take 1 := by
        cases g with
        | nil => exact absurd rfl hg
        | cons x r => rfl
      have hc1 : g.take 1 ≠ [48] := by
        rcases hc with z | z
        · rw [hgt] at z; exact z
        · have := congrArg List.length z
          cases g with
          | nil => exact absurd rfl hg
          | cons x r => simp at this
      have hg48 : g ≠ [48] := fun z => hc1 (by rw [z]; rfl)
      obtain ⟨i1, i2⟩ := ih g.length hl g rfl hg (fun x hx => hd x (List.mem_append_left _ hx)) (.inl hc1)
      have hp := i2 hg48
      refine ⟨?_, fun _ => by rw [hv]; omega⟩
      rw [hv, TL.numL_step (by omega), show (10 * NumText.digitsVal g + (c - 48)) / 10 = NumText.digitsVal g by omega, i1, show (10 * NumText.digitsVal g + (c - 48)) % 10 = c - 48 by omega]
      refine congrArg (fun z => g ++ [z]) ?_
      omega
theorem digits_lt : ∀ (n : Nat) (f : List Nat), f.length = n → (∀ c ∈ f, isF c = true) → NumText.digitsVal f < 10 ^ n := by
  intro n
  induction n with
  | zero =>
    intro f hn _
    rw [List.length_eq_zero_iff.mp hn]
    decide
  | succ n ih =>
    intro f hn hd
    have hne : f ≠ [] := fun z => by rw [z] at hn; cases hn
    obtain ⟨g, c, rfl⟩ : ∃ g c, f = g ++ [c] := ⟨f.dropLast, f.getLast hne, (List.dropLast_concat_getLast hne).symm⟩
    have hcd := isF_iff.mp (hd c (by simp))
    have := ih g (by simpa using hn) (fun x hx => hd x (List.mem_append_left _ hx))
    rw [NumText.digitsVal_snoc, Nat.pow_succ]
    omega
/-- numbers -/
theorem num_back {s : List Nat} {d : D} {c : Nat} (h : numP s = some (d, c)) : ∃ i, d = .int i ∧ i.natAbs < 10 ^ 400 ∧ s.take c = numT i ∧ 0 < c ∧ c ≤ s.length := by
  unfold numP at h
  split at h
  · cases h
  · rename_i hc
    cases h
    have h1 : figs s ≠ [] := fun z => hc (.inl z)
    have h2 : (figs s).length ≤ 400 := Nat.le_of_not_lt fun z => hc (.inr (.inl z))
    have h3 : ¬ ((figs s).take 1 = [48] ∧ sgn s ++ figs s ≠ [48]) := fun z => hc (.inr (.inr z))
    have hpos : 0 < (figs s).length := List.length_pos_iff.mpr h1
    have hw := word_eq s
    have hlen := congrArg List.length hw
    rw [List.length_take, List.length_append] at hlen
    have hcan : (figs s).take 1 ≠ [48] ∨ figs s = [48] := by
      by_cases z : (figs s).take 1 = [48]
      · right
        have z2 : sgn s ++ figs s = [48] := Classical.byContradiction fun q => h3 ⟨z, q⟩
        have := congrArg List.length z2
        rw [List.length_append] at this
        have e : sgn s = [] := List.length_eq_zero_iff.mp (by simp at this; omega)
        rw [e] at z2
        exact z2
      · exact .inl z
    obtain ⟨n1, n2⟩ := numL_canon _ _ rfl h1 (figs_all s) hcan
    have hlt := digits_lt _ _ rfl (figs_all s)
    have hlt2 : NumText.digitsVal (figs s) < 10 ^ 400 := Nat.lt_of_lt_of_le hlt (Nat.pow_le_pow_right (by decide) h2)
    refine ⟨numV s, rfl, ?_, ?_, by omega, by omega⟩
    · unfold numV
      split
      · rw [Int.natAbs_neg]; exact hlt2
      · exact hlt2
    · rw [hw]
      unfold numV
      split
      · rename_i hm
        have hs : sgn s = [45] := if_pos hm
        have hne : figs s ≠ [48] := fun z => h3 ⟨by rw [z]; rfl, by rw [hs, z]; decide⟩
        have hp := n2 hne
        obtain ⟨m, hm2⟩ : ∃ m, NumText.digitsVal (figs s) = m + 1 := ⟨_, (Nat.succ_pred_eq_of_pos hp).symm⟩
        rw [hs, hm2]
        have : -((m + 1 : Nat) : Int) = Int.negSucc m := rfl
        rw [this, numT_neg, ← hm2, n1]
        rfl
      · rename_i hm
        have hs : sgn s = [] := if_neg hm
        rw [hs, numT_nat, n1]
        rfl
/-- texts -/
theorem tx_back : ∀ (n : Nat) {s : List Nat} {l : List Nat} {c : Nat}, s.length ≤ n → txP s = some (l, c) → (∀ x ∈ l, 32 ≤ x ∧ x ≤ 126) ∧ s.take c = esc l ++ [34] ∧ 0 < c ∧ c ≤ s.length
  | n, [], l, c, _, h => by unfold txP at h; cases h
  | n, [a], l, c, _, h => by
    unfold txP at h
    split at h
    · rename_i ha
      cases h
      subst ha
      exact ⟨fun x hx => (nomatch hx), rfl, by decide, by decide⟩
    · cases h
  | n, a :: e :: r, l, c, hn, h => by
    have h' : (if a = 34 then some (([] : List Nat), 1)
      else if a = 92 then (if e = 34 ∨ e = 92 then (txP r).map fun q => (e :: q.1, q.2 + 2) else none)
      else if 32 ≤ a ∧ a ≤ 126 then (txP (e :: r)).map fun q => (a :: q.1, q.2 + 1) else none) = some (l, c) := h
    have hn' : r.length + 2 ≤ n := hn
    split at h'
    · rename_i ha
      cases h'
      subst ha
      exact ⟨fun x hx => (nomatch hx), rfl, by decide, by simp⟩
    · rename_i ha
      split at h'
      · rename_i hb
        split at h'
        · rename_i he
          cases hr : txP r with
          | none => rw [hr] at h'; cases h'
          | some q =>
            obtain ⟨l', c'⟩ := q
            rw [hr] at h'
            cases h'
            obtain ⟨i1, i2, i3, i4⟩ := tx_back (n - 2) (by omega) hr
            refine ⟨fun x hx => ?_, ?_, by omega, by simp; omega⟩
            · rcases List.mem_cons.mp hx with z | z
              · subst z; omega
              · exact i1 x z
            · subst hb
              show 92 :: e :: r.take c' = _
              rw [i2]
              unfold esc
              rw [List.flatMap_cons]
              unfold esc1
              rw [if_pos he]
              rfl
        · cases h'
      · rename_i hb
        split at h'
        · rename_i hp
          cases hr : txP (e :: r) with
          | none => rw [hr] at h'; cases h'
          | some q =>
            obtain ⟨l', c'⟩ := q
            rw [hr] at h'
            cases h'
            obtain ⟨i1, i2, i3, i4⟩ := tx_back (n - 1) (by simp; omega) hr
            refine ⟨fun x hx => ?_, ?_, by omega, by simp at i4 ⊢; omega⟩
            · rcases List.mem_cons.mp hx with z | z
              · subst z; exact hp
              · exact i1 x z
            · show a :: (e :: r).take c' = _
              rw [i2]
              unfold esc
              rw [List.flatMap_cons]
              unfold esc1
              rw [if_neg (by rintro (z | z); exact ha z; exact hb z)]
              rfl
        · cases h'
theorem flat_back {k : Nat} {s : List Nat} {d : D} {c : Nat} (h : flP s = some (d, c)) : Th k d ∧ s.take c = txt d ∧ 0 < c ∧ c ≤ s.length := by
  unfold flP at h
  split at h
  · rename_i h1
    cases ht : txP (s.drop 1) with
    | none => rw [ht] at h; cases h
    | some q =>
      obtain ⟨l, c'⟩ := q
      rw [ht] at h
      cases h
      obtain ⟨i1, i2, i3, i4⟩ := tx_back _ (Nat.le_refl _) ht
      cases s with
      | nil => cases h1
      | cons a r =>
        have ha : a = 34 := by simpa using h1
        subst ha
        refine ⟨by cases k <;> (unfold Th; exact i1), ?_, by omega, by simp at i4 ⊢; omega⟩
        show 34 :: r.take c' = _
        have : r.take c' = esc l ++ [34] := i2
        rw [this]
        rfl
  · split at h
    · rename_i h1
      cases h
      refine ⟨by cases k <;> (unfold Th; trivial), h1, by decide, ?_⟩
      have := congrArg List.length h1
      rw [List.length_take] at this
      have e : ([110, 111, 110, 101] : List Nat).length = 4 := rfl
      omega
    · obtain ⟨i, rfl, h1, h2, h3, h4⟩ := num_back h
      exact ⟨by cases k <;> (unfold Th; exact h1), h2, h3, h4⟩
theorem joinL_cons2 (z a b : List Nat) (l : List (List Nat)) : TL.joinL z (a :: b :: l) = a ++ z ++ TL.joinL z (b :: l) := by
  simp [TL.joinL]
theorem loop_back {p : List Nat → Option (D × Nat)} {k : Nat} (hp : ∀ s d c, p s = some (d, c) → Th k d ∧ s.take c = txt d ∧ 0 < c ∧ c ≤ s.length) : ∀ (m : Nat) (s : List Nat) (l : List D) (c : Nat), loopP p m s = some (l, c) → l ≠ [] ∧ (∀ d ∈ l, Th k d) ∧ s.take c = TL.joinL [44, 32] (l.map txt) ++ [41] ∧ 0 < c ∧ c ≤ s.length
  | 0, s, l, c, h => by cases h
  | m + 1, s, l, c, h => by
    unfold loopP at h
    cases hs : p s with
    | none => rw [hs] at h; cases h
    | some q =>
      obtain ⟨d, c1⟩ := q
      rw [hs] at h
      simp only at h
      obtain ⟨a1, a2, a3, a4⟩ := hp s d c1 hs
      have split_take : ∀ j, s.take (c1 + j) = txt d ++ (s.drop c1).take j := fun j => by rw [List.take_add, a2]
      split at h
      · rename_i g1
        cases h
        have l1 := congrArg List.length g1
        rw [List.length_take, List.length_drop] at l1
        refine ⟨by simp, fun x hx => by rw [List.mem_singleton.mp hx]; exact a1, ?_, by omega, by simp at l1; omega⟩
        rw [split_take 1, g1]
        simp [TL.joinL]
      · split at h
        · rename_i g2
          cases hl : loopP p m (s.drop (c1 + 2)) with
          | none => rw [hl] at h; cases h
          | some q =>
            obtain ⟨l', c'⟩ := q
            rw [hl] at h
            cases h
            obtain ⟨b1, b2, b3, b4, b5⟩ := loop_back hp m _ _ _ hl
            rw [List.length_drop] at b5
            refine ⟨by simp, fun x hx => ?_, ?_, by omega, by omega⟩
            · rcases List.mem_cons.mp hx with z | z
              · rw [z]; exact a1
              · exact b2 x z
            · rw [show c' + c1 + 2 = c1 + (2 + c') by omega, split_take, List.take_add, g2, List.drop_drop, b3]
              cases l' with
              | nil => exact absurd rfl b1
              | cons e l' =>
                rw [List.map_cons, List.map_cons, List.map_cons, joinL_cons2]
                simp
        · cases h
/-- what is read was written just so -/
theorem back : ∀ (k : Nat) (s : List Nat) (d : D) (c : Nat), thP k s = some (d, c) → Th k d ∧ s.take c = txt d ∧ 0 < c ∧ c ≤ s.length
  | 0, s, d, c, h => by
    unfold thP at h
    split at h
    · cases h
    · exact flat_back h
  | k + 1, s, d, c, h => by
    unfold thP at h
    split at h
    · rename_i g
      obtain ⟨r, rfl⟩ : ∃ r, s = 40 :: r := by
        cases s with
        | nil => cases g
        | cons a r => exact ⟨r, by simpa using g⟩
      unfold tuP at h
      split at h
      · rename_i g2
        cases h
        refine ⟨by unfold Th; exact fun x hx => (nomatch hx), ?_, by decide, ?_⟩
        · show 40 :: r.take 1 = _
          have : r.take 1 = [41] := g2
          rw [this]
          rfl
        · have := congrArg List.length g2
          simp at this ⊢
          omega
      · cases hl : loopP (thP k) ((40 :: r).length + 1) ((40 :: r).drop 1) with
        | none => rw [hl] at h; cases h
        | some q =>
          obtain ⟨l, c'⟩ := q
          rw [hl] at h
          cases h
          obtain ⟨b1, b2, b3, b4, b5⟩ := loop_back (back k) _ _ _ _ hl
          refine ⟨by unfold Th; exact b2, ?_, by omega, by simp at b5 ⊢; omega⟩
          show 40 :: r.take c' = txt (.tup l)
          have b3' : r.take c' = _ := b3
          rw [b3']
          show _ = 40 :: (TL.joinL [44, 32] (txtL l) ++ [41])
          rw [txtL_map]
    · exact flat_back h
end K77

set_option maxRecDepth 100000
set_option maxHeartbeats 4000000
namespace K77
open PySem MI SX
abbrev lwC : TX := MI.tCmp .Lt (eBor 1) (eBlt1 (Str.ofString "len") (eBor 0))
abbrev lwB : SX := (sCons (sSet 3 (eIx (eBor 0) (eVar 1)))
    (sCons (sIf (MI.tCmp .Eq (eBor 3) (eK (.str (Str.ofString "\""))))
     (sCons (sRet (eTup (aCons (eMeth (Str.ofString "join") (eK (.str (Str.ofString ""))) (eBor 2)) (aCons (eBin .Add (eVar 1) (eK (.int 1))) aNil))))
      sNil)
     sNil)
    (sCons (sIf (MI.tCmp .Eq (eBor 3) (eK (.str (Str.ofString "\\"))))
     (sCons (sSet 1 (eBin .Add (eVar 1) (eK (.int 1))))
      (sCons (sSet 3 (eSl (eBor 0) (pYes (eVar 1)) (pYes (eBin .Add (eVar 1) (eK (.int 1))))))
      (sCons (sIf (MI.tCmp .NotIn (eBor 3) (eLst (aCons (eK (.str (Str.ofString "\""))) (aCons (eK (.str (Str.ofString "\\"))) aNil))))
       (sCons (sRet (eK .non))
        sNil)
       sNil)
      sNil)))
     sNil)
    (sCons (sIf (MI.tNot (MI.tChain .LtE .LtE (eK (.str (Str.ofString " "))) (eVar 3) (eK (.str (Str.ofString "~")))))
     (sCons (sRet (eK .non))
      sNil)
     sNil)
    (sCons (sApp 2 (eVar 3))
    (sCons (sSet 1 (eBin .Add (eVar 1) (eK (.int 1))))
    sNil))))))
abbrev lwR : SX := (sCons (sRet (eK .non)) sNil)
theorem ownSlot_2w (a b c : Sl) (ds : List D) : ownSlot [a, b, .own ds, c] 2 = some ds := rfl
theorem notin_twoL (x : List Nat) (h : x.length ≤ 1) : cmpD .NotIn (.str (S x)) (.lst [.str (S [34]), .str (S [92])]) = some (!decide (x = [34] ∨ x = [92])) := notin_two x h
theorem lw_loop {t : List Nat} (ht : t.length ≤ 4000000) (st : Store) : ∀ (j a m : Nat) (acc : List Nat) (x : Sl), t.length - a ≤ j → j < m → acc.length ≤ a →
    fin lwR (whileF lwC lwB m [.v (.str (S t)), .v (.int (a : Nat)), .own (acc.map ch), x] st) = .ok (toldT a acc (txP (t.drop a))) st := by
  have hb : t.length ≤ big := Nat.le_trans ht (by decide)
  intro j
  induction j using Nat.strongRecOn with
  | _ j ih =>
    intro a m acc x hj hm hacc
    obtain ⟨m, rfl⟩ : ∃ k, m = k + 1 := ⟨m - 1, by omega⟩
    unfold whileF
    cases hd : t.drop a with
    | nil =>
      have h0 := drop_nil hd
      simp only [MI.run, MI.strD, MI.lstOf, MI.known, MI.sPar, MI.sTry, MI.sRaise0, MI.sRaise1, MI.sParOwn, MI.sForR, MI.sStar, MI.starD, MI.eTupRg, MI.eLm, MI.eIsX, MI.eFld, MI.eDic0, MI.eLam, MI.xCat, MI.freed, MI.sNil, MI.sCons, MI.sIf, MI.sSet, MI.sSetL, MI.sRet, MI.sRetN, MI.sRetV, MI.sSub, MI.sAug, MI.sApp, MI.sOwn, MI.sSetT, MI.sFor, MI.sWhile, MI.eVar, MI.eBor, MI.eK, MI.eBin, MI.eNeg, MI.eNot, MI.eAnd, MI.eOr, MI.eT, MI.eIf, MI.eIx, MI.eSl, MI.eCall, MI.eInst, MI.eBlt1, MI.eBlt, MI.eMeth, MI.eTup, MI.eLst, MI.eOfA, MI.aNil, MI.aCons, MI.tCmp, MI.tChain, MI.tNot, MI.tAnd, MI.tOr, MI.tOf, MI.tYes, MI.pNo, MI.pYes, MI.boolOf, MI.blOf, MI.truth, MI.partD, MI.gOne, bind_ok, of_some, toS_ok, then_next, then_ret, then_brk, map_some, List.getElem?_cons_zero, List.getElem?_cons_succ, List.set_cons_zero, List.set_cons_succ, if_true, if_false, Bool.false_eq_true, reduceIte, fin_next, fin_ret, len_ok hb, cmp_lt, decide_eq_false (show ¬ (a : Int) < (t.length : Nat) by omega)]
      unfold txP
      rfl
    | cons c r =>
      obtain ⟨h1, h2, h3⟩ := drop_cons hd
      have ha : acc.length ≤ big := by omega
      have happ : ∀ e : Nat, (acc.map ch) ++ [D.str (S [e])] = (acc ++ [e]).map ch := fun e => by rw [List.map_append]; rfl
      have hlt : (acc.map ch).length < big := by
        rw [List.length_map]
        exact Nat.lt_of_le_of_lt (Nat.le_trans hacc (Nat.le_trans (Nat.le_of_lt h3) ht)) (by decide)
      by_cases hq : c = 34
      · subst hq
        have e : txP (34 :: r) = some ([], 1) := by
          cases r <;> (unfold txP; rfl)
        rw [e]
        simp only [MI.run, MI.strD, MI.lstOf, MI.known, MI.sPar, MI.sTry, MI.sRaise0, MI.sRaise1, MI.sParOwn, MI.sForR, MI.sStar, MI.starD, MI.eTupRg, MI.eLm, MI.eIsX, MI.eFld, MI.eDic0, MI.eLam, MI.xCat, MI.freed, MI.sNil, MI.sCons, MI.sIf, MI.sSet, MI.sSetL, MI.sRet, MI.sRetN, MI.sRetV, MI.sSub, MI.sAug, MI.sApp, MI.sOwn, MI.sSetT, MI.sFor, MI.sWhile, MI.eVar, MI.eBor, MI.eK, MI.eBin, MI.eNeg, MI.eNot, MI.eAnd, MI.eOr, MI.eT, MI.eIf, MI.eIx, MI.eSl, MI.eCall, MI.eInst, MI.eBlt1, MI.eBlt, MI.eMeth, MI.eTup, MI.eLst, MI.eOfA, MI.aNil, MI.aCons, MI.tCmp, MI.tChain, MI.tNot, MI.tAnd, MI.tOr, MI.tOf, MI.tYes, MI.pNo, MI.pYes, MI.boolOf, MI.blOf, MI.truth, MI.partD, MI.gOne, bind_ok, of_some, toS_ok, then_next, then_ret, then_brk, map_some, List.getElem?_cons_zero, List.getElem?_cons_succ, List.set_cons_zero, List.set_cons_succ, if_true, if_false, Bool.false_eq_true, reduceIte, fin_next, fin_ret, len_ok hb, cmp_lt, decide_eq_true (show (a : Int) < (t.length : Nat) by omega), ix_ok hb h1, l_q, eqS, decide_true, meth_join, l_empty, join_chars ha, op_add]
        simp only [toldT, List.append_nil]
        rfl
      · by_cases hs : c = 92
        · subst hs
          cases r with
          | nil =>
            have e : txP [92] = none := by unfold txP; rfl
            rw [e]
            have h5 : (t.drop (a + 1)).take 1 = [] := by rw [h2]; rfl
            have h6 := sl_1 hb (a + 1)
            rw [h5] at h6
            rw [show ((a + 1 : Nat) : Int) = (a : Int) + 1 by omega] at h6
            simp only [MI.run, MI.strD, MI.lstOf, MI.known, MI.sPar, MI.sTry, MI.sRaise0, MI.sRaise1, MI.sParOwn, MI.sForR, MI.sStar, MI.starD, MI.eTupRg, MI.eLm, MI.eIsX, MI.eFld, MI.eDic0, MI.eLam, MI.xCat, MI.freed, MI.sNil, MI.sCons, MI.sIf, MI.sSet, MI.sSetL, MI.sRet, MI.sRetN, MI.sRetV, MI.sSub, MI.sAug, MI.sApp, MI.sOwn, MI.sSetT, MI.sFor, MI.sWhile, MI.eVar, MI.eBor, MI.eK, MI.eBin, MI.eNeg, MI.eNot, MI.eAnd, MI.eOr, MI.eT, MI.eIf, MI.eIx, MI.eSl, MI.eCall, MI.eInst, MI.eBlt1, MI.eBlt, MI.eMeth, MI.eTup, MI.eLst, MI.eOfA, MI.aNil, MI.aCons, MI.tCmp, MI.tChain, MI.tNot, MI.tAnd, MI.tOr, MI.tOf, MI.tYes, MI.pNo, MI.pYes, MI.boolOf, MI.blOf, MI.truth, MI.partD, MI.gOne, bind_ok, of_some, toS_ok, then_next, then_ret, then_brk, map_some, List.getElem?_cons_zero, List.getElem?_cons_succ, List.set_cons_zero, List.set_cons_succ, if_true, if_false, Bool.false_eq_true, reduceIte, fin_next, fin_ret, len_ok hb, cmp_lt, decide_eq_true (show (a : Int) < (t.length : Nat) by omega), ix_ok hb h1, l_q, l_bs, eqS, show decide ([92] = [34]) = false from rfl, decide_true, op_add, h6, notin_twoL [] (by decide), show decide (([] : List Nat) = [34] ∨ ([] : List Nat) = [92]) = false from rfl, Bool.not_false]
            rfl
          | cons e r =>
            have h5 : (t.drop (a + 1)).take 1 = [e] := by rw [h2]; rfl
            have h6 := sl_1 hb (a + 1)
            rw [h5] at h6
            rw [show ((a + 1 : Nat) : Int) = (a : Int) + 1 by omega] at h6
            obtain ⟨g1, g2, g3⟩ := drop_cons h2
            by_cases he : e = 34 ∨ e = 92
            · have e1 : txP (92 :: e :: r) = (txP r).map fun q => (e :: q.1, q.2 + 2) := by
                show (if (92 : Nat) = 34 then _ else _) = _
                rw [if_neg (by decide), if_pos rfl, if_pos he]
              have hin : decide ([e] = [34] ∨ [e] = [92]) = true := decide_eq_true (by simpa using he)
              have r1 : 32 ≤ e := by omega
              have r2 : e ≤ 126 := by omega
              simp only [MI.run, MI.strD, MI.lstOf, MI.known, MI.sPar, MI.sTry, MI.sRaise0, MI.sRaise1, MI.sParOwn, MI.sForR, MI.sStar, MI.starD, MI.eTupRg, MI.eLm, MI.eIsX, MI.eFld, MI.eDic0, MI.eLam, MI.xCat, MI.freed, MI.sNil, MI.sCons, MI.sIf, MI.sSet, MI.sSetL, MI.sRet, MI.sRetN, MI.sRetV, MI.sSub, MI.sAug, MI.sApp, MI.sOwn, MI.sSetT, MI.sFor, MI.sWhile, MI.eVar, MI.eBor, MI.eK, MI.eBin, MI.eNeg, MI.eNot, MI.eAnd, MI.eOr, MI.eT, MI.eIf, MI.eIx, MI.eSl, MI.eCall, MI.eInst, MI.eBlt1, MI.eBlt, MI.eMeth, MI.eTup, MI.eLst, MI.eOfA, MI.aNil, MI.aCons, MI.tCmp, MI.tChain, MI.tNot, MI.tAnd, MI.tOr, MI.tOf, MI.tYes, MI.pNo, MI.pYes, MI.boolOf, MI.blOf, MI.truth, MI.partD, MI.gOne, bind_ok, of_some, toS_ok, then_next, then_ret, then_brk, map_some, List.getElem?_cons_zero, List.getElem?_cons_succ, List.set_cons_zero, List.set_cons_succ, if_true, if_false, Bool.false_eq_true, reduceIte, fin_next, fin_ret, len_ok hb, cmp_lt, decide_eq_true (show (a : Int) < (t.length : Nat) by omega), ix_ok hb h1, l_q, l_bs, eqS, show decide ([92] = [34]) = false from rfl, decide_true, op_add, h6, notin_twoL [e] (Nat.le_refl 1), hin, Bool.not_true, l_sp, l_til, le_one, decide_eq_true r1, decide_eq_true r2, ownSlot_2w, hlt, happ]
              have := ih (t.length - (a + 2)) (by omega) (a + 2) m (acc ++ [e]) (.v (.str (S [e]))) (Nat.le_refl _) (by omega) (by rw [List.length_append, List.length_singleton]; omega)
              rw [show t.drop (a + 2) = r from g2, show ((a + 2 : Nat) : Int) = (a : Int) + 1 + 1 by omega] at this
              rw [this, e1]
              cases txP r with
              | none => rfl
              | some q =>
                obtain ⟨l, k⟩ := q
                unfold toldT
                simp only [Option.map_some, List.append_assoc]
                refine congrArg (fun z => Res.ok (D.tup [D.str (S (acc ++ ([e] ++ l))), D.int z]) st) ?_
                omega
            · have e1 : txP (92 :: e :: r) = none := by
                show (if (92 : Nat) = 34 then _ else _) = _
                rw [if_neg (by decide), if_pos rfl, if_neg he]
              have hin : decide ([e] = [34] ∨ [e] = [92]) = false := decide_eq_false (by simpa using he)
              rw [e1]
              simp only [MI.run, MI.strD, MI.lstOf, MI.known, MI.sPar, MI.sTry, MI.sRaise0, MI.sRaise1, MI.sParOwn, MI.sForR, MI.sStar, MI.starD, MI.eTupRg, MI.eLm, MI.eIsX, MI.eFld, MI.eDic0, MI.eLam, MI.xCat, MI.freed, MI.sNil, MI.sCons, MI.sIf, MI.sSet, MI.sSetL, MI.sRet, MI.sRetN, MI.sRetV, MI.sSub, MI.sAug, MI.sApp, MI.sOwn, MI.sSetT, MI.sFor, MI.sWhile, MI.eVar, MI.eBor, MI.eK, MI.eBin, MI.eNeg, MI.eNot, MI.eAnd, MI.eOr, MI.eT, MI.eIf, MI.eIx, MI.eSl, MI.eCall, MI.eInst, MI.eBlt1, MI.eBlt, MI.eMeth, MI.eTup, MI.eLst, MI.eOfA, MI.aNil, MI.aCons, MI.tCmp, MI.tChain, MI.tNot, MI.tAnd, MI.tOr, MI.tOf, MI.tYes, MI.pNo, MI.pYes, MI.boolOf, MI.blOf, MI.truth, MI.partD, MI.gOne, bind_ok, of_some, toS_ok, then_next, then_ret, then_brk, map_some, List.getElem?_cons_zero, List.getElem?_cons_succ, List.set_cons_zero, List.set_cons_succ, if_true, if_false, Bool.false_eq_true, reduceIte, fin_next, fin_ret, len_ok hb, cmp_lt, decide_eq_true (show (a : Int) < (t.length : Nat) by omega), ix_ok hb h1, l_q, l_bs, eqS, show decide ([92] = [34]) = false from rfl, decide_true, op_add, h6, notin_twoL [e] (Nat.le_refl 1), hin, Bool.not_false]
              rfl
        · have e1 : txP (c :: r) = if 32 ≤ c ∧ c ≤ 126 then (txP r).map fun q => (c :: q.1, q.2 + 1) else none := by
            cases r with
            | nil =>
              have : txP [c] = none := by unfold txP; rw [if_neg hq]
              rw [this]
              split <;> (first | rfl | (unfold txP; rfl))
            | cons e r =>
              show (if c = 34 then _ else _) = _
              rw [if_neg hq, if_neg hs]
          have n1 : decide ([c] = [34]) = false := decide_eq_false (by simpa using hq)
          have n2 : decide ([c] = [92]) = false := decide_eq_false (by simpa using hs)
          by_cases hp : 32 ≤ c ∧ c ≤ 126
          · rw [if_pos hp] at e1
            simp only [MI.run, MI.strD, MI.lstOf, MI.known, MI.sPar, MI.sTry, MI.sRaise0, MI.sRaise1, MI.sParOwn, MI.sForR, MI.sStar, MI.starD, MI.eTupRg, MI.eLm, MI.eIsX, MI.eFld, MI.eDic0, MI.eLam, MI.xCat, MI.freed, MI.sNil, MI.sCons, MI.sIf, MI.sSet, MI.sSetL, MI.sRet, MI.sRetN, MI.sRetV, MI.sSub, MI.sAug, MI.sApp, MI.sOwn, MI.sSetT, MI.sFor, MI.sWhile, MI.eVar, MI.eBor, MI.eK, MI.eBin, MI.eNeg, MI.eNot, MI.eAnd, MI.eOr, MI.eT, MI.eIf, MI.eIx, MI.eSl, MI.eCall, MI.eInst, MI.eBlt1, MI.eBlt, MI.eMeth, MI.eTup, MI.eLst, MI.eOfA, MI.aNil, MI.aCons, MI.tCmp, MI.tChain, MI.tNot, MI.tAnd, MI.tOr, MI.tOf, MI.tYes, MI.pNo, MI.pYes, MI.boolOf, MI.blOf, MI.truth, MI.partD, MI.gOne, bind_ok, of_some, toS_ok, then_next, then_ret, then_brk, map_some, List.getElem?_cons_zero, List.getElem?_cons_succ, List.set_cons_zero, List.set_cons_succ, if_true, if_false, Bool.false_eq_true, reduceIte, fin_next, fin_ret, len_ok hb, cmp_lt, decide_eq_true (show (a : Int) < (t.length : Nat) by omega), ix_ok hb h1, l_q, l_bs, eqS, n1, n2, Bool.not_false, op_add, Bool.not_true, l_sp, l_til, le_one, decide_eq_true hp.1, decide_eq_true hp.2, ownSlot_2w, hlt, happ]
            have := ih (t.length - (a + 1)) (by omega) (a + 1) m (acc ++ [c]) (.v (.str (S [c]))) (Nat.le_refl _) (by omega) (by rw [List.length_append, List.length_singleton]; omega)
            rw [h2, show ((a + 1 : Nat) : Int) = (a : Int) + 1 by omega] at this
            rw [this, e1]
            cases txP r with
            | none => rfl
            | some q =>
              obtain ⟨l, k⟩ := q
              unfold toldT
              simp only [Option.map_some, List.append_assoc]
              refine congrArg (fun z => Res.ok (D.tup [D.str (S (acc ++ ([c] ++ l))), D.int z]) st) ?_
              omega
          · rw [if_neg hp] at e1
            rw [e1]
            by_cases p1 : 32 ≤ c
            · have p2 : ¬ c ≤ 126 := fun z => hp ⟨p1, z⟩
              simp only [MI.run, MI.strD, MI.lstOf, MI.known, MI.sPar, MI.sTry, MI.sRaise0, MI.sRaise1, MI.sParOwn, MI.sForR, MI.sStar, MI.starD, MI.eTupRg, MI.eLm, MI.eIsX, MI.eFld, MI.eDic0, MI.eLam, MI.xCat, MI.freed, MI.sNil, MI.sCons, MI.sIf, MI.sSet, MI.sSetL, MI.sRet, MI.sRetN, MI.sRetV, MI.sSub, MI.sAug, MI.sApp, MI.sOwn, MI.sSetT, MI.sFor, MI.sWhile, MI.eVar, MI.eBor, MI.eK, MI.eBin, MI.eNeg, MI.eNot, MI.eAnd, MI.eOr, MI.eT, MI.eIf, MI.eIx, MI.eSl, MI.eCall, MI.eInst, MI.eBlt1, MI.eBlt, MI.eMeth, MI.eTup, MI.eLst, MI.eOfA, MI.aNil, MI.aCons, MI.tCmp, MI.tChain, MI.tNot, MI.tAnd, MI.tOr, MI.tOf, MI.tYes, MI.pNo, MI.pYes, MI.boolOf, MI.blOf, MI.truth, MI.partD, MI.gOne, bind_ok, of_some, toS_ok, then_next, then_ret, then_brk, map_some, List.getElem?_cons_zero, List.getElem?_cons_succ, List.set_cons_zero, List.set_cons_succ, if_true, if_false, Bool.false_eq_true, reduceIte, fin_next, fin_ret, len_ok hb, cmp_lt, decide_eq_true (show (a : Int) < (t.length : Nat) by omega), ix_ok hb h1, l_q, l_bs, eqS, n1, n2, Bool.not_false, op_add, Bool.not_true, l_sp, l_til, le_one, decide_eq_true p1, decide_eq_false p2]
              rfl
            · simp only [MI.run, MI.strD, MI.lstOf, MI.known, MI.sPar, MI.sTry, MI.sRaise0, MI.sRaise1, MI.sParOwn, MI.sForR, MI.sStar, MI.starD, MI.eTupRg, MI.eLm, MI.eIsX, MI.eFld, MI.eDic0, MI.eLam, MI.xCat, MI.freed, MI.sNil, MI.sCons, MI.sIf, MI.sSet, MI.sSetL, MI.sRet, MI.sRetN, MI.sRetV, MI.sSub, MI.sAug, MI.sApp, MI.sOwn, MI.sSetT, MI.sFor, MI.sWhile, MI.eVar, MI.eBor, MI.eK, MI.eBin, MI.eNeg, MI.eNot, MI.eAnd, MI.eOr, MI.eT, MI.eIf, MI.eIx, MI.eSl, MI.eCall, MI.eInst, MI.eBlt1, MI.eBlt, MI.eMeth, MI.eTup, MI.eLst, MI.eOfA, MI.aNil, MI.aCons, MI.tCmp, MI.tChain, MI.tNot, MI.tAnd, MI.tOr, MI.tOf, MI.tYes, MI.pNo, MI.pYes, MI.boolOf, MI.blOf, MI.truth, MI.partD, MI.gOne, bind_ok, of_some, toS_ok, then_next, then_ret, then_brk, map_some, List.getElem?_cons_zero, List.getElem?_cons_succ, List.set_cons_zero, List.set_cons_succ, if_true, if_false, Bool.false_eq_true, reduceIte, fin_next, fin_ret, len_ok hb, cmp_lt, decide_eq_true (show (a : Int) < (t.length : Nat) by omega), ix_ok hb h1, l_q, l_bs, eqS, n1, n2, Bool.not_false, op_add, Bool.not_true, l_sp, l_til, le_one, decide_eq_false p1]
              rfl
/-- _law_read_word, behind a stroke -/
theorem lword_ok (n : Nat) {t : List Nat} (ht : t.length ≤ 4000000) (a : Nat) (st : Store) : tab G fs (n + 1) (Str.ofString "_law_read_word") [.str (S t), .int (a : Nat)] st = .ok (toldT a [] (txP (t.drop a))) st := by
  rw [at_law_read_word]
  unfold b_law_read_word
  refine (run_own (ds := []) (st1 := st) rfl).trans ?_
  rw [run_whileX]
  exact lw_loop ht st (t.length - a) a lots [] .no (Nat.le_refl _) (by
    have : (4000000 : Nat) < lots := by decide
    omega) (Nat.zero_le _)
abbrev lnC : TX := (MI.tAnd (MI.tCmp .Lt (eBor 2) (eBlt1 (Str.ofString "len") (eBor 0))) (MI.tOr (MI.tCmp .In (eIx (eBor 0) (eVar 2)) (eK (.str (Str.ofString "0123456789")))) (MI.tAnd (MI.tCmp .Eq (eBor 2) (eBor 1)) (MI.tCmp .Eq (eIx (eBor 0) (eVar 2)) (eK (.str (Str.ofString "-")))))))
abbrev lnB : SX := (sCons (sSet 2 (eBin .Add (eVar 2) (eK (.int 1)))) sNil)
theorem ln_loop {t : List Nat} (ht : t.length ≤ big) (a : Nat) (st : Store) : ∀ (g : List Nat) (e m : Nat), (t.drop e).takeWhile isF = g → g.length < m → (e = a → (t.drop a).take 1 ≠ [45]) → a ≤ e →
    whileF lnC lnB m [.v (.str (S t)), .v (.int (a : Nat)), .v (.int (e : Nat)), .no, .no] st =
      .next [.v (.str (S t)), .v (.int (a : Nat)), .v (.int ((e + g.length : Nat) : Int)), .no, .no] st := by
  intro g
  induction g with
  | nil =>
    intro e m hg hm ha hle
    obtain ⟨m, rfl⟩ : ∃ k, m = k + 1 := ⟨m - 1, by simp at hm; omega⟩
    unfold whileF
    cases hd : t.drop e with
    | nil =>
      have := drop_nil hd
      simp only [MI.run, MI.strD, MI.lstOf, MI.known, MI.sPar, MI.sTry, MI.sRaise0, MI.sRaise1, MI.sParOwn, MI.sForR, MI.sStar, MI.starD, MI.eTupRg, MI.eLm, MI.eIsX, MI.eFld, MI.eDic0, MI.eLam, MI.xCat, MI.freed, MI.sNil, MI.sCons, MI.sIf, MI.sSet, MI.sSetL, MI.sRet, MI.sRetN, MI.sRetV, MI.sSub, MI.sAug, MI.sApp, MI.sOwn, MI.sSetT, MI.sFor, MI.sWhile, MI.eVar, MI.eBor, MI.eK, MI.eBin, MI.eNeg, MI.eNot, MI.eAnd, MI.eOr, MI.eT, MI.eIf, MI.eIx, MI.eSl, MI.eCall, MI.eInst, MI.eBlt1, MI.eBlt, MI.eMeth, MI.eTup, MI.eLst, MI.eOfA, MI.aNil, MI.aCons, MI.tCmp, MI.tChain, MI.tNot, MI.tAnd, MI.tOr, MI.tOf, MI.tYes, MI.pNo, MI.pYes, MI.boolOf, MI.blOf, MI.truth, MI.partD, MI.gOne, bind_ok, of_some, toS_ok, then_next, then_ret, then_brk, map_some, List.getElem?_cons_zero, List.getElem?_cons_succ, List.set_cons_zero, List.set_cons_succ, if_true, if_false, Bool.false_eq_true, reduceIte, len_ok ht, cmp_lt, decide_eq_false (show ¬ (e : Int) < (t.length : Nat) by omega)]
      rfl
    | cons c r =>
      obtain ⟨h1, h2, h3⟩ := drop_cons hd
      rw [hd, List.takeWhile_cons] at hg
      have hf : isF c = false := by
        cases hq : isF c with
        | false => rfl
        | true => rw [hq] at hg; simp at hg
      by_cases hea : e = a
      · subst hea
        have hne : decide ([c] = [45]) = false := decide_eq_false fun z => ha rfl (by rw [hd, ← z]; rfl)
        simp only [MI.run, MI.strD, MI.lstOf, MI.known, MI.sPar, MI.sTry, MI.sRaise0, MI.sRaise1, MI.sParOwn, MI.sForR, MI.sStar, MI.starD, MI.eTupRg, MI.eLm, MI.eIsX, MI.eFld, MI.eDic0, MI.eLam, MI.xCat, MI.freed, MI.sNil, MI.sCons, MI.sIf, MI.sSet, MI.sSetL, MI.sRet, MI.sRetN, MI.sRetV, MI.sSub, MI.sAug, MI.sApp, MI.sOwn, MI.sSetT, MI.sFor, MI.sWhile, MI.eVar, MI.eBor, MI.eK, MI.eBin, MI.eNeg, MI.eNot, MI.eAnd, MI.eOr, MI.eT, MI.eIf, MI.eIx, MI.eSl, MI.eCall, MI.eInst, MI.eBlt1, MI.eBlt, MI.eMeth, MI.eTup, MI.eLst, MI.eOfA, MI.aNil, MI.aCons, MI.tCmp, MI.tChain, MI.tNot, MI.tAnd, MI.tOr, MI.tOf, MI.tYes, MI.pNo, MI.pYes, MI.boolOf, MI.blOf, MI.truth, MI.partD, MI.gOne, bind_ok, of_some, toS_ok, then_next, then_ret, then_brk, map_some, List.getElem?_cons_zero, List.getElem?_cons_succ, List.set_cons_zero, List.set_cons_succ, if_true, if_false, Bool.false_eq_true, reduceIte, len_ok ht, cmp_lt, decide_eq_true (show (e : Int) < (t.length : Nat) by omega), ix_ok ht h1, fig_in, hf, cmp_eqI, beq_self_eq_true, l_minus, eqS, hne]
        rfl
      · have hbe : ((e : Int) == (a : Int)) = false := beq_eq_false_iff_ne.mpr (by omega)
        simp only [MI.run, MI.strD, MI.lstOf, MI.known, MI.sPar, MI.sTry, MI.sRaise0, MI.sRaise1, MI.sParOwn, MI.sForR, MI.sStar, MI.starD, MI.eTupRg, MI.eLm, MI.eIsX, MI.eFld, MI.eDic0, MI.eLam, MI.xCat, MI.freed, MI.sNil, MI.sCons, MI.sIf, MI.sSet, MI.sSetL, MI.sRet, MI.sRetN, MI.sRetV, MI.sSub, MI.sAug, MI.sApp, MI.sOwn, MI.sSetT, MI.sFor, MI.sWhile, MI.eVar, MI.eBor, MI.eK, MI.eBin, MI.eNeg, MI.eNot, MI.eAnd, MI.eOr, MI.eT, MI.eIf, MI.eIx, MI.eSl, MI.eCall, MI.eInst, MI.eBlt1, MI.eBlt, MI.eMeth, MI.eTup, MI.eLst, MI.eOfA, MI.aNil, MI.aCons, MI.tCmp, MI.tChain, MI.tNot, MI.tAnd, MI.tOr, MI.tOf, MI.tYes, MI.pNo, MI.pYes, MI.boolOf, MI.blOf, MI.truth, MI.partD, MI.gOne, bind_ok, of_some, toS_ok, then_next, then_ret, then_brk, map_some, List.getElem?_cons_zero, List.getElem?_cons_succ, List.set_cons_zero, List.set_cons_succ, if_true, if_false, Bool.false_eq_true, reduceIte, len_ok ht, cmp_lt, decide_eq_true (show (e : Int) < (t.length : Nat) by omega), ix_ok ht h1, fig_in, hf, cmp_eqI, hbe]
        rfl
  | cons c g ih =>
    intro e m hg hm ha hle
    obtain ⟨m, rfl⟩ : ∃ k, m = k + 1 := ⟨m - 1, by simp at hm; omega⟩
    unfold whileF
    cases hd : t.drop e with
    | nil => rw [hd] at hg; cases hg
    | cons c' r =>
      obtain ⟨h1, h2, h3⟩ := drop_cons hd
      rw [hd, List.takeWhile_cons] at hg
      cases hq : isF c' with
      | false => rw [hq] at hg; simp at hg
      | true =>
        rw [hq] at hg
        simp only [if_true, List.cons.injEq] at hg
        obtain ⟨rfl, hg⟩ := hg
        simp only [MI.run, MI.strD, MI.lstOf, MI.known, MI.sPar, MI.sTry, MI.sRaise0, MI.sRaise1, MI.sParOwn, MI.sForR, MI.sStar, MI.starD, MI.eTupRg, MI.eLm, MI.eIsX, MI.eFld, MI.eDic0, MI.eLam, MI.xCat, MI.freed, MI.sNil, MI.sCons, MI.sIf, MI.sSet, MI.sSetL, MI.sRet, MI.sRetN, MI.sRetV, MI.sSub, MI.sAug, MI.sApp, MI.sOwn, MI.sSetT, MI.sFor, MI.sWhile, MI.eVar, MI.eBor, MI.eK, MI.eBin, MI.eNeg, MI.eNot, MI.eAnd, MI.eOr, MI.eT, MI.eIf, MI.eIx, MI.eSl, MI.eCall, MI.eInst, MI.eBlt1, MI.eBlt, MI.eMeth, MI.eTup, MI.eLst, MI.eOfA, MI.aNil, MI.aCons, MI.tCmp, MI.tChain, MI.tNot, MI.tAnd, MI.tOr, MI.tOf, MI.tYes, MI.pNo, MI.pYes, MI.boolOf, MI.blOf, MI.truth, MI.partD, MI.gOne, bind_ok, of_some, toS_ok, then_next, then_ret, then_brk, map_some, List.getElem?_cons_zero, List.getElem?_cons_succ, List.set_cons_zero, List.set_cons_succ, if_true, if_false, Bool.false_eq_true, reduceIte, len_ok ht, cmp_lt, decide_eq_true (show (e : Int) < (t.length : Nat) by omega), ix_ok ht h1, fig_in, hq, op_add]
        have := ih (e + 1) m (by rw [h2]; exact hg) (by simp at hm; omega) (fun hea => absurd hea (by omega)) (by omega)
        rw [show ((e + 1 : Nat) : Int) = (e : Int) + 1 by omega] at this
        rw [this]
        rw [List.length_cons]
        refine congrArg (fun z => RS.next [.v (.str (S t)), .v (.int (a : Nat)), .v (.int z), .no, .no] st) ?_
        omega
theorem sl_n1 {t : List Nat} (h : t.length ≤ big) : slD (.str (S t)) none (some 1) = some (.str (S (t.take 1))) := by
  show (if (S t).length ≤ big then some (D.str (L2.cutS (S t) none (some 1))) else none) = _
  rw [S_len, if_pos h]
  refine congrArg (fun z => some (D.str z)) (TL.ext_tl ?_)
  have := congrArg (fun d => match d with | some (D.str z) => z.cps.toList | _ => []) (sl_ok h 0 1)
  have e : slD (.str (S t)) (some ((0 : Nat) : Int)) (some ((1 : Nat) : Int)) = some (.str (L2.cutS (S t) (some 0) (some 1))) := by
    show (if (S t).length ≤ big then some (D.str (L2.cutS (S t) (some 0) (some 1))) else none) = _
    rw [S_len, if_pos h]
  rw [e] at this
  refine Eq.trans ?_ this
  rfl
theorem cut_1n (t : List Nat) : L2.cutS (S t) (some 1) none = S (t.drop 1) := by
  refine TL.ext_tl ?_
  show (t.drop (HT.sIx (S t).length 0 (some (1 : Int)))).take (HT.sIx (S t).length (S t).length none - HT.sIx (S t).length 0 (some (1 : Int))) = t.drop 1
  rw [show HT.sIx (S t).length 0 (some (1 : Int)) = min 1 (S t).length from HT.sIx_nat .., S_len]
  by_cases ha : 1 ≤ t.length
  · rw [Nat.min_eq_left ha]
    refine List.take_of_length_le ?_
    rw [List.length_drop]
    show _ ≤ t.length - 1
    omega
  · have : t = [] := List.eq_nil_of_length_eq_zero (by omega)
    subst this
    rfl
theorem sl_1n {t : List Nat} (h : t.length ≤ big) : slD (.str (S t)) (some 1) none = some (.str (S (t.drop 1))) := by
  show (if (S t).length ≤ big then some (D.str (L2.cutS (S t) (some 1) none)) else none) = _
  rw [S_len, if_pos h, cut_1n]
theorem sgn_len (s : List Nat) : (sgn s).length = if s.take 1 = [45] then 1 else 0 := by
  unfold sgn
  split <;> rfl
/-- _law_read_number -/
theorem lnum_ok (n : Nat) {t : List Nat} (ht : t.length ≤ 4000000) (a : Nat) (st : Store) : tab G fs (n + 1) (Str.ofString "_law_read_number") [.str (S t), .int (a : Nat)] st = .ok (told a (numP (t.drop a))) st := by
  have hb : t.length ≤ big := Nat.le_trans ht (by decide)
  rw [at_law_read_number]
  unfold b_law_read_number
  have hlen : (sgn (t.drop a)).length + (figs (t.drop a)).length ≤ t.length := by
    have := word_eq (t.drop a)
    have h3 := congrArg List.length this
    rw [List.length_take, List.length_append, List.length_drop] at h3
    omega
  have hlots : (4000000 : Nat) < lots := by decide
  have e2 : whileF lnC lnB lots [.v (.str (S t)), .v (.int (a : Nat)), .v (.int (a : Nat)), .no, .no] st = .next [.v (.str (S t)), .v (.int (a : Nat)), .v (.int ((a + (sgn (t.drop a)).length + (figs (t.drop a)).length : Nat) : Int)), .no, .no] st := by
    by_cases hsg : (t.drop a).take 1 = [45]
    · have hl1 : (sgn (t.drop a)).length = 1 := by rw [sgn_len, if_pos hsg]
      have e := ln_loop hb a st (figs (t.drop a)) (a + 1) (lots - 1) (by
        unfold figs
        rw [hl1, List.drop_drop]) (by omega) (fun z => absurd z (by omega)) (by omega)
      obtain ⟨r, hr⟩ := take1_ne.mp hsg
      obtain ⟨h1, h2, h3⟩ := drop_cons hr
      rw [hl1]
      obtain ⟨q, hq⟩ : ∃ q, lots = q + 1 := ⟨lots - 1, by omega⟩
      rw [hq]
      rw [hq, Nat.add_sub_cancel] at e
      unfold whileF
      simp only [MI.run, MI.strD, MI.lstOf, MI.known, MI.sPar, MI.sTry, MI.sRaise0, MI.sRaise1, MI.sParOwn, MI.sForR, MI.sStar, MI.starD, MI.eTupRg, MI.eLm, MI.eIsX, MI.eFld, MI.eDic0, MI.eLam, MI.xCat, MI.freed, MI.sNil, MI.sCons, MI.sIf, MI.sSet, MI.sSetL, MI.sRet, MI.sRetN, MI.sRetV, MI.sSub, MI.sAug, MI.sApp, MI.sOwn, MI.sSetT, MI.sFor, MI.sWhile, MI.eVar, MI.eBor, MI.eK, MI.eBin, MI.eNeg, MI.eNot, MI.eAnd, MI.eOr, MI.eT, MI.eIf, MI.eIx, MI.eSl, MI.eCall, MI.eInst, MI.eBlt1, MI.eBlt, MI.eMeth, MI.eTup, MI.eLst, MI.eOfA, MI.aNil, MI.aCons, MI.tCmp, MI.tChain, MI.tNot, MI.tAnd, MI.tOr, MI.tOf, MI.tYes, MI.pNo, MI.pYes, MI.boolOf, MI.blOf, MI.truth, MI.partD, MI.gOne, bind_ok, of_some, toS_ok, then_next, then_ret, then_brk, map_some, List.getElem?_cons_zero, List.getElem?_cons_succ, List.set_cons_zero, List.set_cons_succ, if_true, if_false, Bool.false_eq_true, reduceIte, len_ok hb, cmp_lt, decide_eq_true (show (a : Int) < (t.length : Nat) by omega), ix_ok hb h1, fig_in, show isF 45 = false from rfl, cmp_eqI, beq_self_eq_true, l_minus, eqS, decide_true, op_add]
      rw [show ((a + 1 : Nat) : Int) = (a : Int) + 1 by omega] at e
      exact e
    · have hl0 : (sgn (t.drop a)).length = 0 := by rw [sgn_len, if_neg hsg]
      rw [hl0, Nat.add_zero]
      exact ln_loop hb a st (figs (t.drop a)) a lots (by
        unfold figs
        rw [hl0]
        rfl) (by omega) (fun _ => hsg) (Nat.le_refl _)
  have e3 := sl_ok hb a (a + (sgn (t.drop a)).length + (figs (t.drop a)).length)
  rw [show a + (sgn (t.drop a)).length + (figs (t.drop a)).length - a = (sgn (t.drop a)).length + (figs (t.drop a)).length by omega, word_eq] at e3
  refine (run_set (d := .int (a : Nat)) (st1 := st) rfl).trans ?_
  refine (run_while e2).trans ?_
  have e4 : (eSl (eBor 0) (pYes (eVar 1)) (pYes (eVar 2))) [.v (.str (S t)), .v (.int (a : Nat)), .v (.int ((a + (sgn (t.drop a)).length + (figs (t.drop a)).length : Nat) : Int)), .no, .no] st = .ok (.str (S (sgn (t.drop a) ++ figs (t.drop a)))) st := by
    simp only [MI.run, MI.strD, MI.lstOf, MI.known, MI.sPar, MI.sTry, MI.sRaise0, MI.sRaise1, MI.sParOwn, MI.sForR, MI.sStar, MI.starD, MI.eTupRg, MI.eLm, MI.eIsX, MI.eFld, MI.eDic0, MI.eLam, MI.xCat, MI.freed, MI.sNil, MI.sCons, MI.sIf, MI.sSet, MI.sSetL, MI.sRet, MI.sRetN, MI.sRetV, MI.sSub, MI.sAug, MI.sApp, MI.sOwn, MI.sSetT, MI.sFor, MI.sWhile, MI.eVar, MI.eBor, MI.eK, MI.eBin, MI.eNeg, MI.eNot, MI.eAnd, MI.eOr, MI.eT, MI.eIf, MI.eIx, MI.eSl, MI.eCall, MI.eInst, MI.eBlt1, MI.eBlt, MI.eMeth, MI.eTup, MI.eLst, MI.eOfA, MI.aNil, MI.aCons, MI.tCmp, MI.tChain, MI.tNot, MI.tAnd, MI.tOr, MI.tOf, MI.tYes, MI.pNo, MI.pYes, MI.boolOf, MI.blOf, MI.truth, MI.partD, MI.gOne, bind_ok, of_some, toS_ok, then_next, then_ret, then_brk, map_some, List.getElem?_cons_zero, List.getElem?_cons_succ, List.set_cons_zero, List.set_cons_succ, if_true, if_false, Bool.false_eq_true, reduceIte, e3]
  refine (run_set e4).trans ?_
  have hw : (sgn (t.drop a) ++ figs (t.drop a)).length ≤ big := by
    rw [← word_eq, List.length_take, List.length_drop]
    omega
  have e5 : (MI.eIf (MI.tCmp .Eq (eSl (eBor 3) pNo (pYes (eK (.int 1)))) (eK (.str (Str.ofString "-")))) (eSl (eBor 3) (pYes (eK (.int 1))) pNo) (eVar 3)) [.v (.str (S t)), .v (.int (a : Nat)), .v (.int ((a + (sgn (t.drop a)).length + (figs (t.drop a)).length : Nat) : Int)), .v (.str (S (sgn (t.drop a) ++ figs (t.drop a)))), .no] st = .ok (.str (S (figs (t.drop a)))) st := by
    have hd : decide ((sgn (t.drop a) ++ figs (t.drop a)).take 1 = [45]) = decide ((t.drop a).take 1 = [45]) := by
      by_cases hsg : (t.drop a).take 1 = [45]
      · rw [decide_eq_true hsg]
        have : sgn (t.drop a) = [45] := by unfold sgn; rw [if_pos hsg]
        rw [this]
        rfl
      · rw [decide_eq_false hsg]
        have : sgn (t.drop a) = [] := by unfold sgn; rw [if_neg hsg]
        rw [this, List.nil_append]
        refine decide_eq_false fun z => ?_
        obtain ⟨r, hr⟩ := take1_ne.mp z
        have := figs_all (t.drop a) 45 (by rw [hr]; exact List.mem_cons_self)
        exact absurd this (by decide)
    simp only [MI.run, MI.strD, MI.lstOf, MI.known, MI.sPar, MI.sTry, MI.sRaise0, MI.sRaise1, MI.sParOwn, MI.sForR, MI.sStar, MI.starD, MI.eTupRg, MI.eLm, MI.eIsX, MI.eFld, MI.eDic0, MI.eLam, MI.xCat, MI.freed, MI.sNil, MI.sCons, MI.sIf, MI.sSet, MI.sSetL, MI.sRet, MI.sRetN, MI.sRetV, MI.sSub, MI.sAug, MI.sApp, MI.sOwn, MI.sSetT, MI.sFor, MI.sWhile, MI.eVar, MI.eBor, MI.eK, MI.eBin, MI.eNeg, MI.eNot, MI.eAnd, MI.eOr, MI.eT, MI.eIf, MI.eIx, MI.eSl, MI.eCall, MI.eInst, MI.eBlt1, MI.eBlt, MI.eMeth, MI.eTup, MI.eLst, MI.eOfA, MI.aNil, MI.aCons, MI.tCmp, MI.tChain, MI.tNot, MI.tAnd, MI.tOr, MI.tOf, MI.tYes, MI.pNo, MI.pYes, MI.boolOf, MI.blOf, MI.truth, MI.partD, MI.gOne, bind_ok, of_some, toS_ok, then_next, then_ret, then_brk, map_some, List.getElem?_cons_zero, List.getElem?_cons_succ, List.set_cons_zero, List.set_cons_succ, if_true, if_false, Bool.false_eq_true, reduceIte, sl_n1 hw, l_minus, eqS, hd]
    by_cases hsg : (t.drop a).take 1 = [45]
    · have hq : sgn (t.drop a) = [45] := by unfold sgn; rw [if_pos hsg]
      rw [decide_eq_true hsg]
      rw [hq] at hw
      simp only [MI.run, MI.strD, MI.lstOf, MI.known, MI.sPar, MI.sTry, MI.sRaise0, MI.sRaise1, MI.sParOwn, MI.sForR, MI.sStar, MI.starD, MI.eTupRg, MI.eLm, MI.eIsX, MI.eFld, MI.eDic0, MI.eLam, MI.xCat, MI.freed, MI.sNil, MI.sCons, MI.sIf, MI.sSet, MI.sSetL, MI.sRet, MI.sRetN, MI.sRetV, MI.sSub, MI.sAug, MI.sApp, MI.sOwn, MI.sSetT, MI.sFor, MI.sWhile, MI.eVar, MI.eBor, MI.eK, MI.eBin, MI.eNeg, MI.eNot, MI.eAnd, MI.eOr, MI.eT, MI.eIf, MI.eIx, MI.eSl, MI.eCall, MI.eInst, MI.eBlt1, MI.eBlt, MI.eMeth, MI.eTup, MI.eLst, MI.eOfA, MI.aNil, MI.aCons, MI.tCmp, MI.tChain, MI.tNot, MI.tAnd, MI.tOr, MI.tOf, MI.tYes, MI.pNo, MI.pYes, MI.boolOf, MI.blOf, MI.truth, MI.partD, MI.gOne, bind_ok, of_some, toS_ok, then_next, then_ret, then_brk, map_some, List.getElem?_cons_zero, List.getElem?_cons_succ, List.set_cons_zero, List.set_cons_succ, if_true, if_false, Bool.false_eq_true, reduceIte, hq, sl_1n hw]
      rfl
    · have hq : sgn (t.drop a) = [] := by unfold sgn; rw [if_neg hsg]
      rw [decide_eq_false hsg]
      simp only [MI.run, MI.strD, MI.lstOf, MI.known, MI.sPar, MI.sTry, MI.sRaise0, MI.sRaise1, MI.sParOwn, MI.sForR, MI.sStar, MI.starD, MI.eTupRg, MI.eLm, MI.eIsX, MI.eFld, MI.eDic0, MI.eLam, MI.xCat, MI.freed, MI.sNil, MI.sCons, MI.sIf, MI.sSet, MI.sSetL, MI.sRet, MI.sRetN, MI.sRetV, MI.sSub, MI.sAug, MI.sApp, MI.sOwn, MI.sSetT, MI.sFor, MI.sWhile, MI.eVar, MI.eBor, MI.eK, MI.eBin, MI.eNeg, MI.eNot, MI.eAnd, MI.eOr, MI.eT, MI.eIf, MI.eIx, MI.eSl, MI.eCall, MI.eInst, MI.eBlt1, MI.eBlt, MI.eMeth, MI.eTup, MI.eLst, MI.eOfA, MI.aNil, MI.aCons, MI.tCmp, MI.tChain, MI.tNot, MI.tAnd, MI.tOr, MI.tOf, MI.tYes, MI.pNo, MI.pYes, MI.boolOf, MI.blOf, MI.truth, MI.partD, MI.gOne, bind_ok, of_some, toS_ok, then_next, then_ret, then_brk, map_some, List.getElem?_cons_zero, List.getElem?_cons_succ, List.set_cons_zero, List.set_cons_succ, if_true, if_false, Bool.false_eq_true, reduceIte, hq, List.nil_append]
  refine (run_set e5).trans ?_
  generalize hs : t.drop a = s at *
  have hf : (figs s).length ≤ big := by
    rw [List.length_append] at hw
    omega
  unfold numP
  have e6 : (MI.tOr (MI.tCmp .Eq (eBor 4) (eK (.str (Str.ofString "")))) (MI.tOr (MI.tCmp .Gt (eBlt1 (Str.ofString "len") (eBor 4)) (eK (.int 400))) (MI.tAnd (MI.tCmp .Eq (eIx (eBor 4) (eK (.int 0))) (eK (.str (Str.ofString "0")))) (MI.tCmp .NotEq (eBor 3) (eK (.str (Str.ofString "0"))))))) [.v (.str (S t)), .v (.int (a : Nat)), .v (.int ((a + (sgn s).length + (figs s).length : Nat) : Int)), .v (.str (S (sgn s ++ figs s))), .v (.str (S (figs s)))] st = .ok (decide (figs s = [] ∨ 400 < (figs s).length ∨ ((figs s).take 1 = [48] ∧ sgn s ++ figs s ≠ [48]))) st := by
    by_cases h1 : figs s = []
    · simp only [MI.run, MI.strD, MI.lstOf, MI.known, MI.sPar, MI.sTry, MI.sRaise0, MI.sRaise1, MI.sParOwn, MI.sForR, MI.sStar, MI.starD, MI.eTupRg, MI.eLm, MI.eIsX, MI.eFld, MI.eDic0, MI.eLam, MI.xCat, MI.freed, MI.sNil, MI.sCons, MI.sIf, MI.sSet, MI.sSetL, MI.sRet, MI.sRetN, MI.sRetV, MI.sSub, MI.sAug, MI.sApp, MI.sOwn, MI.sSetT, MI.sFor, MI.sWhile, MI.eVar, MI.eBor, MI.eK, MI.eBin, MI.eNeg, MI.eNot, MI.eAnd, MI.eOr, MI.eT, MI.eIf, MI.eIx, MI.eSl, MI.eCall, MI.eInst, MI.eBlt1, MI.eBlt, MI.eMeth, MI.eTup, MI.eLst, MI.eOfA, MI.aNil, MI.aCons, MI.tCmp, MI.tChain, MI.tNot, MI.tAnd, MI.tOr, MI.tOf, MI.tYes, MI.pNo, MI.pYes, MI.boolOf, MI.blOf, MI.truth, MI.partD, MI.gOne, bind_ok, of_some, toS_ok, then_next, then_ret, then_brk, map_some, List.getElem?_cons_zero, List.getElem?_cons_succ, List.set_cons_zero, List.set_cons_succ, if_true, if_false, Bool.false_eq_true, reduceIte, l_empty, eqS, decide_eq_true h1]
      rw [decide_eq_true (.inl h1)]
    · by_cases h2 : 400 < (figs s).length
      · simp only [MI.run, MI.strD, MI.lstOf, MI.known, MI.sPar, MI.sTry, MI.sRaise0, MI.sRaise1, MI.sParOwn, MI.sForR, MI.sStar, MI.starD, MI.eTupRg, MI.eLm, MI.eIsX, MI.eFld, MI.eDic0, MI.eLam, MI.xCat, MI.freed, MI.sNil, MI.sCons, MI.sIf, MI.sSet, MI.sSetL, MI.sRet, MI.sRetN, MI.sRetV, MI.sSub, MI.sAug, MI.sApp, MI.sOwn, MI.sSetT, MI.sFor, MI.sWhile, MI.eVar, MI.eBor, MI.eK, MI.eBin, MI.eNeg, MI.eNot, MI.eAnd, MI.eOr, MI.eT, MI.eIf, MI.eIx, MI.eSl, MI.eCall, MI.eInst, MI.eBlt1, MI.eBlt, MI.eMeth, MI.eTup, MI.eLst, MI.eOfA, MI.aNil, MI.aCons, MI.tCmp, MI.tChain, MI.tNot, MI.tAnd, MI.tOr, MI.tOf, MI.tYes, MI.pNo, MI.pYes, MI.boolOf, MI.blOf, MI.truth, MI.partD, MI.gOne, bind_ok, of_some, toS_ok, then_next, then_ret, then_brk, map_some, List.getElem?_cons_zero, List.getElem?_cons_succ, List.set_cons_zero, List.set_cons_succ, if_true, if_false, Bool.false_eq_true, reduceIte, l_empty, eqS, decide_eq_false h1, len_ok hf, cmp_gt, decide_eq_true (show (400 : Int) < ((figs s).length : Nat) by omega)]
        rw [decide_eq_true (.inr (.inl h2))]
      · cases hg : figs s with
        | nil => exact absurd hg h1
        | cons c r =>
          have hx : ixD (.str (S (figs s))) (.int 0) st = some (.str (S [c])) := by
            have := ix_ok hf (a := 0) (c := c) (by rw [hg]; rfl) st
            exact this
          rw [hg] at hx h1 h2 hf
          have e7 : decide ([c] = [48]) = decide ((c :: r).take 1 = [48]) := rfl
          by_cases h3 : [c] = [48]
          · by_cases h4 : sgn s ++ c :: r = [48]
            · simp only [MI.run, MI.strD, MI.lstOf, MI.known, MI.sPar, MI.sTry, MI.sRaise0, MI.sRaise1, MI.sParOwn, MI.sForR, MI.sStar, MI.starD, MI.eTupRg, MI.eLm, MI.eIsX, MI.eFld, MI.eDic0, MI.eLam, MI.xCat, MI.freed, MI.sNil, MI.sCons, MI.sIf, MI.sSet, MI.sSetL, MI.sRet, MI.sRetN, MI.sRetV, MI.sSub, MI.sAug, MI.sApp, MI.sOwn, MI.sSetT, MI.sFor, MI.sWhile, MI.eVar, MI.eBor, MI.eK, MI.eBin, MI.eNeg, MI.eNot, MI.eAnd, MI.eOr, MI.eT, MI.eIf, MI.eIx, MI.eSl, MI.eCall, MI.eInst, MI.eBlt1, MI.eBlt, MI.eMeth, MI.eTup, MI.eLst, MI.eOfA, MI.aNil, MI.aCons, MI.tCmp, MI.tChain, MI.tNot, MI.tAnd, MI.tOr, MI.tOf, MI.tYes, MI.pNo, MI.pYes, MI.boolOf, MI.blOf, MI.truth, MI.partD, MI.gOne, bind_ok, of_some, toS_ok, then_next, then_ret, then_brk, map_some, List.getElem?_cons_zero, List.getElem?_cons_succ, List.set_cons_zero, List.set_cons_succ, if_true, if_false, Bool.false_eq_true, reduceIte, l_empty, eqS, neS, decide_eq_false h1, len_ok hf, cmp_gt, decide_eq_false (show ¬ (400 : Int) < ((c :: r).length : Nat) by omega), hx, l_0, decide_eq_true h3, decide_eq_true h4, Bool.not_true]
              rw [decide_eq_false (by rintro (z | z | z); exact h1 z; exact h2 z; exact z.2 h4)]
            · simp only [MI.run, MI.strD, MI.lstOf, MI.known, MI.sPar, MI.sTry, MI.sRaise0, MI.sRaise1, MI.sParOwn, MI.sForR, MI.sStar, MI.starD, MI.eTupRg, MI.eLm, MI.eIsX, MI.eFld, MI.eDic0, MI.eLam, MI.xCat, MI.freed, MI.sNil, MI.sCons, MI.sIf, MI.sSet, MI.sSetL, MI.sRet, MI.sRetN, MI.sRetV, MI.sSub, MI.sAug, MI.sApp, MI.sOwn, MI.sSetT, MI.sFor, MI.sWhile, MI.eVar, MI.eBor, MI.eK, MI.eBin, MI.eNeg, MI.eNot, MI.eAnd, MI.eOr, MI.eT, MI.eIf, MI.eIx, MI.eSl, MI.eCall, MI.eInst, MI.eBlt1, MI.eBlt, MI.eMeth, MI.eTup, MI.eLst, MI.eOfA, MI.aNil, MI.aCons, MI.tCmp, MI.tChain, MI.tNot, MI.tAnd, MI.tOr, MI.tOf, MI.tYes, MI.pNo, MI.pYes, MI.boolOf, MI.blOf, MI.truth, MI.partD, MI.gOne, bind_ok, of_some, toS_ok, then_next, then_ret, then_brk, map_some, List.getElem?_cons_zero, List.getElem?_cons_succ, List.set_cons_zero, List.set_cons_succ, if_true, if_false, Bool.false_eq_true, reduceIte, l_empty, eqS, neS, decide_eq_false h1, len_ok hf, cmp_gt, decide_eq_false (show ¬ (400 : Int) < ((c :: r).length : Nat) by omega), hx, l_0, decide_eq_true h3, decide_eq_false h4, Bool.not_false]
              rw [decide_eq_true (.inr (.inr ⟨h3, h4⟩))]
          · simp only [MI.run, MI.strD, MI.lstOf, MI.known, MI.sPar, MI.sTry, MI.sRaise0, MI.sRaise1, MI.sParOwn, MI.sForR, MI.sStar, MI.starD, MI.eTupRg, MI.eLm, MI.eIsX, MI.eFld, MI.eDic0, MI.eLam, MI.xCat, MI.freed, MI.sNil, MI.sCons, MI.sIf, MI.sSet, MI.sSetL, MI.sRet, MI.sRetN, MI.sRetV, MI.sSub, MI.sAug, MI.sApp, MI.sOwn, MI.sSetT, MI.sFor, MI.sWhile, MI.eVar, MI.eBor, MI.eK, MI.eBin, MI.eNeg, MI.eNot, MI.eAnd, MI.eOr, MI.eT, MI.eIf, MI.eIx, MI.eSl, MI.eCall, MI.eInst, MI.eBlt1, MI.eBlt, MI.eMeth, MI.eTup, MI.eLst, MI.eOfA, MI.aNil, MI.aCons, MI.tCmp, MI.tChain, MI.tNot, MI.tAnd, MI.tOr, MI.tOf, MI.tYes, MI.pNo, MI.pYes, MI.boolOf, MI.blOf, MI.truth, MI.partD, MI.gOne, bind_ok, of_some, toS_ok, then_next, then_ret, then_brk, map_some, List.getElem?_cons_zero, List.getElem?_cons_succ, List.set_cons_zero, List.set_cons_succ, if_true, if_false, Bool.false_eq_true, reduceIte, l_empty, eqS, neS, decide_eq_false h1, len_ok hf, cmp_gt, decide_eq_false (show ¬ (400 : Int) < ((c :: r).length : Nat) by omega), hx, l_0, decide_eq_false h3]
            rw [decide_eq_false (by rintro (z | z | z); exact h1 z; exact h2 z; exact h3 z.1)]
  by_cases hc : figs s = [] ∨ 400 < (figs s).length ∨ ((figs s).take 1 = [48] ∧ sgn s ++ figs s ≠ [48])
  · rw [decide_eq_true hc] at e6
    rw [if_pos hc]
    exact run_ifR e6 rfl
  · rw [decide_eq_false hc] at e6
    rw [if_neg hc]
    refine (run_ifF e6).trans ?_
    refine run_ret ?_
    have hi := int_word (s := s) (fun z => hc (.inl z)) (by
      by_cases z : (figs s).length ≤ 400
      · exact z
      · exact absurd (.inr (.inl (by omega))) hc) st
    simp only [MI.run, MI.strD, MI.lstOf, MI.known, MI.sPar, MI.sTry, MI.sRaise0, MI.sRaise1, MI.sParOwn, MI.sForR, MI.sStar, MI.starD, MI.eTupRg, MI.eLm, MI.eIsX, MI.eFld, MI.eDic0, MI.eLam, MI.xCat, MI.freed, MI.sNil, MI.sCons, MI.sIf, MI.sSet, MI.sSetL, MI.sRet, MI.sRetN, MI.sRetV, MI.sSub, MI.sAug, MI.sApp, MI.sOwn, MI.sSetT, MI.sFor, MI.sWhile, MI.eVar, MI.eBor, MI.eK, MI.eBin, MI.eNeg, MI.eNot, MI.eAnd, MI.eOr, MI.eT, MI.eIf, MI.eIx, MI.eSl, MI.eCall, MI.eInst, MI.eBlt1, MI.eBlt, MI.eMeth, MI.eTup, MI.eLst, MI.eOfA, MI.aNil, MI.aCons, MI.tCmp, MI.tChain, MI.tNot, MI.tAnd, MI.tOr, MI.tOf, MI.tYes, MI.pNo, MI.pYes, MI.boolOf, MI.blOf, MI.truth, MI.partD, MI.gOne, bind_ok, of_some, toS_ok, then_next, then_ret, then_brk, map_some, List.getElem?_cons_zero, List.getElem?_cons_succ, List.set_cons_zero, List.set_cons_succ, if_true, if_false, Bool.false_eq_true, reduceIte, hi]
    unfold told
    rw [Nat.add_assoc]
abbrev ltC : TX := MI.tCmp .Gt (eBor 2) (eK (.int 0))
abbrev ltB (T : Tab) : SX := (sCons (sSet 4 (eCall T (Str.ofString "_law_read_thing") (aCons (eVar 0) (aCons (eVar 1) (aCons (eBin .Sub (eVar 2) (eK (.int 1))) aNil)))))
    (sCons (sIf (MI.tCmp .Is (eBor 4) (eK .non))
     (sCons (sRet (eK .non))
      sNil)
     sNil)
    (sCons (sApp 3 (eIx (eBor 4) (eK (.int 0))))
    (sCons (sSet 1 (eIx (eBor 4) (eK (.int 1))))
    (sCons (sIf (MI.tCmp .Eq (eSl (eBor 0) (pYes (eVar 1)) (pYes (eBin .Add (eVar 1) (eK (.int 1))))) (eK (.str (Str.ofString ")"))))
     (sCons (sRet (eTup (aCons (eBlt1 (Str.ofString "tuple") (eBor 3)) (aCons (eBin .Add (eVar 1) (eK (.int 1))) aNil))))
      sNil)
     sNil)
    (sCons (sIf (MI.tCmp .NotEq (eSl (eBor 0) (pYes (eVar 1)) (pYes (eBin .Add (eVar 1) (eK (.int 2))))) (eK (.str (Str.ofString ", "))))
     (sCons (sRet (eK .non))
      sNil)
     sNil)
    (sCons (sSet 1 (eBin .Add (eVar 1) (eK (.int 2))))
    sNil)))))))
theorem ownSlot_3w (a b c e : Sl) (ds : List D) : ownSlot [a, b, c, .own ds, e] 3 = some ds := rfl
theorem ix2_0 (a b : D) (st : Store) : ixD (.tup [a, b]) (.int 0) st = some a := rfl
theorem ix2_1 (a b : D) (st : Store) : ixD (.tup [a, b]) (.int 1) st = some b := rfl
theorem lt_loop {T : Tab} {j : Nat} {t : List Nat} (ht : t.length ≤ 4000000) {st : Store} (hT : ∀ a : Nat, T (Str.ofString "_law_read_thing") [.str (S t), .int (a : Nat), .int (j : Nat)] st = .ok (told a (thP j (t.drop a))) st) :
    ∀ (m k a : Nat) (acc : List D) (x : Sl), (t.drop a).length < k → k ≤ m → acc.length ≤ a → a ≤ t.length →
      whileF ltC (ltB T) m [.v (.str (S t)), .v (.int (a : Nat)), .v (.int ((j + 1 : Nat) : Int)), .own acc, x] st = .ret (toldL a acc (loopP (thP j) k (t.drop a))) st := by
  have hb : t.length ≤ big := Nat.le_trans ht (by decide)
  intro m
  induction m with
  | zero => intro k a acc x h1 h2 _ _; omega
  | succ m ih =>
    intro k a acc x hk hm hacc hat
    obtain ⟨k, rfl⟩ : ∃ q, k = q + 1 := ⟨k - 1, by omega⟩
    unfold whileF
    have hc := hT a
    have hdeep : ((j + 1 : Nat) : Int) - 1 = (j : Nat) := by omega
    have hpos : decide ((0 : Int) < ((j + 1 : Nat) : Int)) = true := decide_eq_true (by omega)
    unfold loopP
    cases hp : thP j (t.drop a) with
    | none =>
      rw [hp] at hc
      simp only [MI.run, MI.strD, MI.lstOf, MI.known, MI.sPar, MI.sTry, MI.sRaise0, MI.sRaise1, MI.sParOwn, MI.sForR, MI.sStar, MI.starD, MI.eTupRg, MI.eLm, MI.eIsX, MI.eFld, MI.eDic0, MI.eLam, MI.xCat, MI.freed, MI.sNil, MI.sCons, MI.sIf, MI.sSet, MI.sSetL, MI.sRet, MI.sRetN, MI.sRetV, MI.sSub, MI.sAug, MI.sApp, MI.sOwn, MI.sSetT, MI.sFor, MI.sWhile, MI.eVar, MI.eBor, MI.eK, MI.eBin, MI.eNeg, MI.eNot, MI.eAnd, MI.eOr, MI.eT, MI.eIf, MI.eIx, MI.eSl, MI.eCall, MI.eInst, MI.eBlt1, MI.eBlt, MI.eMeth, MI.eTup, MI.eLst, MI.eOfA, MI.aNil, MI.aCons, MI.tCmp, MI.tChain, MI.tNot, MI.tAnd, MI.tOr, MI.tOf, MI.tYes, MI.pNo, MI.pYes, MI.boolOf, MI.blOf, MI.truth, MI.partD, MI.gOne, bind_ok, of_some, toS_ok, then_next, then_ret, then_brk, map_some, List.getElem?_cons_zero, List.getElem?_cons_succ, List.set_cons_zero, List.set_cons_succ, if_true, if_false, Bool.false_eq_true, reduceIte, cmp_gt, hpos, op_sub, hdeep, hc, told, cmp_is, isN]
      rfl
    | some q =>
      obtain ⟨d, c⟩ := q
      rw [hp] at hc
      have hs1 := sl_1 hb (a + c)
      have hs2 := sl_2 hb (a + c)
      have hlt : acc.length < big := Nat.lt_of_le_of_lt (Nat.le_trans hacc (Nat.le_trans hat ht)) (by decide)
      have e0 : (t.drop a).drop c = t.drop (a + c) := List.drop_drop
      simp only [e0]
      by_cases g1 : (t.drop (a + c)).take 1 = [41]
      · rw [if_pos g1]
        simp only [MI.run, MI.strD, MI.lstOf, MI.known, MI.sPar, MI.sTry, MI.sRaise0, MI.sRaise1, MI.sParOwn, MI.sForR, MI.sStar, MI.starD, MI.eTupRg, MI.eLm, MI.eIsX, MI.eFld, MI.eDic0, MI.eLam, MI.xCat, MI.freed, MI.sNil, MI.sCons, MI.sIf, MI.sSet, MI.sSetL, MI.sRet, MI.sRetN, MI.sRetV, MI.sSub, MI.sAug, MI.sApp, MI.sOwn, MI.sSetT, MI.sFor, MI.sWhile, MI.eVar, MI.eBor, MI.eK, MI.eBin, MI.eNeg, MI.eNot, MI.eAnd, MI.eOr, MI.eT, MI.eIf, MI.eIx, MI.eSl, MI.eCall, MI.eInst, MI.eBlt1, MI.eBlt, MI.eMeth, MI.eTup, MI.eLst, MI.eOfA, MI.aNil, MI.aCons, MI.tCmp, MI.tChain, MI.tNot, MI.tAnd, MI.tOr, MI.tOf, MI.tYes, MI.pNo, MI.pYes, MI.boolOf, MI.blOf, MI.truth, MI.partD, MI.gOne, bind_ok, of_some, toS_ok, then_next, then_ret, then_brk, map_some, List.getElem?_cons_zero, List.getElem?_cons_succ, List.set_cons_zero, List.set_cons_succ, if_true, if_false, Bool.false_eq_true, reduceIte, cmp_gt, hpos, op_add, op_sub, hdeep, hc, told, cmp_is, isN, ix2_0, ix2_1, ownSlot_3w, hlt, hs1, l_cl, eqS, decide_eq_true g1, tup_of]
        rfl
      · rw [if_neg g1]
        by_cases g2 : (t.drop (a + c)).take 2 = [44, 32]
        · rw [if_pos g2]
          simp only [MI.run, MI.strD, MI.lstOf, MI.known, MI.sPar, MI.sTry, MI.sRaise0, MI.sRaise1, MI.sParOwn, MI.sForR, MI.sStar, MI.starD, MI.eTupRg, MI.eLm, MI.eIsX, MI.eFld, MI.eDic0, MI.eLam, MI.xCat, MI.freed, MI.sNil, MI.sCons, MI.sIf, MI.sSet, MI.sSetL, MI.sRet, MI.sRetN, MI.sRetV, MI.sSub, MI.sAug, MI.sApp, MI.sOwn, MI.sSetT, MI.sFor, MI.sWhile, MI.eVar, MI.eBor, MI.eK, MI.eBin, MI.eNeg, MI.eNot, MI.eAnd, MI.eOr, MI.eT, MI.eIf, MI.eIx, MI.eSl, MI.eCall, MI.eInst, MI.eBlt1, MI.eBlt, MI.eMeth, MI.eTup, MI.eLst, MI.eOfA, MI.aNil, MI.aCons, MI.tCmp, MI.tChain, MI.tNot, MI.tAnd, MI.tOr, MI.tOf, MI.tYes, MI.pNo, MI.pYes, MI.boolOf, MI.blOf, MI.truth, MI.partD, MI.gOne, bind_ok, of_some, toS_ok, then_next, then_ret, then_brk, map_some, List.getElem?_cons_zero, List.getElem?_cons_succ, List.set_cons_zero, List.set_cons_succ, if_true, if_false, Bool.false_eq_true, reduceIte, cmp_gt, hpos, op_add, op_sub, hdeep, hc, told, cmp_is, isN, ix2_0, ix2_1, ownSlot_3w, hlt, hs1, hs2, l_cl, l_cs, eqS, neS, decide_eq_false g1, decide_eq_true g2, Bool.not_true]
          have hl2 := congrArg List.length g2
          rw [List.length_take, List.length_drop] at hl2
          have hl3 : ([44, 32] : List Nat).length = 2 := rfl
          rw [hl3] at hl2
          rw [List.length_drop] at hk
          by_cases h0 : 0 < c
          · have := ih k (a + c + 2) (acc ++ [d]) (.v (.tup [d, .int ((a + c : Nat) : Int)])) (by rw [List.length_drop]; omega) (by omega) (by rw [List.length_append, List.length_singleton]; omega) (by omega)
            rw [show ((a + c + 2 : Nat) : Int) = ((a + c : Nat) : Int) + 2 by omega] at this
            rw [this, List.drop_drop, show a + c + 2 = a + (c + 2) by omega]
            cases loopP (thP j) k (t.drop (a + (c + 2))) with
            | none => rfl
            | some q =>
              obtain ⟨l, z⟩ := q
              simp only [Option.map_some, toldL, List.append_assoc]
              refine congrArg (fun z => RS.ret (D.tup [D.tup (acc ++ ([d] ++ l)), D.int z]) st) ?_
              omega
          · have := ih k (a + c + 2) (acc ++ [d]) (.v (.tup [d, .int ((a + c : Nat) : Int)])) (by rw [List.length_drop]; omega) (by omega) (by rw [List.length_append, List.length_singleton]; omega) (by omega)
            rw [show ((a + c + 2 : Nat) : Int) = ((a + c : Nat) : Int) + 2 by omega] at this
            rw [this, List.drop_drop, show a + c + 2 = a + (c + 2) by omega]
            cases loopP (thP j) k (t.drop (a + (c + 2))) with
            | none => rfl
            | some q =>
              obtain ⟨l, z⟩ := q
              simp only [Option.map_some, toldL, List.append_assoc]
              refine congrArg (fun z => RS.ret (D.tup [D.tup (acc ++ ([d] ++ l)), D.int z]) st) ?_
              omega
        · rw [if_neg g2]
          simp only [MI.run, MI.strD, MI.lstOf, MI.known, MI.sPar, MI.sTry, MI.sRaise0, MI.sRaise1, MI.sParOwn, MI.sForR, MI.sStar, MI.starD, MI.eTupRg, MI.eLm, MI.eIsX, MI.eFld, MI.eDic0, MI.eLam, MI.xCat, MI.freed, MI.sNil, MI.sCons, MI.sIf, MI.sSet, MI.sSetL, MI.sRet, MI.sRetN, MI.sRetV, MI.sSub, MI.sAug, MI.sApp, MI.sOwn, MI.sSetT, MI.sFor, MI.sWhile, MI.eVar, MI.eBor, MI.eK, MI.eBin, MI.eNeg, MI.eNot, MI.eAnd, MI.eOr, MI.eT, MI.eIf, MI.eIx, MI.eSl, MI.eCall, MI.eInst, MI.eBlt1, MI.eBlt, MI.eMeth, MI.eTup, MI.eLst, MI.eOfA, MI.aNil, MI.aCons, MI.tCmp, MI.tChain, MI.tNot, MI.tAnd, MI.tOr, MI.tOf, MI.tYes, MI.pNo, MI.pYes, MI.boolOf, MI.blOf, MI.truth, MI.partD, MI.gOne, bind_ok, of_some, toS_ok, then_next, then_ret, then_brk, map_some, List.getElem?_cons_zero, List.getElem?_cons_succ, List.set_cons_zero, List.set_cons_succ, if_true, if_false, Bool.false_eq_true, reduceIte, cmp_gt, hpos, op_add, op_sub, hdeep, hc, told, cmp_is, isN, ix2_0, ix2_1, ownSlot_3w, hlt, hs1, hs2, l_cl, l_cs, eqS, neS, decide_eq_false g1, decide_eq_false g2, Bool.not_false]
          rfl
theorem ltuple_ok (n : Nat) {j : Nat} {t : List Nat} (ht : t.length ≤ 4000000) {st : Store} (hT : ∀ a : Nat, tab G fs n (Str.ofString "_law_read_thing") [.str (S t), .int (a : Nat), .int (j : Nat)] st = .ok (told a (thP j (t.drop a))) st) (a : Nat) (ha : a < t.length) :
    tab G fs (n + 1) (Str.ofString "_law_read_tuple") [.str (S t), .int ((a + 1 : Nat) : Int), .int ((j + 1 : Nat) : Int)] st = .ok (told a (tuP (thP j) (t.drop a))) st := by
  have hb : t.length ≤ big := Nat.le_trans ht (by decide)
  rw [at_law_read_tuple]
  unfold b_law_read_tuple tuP
  rw [List.drop_drop]
  refine (run_own (ds := []) (st1 := st) rfl).trans ?_
  have e1 : (MI.tCmp .Eq (eSl (eBor 0) (pYes (eVar 1)) (pYes (eBin .Add (eVar 1) (eK (.int 1))))) (eK (.str (Str.ofString ")")))) [.v (.str (S t)), .v (.int ((a + 1 : Nat) : Int)), .v (.int ((j + 1 : Nat) : Int)), .own [], .no] st = .ok (decide ((t.drop (a + 1)).take 1 = [41])) st := by
    simp only [MI.run, MI.strD, MI.lstOf, MI.known, MI.sPar, MI.sTry, MI.sRaise0, MI.sRaise1, MI.sParOwn, MI.sForR, MI.sStar, MI.starD, MI.eTupRg, MI.eLm, MI.eIsX, MI.eFld, MI.eDic0, MI.eLam, MI.xCat, MI.freed, MI.sNil, MI.sCons, MI.sIf, MI.sSet, MI.sSetL, MI.sRet, MI.sRetN, MI.sRetV, MI.sSub, MI.sAug, MI.sApp, MI.sOwn, MI.sSetT, MI.sFor, MI.sWhile, MI.eVar, MI.eBor, MI.eK, MI.eBin, MI.eNeg, MI.eNot, MI.eAnd, MI.eOr, MI.eT, MI.eIf, MI.eIx, MI.eSl, MI.eCall, MI.eInst, MI.eBlt1, MI.eBlt, MI.eMeth, MI.eTup, MI.eLst, MI.eOfA, MI.aNil, MI.aCons, MI.tCmp, MI.tChain, MI.tNot, MI.tAnd, MI.tOr, MI.tOf, MI.tYes, MI.pNo, MI.pYes, MI.boolOf, MI.blOf, MI.truth, MI.partD, MI.gOne, bind_ok, of_some, toS_ok, then_next, then_ret, then_brk, map_some, List.getElem?_cons_zero, List.getElem?_cons_succ, List.set_cons_zero, List.set_cons_succ, if_true, if_false, Bool.false_eq_true, reduceIte, op_add, sl_1 hb (a + 1), l_cl, eqS]
  show MI.run _ [.v (.str (S t)), .v (.int ((a + 1 : Nat) : Int)), .v (.int ((j + 1 : Nat) : Int)), .own [], .no] st = _
  by_cases g : (t.drop (a + 1)).take 1 = [41]
  · rw [decide_eq_true g] at e1
    rw [if_pos g]
    refine run_ifR e1 (d := .tup [.tup [], .int ((a + 2 : Nat) : Int)]) (st2 := st) ?_
    simp only [MI.run, MI.strD, MI.lstOf, MI.known, MI.sPar, MI.sTry, MI.sRaise0, MI.sRaise1, MI.sParOwn, MI.sForR, MI.sStar, MI.starD, MI.eTupRg, MI.eLm, MI.eIsX, MI.eFld, MI.eDic0, MI.eLam, MI.xCat, MI.freed, MI.sNil, MI.sCons, MI.sIf, MI.sSet, MI.sSetL, MI.sRet, MI.sRetN, MI.sRetV, MI.sSub, MI.sAug, MI.sApp, MI.sOwn, MI.sSetT, MI.sFor, MI.sWhile, MI.eVar, MI.eBor, MI.eK, MI.eBin, MI.eNeg, MI.eNot, MI.eAnd, MI.eOr, MI.eT, MI.eIf, MI.eIx, MI.eSl, MI.eCall, MI.eInst, MI.eBlt1, MI.eBlt, MI.eMeth, MI.eTup, MI.eLst, MI.eOfA, MI.aNil, MI.aCons, MI.tCmp, MI.tChain, MI.tNot, MI.tAnd, MI.tOr, MI.tOf, MI.tYes, MI.pNo, MI.pYes, MI.boolOf, MI.blOf, MI.truth, MI.partD, MI.gOne, bind_ok, of_some, toS_ok, then_next, then_ret, then_brk, map_some, List.getElem?_cons_zero, List.getElem?_cons_succ, List.set_cons_zero, List.set_cons_succ, if_true, if_false, Bool.false_eq_true, reduceIte, op_add]
    rw [show ((a + 1 : Nat) : Int) + 1 = ((a + 2 : Nat) : Int) by omega]
  · rw [decide_eq_false g] at e1
    rw [if_neg g]
    refine (run_ifF e1).trans ?_
    have := lt_loop ht hT lots ((t.drop a).length + 1) (a + 1) [] .no (by rw [List.length_drop, List.length_drop]; omega) (by
      rw [List.length_drop]
      have : (4000000 : Nat) < lots := by decide
      omega) (Nat.zero_le _) ha
    rw [toldL_map] at this
    exact run_whileR this
/-- behind the bracket's test -/
theorem lflat_from {t : List Nat} (ht : t.length ≤ 4000000) (st : Store) (n a j : Nat) :
    MI.run (sCons (sIf (MI.tCmp .Eq (eSl (eBor 0) (pYes (eVar 1)) (pYes (eBin .Add (eVar 1) (eK (.int 1))))) (eK (.str (Str.ofString "\""))))
   (sCons (sRet (eCall (tab G fs (n + 1)) (Str.ofString "_law_read_word") (aCons (eVar 0) (aCons (eBin .Add (eVar 1) (eK (.int 1))) aNil))))
    sNil)
   sNil)
  (sCons (sRet (MI.eIf (MI.tCmp .Eq (eSl (eBor 0) (pYes (eVar 1)) (pYes (eBin .Add (eVar 1) (eK (.int 4))))) (eK (.str (Str.ofString "none")))) (eTup (aCons (eK .non) (aCons (eBin .Add (eVar 1) (eK (.int 4))) aNil))) (eCall (tab G fs (n + 1)) (Str.ofString "_law_read_number") (aCons (eVar 0) (aCons (eVar 1) aNil)))))
  sNil)) [.v (.str (S t)), .v (.int (a : Nat)), .v (.int (j : Nat))] st = .ok (told a (flP (t.drop a))) st := by
  have hb : t.length ≤ big := Nat.le_trans ht (by decide)
  unfold flP
  have e1 : (MI.tCmp .Eq (eSl (eBor 0) (pYes (eVar 1)) (pYes (eBin .Add (eVar 1) (eK (.int 1))))) (eK (.str (Str.ofString "\"")))) [.v (.str (S t)), .v (.int (a : Nat)), .v (.int (j : Nat))] st = .ok (decide ((t.drop a).take 1 = [34])) st := by
    simp only [MI.run, MI.strD, MI.lstOf, MI.known, MI.sPar, MI.sTry, MI.sRaise0, MI.sRaise1, MI.sParOwn, MI.sForR, MI.sStar, MI.starD, MI.eTupRg, MI.eLm, MI.eIsX, MI.eFld, MI.eDic0, MI.eLam, MI.xCat, MI.freed, MI.sNil, MI.sCons, MI.sIf, MI.sSet, MI.sSetL, MI.sRet, MI.sRetN, MI.sRetV, MI.sSub, MI.sAug, MI.sApp, MI.sOwn, MI.sSetT, MI.sFor, MI.sWhile, MI.eVar, MI.eBor, MI.eK, MI.eBin, MI.eNeg, MI.eNot, MI.eAnd, MI.eOr, MI.eT, MI.eIf, MI.eIx, MI.eSl, MI.eCall, MI.eInst, MI.eBlt1, MI.eBlt, MI.eMeth, MI.eTup, MI.eLst, MI.eOfA, MI.aNil, MI.aCons, MI.tCmp, MI.tChain, MI.tNot, MI.tAnd, MI.tOr, MI.tOf, MI.tYes, MI.pNo, MI.pYes, MI.boolOf, MI.blOf, MI.truth, MI.partD, MI.gOne, bind_ok, of_some, toS_ok, then_next, then_ret, then_brk, map_some, List.getElem?_cons_zero, List.getElem?_cons_succ, List.set_cons_zero, List.set_cons_succ, if_true, if_false, Bool.false_eq_true, reduceIte, op_add, sl_1 hb, l_q, eqS]
  by_cases g : (t.drop a).take 1 = [34]
  · rw [decide_eq_true g] at e1
    rw [if_pos g, List.drop_drop, ← toldT_map]
    have hw := lword_ok n ht (a + 1) st
    rw [show ((a + 1 : Nat) : Int) = (a : Int) + 1 by omega] at hw
    refine run_ifR e1 (d := toldT (a + 1) [] (txP (t.drop (a + 1)))) (st2 := st) ?_
    simp only [MI.run, MI.strD, MI.lstOf, MI.known, MI.sPar, MI.sTry, MI.sRaise0, MI.sRaise1, MI.sParOwn, MI.sForR, MI.sStar, MI.starD, MI.eTupRg, MI.eLm, MI.eIsX, MI.eFld, MI.eDic0, MI.eLam, MI.xCat, MI.freed, MI.sNil, MI.sCons, MI.sIf, MI.sSet, MI.sSetL, MI.sRet, MI.sRetN, MI.sRetV, MI.sSub, MI.sAug, MI.sApp, MI.sOwn, MI.sSetT, MI.sFor, MI.sWhile, MI.eVar, MI.eBor, MI.eK, MI.eBin, MI.eNeg, MI.eNot, MI.eAnd, MI.eOr, MI.eT, MI.eIf, MI.eIx, MI.eSl, MI.eCall, MI.eInst, MI.eBlt1, MI.eBlt, MI.eMeth, MI.eTup, MI.eLst, MI.eOfA, MI.aNil, MI.aCons, MI.tCmp, MI.tChain, MI.tNot, MI.tAnd, MI.tOr, MI.tOf, MI.tYes, MI.pNo, MI.pYes, MI.boolOf, MI.blOf, MI.truth, MI.partD, MI.gOne, bind_ok, of_some, toS_ok, then_next, then_ret, then_brk, map_some, List.getElem?_cons_zero, List.getElem?_cons_succ, List.set_cons_zero, List.set_cons_succ, if_true, if_false, Bool.false_eq_true, reduceIte, op_add, hw]
  · rw [decide_eq_false g] at e1
    rw [if_neg g]
    refine (run_ifF e1).trans ?_
    refine run_ret ?_
    by_cases g2 : (t.drop a).take 4 = [110, 111, 110, 101]
    · rw [if_pos g2]
      simp only [MI.run, MI.strD, MI.lstOf, MI.known, MI.sPar, MI.sTry, MI.sRaise0, MI.sRaise1, MI.sParOwn, MI.sForR, MI.sStar, MI.starD, MI.eTupRg, MI.eLm, MI.eIsX, MI.eFld, MI.eDic0, MI.eLam, MI.xCat, MI.freed, MI.sNil, MI.sCons, MI.sIf, MI.sSet, MI.sSetL, MI.sRet, MI.sRetN, MI.sRetV, MI.sSub, MI.sAug, MI.sApp, MI.sOwn, MI.sSetT, MI.sFor, MI.sWhile, MI.eVar, MI.eBor, MI.eK, MI.eBin, MI.eNeg, MI.eNot, MI.eAnd, MI.eOr, MI.eT, MI.eIf, MI.eIx, MI.eSl, MI.eCall, MI.eInst, MI.eBlt1, MI.eBlt, MI.eMeth, MI.eTup, MI.eLst, MI.eOfA, MI.aNil, MI.aCons, MI.tCmp, MI.tChain, MI.tNot, MI.tAnd, MI.tOr, MI.tOf, MI.tYes, MI.pNo, MI.pYes, MI.boolOf, MI.blOf, MI.truth, MI.partD, MI.gOne, bind_ok, of_some, toS_ok, then_next, then_ret, then_brk, map_some, List.getElem?_cons_zero, List.getElem?_cons_succ, List.set_cons_zero, List.set_cons_succ, if_true, if_false, Bool.false_eq_true, reduceIte, op_add, sl_4 hb, l_none, eqS, decide_eq_true g2]
      rfl
    · rw [if_neg g2]
      simp only [MI.run, MI.strD, MI.lstOf, MI.known, MI.sPar, MI.sTry, MI.sRaise0, MI.sRaise1, MI.sParOwn, MI.sForR, MI.sStar, MI.starD, MI.eTupRg, MI.eLm, MI.eIsX, MI.eFld, MI.eDic0, MI.eLam, MI.xCat, MI.freed, MI.sNil, MI.sCons, MI.sIf, MI.sSet, MI.sSetL, MI.sRet, MI.sRetN, MI.sRetV, MI.sSub, MI.sAug, MI.sApp, MI.sOwn, MI.sSetT, MI.sFor, MI.sWhile, MI.eVar, MI.eBor, MI.eK, MI.eBin, MI.eNeg, MI.eNot, MI.eAnd, MI.eOr, MI.eT, MI.eIf, MI.eIx, MI.eSl, MI.eCall, MI.eInst, MI.eBlt1, MI.eBlt, MI.eMeth, MI.eTup, MI.eLst, MI.eOfA, MI.aNil, MI.aCons, MI.tCmp, MI.tChain, MI.tNot, MI.tAnd, MI.tOr, MI.tOf, MI.tYes, MI.pNo, MI.pYes, MI.boolOf, MI.blOf, MI.truth, MI.partD, MI.gOne, bind_ok, of_some, toS_ok, then_next, then_ret, then_brk, map_some, List.getElem?_cons_zero, List.getElem?_cons_succ, List.set_cons_zero, List.set_cons_succ, if_true, if_false, Bool.false_eq_true, reduceIte, op_add, sl_4 hb, l_none, eqS, decide_eq_false g2, lnum_ok n ht a st]
/-- _law_read_thing -/
theorem lthing_ok {t : List Nat} (ht : t.length ≤ 4000000) (st : Store) : ∀ (j n a : Nat), tab G fs (n + 2 * j + 2) (Str.ofString "_law_read_thing") [.str (S t), .int (a : Nat), .int (j : Nat)] st = .ok (told a (thP j (t.drop a))) st := by
  have hb : t.length ≤ big := Nat.le_trans ht (by decide)
  have e0 (a j : Nat) : (MI.tCmp .Eq (eSl (eBor 0) (pYes (eVar 1)) (pYes (eBin .Add (eVar 1) (eK (.int 1))))) (eK (.str (Str.ofString "(")))) [.v (.str (S t)), .v (.int (a : Nat)), .v (.int (j : Nat))] st = .ok (decide ((t.drop a).take 1 = [40])) st := by
    simp only [MI.run, MI.strD, MI.lstOf, MI.known, MI.sPar, MI.sTry, MI.sRaise0, MI.sRaise1, MI.sParOwn, MI.sForR, MI.sStar, MI.starD, MI.eTupRg, MI.eLm, MI.eIsX, MI.eFld, MI.eDic0, MI.eLam, MI.xCat, MI.freed, MI.sNil, MI.sCons, MI.sIf, MI.sSet, MI.sSetL, MI.sRet, MI.sRetN, MI.sRetV, MI.sSub, MI.sAug, MI.sApp, MI.sOwn, MI.sSetT, MI.sFor, MI.sWhile, MI.eVar, MI.eBor, MI.eK, MI.eBin, MI.eNeg, MI.eNot, MI.eAnd, MI.eOr, MI.eT, MI.eIf, MI.eIx, MI.eSl, MI.eCall, MI.eInst, MI.eBlt1, MI.eBlt, MI.eMeth, MI.eTup, MI.eLst, MI.eOfA, MI.aNil, MI.aCons, MI.tCmp, MI.tChain, MI.tNot, MI.tAnd, MI.tOr, MI.tOf, MI.tYes, MI.pNo, MI.pYes, MI.boolOf, MI.blOf, MI.truth, MI.partD, MI.gOne, bind_ok, of_some, toS_ok, then_next, then_ret, then_brk, map_some, List.getElem?_cons_zero, List.getElem?_cons_succ, List.set_cons_zero, List.set_cons_succ, if_true, if_false, Bool.false_eq_true, reduceIte, op_add, sl_1 hb, l_op, eqS]
  intro j
  induction j with
  | zero =>
    intro n a
    rw [at_law_read_thing]
    unfold b_law_read_thing
    unfold thP
    have e1 := e0 a 0
    by_cases g : (t.drop a).take 1 = [40]
    · rw [decide_eq_true g] at e1
      rw [if_pos g]
      exact run_ifR e1 rfl
    · rw [decide_eq_false g] at e1
      rw [if_neg g]
      refine (run_ifF e1).trans ?_
      exact lflat_from ht st n a 0
  | succ j ih =>
    intro n a
    rw [show n + 2 * (j + 1) + 2 = (n + 2 * j + 3) + 1 by omega, at_law_read_thing]
    unfold b_law_read_thing
    unfold thP
    have e1 := e0 a (j + 1)
    by_cases g : (t.drop a).take 1 = [40]
    · rw [decide_eq_true g] at e1
      rw [if_pos g]
      have hal : a < t.length := by
        by_cases z : a < t.length
        · exact z
        · rw [List.drop_eq_nil_of_le (by omega)] at g
          cases g
      have ht2 := ltuple_ok (n + 2 * j + 2) ht (fun a => ih n a) a hal
      rw [show ((a + 1 : Nat) : Int) = (a : Int) + 1 by omega] at ht2
      refine run_ifR e1 (d := told a (tuP (thP j) (t.drop a))) (st2 := st) ?_
      simp only [MI.run, MI.strD, MI.lstOf, MI.known, MI.sPar, MI.sTry, MI.sRaise0, MI.sRaise1, MI.sParOwn, MI.sForR, MI.sStar, MI.starD, MI.eTupRg, MI.eLm, MI.eIsX, MI.eFld, MI.eDic0, MI.eLam, MI.xCat, MI.freed, MI.sNil, MI.sCons, MI.sIf, MI.sSet, MI.sSetL, MI.sRet, MI.sRetN, MI.sRetV, MI.sSub, MI.sAug, MI.sApp, MI.sOwn, MI.sSetT, MI.sFor, MI.sWhile, MI.eVar, MI.eBor, MI.eK, MI.eBin, MI.eNeg, MI.eNot, MI.eAnd, MI.eOr, MI.eT, MI.eIf, MI.eIx, MI.eSl, MI.eCall, MI.eInst, MI.eBlt1, MI.eBlt, MI.eMeth, MI.eTup, MI.eLst, MI.eOfA, MI.aNil, MI.aCons, MI.tCmp, MI.tChain, MI.tNot, MI.tAnd, MI.tOr, MI.tOf, MI.tYes, MI.pNo, MI.pYes, MI.boolOf, MI.blOf, MI.truth, MI.partD, MI.gOne, bind_ok, of_some, toS_ok, then_next, then_ret, then_brk, map_some, List.getElem?_cons_zero, List.getElem?_cons_succ, List.set_cons_zero, List.set_cons_succ, if_true, if_false, Bool.false_eq_true, reduceIte, cmp_gt, decide_eq_true (show (0 : Int) < ((j + 1 : Nat) : Int) by omega), op_add, ht2]
    · rw [decide_eq_false g] at e1
      rw [if_neg g]
      refine (run_ifF e1).trans ?_
      exact lflat_from ht st (n + 2 * j + 2) a (j + 1)
/-- what a whole text tells -/
def wholeP (t : List Nat) : Option D :=
  match thP 8 t with
  | some (d, c) => if c = t.length then some d else none
  | none => none
/-- _law_told_of -/
theorem ltold_ok {t : List Nat} (ht : t.length ≤ 4000000) (st : Store) (n : Nat) : tab G fs (n + 19) (Str.ofString "_law_told_of") [.str (S t)] st = .ok (.lst (wholeP t).toList) st := by
  have hb : t.length ≤ big := Nat.le_trans ht (by decide)
  have h := lthing_ok ht st 8 n 0
  rw [List.drop_zero, show ((0 : Nat) : Int) = 0 from rfl, show ((8 : Nat) : Int) = 8 from rfl, show n + 2 * 8 + 2 = n + 18 from rfl] at h
  rw [show n + 19 = (n + 18) + 1 from rfl, at_law_told_of]
  unfold b_law_told_of wholeP
  cases hp : thP 8 t with
  | none =>
    rw [hp] at h
    simp only [MI.run, MI.strD, MI.lstOf, MI.known, MI.sPar, MI.sTry, MI.sRaise0, MI.sRaise1, MI.sParOwn, MI.sForR, MI.sStar, MI.starD, MI.eTupRg, MI.eLm, MI.eIsX, MI.eFld, MI.eDic0, MI.eLam, MI.xCat, MI.freed, MI.sNil, MI.sCons, MI.sIf, MI.sSet, MI.sSetL, MI.sRet, MI.sRetN, MI.sRetV, MI.sSub, MI.sAug, MI.sApp, MI.sOwn, MI.sSetT, MI.sFor, MI.sWhile, MI.eVar, MI.eBor, MI.eK, MI.eBin, MI.eNeg, MI.eNot, MI.eAnd, MI.eOr, MI.eT, MI.eIf, MI.eIx, MI.eSl, MI.eCall, MI.eInst, MI.eBlt1, MI.eBlt, MI.eMeth, MI.eTup, MI.eLst, MI.eOfA, MI.aNil, MI.aCons, MI.tCmp, MI.tChain, MI.tNot, MI.tAnd, MI.tOr, MI.tOf, MI.tYes, MI.pNo, MI.pYes, MI.boolOf, MI.blOf, MI.truth, MI.partD, MI.gOne, bind_ok, of_some, toS_ok, then_next, then_ret, then_brk, map_some, List.getElem?_cons_zero, List.getElem?_cons_succ, List.set_cons_zero, List.set_cons_succ, if_true, if_false, Bool.false_eq_true, reduceIte, h, told, show ∀ d, cmpD .IsNot d .non = some (!isN d) from fun _ => rfl, isN, Bool.not_true]
    rfl
  | some q =>
    obtain ⟨d, c⟩ := q
    rw [hp] at h
    rw [told, Nat.zero_add] at h
    by_cases hc : c = t.length
    · simp only [MI.run, MI.strD, MI.lstOf, MI.known, MI.sPar, MI.sTry, MI.sRaise0, MI.sRaise1, MI.sParOwn, MI.sForR, MI.sStar, MI.starD, MI.eTupRg, MI.eLm, MI.eIsX, MI.eFld, MI.eDic0, MI.eLam, MI.xCat, MI.freed, MI.sNil, MI.sCons, MI.sIf, MI.sSet, MI.sSetL, MI.sRet, MI.sRetN, MI.sRetV, MI.sSub, MI.sAug, MI.sApp, MI.sOwn, MI.sSetT, MI.sFor, MI.sWhile, MI.eVar, MI.eBor, MI.eK, MI.eBin, MI.eNeg, MI.eNot, MI.eAnd, MI.eOr, MI.eT, MI.eIf, MI.eIx, MI.eSl, MI.eCall, MI.eInst, MI.eBlt1, MI.eBlt, MI.eMeth, MI.eTup, MI.eLst, MI.eOfA, MI.aNil, MI.aCons, MI.tCmp, MI.tChain, MI.tNot, MI.tAnd, MI.tOr, MI.tOf, MI.tYes, MI.pNo, MI.pYes, MI.boolOf, MI.blOf, MI.truth, MI.partD, MI.gOne, bind_ok, of_some, toS_ok, then_next, then_ret, then_brk, map_some, List.getElem?_cons_zero, List.getElem?_cons_succ, List.set_cons_zero, List.set_cons_succ, if_true, if_false, Bool.false_eq_true, reduceIte, h, show ∀ d, cmpD .IsNot d .non = some (!isN d) from fun _ => rfl, isN, Bool.not_false, ix2_0, ix2_1, len_ok hb, cmp_eqI, beq_iff_eq.mpr (show (c : Int) = (t.length : Nat) by omega), if_pos hc]
      rfl
    · simp only [MI.run, MI.strD, MI.lstOf, MI.known, MI.sPar, MI.sTry, MI.sRaise0, MI.sRaise1, MI.sParOwn, MI.sForR, MI.sStar, MI.starD, MI.eTupRg, MI.eLm, MI.eIsX, MI.eFld, MI.eDic0, MI.eLam, MI.xCat, MI.freed, MI.sNil, MI.sCons, MI.sIf, MI.sSet, MI.sSetL, MI.sRet, MI.sRetN, MI.sRetV, MI.sSub, MI.sAug, MI.sApp, MI.sOwn, MI.sSetT, MI.sFor, MI.sWhile, MI.eVar, MI.eBor, MI.eK, MI.eBin, MI.eNeg, MI.eNot, MI.eAnd, MI.eOr, MI.eT, MI.eIf, MI.eIx, MI.eSl, MI.eCall, MI.eInst, MI.eBlt1, MI.eBlt, MI.eMeth, MI.eTup, MI.eLst, MI.eOfA, MI.aNil, MI.aCons, MI.tCmp, MI.tChain, MI.tNot, MI.tAnd, MI.tOr, MI.tOf, MI.tYes, MI.pNo, MI.pYes, MI.boolOf, MI.blOf, MI.truth, MI.partD, MI.gOne, bind_ok, of_some, toS_ok, then_next, then_ret, then_brk, map_some, List.getElem?_cons_zero, List.getElem?_cons_succ, List.set_cons_zero, List.set_cons_succ, if_true, if_false, Bool.false_eq_true, reduceIte, h, show ∀ d, cmpD .IsNot d .non = some (!isN d) from fun _ => rfl, isN, Bool.not_false, ix2_0, ix2_1, len_ok hb, cmp_eqI, beq_eq_false_iff_ne.mpr (show (c : Int) ≠ (t.length : Nat) by omega), if_neg hc]
      rfl
end K77

set_option maxRecDepth 100000
set_option maxHeartbeats 4000000
namespace K77
open PySem MI SX
def noText (r : Int) : D := .lst [.str (Str.ofString "NoText"), .int r]
def exT0 (r : Int) : D := .exn (Str.ofString "NoText") [Str.ofString "row"] [.int r]
theorem alone_ok (n : Nat) (r : Int) (st : Store) : tab G fs (n + 1) (Str.ofString "_law_alone") [exT0 r] st = .ok (.str (Str.ofString "NoText")) st := by
  rw [at_law_alone]
  generalize tab G fs n = T
  generalize tabL G fs n = L
  kernel_rfl
theorem refusal_ok (n : Nat) (r : Int) (st : Store) : tab G fs (n + 2) (Str.ofString "_law_refusal") [exT0 r] st = .ok (noText r) st := by
  have h := alone_ok n r st
  rw [at_law_refusal]
  generalize tab G fs (n + 1) = T at *
  generalize tabL G fs (n + 1) = L
  unfold b_law_refusal
  refine (run_set (d := .str (Str.ofString "NoText")) (st1 := st) ?_).trans ?_
  · simp only [MI.run, MI.strD, MI.lstOf, MI.known, MI.sPar, MI.sTry, MI.sRaise0, MI.sRaise1, MI.sParOwn, MI.sForR, MI.sStar, MI.starD, MI.eTupRg, MI.eLm, MI.eIsX, MI.eFld, MI.eDic0, MI.eLam, MI.xCat, MI.freed, MI.sNil, MI.sCons, MI.sIf, MI.sSet, MI.sSetL, MI.sRet, MI.sRetN, MI.sRetV, MI.sSub, MI.sAug, MI.sApp, MI.sOwn, MI.sSetT, MI.sFor, MI.sWhile, MI.eVar, MI.eBor, MI.eK, MI.eBin, MI.eNeg, MI.eNot, MI.eAnd, MI.eOr, MI.eT, MI.eIf, MI.eIx, MI.eSl, MI.eCall, MI.eInst, MI.eBlt1, MI.eBlt, MI.eMeth, MI.eTup, MI.eLst, MI.eOfA, MI.aNil, MI.aCons, MI.tCmp, MI.tChain, MI.tNot, MI.tAnd, MI.tOr, MI.tOf, MI.tYes, MI.pNo, MI.pYes, MI.boolOf, MI.blOf, MI.truth, MI.partD, MI.gOne, bind_ok, of_some, toS_ok, then_next, then_ret, then_brk, map_some, List.getElem?_cons_zero, List.getElem?_cons_succ, List.set_cons_zero, List.set_cons_succ, if_true, if_false, Bool.false_eq_true, reduceIte, h]
  · kernel_rfl
theorem safe_exn (n : Nat) (r : Int) (st : Store) : tab G fs (n + 3) (Str.ofString "_law_safe_told") [exT0 r] st = .ok (noText r) st := by
  have h := refusal_ok n r st
  rw [at_law_safe_told]
  generalize tab G fs (n + 2) = T at *
  generalize tabL G fs (n + 2) = L
  show (if (G.exc (Str.ofString "NoText")).isSome = true ∧ G.sub (Str.ofString "NoText") t_law_safe_told.c = true then MI.run (b_law_safe_told T L) [.no, .v .non, .v (exT0 r), .no] st else .stuck) = _
  rw [if_pos ⟨by kernel_rfl, by kernel_rfl⟩]
  unfold b_law_safe_told
  simp only [MI.run, MI.strD, MI.lstOf, MI.known, MI.sPar, MI.sTry, MI.sRaise0, MI.sRaise1, MI.sParOwn, MI.sForR, MI.sStar, MI.starD, MI.eTupRg, MI.eLm, MI.eIsX, MI.eFld, MI.eDic0, MI.eLam, MI.xCat, MI.freed, MI.sNil, MI.sCons, MI.sIf, MI.sSet, MI.sSetL, MI.sRet, MI.sRetN, MI.sRetV, MI.sSub, MI.sAug, MI.sApp, MI.sOwn, MI.sSetT, MI.sFor, MI.sWhile, MI.eVar, MI.eBor, MI.eK, MI.eBin, MI.eNeg, MI.eNot, MI.eAnd, MI.eOr, MI.eT, MI.eIf, MI.eIx, MI.eSl, MI.eCall, MI.eInst, MI.eBlt1, MI.eBlt, MI.eMeth, MI.eTup, MI.eLst, MI.eOfA, MI.aNil, MI.aCons, MI.tCmp, MI.tChain, MI.tNot, MI.tAnd, MI.tOr, MI.tOf, MI.tYes, MI.pNo, MI.pYes, MI.boolOf, MI.blOf, MI.truth, MI.partD, MI.gOne, bind_ok, of_some, toS_ok, then_next, then_ret, then_brk, map_some, List.getElem?_cons_zero, List.getElem?_cons_succ, List.set_cons_zero, List.set_cons_succ, if_true, if_false, Bool.false_eq_true, reduceIte, cmp_is, show isN (exT0 r) = false from rfl, h]
theorem safe_val (n : Nat) (d : D) (st : Store) : tab G fs (n + 1) (Str.ofString "_law_safe_told") [.tup [d]] st = .ok d st := by
  rw [at_law_safe_told]
  rfl
theorem like_int (n : Nat) (i : Int) (st : Store) : tab G fs (n + 1) (Str.ofString "_law_like") [.int i, .int i] st = .ok (.bl true) st := by
  rw [at_law_like]
  unfold b_law_like
  simp only [MI.run, MI.strD, MI.lstOf, MI.known, MI.sPar, MI.sTry, MI.sRaise0, MI.sRaise1, MI.sParOwn, MI.sForR, MI.sStar, MI.starD, MI.eTupRg, MI.eLm, MI.eIsX, MI.eFld, MI.eDic0, MI.eLam, MI.xCat, MI.freed, MI.sNil, MI.sCons, MI.sIf, MI.sSet, MI.sSetL, MI.sRet, MI.sRetN, MI.sRetV, MI.sSub, MI.sAug, MI.sApp, MI.sOwn, MI.sSetT, MI.sFor, MI.sWhile, MI.eVar, MI.eBor, MI.eK, MI.eBin, MI.eNeg, MI.eNot, MI.eAnd, MI.eOr, MI.eT, MI.eIf, MI.eIx, MI.eSl, MI.eCall, MI.eInst, MI.eBlt1, MI.eBlt, MI.eMeth, MI.eTup, MI.eLst, MI.eOfA, MI.aNil, MI.aCons, MI.tCmp, MI.tChain, MI.tNot, MI.tAnd, MI.tOr, MI.tOf, MI.tYes, MI.pNo, MI.pYes, MI.boolOf, MI.blOf, MI.truth, MI.partD, MI.gOne, bind_ok, of_some, toS_ok, then_next, then_ret, then_brk, map_some, List.getElem?_cons_zero, List.getElem?_cons_succ, List.set_cons_zero, List.set_cons_succ, if_true, if_false, Bool.false_eq_true, reduceIte, show isTy (D.int i) st ["tuple", "list"] = some false from rfl, show isTy (D.int i) st ["dict"] = some false from rfl, show isTy (D.int i) st ["str"] = some false from rfl, show isTy (D.int i) st ["int"] = some true from rfl, show isTy (D.int i) st ["bool"] = some false from rfl, cmp_is, isN, cmp_eqB, cmp_eqI, beq_self_eq_true]
theorem like_str (n : Nat) (z : Str) (st : Store) : tab G fs (n + 1) (Str.ofString "_law_like") [.str z, .str z] st = .ok (.bl true) st := by
  rw [at_law_like]
  unfold b_law_like
  simp only [MI.run, MI.strD, MI.lstOf, MI.known, MI.sPar, MI.sTry, MI.sRaise0, MI.sRaise1, MI.sParOwn, MI.sForR, MI.sStar, MI.starD, MI.eTupRg, MI.eLm, MI.eIsX, MI.eFld, MI.eDic0, MI.eLam, MI.xCat, MI.freed, MI.sNil, MI.sCons, MI.sIf, MI.sSet, MI.sSetL, MI.sRet, MI.sRetN, MI.sRetV, MI.sSub, MI.sAug, MI.sApp, MI.sOwn, MI.sSetT, MI.sFor, MI.sWhile, MI.eVar, MI.eBor, MI.eK, MI.eBin, MI.eNeg, MI.eNot, MI.eAnd, MI.eOr, MI.eT, MI.eIf, MI.eIx, MI.eSl, MI.eCall, MI.eInst, MI.eBlt1, MI.eBlt, MI.eMeth, MI.eTup, MI.eLst, MI.eOfA, MI.aNil, MI.aCons, MI.tCmp, MI.tChain, MI.tNot, MI.tAnd, MI.tOr, MI.tOf, MI.tYes, MI.pNo, MI.pYes, MI.boolOf, MI.blOf, MI.truth, MI.partD, MI.gOne, bind_ok, of_some, toS_ok, then_next, then_ret, then_brk, map_some, List.getElem?_cons_zero, List.getElem?_cons_succ, List.set_cons_zero, List.set_cons_succ, if_true, if_false, Bool.false_eq_true, reduceIte, show isTy (D.str z) st ["tuple", "list"] = some false from rfl, show isTy (D.str z) st ["dict"] = some false from rfl, show isTy (D.str z) st ["str"] = some true from rfl, cmp_is, isN, cmp_eqS, beq_self_eq_true]
theorem like_noText (n : Nat) (r : Int) (st : Store) : tab G fs (n + 2) (Str.ofString "_law_like") [noText r, noText r] st = .ok (.bl true) st := by
  refine like_seq (ds := [.str (Str.ofString "NoText"), .int r]) (show 2 ≤ big by decide) (fun d hd => ?_) (.inr rfl)
  rcases List.mem_cons.mp hd with rfl | hd
  · exact like_str n _ st
  · rw [List.mem_singleton.mp hd]
    exact like_int n r st
theorem whole_ok {t : List Nat} (ht : t.length ≤ 4000000) (n : Nat) (r : Int) (st : Store) : tab G fs (n + 19) (Str.ofString "read_whole") [.str (S t), .int r] st = match wholeP t with
    | some d => .ok d st
    | none => .exc (Str.ofString "NoText") [Str.ofString "row"] [.int r] st := by
  have hb : t.length ≤ big := Nat.le_trans ht (by decide)
  have h := thing_ok ht st 8 n 0
  rw [List.drop_zero, show ((0 : Nat) : Int) = 0 from rfl, show ((8 : Nat) : Int) = 8 from rfl, show n + 2 * 8 + 2 = n + 18 from rfl] at h
  rw [at_read_whole]
  unfold b_read_whole wholeP
  cases hp : thP 8 t with
  | none =>
    rw [hp] at h
    simp only [MI.run, MI.strD, MI.lstOf, MI.known, MI.sPar, MI.sTry, MI.sRaise0, MI.sRaise1, MI.sParOwn, MI.sForR, MI.sStar, MI.starD, MI.eTupRg, MI.eLm, MI.eIsX, MI.eFld, MI.eDic0, MI.eLam, MI.xCat, MI.freed, MI.sNil, MI.sCons, MI.sIf, MI.sSet, MI.sSetL, MI.sRet, MI.sRetN, MI.sRetV, MI.sSub, MI.sAug, MI.sApp, MI.sOwn, MI.sSetT, MI.sFor, MI.sWhile, MI.eVar, MI.eBor, MI.eK, MI.eBin, MI.eNeg, MI.eNot, MI.eAnd, MI.eOr, MI.eT, MI.eIf, MI.eIx, MI.eSl, MI.eCall, MI.eInst, MI.eBlt1, MI.eBlt, MI.eMeth, MI.eTup, MI.eLst, MI.eOfA, MI.aNil, MI.aCons, MI.tCmp, MI.tChain, MI.tNot, MI.tAnd, MI.tOr, MI.tOf, MI.tYes, MI.pNo, MI.pYes, MI.boolOf, MI.blOf, MI.truth, MI.partD, MI.gOne, bind_ok, of_some, toS_ok, then_next, then_ret, then_brk, map_some, List.getElem?_cons_zero, List.getElem?_cons_succ, List.set_cons_zero, List.set_cons_succ, if_true, if_false, Bool.false_eq_true, reduceIte, h, told, cmp_is, isN, toS_ok]
    rfl
  | some q =>
    obtain ⟨d, c⟩ := q
    rw [hp] at h
    rw [told, Nat.zero_add] at h
    by_cases hc : c = t.length
    · simp only [MI.run, MI.strD, MI.lstOf, MI.known, MI.sPar, MI.sTry, MI.sRaise0, MI.sRaise1, MI.sParOwn, MI.sForR, MI.sStar, MI.starD, MI.eTupRg, MI.eLm, MI.eIsX, MI.eFld, MI.eDic0, MI.eLam, MI.xCat, MI.freed, MI.sNil, MI.sCons, MI.sIf, MI.sSet, MI.sSetL, MI.sRet, MI.sRetN, MI.sRetV, MI.sSub, MI.sAug, MI.sApp, MI.sOwn, MI.sSetT, MI.sFor, MI.sWhile, MI.eVar, MI.eBor, MI.eK, MI.eBin, MI.eNeg, MI.eNot, MI.eAnd, MI.eOr, MI.eT, MI.eIf, MI.eIx, MI.eSl, MI.eCall, MI.eInst, MI.eBlt1, MI.eBlt, MI.eMeth, MI.eTup, MI.eLst, MI.eOfA, MI.aNil, MI.aCons, MI.tCmp, MI.tChain, MI.tNot, MI.tAnd, MI.tOr, MI.tOf, MI.tYes, MI.pNo, MI.pYes, MI.boolOf, MI.blOf, MI.truth, MI.partD, MI.gOne, bind_ok, of_some, toS_ok, then_next, then_ret, then_brk, map_some, List.getElem?_cons_zero, List.getElem?_cons_succ, List.set_cons_zero, List.set_cons_succ, if_true, if_false, Bool.false_eq_true, reduceIte, h, cmp_is, isN, ix2_0, ix2_1, len_ok hb, cmp_neI, beq_iff_eq.mpr (show (c : Int) = (t.length : Nat) by omega), Bool.not_true, if_pos hc]
    · simp only [MI.run, MI.strD, MI.lstOf, MI.known, MI.sPar, MI.sTry, MI.sRaise0, MI.sRaise1, MI.sParOwn, MI.sForR, MI.sStar, MI.starD, MI.eTupRg, MI.eLm, MI.eIsX, MI.eFld, MI.eDic0, MI.eLam, MI.xCat, MI.freed, MI.sNil, MI.sCons, MI.sIf, MI.sSet, MI.sSetL, MI.sRet, MI.sRetN, MI.sRetV, MI.sSub, MI.sAug, MI.sApp, MI.sOwn, MI.sSetT, MI.sFor, MI.sWhile, MI.eVar, MI.eBor, MI.eK, MI.eBin, MI.eNeg, MI.eNot, MI.eAnd, MI.eOr, MI.eT, MI.eIf, MI.eIx, MI.eSl, MI.eCall, MI.eInst, MI.eBlt1, MI.eBlt, MI.eMeth, MI.eTup, MI.eLst, MI.eOfA, MI.aNil, MI.aCons, MI.tCmp, MI.tChain, MI.tNot, MI.tAnd, MI.tOr, MI.tOf, MI.tYes, MI.pNo, MI.pYes, MI.boolOf, MI.blOf, MI.truth, MI.partD, MI.gOne, bind_ok, of_some, toS_ok, then_next, then_ret, then_brk, map_some, List.getElem?_cons_zero, List.getElem?_cons_succ, List.set_cons_zero, List.set_cons_succ, if_true, if_false, Bool.false_eq_true, reduceIte, h, cmp_is, isN, ix2_0, ix2_1, len_ok hb, cmp_neI, beq_eq_false_iff_ne.mpr (show (c : Int) ≠ (t.length : Nat) by omega), Bool.not_false, if_neg hc]
      rfl
theorem odd_exc {d : D} {st : Store} (hd : isTy d st ["str"] = some false) (n : Nat) : tab G fs (n + 1) (Str.ofString "read_board") [d] st = .exc (Str.ofString "NoText") [Str.ofString "row"] [.int 0] st := by
  rw [at_read_board]
  unfold b_read_board
  simp only [MI.run, MI.strD, MI.lstOf, MI.known, MI.sPar, MI.sTry, MI.sRaise0, MI.sRaise1, MI.sParOwn, MI.sForR, MI.sStar, MI.starD, MI.eTupRg, MI.eLm, MI.eIsX, MI.eFld, MI.eDic0, MI.eLam, MI.xCat, MI.freed, MI.sNil, MI.sCons, MI.sIf, MI.sSet, MI.sSetL, MI.sRet, MI.sRetN, MI.sRetV, MI.sSub, MI.sAug, MI.sApp, MI.sOwn, MI.sSetT, MI.sFor, MI.sWhile, MI.eVar, MI.eBor, MI.eK, MI.eBin, MI.eNeg, MI.eNot, MI.eAnd, MI.eOr, MI.eT, MI.eIf, MI.eIx, MI.eSl, MI.eCall, MI.eInst, MI.eBlt1, MI.eBlt, MI.eMeth, MI.eTup, MI.eLst, MI.eOfA, MI.aNil, MI.aCons, MI.tCmp, MI.tChain, MI.tNot, MI.tAnd, MI.tOr, MI.tOf, MI.tYes, MI.pNo, MI.pYes, MI.boolOf, MI.blOf, MI.truth, MI.partD, MI.gOne, bind_ok, of_some, toS_ok, then_next, then_ret, then_brk, map_some, List.getElem?_cons_zero, List.getElem?_cons_succ, List.set_cons_zero, List.set_cons_succ, if_true, if_false, Bool.false_eq_true, reduceIte, hd, Bool.not_false]
  rfl
end K77

set_option maxRecDepth 100000
set_option maxHeartbeats 4000000
namespace K77
open PySem MI SX
theorem pick_sign (n : Nat) {st : Store} {i : Nat} {m : Int} (h : Drw st i m) (hm : m < 1000000) {t : List Nat} (hne : t ≠ []) (hl : t.length ≤ 4000000) :
    ∃ (c : Nat) (st' : Store), tab G fs (n + 2) (Str.ofString "_law_pick") [.ref i, .str (S t)] st = .ok (.str (S [c])) st' ∧ c ∈ t ∧ Drw st' i (m + 1) := by
  have hp : 0 < t.length := List.length_pos_iff.mpr hne
  have hb : t.length ≤ big := Nat.le_trans hl (by decide)
  obtain ⟨r, st', h1, h2, h3, h4⟩ := next_ok n h hm (z := (t.length : Nat)) (by omega) (by omega)
  obtain ⟨k, rfl⟩ := Int.eq_ofNat_of_zero_le h2
  have hk : k < t.length := by omega
  refine ⟨t[k], st', ?_, List.getElem_mem hk, h4⟩
  rw [at_law_pick]
  unfold b_law_pick
  simp only [MI.run, MI.strD, MI.lstOf, MI.known, MI.sPar, MI.sTry, MI.sRaise0, MI.sRaise1, MI.sParOwn, MI.sForR, MI.sStar, MI.starD, MI.eTupRg, MI.eLm, MI.eIsX, MI.eFld, MI.eDic0, MI.eLam, MI.xCat, MI.freed, MI.sNil, MI.sCons, MI.sIf, MI.sSet, MI.sSetL, MI.sRet, MI.sRetN, MI.sRetV, MI.sSub, MI.sAug, MI.sApp, MI.sOwn, MI.sSetT, MI.sFor, MI.sWhile, MI.eVar, MI.eBor, MI.eK, MI.eBin, MI.eNeg, MI.eNot, MI.eAnd, MI.eOr, MI.eT, MI.eIf, MI.eIx, MI.eSl, MI.eCall, MI.eInst, MI.eBlt1, MI.eBlt, MI.eMeth, MI.eTup, MI.eLst, MI.eOfA, MI.aNil, MI.aCons, MI.tCmp, MI.tChain, MI.tNot, MI.tAnd, MI.tOr, MI.tOf, MI.tYes, MI.pNo, MI.pYes, MI.boolOf, MI.blOf, MI.truth, MI.partD, MI.gOne, bind_ok, of_some, toS_ok, then_next, then_ret, then_brk, map_some, List.getElem?_cons_zero, List.getElem?_cons_succ, List.set_cons_zero, List.set_cons_succ, if_true, if_false, Bool.false_eq_true, reduceIte, len_ok hb, h1, ix_ok hb (List.getElem?_eq_getElem hk)]
theorem cut_nk (t : List Nat) (k : Nat) : L2.cutS (S t) none (some (k : Int)) = S (t.take k) := by
  refine TL.ext_tl ?_
  show (t.drop (HT.sIx (S t).length 0 none)).take (HT.sIx (S t).length (S t).length (some (k : Int)) - HT.sIx (S t).length 0 none) = t.take k
  rw [HT.sIx_nat, S_len]
  show (t.drop 0).take (min k t.length - 0) = t.take k
  rw [List.drop_zero, Nat.sub_zero]
  by_cases hk : k ≤ t.length
  · rw [Nat.min_eq_left hk]
  · rw [Nat.min_eq_right (by omega), List.take_of_length_le (Nat.le_refl _), List.take_of_length_le (by omega)]
theorem cut_kn (t : List Nat) (k : Nat) : L2.cutS (S t) (some (k : Int)) none = S (t.drop k) := by
  refine TL.ext_tl ?_
  show (t.drop (HT.sIx (S t).length 0 (some (k : Int)))).take (HT.sIx (S t).length (S t).length none - HT.sIx (S t).length 0 (some (k : Int))) = t.drop k
  rw [HT.sIx_nat, S_len]
  by_cases hk : k ≤ t.length
  · rw [Nat.min_eq_left hk]
    refine List.take_of_length_le ?_
    rw [List.length_drop]
    show _ ≤ t.length - k
    omega
  · rw [Nat.min_eq_right (by omega), List.drop_eq_nil_of_le (Nat.le_refl _), List.drop_eq_nil_of_le (show t.length ≤ k by omega), List.take_nil]
theorem sl_nk {t : List Nat} (h : t.length ≤ big) (k : Nat) : slD (.str (S t)) none (some (k : Int)) = some (.str (S (t.take k))) := by
  show (if (S t).length ≤ big then some (D.str (L2.cutS (S t) none (some (k : Int)))) else none) = _
  rw [S_len, if_pos h, cut_nk]
theorem sl_kn {t : List Nat} (h : t.length ≤ big) (k : Nat) : slD (.str (S t)) (some (k : Int)) none = some (.str (S (t.drop k))) := by
  show (if (S t).length ≤ big then some (D.str (L2.cutS (S t) (some (k : Int)) none)) else none) = _
  rw [S_len, if_pos h, cut_kn]
theorem sl_k1n {t : List Nat} (h : t.length ≤ big) (k : Nat) : slD (.str (S t)) (some ((k : Int) + 1)) none = some (.str (S (t.drop (k + 1)))) := sl_kn h (k + 1)
theorem l_own : Str.ofString "\"\\(), -01none" = S [34, 92, 40, 41, 44, 32, 45, 48, 49, 110, 111, 110, 101] := by decide +kernel
/-- _law_changed_text -/
theorem changed_ok (n : Nat) {st : Store} {i : Nat} {m : Int} (h : Drw st i m) (hm : m + 10 < 1000000) {t : List Nat} (hl : t.length ≤ 3000000) (hs : ∀ c ∈ t, c ≤ 126) :
    ∃ (u : List Nat) (st' : Store), tab G fs (n + 4) (Str.ofString "_law_changed_text") [.ref i, .str (S t)] st = .ok (.str (S u)) st' ∧ (u.length ≤ t.length + 1 ∧ ∀ c ∈ u, c ≤ 126) ∧ Drw st' i (m + 10) := by
  have hb : t.length ≤ big := Nat.le_trans hl (by decide)
  obtain ⟨w, st1, w1, w2, w3, w4⟩ := next_ok (n + 2) h (by omega) (z := 3) (by omega) (by omega)
  obtain ⟨a, st2, a1, a2, a3, a4⟩ := next_ok (n + 2) w4 (by omega) (z := ((t.length : Nat) : Int) + 1) (by omega) (by omega)
  obtain ⟨k, rfl⟩ := Int.eq_ofNat_of_zero_le a2
  obtain ⟨c, st3, c1, c2, c3⟩ := pick_sign (n + 1) a4 (by omega) (t := [34, 92, 40, 41, 44, 32, 45, 48, 49, 110, 111, 110, 101] ++ t) (by simp) (by rw [List.length_append]; have : ([34, 92, 40, 41, 44, 32, 45, 48, 49, 110, 111, 110, 101] : List Nat).length = 13 := rfl; omega)
  obtain ⟨r, st4, r1, r2, r3, r4⟩ := next_ok (n + 2) c3 (by omega) (z := 5) (by omega) (by omega)
  have hc126 : c ≤ 126 := by
    rcases List.mem_append.mp c2 with z | z
    · simp only [List.mem_cons, List.not_mem_nil, or_false] at z
      omega
    · exact hs c z
  obtain ⟨e, st5, e1, e3, e2⟩ : ∃ (e : Nat) (st5 : Store), (MI.eIf (MI.tCmp .Gt (eCall (tab G fs (n + 3)) (Str.ofString "_law_next") (aCons (eVar 0) (aCons (eK (.int 5)) aNil))) (eK (.int 0))) (eVar 2) (eCall (tab G fs (n + 3)) (Str.ofString "_law_any_sign") (aCons (eVar 0) aNil))) [.v (.ref i), .v (.str (S t)), .v (.str (S [c])), .no, .v (.int w), .v (.int (k : Nat))] st3 = .ok (.str (S [e])) st5 ∧ e ≤ 126 ∧ Drw st5 i (m + 5) := by
    by_cases hr : 0 < r
    · refine ⟨c, st4, ?_, hc126, r4.mono (by omega)⟩
      simp only [MI.run, MI.strD, MI.lstOf, MI.known, MI.sPar, MI.sTry, MI.sRaise0, MI.sRaise1, MI.sParOwn, MI.sForR, MI.sStar, MI.starD, MI.eTupRg, MI.eLm, MI.eIsX, MI.eFld, MI.eDic0, MI.eLam, MI.xCat, MI.freed, MI.sNil, MI.sCons, MI.sIf, MI.sSet, MI.sSetL, MI.sRet, MI.sRetN, MI.sRetV, MI.sSub, MI.sAug, MI.sApp, MI.sOwn, MI.sSetT, MI.sFor, MI.sWhile, MI.eVar, MI.eBor, MI.eK, MI.eBin, MI.eNeg, MI.eNot, MI.eAnd, MI.eOr, MI.eT, MI.eIf, MI.eIx, MI.eSl, MI.eCall, MI.eInst, MI.eBlt1, MI.eBlt, MI.eMeth, MI.eTup, MI.eLst, MI.eOfA, MI.aNil, MI.aCons, MI.tCmp, MI.tChain, MI.tNot, MI.tAnd, MI.tOr, MI.tOf, MI.tYes, MI.pNo, MI.pYes, MI.boolOf, MI.blOf, MI.truth, MI.partD, MI.gOne, bind_ok, of_some, toS_ok, then_next, then_ret, then_brk, map_some, List.getElem?_cons_zero, List.getElem?_cons_succ, List.set_cons_zero, List.set_cons_succ, if_true, if_false, Bool.false_eq_true, reduceIte, r1, cmp_gt, decide_eq_true hr]
    · obtain ⟨e, st5, g1, g2, g3⟩ := any_ok n r4 (by omega)
      refine ⟨e, st5, ?_, g2.2, g3.mono (by omega)⟩
      simp only [MI.run, MI.strD, MI.lstOf, MI.known, MI.sPar, MI.sTry, MI.sRaise0, MI.sRaise1, MI.sParOwn, MI.sForR, MI.sStar, MI.starD, MI.eTupRg, MI.eLm, MI.eIsX, MI.eFld, MI.eDic0, MI.eLam, MI.xCat, MI.freed, MI.sNil, MI.sCons, MI.sIf, MI.sSet, MI.sSetL, MI.sRet, MI.sRetN, MI.sRetV, MI.sSub, MI.sAug, MI.sApp, MI.sOwn, MI.sSetT, MI.sFor, MI.sWhile, MI.eVar, MI.eBor, MI.eK, MI.eBin, MI.eNeg, MI.eNot, MI.eAnd, MI.eOr, MI.eT, MI.eIf, MI.eIx, MI.eSl, MI.eCall, MI.eInst, MI.eBlt1, MI.eBlt, MI.eMeth, MI.eTup, MI.eLst, MI.eOfA, MI.aNil, MI.aCons, MI.tCmp, MI.tChain, MI.tNot, MI.tAnd, MI.tOr, MI.tOf, MI.tYes, MI.pNo, MI.pYes, MI.boolOf, MI.blOf, MI.truth, MI.partD, MI.gOne, bind_ok, of_some, toS_ok, then_next, then_ret, then_brk, map_some, List.getElem?_cons_zero, List.getElem?_cons_succ, List.set_cons_zero, List.set_cons_succ, if_true, if_false, Bool.false_eq_true, reduceIte, r1, cmp_gt, decide_eq_false hr, g1]
  have hown : ([34, 92, 40, 41, 44, 32, 45, 48, 49, 110, 111, 110, 101] : List Nat).length + t.length ≤ big := by
    show 13 + t.length ≤ 16777216
    omega
  have hcat1 : (t.take k).length + ([e] : List Nat).length ≤ big := by
    rw [List.length_take]
    show _ + 1 ≤ 16777216
    omega
  have hcat2 (j : Nat) : (t.take k ++ [e]).length + (t.drop j).length ≤ big := by
    rw [List.length_append, List.length_take, List.length_drop]
    show _ + 1 + _ ≤ 16777216
    omega
  have hcat3 (j : Nat) : (t.take k).length + (t.drop j).length ≤ big := by
    rw [List.length_take, List.length_drop]
    show _ ≤ 16777216
    omega
  rw [at_law_changed_text]
  unfold b_law_changed_text
  refine Exists.imp (fun u hu => ⟨st5, hu.1, hu.2, e2.mono (by omega)⟩) (?_ : ∃ u : List Nat, _ ∧ (u.length ≤ t.length + 1 ∧ ∀ c ∈ u, c ≤ 126))
  have s1 : (sPar 4 5 (aCons (eCall (tab G fs (n + 3)) (Str.ofString "_law_next") (aCons (eVar 0) (aCons (eK (.int 3)) aNil))) (aCons (eCall (tab G fs (n + 3)) (Str.ofString "_law_next") (aCons (eVar 0) (aCons (eBin .Add (eBlt1 (Str.ofString "len") (eBor 1)) (eK (.int 1))) aNil))) aNil))) [.v (.ref i), .v (.str (S t)), .no, .no, .no, .no] st = .next [.v (.ref i), .v (.str (S t)), .no, .no, .v (.int w), .v (.int (k : Nat))] st2 := by
    simp only [MI.run, MI.strD, MI.lstOf, MI.known, MI.sPar, MI.sTry, MI.sRaise0, MI.sRaise1, MI.sParOwn, MI.sForR, MI.sStar, MI.starD, MI.eTupRg, MI.eLm, MI.eIsX, MI.eFld, MI.eDic0, MI.eLam, MI.xCat, MI.freed, MI.sNil, MI.sCons, MI.sIf, MI.sSet, MI.sSetL, MI.sRet, MI.sRetN, MI.sRetV, MI.sSub, MI.sAug, MI.sApp, MI.sOwn, MI.sSetT, MI.sFor, MI.sWhile, MI.eVar, MI.eBor, MI.eK, MI.eBin, MI.eNeg, MI.eNot, MI.eAnd, MI.eOr, MI.eT, MI.eIf, MI.eIx, MI.eSl, MI.eCall, MI.eInst, MI.eBlt1, MI.eBlt, MI.eMeth, MI.eTup, MI.eLst, MI.eOfA, MI.aNil, MI.aCons, MI.tCmp, MI.tChain, MI.tNot, MI.tAnd, MI.tOr, MI.tOf, MI.tYes, MI.pNo, MI.pYes, MI.boolOf, MI.blOf, MI.truth, MI.partD, MI.gOne, bind_ok, of_some, toS_ok, then_next, then_ret, then_brk, map_some, List.getElem?_cons_zero, List.getElem?_cons_succ, List.set_cons_zero, List.set_cons_succ, if_true, if_false, Bool.false_eq_true, reduceIte, w1, len_ok hb, op_add, a1]
  have s2 : (eCall (tab G fs (n + 3)) (Str.ofString "_law_pick") (aCons (eVar 0) (aCons (eBin .Add (eK (.str (Str.ofString "\"\\(), -01none"))) (eVar 1)) aNil))) [.v (.ref i), .v (.str (S t)), .no, .no, .v (.int w), .v (.int (k : Nat))] st2 = .ok (.str (S [c])) st3 := by
    simp only [MI.run, MI.strD, MI.lstOf, MI.known, MI.sPar, MI.sTry, MI.sRaise0, MI.sRaise1, MI.sParOwn, MI.sForR, MI.sStar, MI.starD, MI.eTupRg, MI.eLm, MI.eIsX, MI.eFld, MI.eDic0, MI.eLam, MI.xCat, MI.freed, MI.sNil, MI.sCons, MI.sIf, MI.sSet, MI.sSetL, MI.sRet, MI.sRetN, MI.sRetV, MI.sSub, MI.sAug, MI.sApp, MI.sOwn, MI.sSetT, MI.sFor, MI.sWhile, MI.eVar, MI.eBor, MI.eK, MI.eBin, MI.eNeg, MI.eNot, MI.eAnd, MI.eOr, MI.eT, MI.eIf, MI.eIx, MI.eSl, MI.eCall, MI.eInst, MI.eBlt1, MI.eBlt, MI.eMeth, MI.eTup, MI.eLst, MI.eOfA, MI.aNil, MI.aCons, MI.tCmp, MI.tChain, MI.tNot, MI.tAnd, MI.tOr, MI.tOf, MI.tYes, MI.pNo, MI.pYes, MI.boolOf, MI.blOf, MI.truth, MI.partD, MI.gOne, bind_ok, of_some, toS_ok, then_next, then_ret, then_brk, map_some, List.getElem?_cons_zero, List.getElem?_cons_succ, List.set_cons_zero, List.set_cons_succ, if_true, if_false, Bool.false_eq_true, reduceIte, l_own, op_cat hown, c1]
  have sg : ∀ x ∈ [e], x ≤ 126 := fun x hx => by rw [List.mem_singleton.mp hx]; exact e3
  have sp : ∀ {a b : List Nat}, (∀ c ∈ a, c ≤ 126) → (∀ c ∈ b, c ≤ 126) → ∀ c ∈ a ++ b, c ≤ 126 := fun h1 h2 c hc => (List.mem_append.mp hc).elim (h1 c) (h2 c)
  have stk : ∀ j, ∀ c ∈ t.take j, c ≤ 126 := fun j c hc => hs c (List.mem_of_mem_take hc)
  have sdr : ∀ j, ∀ c ∈ t.drop j, c ≤ 126 := fun j c hc => hs c (List.mem_of_mem_drop hc)
  have hrun : ∀ X, MI.run X [.v (.ref i), .v (.str (S t)), .v (.str (S [c])), .v (.str (S [e])), .v (.int w), .v (.int (k : Nat))] st5 = MI.run X [.v (.ref i), .v (.str (S t)), .v (.str (S [c])), .v (.str (S [e])), .v (.int w), .v (.int (k : Nat))] st5 := fun _ => rfl
  by_cases g0 : w = 0
  · subst g0
    refine ⟨t.take k ++ [e] ++ t.drop k, ?_, by rw [List.length_append, List.length_append, List.length_take, List.length_drop, List.length_singleton]; omega, sp (sp (stk k) sg) (sdr k)⟩
    refine (run_step s1).trans ((run_set s2).trans ((run_set e1).trans ?_))
    refine run_ifR (st1 := st5) (d := .str (S (t.take k ++ [e] ++ t.drop k))) (st2 := st5) ?_ ?_
    · simp only [MI.run, MI.strD, MI.lstOf, MI.known, MI.sPar, MI.sTry, MI.sRaise0, MI.sRaise1, MI.sParOwn, MI.sForR, MI.sStar, MI.starD, MI.eTupRg, MI.eLm, MI.eIsX, MI.eFld, MI.eDic0, MI.eLam, MI.xCat, MI.freed, MI.sNil, MI.sCons, MI.sIf, MI.sSet, MI.sSetL, MI.sRet, MI.sRetN, MI.sRetV, MI.sSub, MI.sAug, MI.sApp, MI.sOwn, MI.sSetT, MI.sFor, MI.sWhile, MI.eVar, MI.eBor, MI.eK, MI.eBin, MI.eNeg, MI.eNot, MI.eAnd, MI.eOr, MI.eT, MI.eIf, MI.eIx, MI.eSl, MI.eCall, MI.eInst, MI.eBlt1, MI.eBlt, MI.eMeth, MI.eTup, MI.eLst, MI.eOfA, MI.aNil, MI.aCons, MI.tCmp, MI.tChain, MI.tNot, MI.tAnd, MI.tOr, MI.tOf, MI.tYes, MI.pNo, MI.pYes, MI.boolOf, MI.blOf, MI.truth, MI.partD, MI.gOne, bind_ok, of_some, toS_ok, then_next, then_ret, then_brk, map_some, List.getElem?_cons_zero, List.getElem?_cons_succ, List.set_cons_zero, List.set_cons_succ, if_true, if_false, Bool.false_eq_true, reduceIte, cmp_eqI, beq_self_eq_true]
    · simp only [MI.run, MI.strD, MI.lstOf, MI.known, MI.sPar, MI.sTry, MI.sRaise0, MI.sRaise1, MI.sParOwn, MI.sForR, MI.sStar, MI.starD, MI.eTupRg, MI.eLm, MI.eIsX, MI.eFld, MI.eDic0, MI.eLam, MI.xCat, MI.freed, MI.sNil, MI.sCons, MI.sIf, MI.sSet, MI.sSetL, MI.sRet, MI.sRetN, MI.sRetV, MI.sSub, MI.sAug, MI.sApp, MI.sOwn, MI.sSetT, MI.sFor, MI.sWhile, MI.eVar, MI.eBor, MI.eK, MI.eBin, MI.eNeg, MI.eNot, MI.eAnd, MI.eOr, MI.eT, MI.eIf, MI.eIx, MI.eSl, MI.eCall, MI.eInst, MI.eBlt1, MI.eBlt, MI.eMeth, MI.eTup, MI.eLst, MI.eOfA, MI.aNil, MI.aCons, MI.tCmp, MI.tChain, MI.tNot, MI.tAnd, MI.tOr, MI.tOf, MI.tYes, MI.pNo, MI.pYes, MI.boolOf, MI.blOf, MI.truth, MI.partD, MI.gOne, bind_ok, of_some, toS_ok, then_next, then_ret, then_brk, map_some, List.getElem?_cons_zero, List.getElem?_cons_succ, List.set_cons_zero, List.set_cons_succ, if_true, if_false, Bool.false_eq_true, reduceIte, sl_nk hb, sl_kn hb, op_cat hcat1, op_cat (hcat2 k)]
  · have b0 : (w == 0) = false := beq_eq_false_iff_ne.mpr g0
    by_cases g1 : w = 1
    · subst g1
      refine ⟨t.take k ++ t.drop (k + 1), ?_, by rw [List.length_append, List.length_take, List.length_drop]; omega, sp (stk k) (sdr (k + 1))⟩
      refine (run_step s1).trans ((run_set s2).trans ((run_set e1).trans ?_))
      refine (run_ifF (st1 := st5) ?_).trans (run_ret ?_)
      · simp only [MI.run, MI.strD, MI.lstOf, MI.known, MI.sPar, MI.sTry, MI.sRaise0, MI.sRaise1, MI.sParOwn, MI.sForR, MI.sStar, MI.starD, MI.eTupRg, MI.eLm, MI.eIsX, MI.eFld, MI.eDic0, MI.eLam, MI.xCat, MI.freed, MI.sNil, MI.sCons, MI.sIf, MI.sSet, MI.sSetL, MI.sRet, MI.sRetN, MI.sRetV, MI.sSub, MI.sAug, MI.sApp, MI.sOwn, MI.sSetT, MI.sFor, MI.sWhile, MI.eVar, MI.eBor, MI.eK, MI.eBin, MI.eNeg, MI.eNot, MI.eAnd, MI.eOr, MI.eT, MI.eIf, MI.eIx, MI.eSl, MI.eCall, MI.eInst, MI.eBlt1, MI.eBlt, MI.eMeth, MI.eTup, MI.eLst, MI.eOfA, MI.aNil, MI.aCons, MI.tCmp, MI.tChain, MI.tNot, MI.tAnd, MI.tOr, MI.tOf, MI.tYes, MI.pNo, MI.pYes, MI.boolOf, MI.blOf, MI.truth, MI.partD, MI.gOne, bind_ok, of_some, toS_ok, then_next, then_ret, then_brk, map_some, List.getElem?_cons_zero, List.getElem?_cons_succ, List.set_cons_zero, List.set_cons_succ, if_true, if_false, Bool.false_eq_true, reduceIte, cmp_eqI, b0]
      · simp only [MI.run, MI.strD, MI.lstOf, MI.known, MI.sPar, MI.sTry, MI.sRaise0, MI.sRaise1, MI.sParOwn, MI.sForR, MI.sStar, MI.starD, MI.eTupRg, MI.eLm, MI.eIsX, MI.eFld, MI.eDic0, MI.eLam, MI.xCat, MI.freed, MI.sNil, MI.sCons, MI.sIf, MI.sSet, MI.sSetL, MI.sRet, MI.sRetN, MI.sRetV, MI.sSub, MI.sAug, MI.sApp, MI.sOwn, MI.sSetT, MI.sFor, MI.sWhile, MI.eVar, MI.eBor, MI.eK, MI.eBin, MI.eNeg, MI.eNot, MI.eAnd, MI.eOr, MI.eT, MI.eIf, MI.eIx, MI.eSl, MI.eCall, MI.eInst, MI.eBlt1, MI.eBlt, MI.eMeth, MI.eTup, MI.eLst, MI.eOfA, MI.aNil, MI.aCons, MI.tCmp, MI.tChain, MI.tNot, MI.tAnd, MI.tOr, MI.tOf, MI.tYes, MI.pNo, MI.pYes, MI.boolOf, MI.blOf, MI.truth, MI.partD, MI.gOne, bind_ok, of_some, toS_ok, then_next, then_ret, then_brk, map_some, List.getElem?_cons_zero, List.getElem?_cons_succ, List.set_cons_zero, List.set_cons_succ, if_true, if_false, Bool.false_eq_true, reduceIte, cmp_eqI, beq_self_eq_true, op_add, sl_nk hb, sl_k1n hb, op_cat (hcat3 (k + 1))]
    · have b1 : (w == 1) = false := beq_eq_false_iff_ne.mpr g1
      refine ⟨t.take k ++ [e] ++ t.drop (k + 1), ?_, by rw [List.length_append, List.length_append, List.length_take, List.length_drop, List.length_singleton]; omega, sp (sp (stk k) sg) (sdr (k + 1))⟩
      refine (run_step s1).trans ((run_set s2).trans ((run_set e1).trans ?_))
      refine (run_ifF (st1 := st5) ?_).trans (run_ret ?_)
      · simp only [MI.run, MI.strD, MI.lstOf, MI.known, MI.sPar, MI.sTry, MI.sRaise0, MI.sRaise1, MI.sParOwn, MI.sForR, MI.sStar, MI.starD, MI.eTupRg, MI.eLm, MI.eIsX, MI.eFld, MI.eDic0, MI.eLam, MI.xCat, MI.freed, MI.sNil, MI.sCons, MI.sIf, MI.sSet, MI.sSetL, MI.sRet, MI.sRetN, MI.sRetV, MI.sSub, MI.sAug, MI.sApp, MI.sOwn, MI.sSetT, MI.sFor, MI.sWhile, MI.eVar, MI.eBor, MI.eK, MI.eBin, MI.eNeg, MI.eNot, MI.eAnd, MI.eOr, MI.eT, MI.eIf, MI.eIx, MI.eSl, MI.eCall, MI.eInst, MI.eBlt1, MI.eBlt, MI.eMeth, MI.eTup, MI.eLst, MI.eOfA, MI.aNil, MI.aCons, MI.tCmp, MI.tChain, MI.tNot, MI.tAnd, MI.tOr, MI.tOf, MI.tYes, MI.pNo, MI.pYes, MI.boolOf, MI.blOf, MI.truth, MI.partD, MI.gOne, bind_ok, of_some, toS_ok, then_next, then_ret, then_brk, map_some, List.getElem?_cons_zero, List.getElem?_cons_succ, List.set_cons_zero, List.set_cons_succ, if_true, if_false, Bool.false_eq_true, reduceIte, cmp_eqI, b0]
      · simp only [MI.run, MI.strD, MI.lstOf, MI.known, MI.sPar, MI.sTry, MI.sRaise0, MI.sRaise1, MI.sParOwn, MI.sForR, MI.sStar, MI.starD, MI.eTupRg, MI.eLm, MI.eIsX, MI.eFld, MI.eDic0, MI.eLam, MI.xCat, MI.freed, MI.sNil, MI.sCons, MI.sIf, MI.sSet, MI.sSetL, MI.sRet, MI.sRetN, MI.sRetV, MI.sSub, MI.sAug, MI.sApp, MI.sOwn, MI.sSetT, MI.sFor, MI.sWhile, MI.eVar, MI.eBor, MI.eK, MI.eBin, MI.eNeg, MI.eNot, MI.eAnd, MI.eOr, MI.eT, MI.eIf, MI.eIx, MI.eSl, MI.eCall, MI.eInst, MI.eBlt1, MI.eBlt, MI.eMeth, MI.eTup, MI.eLst, MI.eOfA, MI.aNil, MI.aCons, MI.tCmp, MI.tChain, MI.tNot, MI.tAnd, MI.tOr, MI.tOf, MI.tYes, MI.pNo, MI.pYes, MI.boolOf, MI.blOf, MI.truth, MI.partD, MI.gOne, bind_ok, of_some, toS_ok, then_next, then_ret, then_brk, map_some, List.getElem?_cons_zero, List.getElem?_cons_succ, List.set_cons_zero, List.set_cons_succ, if_true, if_false, Bool.false_eq_true, reduceIte, cmp_eqI, b1, op_add, sl_nk hb, sl_k1n hb, op_cat hcat1, op_cat (hcat2 (k + 1))]
end K77

set_option maxRecDepth 100000
set_option maxHeartbeats 4000000
namespace K77
open PySem MI SX
mutual
theorem th_P : ∀ (d : D) (k : Nat), Th k d → ∃ p, toP d = some p ∧ p.canLay0 = true ∧ p.depth ≤ k
  | .non, k, _ => ⟨.none, rfl, by unfold PyData.canLay0; rfl, by unfold PyData.depth; omega⟩
  | .int i, k, _ => ⟨.int i, rfl, by unfold PyData.canLay0; rfl, by unfold PyData.depth; omega⟩
  | .str s, k, h => ⟨.str s, rfl, by
      unfold PyData.canLay0 PyData.strOk
      rw [Array.all_eq_true_iff_forall_mem]
      intro c hc
      have : ∀ c ∈ s.cps.toList, 32 ≤ c ∧ c ≤ 126 := by cases k <;> (unfold Th at h; exact h)
      have := this c (Array.mem_toList_iff.mpr hc)
      exact decide_eq_true (by omega), by unfold PyData.depth; omega⟩
  | .tup ds, 0, h => by unfold Th at h; exact h.elim
  | .tup ds, k + 1, h => by
    have h' : ∀ d ∈ ds, Th k d := by unfold Th at h; exact h
    obtain ⟨ps, e1, e2, e3⟩ := th_Ps ds k h'
    exact ⟨.tuple ps, by unfold toP; rw [e1]; rfl, by unfold PyData.canLay0; exact e2, by unfold PyData.depth; omega⟩
  | .bl _, k, h => by cases k <;> (unfold Th at h; exact h.elim)
  | .lst _, k, h => by cases k <;> (unfold Th at h; exact h.elim)
  | .ty _, k, h => by cases k <;> (unfold Th at h; exact h.elim)
  | .ref _, k, h => by cases k <;> (unfold Th at h; exact h.elim)
  | .scr _, k, h => by cases k <;> (unfold Th at h; exact h.elim)
  | .exn _ _ _, k, h => by cases k <;> (unfold Th at h; exact h.elim)
  | .edic, k, h => by cases k <;> (unfold Th at h; exact h.elim)
  | .lit _, k, h => by cases k <;> (unfold Th at h; exact h.elim)
theorem th_Ps : ∀ (ds : List D) (k : Nat), (∀ d ∈ ds, Th k d) → ∃ ps, toPs ds = some ps ∧ PyData.canLayAll0 ps = true ∧ PyData.depthAll ps ≤ k
  | [], k, _ => ⟨[], rfl, by unfold PyData.canLayAll0; rfl, by unfold PyData.depthAll; omega⟩
  | d :: ds, k, h => by
    obtain ⟨p, e1, e2, e3⟩ := th_P d k (h d List.mem_cons_self)
    obtain ⟨ps, f1, f2, f3⟩ := th_Ps ds k fun e he => h e (List.mem_cons_of_mem _ he)
    refine ⟨p :: ps, by unfold toPs; rw [e1, f1], by unfold PyData.canLayAll0; rw [e2, f2]; rfl, by unfold PyData.depthAll; omega⟩
end
theorem one_eq {d : D} (h : Th 8 d) : cmpD .Eq (.lst [d]) (.lst []) = some false := by
  obtain ⟨p, e1, e2, e3⟩ := th_P d 8 h
  show (match toP (.lst [d]), toP (.lst []) with
    | some p, some q => if SeqAt.shaped p = true ∧ SeqAt.shaped q = true then some (PyData.eqv p q) else none
    | _, _ => none) = _
  have a1 : toP (.lst [d]) = some (.list [p]) := by
    unfold toP toPs
    rw [e1]
    rfl
  rw [a1]
  show (if SeqAt.shaped (.list [p]) = true ∧ SeqAt.shaped (.list []) = true then some (PyData.eqv (.list [p]) (.list [])) else none) = _
  have a2 : SeqAt.shaped (.list [p]) = true := by
    unfold SeqAt.shaped PyData.canLay0 PyData.canLayAll0 PyData.canLayAll0
    rw [e2]
    unfold PyData.depth PyData.depthAll PyData.depthAll
    exact decide_eq_true (by omega)
  rw [if_pos ⟨a2, by decide +kernel⟩]
  unfold PyData.eqv PyData.eqvAll
  rfl
theorem one_ne {d : D} (h : Th 8 d) : cmpD .NotEq (.lst [d]) (.lst []) = some true := by
  have := one_eq h
  show (eqD (.lst [d]) (.lst [])).map not = _
  rw [show eqD (.lst [d]) (.lst []) = some false from this]
  rfl
theorem nil_ne : cmpD .NotEq (.lst []) (.lst []) = some false := by decide +kernel
end K77

set_option maxRecDepth 100000
set_option maxHeartbeats 4000000
namespace K77
open PySem MI SX
def lines (t : List Nat) : List (List Nat) := (Txt.split (S t) (S [10])).map fun z => z.cps.toList
theorem strJoin_tl (z : List Nat) : ∀ l : List Str, (Str.join (S z) l).cps.toList = TL.joinL z (l.map fun q => q.cps.toList)
  | [] => rfl
  | [p] => rfl
  | p :: q :: r => by
    have ih := strJoin_tl z (q :: r)
    show (p ++ S z ++ Str.join (S z) (q :: r)).cps.toList = p.cps.toList ++ (z ++ TL.joinL z ((q :: r).map fun q => q.cps.toList))
    rw [← ih]
    show ((p.cps ++ z.toArray) ++ _).toList = _
    simp only [Array.toList_append, List.append_assoc]
theorem lines_join (t : List Nat) : TL.joinL [10] (lines t) = t := by
  have h := congrArg (fun z : Str => z.cps.toList) (StrLaws.join_split (S t) (S [10]))
  dsimp only at h
  rw [strJoin_tl] at h
  exact h
theorem lines_free (t : List Nat) : ∀ l ∈ lines t, 10 ∉ l := by
  intro l hl
  obtain ⟨z, hz, rfl⟩ := List.mem_map.mp hl
  exact StrLaws.split_free (S t) 10 z hz
theorem lines_ne (t : List Nat) : lines t ≠ [] := by
  intro e
  have := PyProof.Rows.split_pos (S t) (S [10])
  have h2 := congrArg List.length e
  unfold lines at h2
  rw [List.length_map] at h2
  simp only [List.length_nil] at h2
  omega
theorem lines_len (t : List Nat) : (lines t).length ≤ t.length + 2 := by
  unfold lines
  rw [List.length_map]
  exact PyProof.Rows.split_le (S t) (S [10])
theorem line_len {t l : List Nat} (h : l ∈ lines t) : l.length ≤ t.length := by
  obtain ⟨z, hz, rfl⟩ := List.mem_map.mp h
  exact PyProof.Rows.part_short hz
theorem free_uniq : ∀ (a b x y : List Nat), 10 ∉ a → 10 ∉ b → a ++ 10 :: x = b ++ 10 :: y → a = b ∧ x = y
  | [], [], x, y, _, _, h => ⟨rfl, by simpa using h⟩
  | [], c :: b, x, y, _, hb, h => by
    simp only [List.nil_append, List.cons_append, List.cons.injEq] at h
    exact absurd (h.1 ▸ List.mem_cons_self) hb
  | c :: a, [], x, y, ha, _, h => by
    simp only [List.nil_append, List.cons_append, List.cons.injEq] at h
    exact absurd (h.1 ▸ List.mem_cons_self) ha
  | c :: a, d :: b, x, y, ha, hb, h => by
    simp only [List.cons_append, List.cons.injEq] at h
    obtain ⟨h1, h2⟩ := free_uniq a b x y (fun m => ha (List.mem_cons_of_mem _ m)) (fun m => hb (List.mem_cons_of_mem _ m)) h.2
    exact ⟨by rw [h.1, h1], h2⟩
theorem join_uniq : ∀ (ps qs : List (List Nat)), ps ≠ [] → qs ≠ [] → (∀ l ∈ ps, 10 ∉ l) → (∀ l ∈ qs, 10 ∉ l) → TL.joinL [10] ps = TL.joinL [10] qs → ps = qs
  | [], _, h, _, _, _, _ => absurd rfl h
  | _, [], _, h, _, _, _ => absurd rfl h
  | [p], [q], _, _, _, _, h => by
    have : p = q := h
    rw [this]
  | [p], q :: q2 :: qs, _, _, hp, _, h => by
    have h' : p = q ++ ([10] ++ TL.joinL [10] (q2 :: qs)) := h
    exact absurd (by rw [h']; simp) (hp p List.mem_cons_self)
  | p :: p2 :: ps, [q], _, _, _, hq, h => by
    have h' : p ++ ([10] ++ TL.joinL [10] (p2 :: ps)) = q := h
    exact absurd (by rw [← h']; simp) (hq q List.mem_cons_self)
  | p :: p2 :: ps, q :: q2 :: qs, _, _, hp, hq, h => by
    have h' : p ++ 10 :: TL.joinL [10] (p2 :: ps) = q ++ 10 :: TL.joinL [10] (q2 :: qs) := h
    obtain ⟨h1, h2⟩ := free_uniq p q _ _ (hp p List.mem_cons_self) (hq q List.mem_cons_self) h'
    rw [h1, join_uniq (p2 :: ps) (q2 :: qs) (by simp) (by simp) (fun l hl => hp l (List.mem_cons_of_mem _ hl)) (fun l hl => hq l (List.mem_cons_of_mem _ hl)) h2]
theorem join_rows : ∀ rs : List (List Nat), TL.joinL [10] (rs ++ [[]]) = (rs.map fun r => r ++ [10]).flatten
  | [] => rfl
  | [r] => by
    show r ++ ([10] ++ []) = _
    simp
  | r :: q :: rs => by
    have ih := join_rows (q :: rs)
    show r ++ ([10] ++ TL.joinL [10] (q :: rs ++ [[]])) = _
    rw [ih]
    simp
/-- the lines of rows each ended -/
theorem lines_rows {rs : List (List Nat)} (h : ∀ r ∈ rs, 10 ∉ r) : lines (rs.map fun r => r ++ [10]).flatten = rs ++ [[]] := by
  refine join_uniq _ _ (lines_ne _) (by simp) (lines_free _) (fun l hl => ?_) (by rw [lines_join, join_rows])
  rcases List.mem_append.mp hl with z | z
  · exact h l z
  · rw [List.mem_singleton.mp z]; simp
theorem l_nl : Str.ofString "\n" = S [10] := by decide +kernel
def lsD (ls : List (List Nat)) : List D := ls.map fun l => .str (S l)
theorem meth_split {t : List Nat} (h : t.length ≤ 4000000) : methD (Str.ofString "split") (.str (S t)) [.str (S [10])] = some (.lst (lsD (lines t))) := by
  show (if (S t).length + 2 ≤ big ∧ (S [10]).length ≠ 0 then some (D.lst ((Txt.split (S t) (S [10])).map D.str)) else none) = _
  rw [S_len, if_pos ⟨Nat.le_trans (Nat.add_le_add_right h 2) (by decide), by decide⟩]
  unfold lsD lines
  rw [List.map_map]
  refine congrArg (fun z => some (D.lst z)) (List.map_congr_left fun z _ => ?_)
  show D.str z = D.str (S z.cps.toList)
  rw [S_tl]
def rowP (r : List Nat) : Option (List D) := match wholeP r with
  | some (.tup ds) => some ds
  | _ => none
/-- the things of rows; or the first row that tells none -/
def rowsP : Nat → List (List Nat) → Nat ⊕ List D
  | _, [] => .inr []
  | i, r :: rs => match rowP r with
    | none => .inl i
    | some ds => match rowsP (i + 1) rs with
      | .inl j => .inl j
      | .inr es => .inr (.tup ds :: es)
/-- the board of a text, or the refusal's row -/
def boardP (t : List Nat) : Nat ⊕ List D := match rowsP 0 (lines t).dropLast with
  | .inl i => .inl i
  | .inr ds => if (lines t).getLast? = some [] then .inr ds else .inl ((lines t).length - 1)
theorem rowP_th {r : List Nat} {ds : List D} (h : rowP r = some ds) : Th 8 (.tup ds) ∧ r = txt (.tup ds) := by
  unfold rowP at h
  cases hw : wholeP r with
  | none => rw [hw] at h; cases h
  | some x =>
    rw [hw] at h
    have hb : ∃ k, thP 8 r = some (x, k) ∧ k = r.length := by
      unfold wholeP at hw
      cases hp : thP 8 r with
      | none => rw [hp] at hw; cases hw
      | some q =>
        obtain ⟨y, k⟩ := q
        rw [hp] at hw
        dsimp only at hw
        split at hw
        · rename_i hk
          cases hw
          exact ⟨k, rfl, hk⟩
        · cases hw
    obtain ⟨k, hp, rfl⟩ := hb
    obtain ⟨t1, t2, t3, t4⟩ := back 8 r x _ hp
    rw [List.take_length] at t2
    cases x with
    | tup es => cases h; exact ⟨t1, t2⟩
    | _ => cases h
theorem rowsP_all : ∀ {rs : List (List Nat)} {i : Nat} {es : List D}, rowsP i rs = .inr es → ∀ e ∈ es, Th 8 e ∧ txt e ∈ rs
  | [], i, es, h, e, he => by cases h; cases he
  | r :: rs, i, es, h, e, he => by
    unfold rowsP at h
    cases hr : rowP r with
    | none => rw [hr] at h; cases h
    | some ds =>
      rw [hr] at h
      cases h2 : rowsP (i + 1) rs with
      | inl j => rw [h2] at h; cases h
      | inr es2 =>
        rw [h2] at h
        cases h
        obtain ⟨t1, t2⟩ := rowP_th hr
        rcases List.mem_cons.mp he with rfl | he
        · exact ⟨t1, by rw [← t2]; exact List.mem_cons_self⟩
        · obtain ⟨q1, q2⟩ := rowsP_all h2 e he
          exact ⟨q1, List.mem_cons_of_mem _ q2⟩
theorem rowsP_len : ∀ {rs : List (List Nat)} {i : Nat} {es : List D}, rowsP i rs = .inr es → es.length = rs.length
  | [], i, es, h => by cases h; rfl
  | r :: rs, i, es, h => by
    unfold rowsP at h
    cases hr : rowP r with
    | none => rw [hr] at h; cases h
    | some ds =>
      rw [hr] at h
      cases h2 : rowsP (i + 1) rs with
      | inl j => rw [h2] at h; cases h
      | inr es2 =>
        rw [h2] at h
        cases h
        rw [List.length_cons, List.length_cons, rowsP_len h2]
theorem rowP_txt {ds : List D} (h : Th 8 (.tup ds)) : rowP (txt (.tup ds)) = some ds := by
  have h2 := round 8 (.tup ds) h [] (fun c r e => by cases e)
  rw [List.append_nil] at h2
  unfold rowP wholeP
  rw [h2]
  simp only [if_true]
theorem rowsP_txt : ∀ (i : Nat) (rs : List (List D)), (∀ r ∈ rs, Th 8 (.tup r)) → rowsP i (rs.map fun r => txt (.tup r)) = .inr (rs.map .tup)
  | i, [], _ => rfl
  | i, r :: rs, h => by
    rw [List.map_cons]
    unfold rowsP
    rw [rowP_txt (h r List.mem_cons_self), rowsP_txt (i + 1) rs fun q hq => h q (List.mem_cons_of_mem _ hq)]
    rfl
end K77

set_option maxRecDepth 100000
set_option maxHeartbeats 4000000
namespace K77
open PySem MI SX
def enF : Nat → List D → List D
  | _, [] => []
  | i, d :: ds => .tup [.int (i : Nat), d] :: enF (i + 1) ds
theorem enF_zip : ∀ (ds : List D) (i : Nat), (List.range' i ds.length).zipWith (fun i d => D.tup [.int (i : Nat), d]) ds = enF i ds
  | [], _ => rfl
  | d :: ds, i => by
    rw [List.length_cons, List.range'_succ, List.zipWith_cons_cons, enF_zip ds (i + 1)]
    rfl
theorem enumD_eq (ds : List D) : enumD ds = enF 0 ds := by
  unfold enumD
  rw [List.range_eq_range', enF_zip]
theorem lsD_len (ls : List (List Nat)) : (lsD ls).length = ls.length := List.length_map ..
theorem lsD_app (a b : List (List Nat)) : lsD (a ++ b) = lsD a ++ lsD b := List.map_append ..
theorem cutL_m1 (ds : List D) : cutL ds none (some (-1)) = ds.dropLast := by
  unfold cutL
  show (ds.drop 0).take (((-1 : Int) + (ds.length : Nat)).toNat - 0) = ds.dropLast
  rw [List.drop_zero, Nat.sub_zero, List.dropLast_eq_take]
  congr 1
  omega
theorem atI_last {ds : List D} {z : D} : L2.atI (ds ++ [z]) (-1) = some z := by
  unfold L2.atI L2.ixN
  rw [if_neg (by decide), if_pos (by rw [List.length_append, List.length_singleton]; omega)]
  have e : ((-1 : Int) + ((ds ++ [z]).length : Nat)).toNat = ds.length := by
    rw [List.length_append, List.length_singleton]
    omega
  show (ds ++ [z])[((-1 : Int) + ((ds ++ [z]).length : Nat)).toNat]? = some z
  rw [e, List.getElem?_append_right (Nat.le_refl _), Nat.sub_self]
  rfl
theorem lines_split (t : List Nat) : ∃ init last, lines t = init ++ [last] ∧ (lines t).dropLast = init ∧ (lines t).getLast? = some last := by
  refine ⟨(lines t).dropLast, (lines t).getLast (lines_ne t), (List.dropLast_concat_getLast (lines_ne t)).symm, rfl, ?_⟩
  rw [List.getLast?_eq_getLast (lines_ne t)]
abbrev rbB (T : Tab) : SX := (sCons (sSet 5 (eCall T (Str.ofString "read_whole") (aCons (eVar 4) (aCons (eVar 3) aNil))))
    (sCons (sIf (MI.tNot (MI.tOf (eInst (eVar 5) ["tuple"])))
     (sCons (sRaise1 (Str.ofString "NoText") (Str.ofString "row") (eVar 3))
      sNil)
     sNil)
    (sCons (sApp 1 (eVar 5))
    sNil)))
abbrev rbR : SX := (sCons (sIf (MI.tCmp .NotEq (eBor 2) (eK (.str (Str.ofString ""))))
   (sCons (sRaise1 (Str.ofString "NoText") (Str.ofString "row") (eBlt1 (Str.ofString "len") (eBor 6)))
    sNil)
   sNil)
  (sCons (sRet (eBlt1 (Str.ofString "tuple") (eBor 1)))
  sNil))
theorem gM34 (x y : Str) (a b : D) (e0 e1 e2 e3 e4 e5 e6 : Sl) : gMany [(x, 3), (y, 4)] (.tup [a, b]) [e0, e1, e2, e3, e4, e5, e6] = some [e0, e1, e2, .v a, .v b, e5, e6] := rfl
theorem ownSlot_1 (a b c d e f : Sl) (ds : List D) : ownSlot [a, .own ds, b, c, d, e, f] 1 = some ds := rfl
theorem ty_tup (d : D) (st : Store) (h : ∀ k, Th k d → True) : True := trivial
theorem th_notTup {d : D} (h : Th 8 d) (hn : ∀ ds, d ≠ .tup ds) (st : Store) : isTy d st ["tuple"] = some false := by
  rcases h.cases with rfl | ⟨i, rfl, hi⟩ | ⟨l, rfl, hc⟩ | ⟨q, ds, e, rfl, ha⟩
  · rfl
  · rfl
  · rfl
  · exact absurd rfl (hn ds)
theorem wholeP_th {r : List Nat} {x : D} (hw : wholeP r = some x) : Th 8 x ∧ r = txt x := by
  have hb : ∃ k, thP 8 r = some (x, k) ∧ k = r.length := by
    unfold wholeP at hw
    cases hp : thP 8 r with
    | none => rw [hp] at hw; cases hw
    | some q =>
      obtain ⟨y, k⟩ := q
      rw [hp] at hw
      dsimp only at hw
      split at hw
      · rename_i hk
        cases hw
        exact ⟨k, rfl, hk⟩
      · cases hw
  obtain ⟨k, hp, rfl⟩ := hb
  obtain ⟨t1, t2, t3, t4⟩ := back 8 r x _ hp
  rw [List.take_length] at t2
  exact ⟨t1, t2⟩
theorem rowP_none {l : List Nat} (h : wholeP l = none) : rowP l = none := by
  unfold rowP
  rw [h]
theorem rowP_tup {l : List Nat} {ds : List D} (h : wholeP l = some (.tup ds)) : rowP l = some ds := by
  unfold rowP
  rw [h]
theorem rowP_not {l : List Nat} {d : D} (h : wholeP l = some d) (hn : ∀ ds, d ≠ .tup ds) : rowP l = none := by
  unfold rowP
  rw [h]
  cases d with
  | tup ds => exact absurd rfl (hn ds)
  | _ => rfl
theorem forL_next {bind : D → MI.Env → Option MI.Env} {s : SX} {d : D} {ds : List D} {env env1 env2 : MI.Env} {st st2 : Store} (h1 : bind d env = some env1) (h2 : s env1 st = .next env2 st2) : forL bind s (d :: ds) env st = forL bind s ds env2 st2 := by
  rw [forL]
  rw [h1]
  dsimp only
  rw [h2]
theorem forL_exc {bind : D → MI.Env → Option MI.Env} {s : SX} {d : D} {ds es : List D} {env env1 env2 : MI.Env} {st st2 : Store} {c : Str} {ns : List Str} (h1 : bind d env = some env1) (h2 : s env1 st = .exc c ns es env2 st2) : forL bind s (d :: ds) env st = .exc c ns es env2 st2 := by
  rw [forL]
  rw [h1]
  dsimp only
  rw [h2]
theorem forL_ret {bind : D → MI.Env → Option MI.Env} {s : SX} {d x : D} {ds : List D} {env env1 : MI.Env} {st st2 : Store} (h1 : bind d env = some env1) (h2 : s env1 st = .ret x st2) : forL bind s (d :: ds) env st = .ret x st2 := by
  rw [forL]
  rw [h1]
  dsimp only
  rw [h2]
theorem rb_loop {T : Tab} {st : Store} {t0 rest rows : D} : ∀ (ls : List (List Nat)) (i : Nat) (acc : List D) (x y z : Sl),
    (∀ l ∈ ls, ∀ r : Int, T (Str.ofString "read_whole") [.str (S l), .int r] st = match wholeP l with
      | some d => .ok d st
      | none => .exc (Str.ofString "NoText") [Str.ofString "row"] [.int r] st) → acc.length + ls.length < big →
    match rowsP i ls with
    | .inl j => fin rbR (forL (gMany [((Str.ofString "at"), 3), ((Str.ofString "row"), 4)]) (rbB T) (enF i (lsD ls)) [.v t0, .own acc, .v rest, x, y, z, .v rows] st) = .exc (Str.ofString "NoText") [Str.ofString "row"] [.int (j : Nat)] st
    | .inr es => ∃ x2 y2 z2, fin rbR (forL (gMany [((Str.ofString "at"), 3), ((Str.ofString "row"), 4)]) (rbB T) (enF i (lsD ls)) [.v t0, .own acc, .v rest, x, y, z, .v rows] st) = MI.run rbR [.v t0, .own (acc ++ es), .v rest, x2, y2, z2, .v rows] st
  | [], i, acc, x, y, z, _, _ => ⟨x, y, z, by rw [List.append_nil]; rfl⟩
  | l :: ls, i, acc, x, y, z, hT, hlen => by
    have h1 := hT l List.mem_cons_self (i : Nat)
    have ih := fun acc x y z h => rb_loop (T := T) (st := st) (t0 := t0) (rest := rest) (rows := rows) ls (i + 1) acc x y z (fun q hq => hT q (List.mem_cons_of_mem _ hq)) h
    rw [List.length_cons] at hlen
    have e0 : enF i (lsD (l :: ls)) = .tup [.int (i : Nat), .str (S l)] :: enF (i + 1) (lsD ls) := rfl
    rw [e0]
    unfold rowsP
    cases hw : wholeP l with
    | none =>
      rw [hw] at h1
      rw [rowP_none hw]
      have hb : rbB T [.v t0, .own acc, .v rest, .v (.int (i : Nat)), .v (.str (S l)), z, .v rows] st = .exc (Str.ofString "NoText") [Str.ofString "row"] [.int (i : Nat)] [.v t0, .own acc, .v rest, .v (.int (i : Nat)), .v (.str (S l)), z, .v rows] st := by
        simp only [MI.run, MI.strD, MI.lstOf, MI.known, MI.sPar, MI.sTry, MI.sRaise0, MI.sRaise1, MI.sParOwn, MI.sForR, MI.sStar, MI.starD, MI.eTupRg, MI.eLm, MI.eIsX, MI.eFld, MI.eDic0, MI.eLam, MI.xCat, MI.freed, MI.sNil, MI.sCons, MI.sIf, MI.sSet, MI.sSetL, MI.sRet, MI.sRetN, MI.sRetV, MI.sSub, MI.sAug, MI.sApp, MI.sOwn, MI.sSetT, MI.sFor, MI.sWhile, MI.eVar, MI.eBor, MI.eK, MI.eBin, MI.eNeg, MI.eNot, MI.eAnd, MI.eOr, MI.eT, MI.eIf, MI.eIx, MI.eSl, MI.eCall, MI.eInst, MI.eBlt1, MI.eBlt, MI.eMeth, MI.eTup, MI.eLst, MI.eOfA, MI.aNil, MI.aCons, MI.tCmp, MI.tChain, MI.tNot, MI.tAnd, MI.tOr, MI.tOf, MI.tYes, MI.pNo, MI.pYes, MI.boolOf, MI.blOf, MI.truth, MI.partD, MI.gOne, bind_ok, of_some, toS_ok, then_next, then_ret, then_brk, map_some, List.getElem?_cons_zero, List.getElem?_cons_succ, List.set_cons_zero, List.set_cons_succ, if_true, if_false, Bool.false_eq_true, reduceIte, h1]
        rfl
      dsimp only
      rw [forL_exc (gM34 ..) hb]
      rfl
    | some d =>
      rw [hw] at h1
      obtain ⟨t1, t2⟩ := wholeP_th hw
      by_cases hd : ∃ ds, d = .tup ds
      · obtain ⟨ds, rfl⟩ := hd
        have hb : rbB T [.v t0, .own acc, .v rest, .v (.int (i : Nat)), .v (.str (S l)), z, .v rows] st = .next [.v t0, .own (acc ++ [.tup ds]), .v rest, .v (.int (i : Nat)), .v (.str (S l)), .v (.tup ds), .v rows] st := by
          have hlt : acc.length < big := by omega
          simp only [MI.run, MI.strD, MI.lstOf, MI.known, MI.sPar, MI.sTry, MI.sRaise0, MI.sRaise1, MI.sParOwn, MI.sForR, MI.sStar, MI.starD, MI.eTupRg, MI.eLm, MI.eIsX, MI.eFld, MI.eDic0, MI.eLam, MI.xCat, MI.freed, MI.sNil, MI.sCons, MI.sIf, MI.sSet, MI.sSetL, MI.sRet, MI.sRetN, MI.sRetV, MI.sSub, MI.sAug, MI.sApp, MI.sOwn, MI.sSetT, MI.sFor, MI.sWhile, MI.eVar, MI.eBor, MI.eK, MI.eBin, MI.eNeg, MI.eNot, MI.eAnd, MI.eOr, MI.eT, MI.eIf, MI.eIx, MI.eSl, MI.eCall, MI.eInst, MI.eBlt1, MI.eBlt, MI.eMeth, MI.eTup, MI.eLst, MI.eOfA, MI.aNil, MI.aCons, MI.tCmp, MI.tChain, MI.tNot, MI.tAnd, MI.tOr, MI.tOf, MI.tYes, MI.pNo, MI.pYes, MI.boolOf, MI.blOf, MI.truth, MI.partD, MI.gOne, bind_ok, of_some, toS_ok, then_next, then_ret, then_brk, map_some, List.getElem?_cons_zero, List.getElem?_cons_succ, List.set_cons_zero, List.set_cons_succ, if_true, if_false, Bool.false_eq_true, reduceIte, h1, show isTy (D.tup ds) st ["tuple"] = some true from rfl, Bool.not_true, ownSlot_1, hlt]
        have ih2 := ih (acc ++ [.tup ds]) (.v (.int (i : Nat))) (.v (.str (S l))) (.v (.tup ds)) (by rw [List.length_append, List.length_singleton]; omega)
        rw [rowP_tup hw]
        dsimp only
        rw [forL_next (gM34 ..) hb]
        cases hr : rowsP (i + 1) ls with
        | inl j =>
          rw [hr] at ih2
          exact ih2
        | inr es =>
          rw [hr] at ih2
          obtain ⟨x2, y2, z2, ih2⟩ := ih2
          refine ⟨x2, y2, z2, ?_⟩
          rw [List.append_assoc] at ih2
          exact ih2
      · have hty := th_notTup t1 (fun ds e => hd ⟨ds, e⟩) st
        have hb : rbB T [.v t0, .own acc, .v rest, .v (.int (i : Nat)), .v (.str (S l)), z, .v rows] st = .exc (Str.ofString "NoText") [Str.ofString "row"] [.int (i : Nat)] [.v t0, .own acc, .v rest, .v (.int (i : Nat)), .v (.str (S l)), .v d, .v rows] st := by
          simp only [MI.run, MI.strD, MI.lstOf, MI.known, MI.sPar, MI.sTry, MI.sRaise0, MI.sRaise1, MI.sParOwn, MI.sForR, MI.sStar, MI.starD, MI.eTupRg, MI.eLm, MI.eIsX, MI.eFld, MI.eDic0, MI.eLam, MI.xCat, MI.freed, MI.sNil, MI.sCons, MI.sIf, MI.sSet, MI.sSetL, MI.sRet, MI.sRetN, MI.sRetV, MI.sSub, MI.sAug, MI.sApp, MI.sOwn, MI.sSetT, MI.sFor, MI.sWhile, MI.eVar, MI.eBor, MI.eK, MI.eBin, MI.eNeg, MI.eNot, MI.eAnd, MI.eOr, MI.eT, MI.eIf, MI.eIx, MI.eSl, MI.eCall, MI.eInst, MI.eBlt1, MI.eBlt, MI.eMeth, MI.eTup, MI.eLst, MI.eOfA, MI.aNil, MI.aCons, MI.tCmp, MI.tChain, MI.tNot, MI.tAnd, MI.tOr, MI.tOf, MI.tYes, MI.pNo, MI.pYes, MI.boolOf, MI.blOf, MI.truth, MI.partD, MI.gOne, bind_ok, of_some, toS_ok, then_next, then_ret, then_brk, map_some, List.getElem?_cons_zero, List.getElem?_cons_succ, List.set_cons_zero, List.set_cons_succ, if_true, if_false, Bool.false_eq_true, reduceIte, h1, hty, Bool.not_false]
          rfl
        rw [rowP_not hw fun ds e => hd ⟨ds, e⟩]
        dsimp only
        rw [forL_exc (gM34 ..) hb]
        rfl
/-- read_board -/
theorem read_board_ok (n : Nat) {t : List Nat} (ht : t.length ≤ 4000000) (st : Store) : tab G fs (n + 20) (Str.ofString "read_board") [.str (S t)] st = match boardP t with
    | .inl j => .exc (Str.ofString "NoText") [Str.ofString "row"] [.int (j : Nat)] st
    | .inr es => .ok (.tup es) st := by
  obtain ⟨init, last, h1, h2, h3⟩ := lines_split t
  have hll := lines_len t
  have hlast : last.length ≤ big := Nat.le_trans (line_len (t := t) (by rw [h1]; simp)) (Nat.le_trans ht (by decide))
  have hT : ∀ l ∈ init, ∀ r : Int, tab G fs (n + 19) (Str.ofString "read_whole") [.str (S l), .int r] st = match wholeP l with
      | some d => .ok d st
      | none => .exc (Str.ofString "NoText") [Str.ofString "row"] [.int r] st := fun l hl r =>
    whole_ok (Nat.le_trans (line_len (t := t) (by rw [h1]; exact List.mem_append_left _ hl)) ht) n r st
  have hln : init.length + 1 = (lines t).length := by rw [h1, List.length_append]; rfl
  have hL := rb_loop (T := tab G fs (n + 19)) (st := st) (t0 := .str (S t)) (rest := .str (S last)) (rows := .lst (lsD init)) init 0 [] .no .no .no hT (by
    have : (4000000 + 2 : Nat) < big := by decide
    show 0 + _ < _
    omega)
  rw [at_read_board]
  unfold b_read_board boardP
  rw [h2, h3]
  refine (run_ifF (st1 := st) (by simp only [MI.run, MI.strD, MI.lstOf, MI.known, MI.sPar, MI.sTry, MI.sRaise0, MI.sRaise1, MI.sParOwn, MI.sForR, MI.sStar, MI.starD, MI.eTupRg, MI.eLm, MI.eIsX, MI.eFld, MI.eDic0, MI.eLam, MI.xCat, MI.freed, MI.sNil, MI.sCons, MI.sIf, MI.sSet, MI.sSetL, MI.sRet, MI.sRetN, MI.sRetV, MI.sSub, MI.sAug, MI.sApp, MI.sOwn, MI.sSetT, MI.sFor, MI.sWhile, MI.eVar, MI.eBor, MI.eK, MI.eBin, MI.eNeg, MI.eNot, MI.eAnd, MI.eOr, MI.eT, MI.eIf, MI.eIx, MI.eSl, MI.eCall, MI.eInst, MI.eBlt1, MI.eBlt, MI.eMeth, MI.eTup, MI.eLst, MI.eOfA, MI.aNil, MI.aCons, MI.tCmp, MI.tChain, MI.tNot, MI.tAnd, MI.tOr, MI.tOf, MI.tYes, MI.pNo, MI.pYes, MI.boolOf, MI.blOf, MI.truth, MI.partD, MI.gOne, bind_ok, of_some, toS_ok, then_next, then_ret, then_brk, map_some, List.getElem?_cons_zero, List.getElem?_cons_succ, List.set_cons_zero, List.set_cons_succ, if_true, if_false, Bool.false_eq_true, reduceIte, show isTy (D.str (S t)) st ["str"] = some true from rfl, Bool.not_true])).trans ?_
  refine (run_step (env1 := [.v (.str (S t)), .no, .v (.str (S last)), .no, .no, .no, .v (.lst (lsD init))]) (st1 := st) ?_).trans ?_
  · have hs := meth_split ht
    rw [h1] at hs
    have e : (lsD (init ++ [last])).getLast? = some (.str (S last)) := by rw [lsD_app]; exact List.getLast?_concat
    have e2 : (lsD (init ++ [last])).dropLast = lsD init := by rw [lsD_app]; exact List.dropLast_concat
    simp only [MI.run, MI.strD, MI.lstOf, MI.known, MI.sPar, MI.sTry, MI.sRaise0, MI.sRaise1, MI.sParOwn, MI.sForR, MI.sStar, MI.starD, MI.eTupRg, MI.eLm, MI.eIsX, MI.eFld, MI.eDic0, MI.eLam, MI.xCat, MI.freed, MI.sNil, MI.sCons, MI.sIf, MI.sSet, MI.sSetL, MI.sRet, MI.sRetN, MI.sRetV, MI.sSub, MI.sAug, MI.sApp, MI.sOwn, MI.sSetT, MI.sFor, MI.sWhile, MI.eVar, MI.eBor, MI.eK, MI.eBin, MI.eNeg, MI.eNot, MI.eAnd, MI.eOr, MI.eT, MI.eIf, MI.eIx, MI.eSl, MI.eCall, MI.eInst, MI.eBlt1, MI.eBlt, MI.eMeth, MI.eTup, MI.eLst, MI.eOfA, MI.aNil, MI.aCons, MI.tCmp, MI.tChain, MI.tNot, MI.tAnd, MI.tOr, MI.tOf, MI.tYes, MI.pNo, MI.pYes, MI.boolOf, MI.blOf, MI.truth, MI.partD, MI.gOne, bind_ok, of_some, toS_ok, then_next, then_ret, then_brk, map_some, List.getElem?_cons_zero, List.getElem?_cons_succ, List.set_cons_zero, List.set_cons_succ, if_true, if_false, Bool.false_eq_true, reduceIte, l_nl, hs, e, e2]
  refine (run_own (ds := []) (st1 := st) rfl).trans ?_
  refine (run_for (ds := enumD (lsD init)) (st1 := st) rfl).trans ?_
  rw [enumD_eq]
  show fin rbR (forL _ (rbB (tab G fs (n + 19))) (enF 0 (lsD init)) [.v (.str (S t)), .own [], .v (.str (S last)), .no, .no, .no, .v (.lst (lsD init))] st) = _
  cases hr : rowsP 0 init with
  | inl j =>
    rw [hr] at hL
    exact hL
  | inr es =>
    rw [hr] at hL
    obtain ⟨x, y, z, hL⟩ := hL
    rw [hL, List.nil_append]
    dsimp only
    by_cases hz : last = []
    · subst hz
      rw [if_pos rfl]
      refine (run_ifF (st1 := st) (by simp only [MI.run, MI.strD, MI.lstOf, MI.known, MI.sPar, MI.sTry, MI.sRaise0, MI.sRaise1, MI.sParOwn, MI.sForR, MI.sStar, MI.starD, MI.eTupRg, MI.eLm, MI.eIsX, MI.eFld, MI.eDic0, MI.eLam, MI.xCat, MI.freed, MI.sNil, MI.sCons, MI.sIf, MI.sSet, MI.sSetL, MI.sRet, MI.sRetN, MI.sRetV, MI.sSub, MI.sAug, MI.sApp, MI.sOwn, MI.sSetT, MI.sFor, MI.sWhile, MI.eVar, MI.eBor, MI.eK, MI.eBin, MI.eNeg, MI.eNot, MI.eAnd, MI.eOr, MI.eT, MI.eIf, MI.eIx, MI.eSl, MI.eCall, MI.eInst, MI.eBlt1, MI.eBlt, MI.eMeth, MI.eTup, MI.eLst, MI.eOfA, MI.aNil, MI.aCons, MI.tCmp, MI.tChain, MI.tNot, MI.tAnd, MI.tOr, MI.tOf, MI.tYes, MI.pNo, MI.pYes, MI.boolOf, MI.blOf, MI.truth, MI.partD, MI.gOne, bind_ok, of_some, toS_ok, then_next, then_ret, then_brk, map_some, List.getElem?_cons_zero, List.getElem?_cons_succ, List.set_cons_zero, List.set_cons_succ, if_true, if_false, Bool.false_eq_true, reduceIte, l_empty, neS, decide_true, Bool.not_true])).trans (run_ret ?_)
      rfl
    · rw [if_neg (by intro e; cases e; exact hz rfl)]
      have hn : decide (last = []) = false := decide_eq_false hz
      have hlen : bltD (Str.ofString "len") [.lst (lsD init)] st = some (.int (((lines t).length - 1 : Nat) : Int)) := by
        show some (D.int ((lsD init).length : Nat)) = _
        rw [lsD_len]
        refine congrArg (fun q : Nat => some (D.int (q : Int))) ?_
        omega
      simp only [MI.run, MI.strD, MI.lstOf, MI.known, MI.sPar, MI.sTry, MI.sRaise0, MI.sRaise1, MI.sParOwn, MI.sForR, MI.sStar, MI.starD, MI.eTupRg, MI.eLm, MI.eIsX, MI.eFld, MI.eDic0, MI.eLam, MI.xCat, MI.freed, MI.sNil, MI.sCons, MI.sIf, MI.sSet, MI.sSetL, MI.sRet, MI.sRetN, MI.sRetV, MI.sSub, MI.sAug, MI.sApp, MI.sOwn, MI.sSetT, MI.sFor, MI.sWhile, MI.eVar, MI.eBor, MI.eK, MI.eBin, MI.eNeg, MI.eNot, MI.eAnd, MI.eOr, MI.eT, MI.eIf, MI.eIx, MI.eSl, MI.eCall, MI.eInst, MI.eBlt1, MI.eBlt, MI.eMeth, MI.eTup, MI.eLst, MI.eOfA, MI.aNil, MI.aCons, MI.tCmp, MI.tChain, MI.tNot, MI.tAnd, MI.tOr, MI.tOf, MI.tYes, MI.pNo, MI.pYes, MI.boolOf, MI.blOf, MI.truth, MI.partD, MI.gOne, bind_ok, of_some, toS_ok, then_next, then_ret, then_brk, map_some, List.getElem?_cons_zero, List.getElem?_cons_succ, List.set_cons_zero, List.set_cons_succ, if_true, if_false, Bool.false_eq_true, reduceIte, l_empty, neS, hn, Bool.not_false, hlen]
      rfl
end K77

set_option maxRecDepth 100000
set_option maxHeartbeats 4000000
namespace K77
open PySem MI SX
abbrev duB (T : Tab) : SX := (sCons (sSet 5 (eCall T (Str.ofString "_law_told_of") (aCons (eVar 4) aNil)))
    (sCons (sIf (MI.tOr (MI.tCmp .Eq (eBor 5) (eLst aNil)) (MI.tNot (MI.tOf (eInst (eIx (eBor 5) (eK (.int 0))) ["tuple"]))))
     (sCons (sRet (eLst (aCons (eK (.str (Str.ofString "NoText"))) (aCons (eVar 3) aNil))))
      sNil)
     sNil)
    (sCons (sApp 2 (eIx (eBor 5) (eK (.int 0))))
    sNil)))
abbrev duR : SX := (sCons (sRet (MI.eIf (MI.tCmp .Eq (eIx (eBor 1) (eNeg (eK (.int 1)))) (eK (.str (Str.ofString "")))) (eBlt1 (Str.ofString "tuple") (eBor 2)) (eLst (aCons (eK (.str (Str.ofString "NoText"))) (aCons (eBin .Sub (eBlt1 (Str.ofString "len") (eBor 1)) (eK (.int 1))) aNil)))))
  sNil)
theorem gM34d (x y : Str) (a b : D) (e0 e1 e2 e3 e4 e5 : Sl) : gMany [(x, 3), (y, 4)] (.tup [a, b]) [e0, e1, e2, e3, e4, e5] = some [e0, e1, e2, .v a, .v b, e5] := rfl
theorem ownSlot_2d (a b c d e : Sl) (ds : List D) : ownSlot [a, b, .own ds, c, d, e] 2 = some ds := rfl
theorem du_loop {T : Tab} {st : Store} {t0 rows : D} : ∀ (ls : List (List Nat)) (i : Nat) (acc : List D) (x y z : Sl),
    (∀ l ∈ ls, T (Str.ofString "_law_told_of") [.str (S l)] st = .ok (.lst (wholeP l).toList) st) → acc.length + ls.length < big →
    match rowsP i ls with
    | .inl j => fin duR (forL (gMany [((Str.ofString "_law_at"), 3), ((Str.ofString "_law_row"), 4)]) (duB T) (enF i (lsD ls)) [.v t0, .v rows, .own acc, x, y, z] st) = .ok (noText (j : Nat)) st
    | .inr es => ∃ x2 y2 z2, fin duR (forL (gMany [((Str.ofString "_law_at"), 3), ((Str.ofString "_law_row"), 4)]) (duB T) (enF i (lsD ls)) [.v t0, .v rows, .own acc, x, y, z] st) = MI.run duR [.v t0, .v rows, .own (acc ++ es), x2, y2, z2] st
  | [], i, acc, x, y, z, _, _ => ⟨x, y, z, by rw [List.append_nil]; rfl⟩
  | l :: ls, i, acc, x, y, z, hT, hlen => by
    have h1 := hT l List.mem_cons_self
    have ih := fun acc x y z h => du_loop (T := T) (st := st) (t0 := t0) (rows := rows) ls (i + 1) acc x y z (fun q hq => hT q (List.mem_cons_of_mem _ hq)) h
    rw [List.length_cons] at hlen
    have e0 : enF i (lsD (l :: ls)) = .tup [.int (i : Nat), .str (S l)] :: enF (i + 1) (lsD ls) := rfl
    rw [e0]
    unfold rowsP
    cases hw : wholeP l with
    | none =>
      rw [hw] at h1
      have h1 : T (Str.ofString "_law_told_of") [.str (S l)] st = .ok (.lst []) st := h1
      rw [rowP_none hw]
      have hb : duB T [.v t0, .v rows, .own acc, .v (.int (i : Nat)), .v (.str (S l)), z] st = .ret (noText (i : Nat)) st := by
        simp only [MI.run, MI.strD, MI.lstOf, MI.known, MI.sPar, MI.sTry, MI.sRaise0, MI.sRaise1, MI.sParOwn, MI.sForR, MI.sStar, MI.starD, MI.eTupRg, MI.eLm, MI.eIsX, MI.eFld, MI.eDic0, MI.eLam, MI.xCat, MI.freed, MI.sNil, MI.sCons, MI.sIf, MI.sSet, MI.sSetL, MI.sRet, MI.sRetN, MI.sRetV, MI.sSub, MI.sAug, MI.sApp, MI.sOwn, MI.sSetT, MI.sFor, MI.sWhile, MI.eVar, MI.eBor, MI.eK, MI.eBin, MI.eNeg, MI.eNot, MI.eAnd, MI.eOr, MI.eT, MI.eIf, MI.eIx, MI.eSl, MI.eCall, MI.eInst, MI.eBlt1, MI.eBlt, MI.eMeth, MI.eTup, MI.eLst, MI.eOfA, MI.aNil, MI.aCons, MI.tCmp, MI.tChain, MI.tNot, MI.tAnd, MI.tOr, MI.tOf, MI.tYes, MI.pNo, MI.pYes, MI.boolOf, MI.blOf, MI.truth, MI.partD, MI.gOne, bind_ok, of_some, toS_ok, then_next, then_ret, then_brk, map_some, List.getElem?_cons_zero, List.getElem?_cons_succ, List.set_cons_zero, List.set_cons_succ, if_true, if_false, Bool.false_eq_true, reduceIte, h1, eq_nil]
        rfl
      dsimp only
      rw [forL_ret (gM34d ..) hb]
      rfl
    | some d =>
      rw [hw] at h1
      have h1 : T (Str.ofString "_law_told_of") [.str (S l)] st = .ok (.lst [d]) st := h1
      obtain ⟨t1, t2⟩ := wholeP_th hw
      have hix : ixD (.lst [d]) (.int 0) st = some d := rfl
      by_cases hd : ∃ ds, d = .tup ds
      · obtain ⟨ds, rfl⟩ := hd
        have hb : duB T [.v t0, .v rows, .own acc, .v (.int (i : Nat)), .v (.str (S l)), z] st = .next [.v t0, .v rows, .own (acc ++ [.tup ds]), .v (.int (i : Nat)), .v (.str (S l)), .v (.lst [.tup ds])] st := by
          have hlt : acc.length < big := by omega
          simp only [MI.run, MI.strD, MI.lstOf, MI.known, MI.sPar, MI.sTry, MI.sRaise0, MI.sRaise1, MI.sParOwn, MI.sForR, MI.sStar, MI.starD, MI.eTupRg, MI.eLm, MI.eIsX, MI.eFld, MI.eDic0, MI.eLam, MI.xCat, MI.freed, MI.sNil, MI.sCons, MI.sIf, MI.sSet, MI.sSetL, MI.sRet, MI.sRetN, MI.sRetV, MI.sSub, MI.sAug, MI.sApp, MI.sOwn, MI.sSetT, MI.sFor, MI.sWhile, MI.eVar, MI.eBor, MI.eK, MI.eBin, MI.eNeg, MI.eNot, MI.eAnd, MI.eOr, MI.eT, MI.eIf, MI.eIx, MI.eSl, MI.eCall, MI.eInst, MI.eBlt1, MI.eBlt, MI.eMeth, MI.eTup, MI.eLst, MI.eOfA, MI.aNil, MI.aCons, MI.tCmp, MI.tChain, MI.tNot, MI.tAnd, MI.tOr, MI.tOf, MI.tYes, MI.pNo, MI.pYes, MI.boolOf, MI.blOf, MI.truth, MI.partD, MI.gOne, bind_ok, of_some, toS_ok, then_next, then_ret, then_brk, map_some, List.getElem?_cons_zero, List.getElem?_cons_succ, List.set_cons_zero, List.set_cons_succ, if_true, if_false, Bool.false_eq_true, reduceIte, h1, one_eq t1, hix, show isTy (D.tup ds) st ["tuple"] = some true from rfl, Bool.not_true, ownSlot_2d, hlt]
        have ih2 := ih (acc ++ [.tup ds]) (.v (.int (i : Nat))) (.v (.str (S l))) (.v (.lst [.tup ds])) (by rw [List.length_append, List.length_singleton]; omega)
        rw [rowP_tup hw]
        dsimp only
        rw [forL_next (gM34d ..) hb]
        cases hr : rowsP (i + 1) ls with
        | inl j =>
          rw [hr] at ih2
          exact ih2
        | inr es =>
          rw [hr] at ih2
          obtain ⟨x2, y2, z2, ih2⟩ := ih2
          refine ⟨x2, y2, z2, ?_⟩
          rw [List.append_assoc] at ih2
          exact ih2
      · have hty := th_notTup t1 (fun ds e => hd ⟨ds, e⟩) st
        have hb : duB T [.v t0, .v rows, .own acc, .v (.int (i : Nat)), .v (.str (S l)), z] st = .ret (noText (i : Nat)) st := by
          simp only [MI.run, MI.strD, MI.lstOf, MI.known, MI.sPar, MI.sTry, MI.sRaise0, MI.sRaise1, MI.sParOwn, MI.sForR, MI.sStar, MI.starD, MI.eTupRg, MI.eLm, MI.eIsX, MI.eFld, MI.eDic0, MI.eLam, MI.xCat, MI.freed, MI.sNil, MI.sCons, MI.sIf, MI.sSet, MI.sSetL, MI.sRet, MI.sRetN, MI.sRetV, MI.sSub, MI.sAug, MI.sApp, MI.sOwn, MI.sSetT, MI.sFor, MI.sWhile, MI.eVar, MI.eBor, MI.eK, MI.eBin, MI.eNeg, MI.eNot, MI.eAnd, MI.eOr, MI.eT, MI.eIf, MI.eIx, MI.eSl, MI.eCall, MI.eInst, MI.eBlt1, MI.eBlt, MI.eMeth, MI.eTup, MI.eLst, MI.eOfA, MI.aNil, MI.aCons, MI.tCmp, MI.tChain, MI.tNot, MI.tAnd, MI.tOr, MI.tOf, MI.tYes, MI.pNo, MI.pYes, MI.boolOf, MI.blOf, MI.truth, MI.partD, MI.gOne, bind_ok, of_some, toS_ok, then_next, then_ret, then_brk, map_some, List.getElem?_cons_zero, List.getElem?_cons_succ, List.set_cons_zero, List.set_cons_succ, if_true, if_false, Bool.false_eq_true, reduceIte, h1, one_eq t1, hix, hty, Bool.not_false]
          rfl
        rw [rowP_not hw fun ds e => hd ⟨ds, e⟩]
        dsimp only
        rw [forL_ret (gM34d ..) hb]
        rfl
def dueD (t : List Nat) : D := match boardP t with
  | .inl j => noText (j : Nat)
  | .inr es => .tup es
theorem neg1 : unD .USub (.int 1) = some (.int (-1)) := rfl
/-- _law_due -/
theorem due_ok (n : Nat) {t : List Nat} (ht : t.length ≤ 4000000) (st : Store) : tab G fs (n + 20) (Str.ofString "_law_due") [.str (S t)] st = .ok (dueD t) st := by
  obtain ⟨init, last, h1, h2, h3⟩ := lines_split t
  have hll := lines_len t
  have hT : ∀ l ∈ init, tab G fs (n + 19) (Str.ofString "_law_told_of") [.str (S l)] st = .ok (.lst (wholeP l).toList) st := fun l hl =>
    ltold_ok (Nat.le_trans (line_len (t := t) (by rw [h1]; exact List.mem_append_left _ hl)) ht) st n
  have hln : init.length + 1 = (lines t).length := by rw [h1, List.length_append]; rfl
  have hL := du_loop (T := tab G fs (n + 19)) (st := st) (t0 := .str (S t)) (rows := .lst (lsD (lines t))) init 0 [] .no .no .no hT (by
    have : (4000000 + 2 : Nat) < big := by decide
    show 0 + _ < _
    omega)
  rw [at_law_due]
  unfold b_law_due dueD boardP
  rw [h2, h3]
  have e : lsD (lines t) = lsD init ++ [.str (S last)] := by rw [h1, lsD_app]; rfl
  refine (run_ifF (st1 := st) (by simp only [MI.run, MI.strD, MI.lstOf, MI.known, MI.sPar, MI.sTry, MI.sRaise0, MI.sRaise1, MI.sParOwn, MI.sForR, MI.sStar, MI.starD, MI.eTupRg, MI.eLm, MI.eIsX, MI.eFld, MI.eDic0, MI.eLam, MI.xCat, MI.freed, MI.sNil, MI.sCons, MI.sIf, MI.sSet, MI.sSetL, MI.sRet, MI.sRetN, MI.sRetV, MI.sSub, MI.sAug, MI.sApp, MI.sOwn, MI.sSetT, MI.sFor, MI.sWhile, MI.eVar, MI.eBor, MI.eK, MI.eBin, MI.eNeg, MI.eNot, MI.eAnd, MI.eOr, MI.eT, MI.eIf, MI.eIx, MI.eSl, MI.eCall, MI.eInst, MI.eBlt1, MI.eBlt, MI.eMeth, MI.eTup, MI.eLst, MI.eOfA, MI.aNil, MI.aCons, MI.tCmp, MI.tChain, MI.tNot, MI.tAnd, MI.tOr, MI.tOf, MI.tYes, MI.pNo, MI.pYes, MI.boolOf, MI.blOf, MI.truth, MI.partD, MI.gOne, bind_ok, of_some, toS_ok, then_next, then_ret, then_brk, map_some, List.getElem?_cons_zero, List.getElem?_cons_succ, List.set_cons_zero, List.set_cons_succ, if_true, if_false, Bool.false_eq_true, reduceIte, show isTy (D.str (S t)) st ["str"] = some true from rfl, Bool.not_true])).trans ?_
  refine (run_step (env1 := [.v (.str (S t)), .v (.lst (lsD (lines t))), .own [], .no, .no, .no]) (st1 := st) ?_).trans ?_
  · have hs := meth_split ht
    simp only [MI.run, MI.strD, MI.lstOf, MI.known, MI.sPar, MI.sTry, MI.sRaise0, MI.sRaise1, MI.sParOwn, MI.sForR, MI.sStar, MI.starD, MI.eTupRg, MI.eLm, MI.eIsX, MI.eFld, MI.eDic0, MI.eLam, MI.xCat, MI.freed, MI.sNil, MI.sCons, MI.sIf, MI.sSet, MI.sSetL, MI.sRet, MI.sRetN, MI.sRetV, MI.sSub, MI.sAug, MI.sApp, MI.sOwn, MI.sSetT, MI.sFor, MI.sWhile, MI.eVar, MI.eBor, MI.eK, MI.eBin, MI.eNeg, MI.eNot, MI.eAnd, MI.eOr, MI.eT, MI.eIf, MI.eIx, MI.eSl, MI.eCall, MI.eInst, MI.eBlt1, MI.eBlt, MI.eMeth, MI.eTup, MI.eLst, MI.eOfA, MI.aNil, MI.aCons, MI.tCmp, MI.tChain, MI.tNot, MI.tAnd, MI.tOr, MI.tOf, MI.tYes, MI.pNo, MI.pYes, MI.boolOf, MI.blOf, MI.truth, MI.partD, MI.gOne, bind_ok, of_some, toS_ok, then_next, then_ret, then_brk, map_some, List.getElem?_cons_zero, List.getElem?_cons_succ, List.set_cons_zero, List.set_cons_succ, if_true, if_false, Bool.false_eq_true, reduceIte, l_nl, hs]
  refine (run_for (ds := enumD (lsD init)) (st1 := st) ?_).trans ?_
  · have hc : slD (.lst (lsD (lines t))) none (some (-1)) = some (.lst (lsD init)) := by
      show some (D.lst (cutL (lsD (lines t)) none (some (-1)))) = _
      rw [cutL_m1, e, List.dropLast_concat]
    unfold xEnum
    have hx : (eSl (eBor 1) pNo (pYes (eNeg (eK (.int 1))))) [.v (.str (S t)), .v (.lst (lsD (lines t))), .own [], .no, .no, .no] st = .ok (.lst (lsD init)) st := by
      simp only [MI.run, MI.strD, MI.lstOf, MI.known, MI.sPar, MI.sTry, MI.sRaise0, MI.sRaise1, MI.sParOwn, MI.sForR, MI.sStar, MI.starD, MI.eTupRg, MI.eLm, MI.eIsX, MI.eFld, MI.eDic0, MI.eLam, MI.xCat, MI.freed, MI.sNil, MI.sCons, MI.sIf, MI.sSet, MI.sSetL, MI.sRet, MI.sRetN, MI.sRetV, MI.sSub, MI.sAug, MI.sApp, MI.sOwn, MI.sSetT, MI.sFor, MI.sWhile, MI.eVar, MI.eBor, MI.eK, MI.eBin, MI.eNeg, MI.eNot, MI.eAnd, MI.eOr, MI.eT, MI.eIf, MI.eIx, MI.eSl, MI.eCall, MI.eInst, MI.eBlt1, MI.eBlt, MI.eMeth, MI.eTup, MI.eLst, MI.eOfA, MI.aNil, MI.aCons, MI.tCmp, MI.tChain, MI.tNot, MI.tAnd, MI.tOr, MI.tOf, MI.tYes, MI.pNo, MI.pYes, MI.boolOf, MI.blOf, MI.truth, MI.partD, MI.gOne, bind_ok, of_some, toS_ok, then_next, then_ret, then_brk, map_some, List.getElem?_cons_zero, List.getElem?_cons_succ, List.set_cons_zero, List.set_cons_succ, if_true, if_false, Bool.false_eq_true, reduceIte, neg1, hc]
    rw [hx]
    rfl
  rw [enumD_eq]
  show fin duR (forL _ (duB (tab G fs (n + 19))) (enF 0 (lsD init)) [.v (.str (S t)), .v (.lst (lsD (lines t))), .own [], .no, .no, .no] st) = _
  cases hr : rowsP 0 init with
  | inl j =>
    rw [hr] at hL
    exact hL
  | inr es =>
    rw [hr] at hL
    obtain ⟨x, y, z, hL⟩ := hL
    rw [hL, List.nil_append]
    dsimp only
    have hix : ixD (.lst (lsD (lines t))) (.int (-1)) st = some (.str (S last)) := by
      show L2.atI (lsD (lines t)) (-1) = _
      rw [e, atI_last]
    by_cases hz : last = []
    · subst hz
      rw [if_pos rfl]
      refine run_ret ?_
      simp only [MI.run, MI.strD, MI.lstOf, MI.known, MI.sPar, MI.sTry, MI.sRaise0, MI.sRaise1, MI.sParOwn, MI.sForR, MI.sStar, MI.starD, MI.eTupRg, MI.eLm, MI.eIsX, MI.eFld, MI.eDic0, MI.eLam, MI.xCat, MI.freed, MI.sNil, MI.sCons, MI.sIf, MI.sSet, MI.sSetL, MI.sRet, MI.sRetN, MI.sRetV, MI.sSub, MI.sAug, MI.sApp, MI.sOwn, MI.sSetT, MI.sFor, MI.sWhile, MI.eVar, MI.eBor, MI.eK, MI.eBin, MI.eNeg, MI.eNot, MI.eAnd, MI.eOr, MI.eT, MI.eIf, MI.eIx, MI.eSl, MI.eCall, MI.eInst, MI.eBlt1, MI.eBlt, MI.eMeth, MI.eTup, MI.eLst, MI.eOfA, MI.aNil, MI.aCons, MI.tCmp, MI.tChain, MI.tNot, MI.tAnd, MI.tOr, MI.tOf, MI.tYes, MI.pNo, MI.pYes, MI.boolOf, MI.blOf, MI.truth, MI.partD, MI.gOne, bind_ok, of_some, toS_ok, then_next, then_ret, then_brk, map_some, List.getElem?_cons_zero, List.getElem?_cons_succ, List.set_cons_zero, List.set_cons_succ, if_true, if_false, Bool.false_eq_true, reduceIte, neg1, hix, l_empty, eqS, decide_true]
      rfl
    · rw [if_neg (by intro e; cases e; exact hz rfl)]
      have hn : decide (last = []) = false := decide_eq_false hz
      have hlen : bltD (Str.ofString "len") [.lst (lsD (lines t))] st = some (.int ((lines t).length : Nat)) := by
        show some (D.int ((lsD (lines t)).length : Nat)) = _
        rw [lsD_len]
      refine run_ret ?_
      simp only [MI.run, MI.strD, MI.lstOf, MI.known, MI.sPar, MI.sTry, MI.sRaise0, MI.sRaise1, MI.sParOwn, MI.sForR, MI.sStar, MI.starD, MI.eTupRg, MI.eLm, MI.eIsX, MI.eFld, MI.eDic0, MI.eLam, MI.xCat, MI.freed, MI.sNil, MI.sCons, MI.sIf, MI.sSet, MI.sSetL, MI.sRet, MI.sRetN, MI.sRetV, MI.sSub, MI.sAug, MI.sApp, MI.sOwn, MI.sSetT, MI.sFor, MI.sWhile, MI.eVar, MI.eBor, MI.eK, MI.eBin, MI.eNeg, MI.eNot, MI.eAnd, MI.eOr, MI.eT, MI.eIf, MI.eIx, MI.eSl, MI.eCall, MI.eInst, MI.eBlt1, MI.eBlt, MI.eMeth, MI.eTup, MI.eLst, MI.eOfA, MI.aNil, MI.aCons, MI.tCmp, MI.tChain, MI.tNot, MI.tAnd, MI.tOr, MI.tOf, MI.tYes, MI.pNo, MI.pYes, MI.boolOf, MI.blOf, MI.truth, MI.partD, MI.gOne, bind_ok, of_some, toS_ok, then_next, then_ret, then_brk, map_some, List.getElem?_cons_zero, List.getElem?_cons_succ, List.set_cons_zero, List.set_cons_succ, if_true, if_false, Bool.false_eq_true, reduceIte, neg1, hix, l_empty, eqS, hn, hlen, op_sub]
      unfold noText
      rw [show ((lines t).length : Int) - 1 = (((lines t).length - 1 : Nat) : Int) by omega]
theorem like_due (n : Nat) {t : List Nat} (ht : t.length ≤ 2000000) (st : Store) : tab G fs (n + 12) (Str.ofString "_law_like") [dueD t, dueD t] st = .ok (.bl true) st := by
  unfold dueD
  cases hb : boardP t with
  | inl j => exact like_noText (n + 10) (j : Nat) st
  | inr es =>
    have hr : rowsP 0 (lines t).dropLast = .inr es := by
      unfold boardP at hb
      cases h2 : rowsP 0 (lines t).dropLast with
      | inl j => rw [h2] at hb; cases hb
      | inr ds =>
        rw [h2] at hb
        dsimp only at hb
        split at hb
        · cases hb; rfl
        · cases hb
    have hlen := rowsP_len hr
    rw [List.length_dropLast] at hlen
    have hll := lines_len t
    refine like_seq (Nat.le_trans (show es.length ≤ 2000002 by omega) (by decide)) (fun d hd => ?_) (.inl rfl)
    obtain ⟨t1, t2⟩ := rowsP_all hr d hd
    have := line_len (List.dropLast_subset _ t2)
    exact like_ok 8 (n + 2) d st t1 (by omega)
theorem lam_val {T : Tab} {g : EX} {env : MI.Env} {st : Store} {d x : D} (h1 : g env st = .ok d st) (h2 : T (Str.ofString "_law_safe_told") [.tup [d]] st = .ok x st) : eLam T (Str.ofString "_law_safe_told") g env st = .ok x st := by
  unfold eLam lamX
  rw [h1]
  show (T (Str.ofString "_law_safe_told") [.tup [d]] st).tame = _
  rw [h2]
  rfl
theorem lam_exc {T : Tab} {g : EX} {env : MI.Env} {st : Store} {x : D} {r : Int} (h1 : g env st = .exc (Str.ofString "NoText") [Str.ofString "row"] [.int r] st) (h2 : T (Str.ofString "_law_safe_told") [exT0 r] st = .ok x st) : eLam T (Str.ofString "_law_safe_told") g env st = .ok x st := by
  unfold eLam lamX
  rw [h1]
  show (T (Str.ofString "_law_safe_told") [exT0 r] st).tame = _
  rw [h2]
  rfl
/-- what is told of a text -/
theorem told_due (n : Nat) {g : EX} {env : MI.Env} {t : List Nat} (ht : t.length ≤ 2000000) (st : Store) (hg : g env st = tab G fs (n + 20) (Str.ofString "read_board") [.str (S t)] st) : eLam (tab G fs (n + 22)) (Str.ofString "_law_safe_told") g env st = .ok (dueD t) st := by
  have h := read_board_ok n (t := t) (by omega) st
  unfold dueD
  cases hb : boardP t with
  | inl j =>
    rw [hb] at h
    exact lam_exc (hg.trans h) (safe_exn (n + 19) (j : Nat) st)
  | inr es =>
    rw [hb] at h
    exact lam_val (hg.trans h) (safe_val (n + 21) _ st)
end K77

set_option maxRecDepth 100000
set_option maxHeartbeats 4000000
namespace K77
open PySem MI SX
def brd (rs : List (List D)) : List D := rs.map .tup
def rowT (rs : List (List D)) : List (List Nat) := rs.map fun r => txt (.tup r)
/-- rows' text -/
def bT (ls : List (List Nat)) : List Nat := (ls.map fun l => l ++ [10]).flatten
theorem bT_len : ∀ {ls : List (List Nat)} {b : Nat}, (∀ l ∈ ls, l.length ≤ b) → (bT ls).length ≤ ls.length * (b + 1)
  | [], _, _ => Nat.zero_le _
  | l :: ls, b, h => by
    have ih := bT_len (ls := ls) fun q hq => h q (List.mem_cons_of_mem _ hq)
    have h1 := h l List.mem_cons_self
    show ((l ++ [10]) ++ bT ls).length ≤ _
    rw [List.length_append, List.length_append, List.length_singleton, List.length_cons, Nat.add_mul]
    omega
theorem join_mem {z : List Nat} {c : Nat} : ∀ {l : List (List Nat)}, c ∈ TL.joinL z l → c ∈ z ∨ ∃ p ∈ l, c ∈ p
  | [], h => by cases h
  | [p], h => .inr ⟨p, List.mem_cons_self, h⟩
  | p :: q :: r, h => by
    have h' : c ∈ p ++ (z ++ TL.joinL z (q :: r)) := h
    rcases List.mem_append.mp h' with h | h
    · exact .inr ⟨p, List.mem_cons_self, h⟩
    · rcases List.mem_append.mp h with h | h
      · exact .inl h
      · rcases join_mem h with h | ⟨x, h1, h2⟩
        · exact .inl h
        · exact .inr ⟨x, List.mem_cons_of_mem _ h1, h2⟩
theorem num_signs (i : Int) : ∀ c ∈ numT i, 32 ≤ c ∧ c ≤ 126 := by
  intro c hc
  cases i with
  | ofNat n =>
    rw [show numT (Int.ofNat n) = TL.numL n from numT_nat n] at hc
    have := TL.numL_digits n c hc
    omega
  | negSucc n =>
    rw [numT_neg] at hc
    rcases List.mem_cons.mp hc with rfl | hc
    · omega
    · have := TL.numL_digits (n + 1) c hc
      omega
/-- the signs of a thing's text -/
theorem txt_signs : ∀ (k : Nat) (d : D), Th k d → ∀ c ∈ txt d, 32 ≤ c ∧ c ≤ 126 := by
  intro k
  have base : ∀ (d : D), (d = .non ∨ (∃ i, d = .int i) ∨ ∃ l, d = .str (S l) ∧ ∀ c ∈ l, 32 ≤ c ∧ c ≤ 126) → ∀ c ∈ txt d, 32 ≤ c ∧ c ≤ 126 := by
    rintro d (rfl | ⟨i, rfl⟩ | ⟨l, rfl, hl⟩) c hc
    · have hc : c ∈ [110, 111, 110, 101] := hc
      simp only [List.mem_cons, List.not_mem_nil, or_false] at hc
      omega
    · exact num_signs i c hc
    · have hc : c ∈ 34 :: (esc l ++ [34]) := hc
      rcases List.mem_cons.mp hc with rfl | hc
      · omega
      · rcases List.mem_append.mp hc with hc | hc
        · obtain ⟨x, hx, hc⟩ := List.mem_flatMap.mp hc
          have := hl x hx
          unfold esc1 at hc
          split at hc
          · simp only [List.mem_cons, List.not_mem_nil, or_false] at hc
            omega
          · rw [List.mem_singleton.mp hc]; exact this
        · rw [List.mem_singleton.mp hc]; omega
  induction k with
  | zero =>
    intro d h
    rcases h.cases with rfl | ⟨i, rfl, hi⟩ | ⟨l, rfl, hc⟩ | ⟨j, ds, e, _⟩
    · exact base _ (.inl rfl)
    · exact base _ (.inr (.inl ⟨i, rfl⟩))
    · exact base _ (.inr (.inr ⟨l, rfl, hc⟩))
    · cases e
  | succ k ih =>
    intro d h
    rcases h.cases with rfl | ⟨i, rfl, hi⟩ | ⟨l, rfl, hc⟩ | ⟨j, ds, e, rfl, ha⟩
    · exact base _ (.inl rfl)
    · exact base _ (.inr (.inl ⟨i, rfl⟩))
    · exact base _ (.inr (.inr ⟨l, rfl, hc⟩))
    · cases e
      intro c hc
      have e1 : txt (.tup ds) = 40 :: (TL.joinL [44, 32] (ds.map txt) ++ [41]) := by
        rw [← txtL_map]; rfl
      rw [e1] at hc
      rcases List.mem_cons.mp hc with rfl | hc
      · omega
      · rcases List.mem_append.mp hc with hc | hc
        · rcases join_mem hc with hc | ⟨p, hp, hc⟩
          · simp only [List.mem_cons, List.not_mem_nil, or_false] at hc
            omega
          · obtain ⟨d, hd, rfl⟩ := List.mem_map.mp hp
            exact ih d (ha d hd) c hc
        · rw [List.mem_singleton.mp hc]; omega
def nlD (l : List Nat) : D := .str (S (l ++ [10]))
/-- "".join([row + "\n" for row in rows]) -/
theorem join_nl {ls : List (List Nat)} (h : (bT ls).length ≤ 8000000) : joinD (S []) (ls.map nlD) = some (.str (S (bT ls))) := by
  have e : ls.map nlD = (ls.map fun l => l ++ [10]).map fun a => D.str (S a) := by
    rw [List.map_map]
    rfl
  have e2 : TL.joinL [] (ls.map fun l => l ++ [10]) = bT ls := by rw [joinL_nil]; rfl
  rw [e, join_ok (by rw [e2]; exact Nat.le_trans (Nat.add_le_add_right h 0) (by decide)), e2]
/-- a board that isn't too long -/
structure Bo (rs : List (List D)) : Prop where
  th : ∀ r ∈ rs, Th 8 (.tup r)
  len : ∀ r ∈ rs, (txt (.tup r)).length ≤ 30000
  few : rs.length ≤ 60
theorem Bo.bl {rs : List (List D)} (h : Bo rs) : (bT (rowT rs)).length ≤ 3000100 := by
  have := bT_len (ls := rowT rs) (b := 30000) fun l hl => by
    obtain ⟨r, hr, rfl⟩ := List.mem_map.mp hl
    exact h.len r hr
  have h2 : (rowT rs).length ≤ 60 := by
    unfold rowT
    rw [List.length_map]
    exact h.few
  have := Nat.mul_le_mul_right 30001 h2
  omega
theorem brd_mem {rs : List (List D)} {d : D} (h : d ∈ brd rs) : ∃ r ∈ rs, d = .tup r := by
  obtain ⟨r, hr, rfl⟩ := List.mem_map.mp h
  exact ⟨r, hr, rfl⟩
theorem brd_nl (rs : List (List D)) : ((brd rs).map fun d => nlD (txt d)) = (rowT rs).map nlD := by
  unfold brd rowT
  rw [List.map_map, List.map_map]
  rfl
/-- board_text -/
theorem board_text_ok (n : Nat) {rs : List (List D)} (h : Bo rs) (st : Store) {v : D} (hv : v = .tup (brd rs) ∨ v = .lst (brd rs)) : tab G fs (n + 10) (Str.ofString "board_text") [v] st = .ok (.str (S (bT (rowT rs)))) st := by
  rw [at_board_text]
  unfold b_board_text
  have hc : xComp [1] (xOwn 0 (xSeq (eVar 0))) (gOne 1) MI.tYes (eBin .Add (eCall (tab G fs (n + 9)) (Str.ofString "thing_text") (aCons (eVar 1) aNil)) (eK (.str (Str.ofString "\n")))) [.v v, .no] st = .ok ((brd rs).map fun d => nlD (txt d)) st := by
    refine comp_map (g := fun d => nlD (txt d)) (ds := brd rs) (by rcases hv with rfl | rfl <;> rfl) (Nat.le_trans (show (brd rs).length ≤ 100 by unfold brd; rw [List.length_map]; exact Nat.le_trans h.few (by decide)) (by decide)) fun d hd => ?_
    obtain ⟨r, hr, rfl⟩ := brd_mem hd
    have ht := text_ok 8 n (.tup r) st (h.th r hr) (Nat.le_trans (h.len r hr) (by decide))
    have hcat : opD .Add (.str (S (txt (.tup r)))) (.str (S [10])) = some (.str (S (txt (.tup r) ++ [10]))) := op_cat (Nat.le_trans (Nat.add_le_add_right (h.len r hr) 1) (by decide))
    show ((eBin .Add _ _ [.v v, .v (.tup r)] st).bind _) = _
    simp only [MI.run, MI.strD, MI.lstOf, MI.known, MI.sPar, MI.sTry, MI.sRaise0, MI.sRaise1, MI.sParOwn, MI.sForR, MI.sStar, MI.starD, MI.eTupRg, MI.eLm, MI.eIsX, MI.eFld, MI.eDic0, MI.eLam, MI.xCat, MI.freed, MI.sNil, MI.sCons, MI.sIf, MI.sSet, MI.sSetL, MI.sRet, MI.sRetN, MI.sRetV, MI.sSub, MI.sAug, MI.sApp, MI.sOwn, MI.sSetT, MI.sFor, MI.sWhile, MI.eVar, MI.eBor, MI.eK, MI.eBin, MI.eNeg, MI.eNot, MI.eAnd, MI.eOr, MI.eT, MI.eIf, MI.eIx, MI.eSl, MI.eCall, MI.eInst, MI.eBlt1, MI.eBlt, MI.eMeth, MI.eTup, MI.eLst, MI.eOfA, MI.aNil, MI.aCons, MI.tCmp, MI.tChain, MI.tNot, MI.tAnd, MI.tOr, MI.tOf, MI.tYes, MI.pNo, MI.pYes, MI.boolOf, MI.blOf, MI.truth, MI.partD, MI.gOne, bind_ok, of_some, toS_ok, then_next, then_ret, then_brk, map_some, List.getElem?_cons_zero, List.getElem?_cons_succ, List.set_cons_zero, List.set_cons_succ, if_true, if_false, Bool.false_eq_true, reduceIte, ht, l_nl, hcat]
    rfl
  rw [brd_nl] at hc
  simp only [MI.run, MI.strD, MI.lstOf, MI.known, MI.sPar, MI.sTry, MI.sRaise0, MI.sRaise1, MI.sParOwn, MI.sForR, MI.sStar, MI.starD, MI.eTupRg, MI.eLm, MI.eIsX, MI.eFld, MI.eDic0, MI.eLam, MI.xCat, MI.freed, MI.sNil, MI.sCons, MI.sIf, MI.sSet, MI.sSetL, MI.sRet, MI.sRetN, MI.sRetV, MI.sSub, MI.sAug, MI.sApp, MI.sOwn, MI.sSetT, MI.sFor, MI.sWhile, MI.eVar, MI.eBor, MI.eK, MI.eBin, MI.eNeg, MI.eNot, MI.eAnd, MI.eOr, MI.eT, MI.eIf, MI.eIx, MI.eSl, MI.eCall, MI.eInst, MI.eBlt1, MI.eBlt, MI.eMeth, MI.eTup, MI.eLst, MI.eOfA, MI.aNil, MI.aCons, MI.tCmp, MI.tChain, MI.tNot, MI.tAnd, MI.tOr, MI.tOf, MI.tYes, MI.pNo, MI.pYes, MI.boolOf, MI.blOf, MI.truth, MI.partD, MI.gOne, bind_ok, of_some, toS_ok, then_next, then_ret, then_brk, map_some, List.getElem?_cons_zero, List.getElem?_cons_succ, List.set_cons_zero, List.set_cons_succ, if_true, if_false, Bool.false_eq_true, reduceIte, hc, meth_join, l_empty, join_nl (Nat.le_trans h.bl (by decide))]
/-- read back -/
theorem board_back {rs : List (List D)} (h : Bo rs) : boardP (bT (rowT rs)) = .inr (brd rs) := by
  have hl : lines (bT (rowT rs)) = rowT rs ++ [[]] := lines_rows fun l hl => by
    obtain ⟨r, hr, rfl⟩ := List.mem_map.mp hl
    intro z
    have := txt_signs 8 (.tup r) (h.th r hr) 10 z
    omega
  unfold boardP
  rw [hl, List.dropLast_concat, List.getLast?_concat, show rowsP 0 (rowT rs) = .inr (rs.map .tup) from rowsP_txt 0 rs h.th]
  rfl
theorem read_back (n : Nat) {rs : List (List D)} (h : Bo rs) (st : Store) : tab G fs (n + 20) (Str.ofString "read_board") [.str (S (bT (rowT rs)))] st = .ok (.tup (brd rs)) st := by
  have := read_board_ok n (t := bT (rowT rs)) (Nat.le_trans h.bl (by decide)) st
  rw [board_back h] at this
  exact this
theorem like_brd (n : Nat) {rs : List (List D)} (h : Bo rs) (st : Store) : tab G fs (n + 10) (Str.ofString "_law_like") [.tup (brd rs), .tup (brd rs)] st = .ok (.bl true) st := by
  refine like_seq (Nat.le_trans (show (brd rs).length ≤ 100 by unfold brd; rw [List.length_map]; exact Nat.le_trans h.few (by decide)) (by decide)) (fun d hd => ?_) (.inl rfl)
  obtain ⟨r, hr, rfl⟩ := brd_mem hd
  exact like_ok 8 n (.tup r) st (h.th r hr) (Nat.le_trans (h.len r hr) (by decide))
end K77

set_option maxRecDepth 100000
set_option maxHeartbeats 4000000
namespace K77
open PySem MI SX
theorem op_mulT (c n : Nat) (h : n ≤ 1000000) : opD .Mult (.str (S [c])) (.int (n : Nat)) = some (.str (S (List.replicate n c))) := by
  show (if (S [c]).length ≤ 16 ∧ (0 : Int) ≤ (n : Nat) ∧ ((n : Nat) : Int) ≤ 1000000 then some (D.str (Txt.mul (S [c]) (n : Nat))) else none) = _
  rw [if_pos ⟨(show 1 ≤ 16 by decide), by omega, by omega⟩]
  refine congrArg (fun z => some (D.str z)) (TL.ext_tl ?_)
  exact PyProof.Rows.mul_one_list c (n : Nat)
theorem l_1 : Str.ofString "1" = S [49] := by decide +kernel
theorem op_catL {a b : List D} (h : a.length + b.length ≤ big) : opD .Add (.lst a) (.lst b) = some (.lst (a ++ b)) := if_pos h
/-- rows, none too long -/
structure Rw (b : Nat) (ls : List (List Nat)) : Prop where
  len : ∀ l ∈ ls, l.length ≤ b
  sig : ∀ l ∈ ls, ∀ c ∈ l, c ≤ 126
theorem Rw.app {b : Nat} {x y : List (List Nat)} (h1 : Rw b x) (h2 : Rw b y) : Rw b (x ++ y) := ⟨fun l hl => (List.mem_append.mp hl).elim (h1.len l) (h2.len l), fun l hl => (List.mem_append.mp hl).elim (h1.sig l) (h2.sig l)⟩
theorem Rw.one {b : Nat} {l : List Nat} (h1 : l.length ≤ b) (h2 : ∀ c ∈ l, c ≤ 126) : Rw b [l] := ⟨fun q hq => by rw [List.mem_singleton.mp hq]; exact h1, fun q hq => by rw [List.mem_singleton.mp hq]; exact h2⟩
theorem Rw.sub {b : Nat} {x y : List (List Nat)} (h : Rw b y) (hs : ∀ l ∈ x, l ∈ y) : Rw b x := ⟨fun l hl => h.len l (hs l hl), fun l hl => h.sig l (hs l hl)⟩
theorem Rw.mono {b c : Nat} {x : List (List Nat)} (h : Rw b x) (hc : b ≤ c) : Rw c x := ⟨fun l hl => Nat.le_trans (h.len l hl) hc, h.sig⟩
theorem slL_nk (ds : List D) (k : Nat) : slD (.lst ds) none (some (k : Int)) = some (.lst (ds.take k)) := by
  refine congrArg (fun z => some (D.lst z)) ?_
  unfold cutL
  rw [HT.sIx_nat]
  show (ds.drop 0).take (min k ds.length - 0) = ds.take k
  rw [List.drop_zero, Nat.sub_zero]
  by_cases hk : k ≤ ds.length
  · rw [Nat.min_eq_left hk]
  · rw [Nat.min_eq_right (by omega), List.take_of_length_le (Nat.le_refl _), List.take_of_length_le (by omega)]
theorem slL_kn (ds : List D) (k : Nat) : slD (.lst ds) (some (k : Int)) none = some (.lst (ds.drop k)) := by
  refine congrArg (fun z => some (D.lst z)) ?_
  unfold cutL
  rw [HT.sIx_nat]
  show (ds.drop (min k ds.length)).take (ds.length - min k ds.length) = ds.drop k
  by_cases hk : k ≤ ds.length
  · rw [Nat.min_eq_left hk]
    exact List.take_of_length_le (by rw [List.length_drop]; omega)
  · rw [Nat.min_eq_right (by omega), List.drop_eq_nil_of_le (Nat.le_refl _), List.drop_eq_nil_of_le (show ds.length ≤ k by omega), List.take_nil]
theorem slL_k1n (ds : List D) (k : Nat) : slD (.lst ds) (some ((k : Int) + 1)) none = some (.lst (ds.drop (k + 1))) := slL_kn ds (k + 1)
theorem slL_kk (ds : List D) (k : Nat) : slD (.lst ds) (some (k : Int)) (some ((k : Int) + 1)) = some (.lst ((ds.drop k).take 1)) := by
  refine congrArg (fun z => some (D.lst z)) ?_
  unfold cutL
  rw [HT.sIx_nat, show ((k : Int) + 1) = ((k + 1 : Nat) : Int) by omega, HT.sIx_nat]
  by_cases hk : k + 1 ≤ ds.length
  · rw [Nat.min_eq_left hk, Nat.min_eq_left (by omega), Nat.add_sub_cancel_left]
  · rw [Nat.min_eq_right (by omega)]
    by_cases h2 : k ≤ ds.length
    · rw [Nat.min_eq_left h2]
      have : ds.length = k := by omega
      rw [this, Nat.sub_self, List.drop_eq_nil_of_le (by omega)]
      rfl
    · rw [Nat.min_eq_right (by omega), List.drop_eq_nil_of_le (Nat.le_refl _), List.drop_eq_nil_of_le (show ds.length ≤ k by omega), List.take_nil, List.take_nil]
theorem ixL {ls : List (List Nat)} {k : Nat} (h : k < ls.length) (st : Store) : ixD (.lst (lsD ls)) (.int (k : Nat)) st = some (.str (S ls[k])) := by
  show L2.atI (lsD ls) ((k : Nat) : Int) = _
  refine L2.atI_nat ?_
  unfold lsD
  rw [List.getElem?_map, List.getElem?_eq_getElem h]
  rfl
theorem lsD_take (ls : List (List Nat)) (k : Nat) : (lsD ls).take k = lsD (ls.take k) := List.map_take.symm
theorem lsD_drop (ls : List (List Nat)) (k : Nat) : (lsD ls).drop k = lsD (ls.drop k) := List.map_drop.symm
theorem lsD_P : ∀ {ls : List (List Nat)}, (∀ l ∈ ls, ∀ c ∈ l, c ≤ 126) → ∃ ps, toPs (lsD ls) = some ps ∧ PyData.canLayAll0 ps = true ∧ PyData.depthAll ps = 0 ∧ ps.length = ls.length
  | [], _ => ⟨[], rfl, by unfold PyData.canLayAll0; rfl, by unfold PyData.depthAll; rfl, rfl⟩
  | l :: ls, h => by
    obtain ⟨ps, e1, e2, e3, e4⟩ := lsD_P (ls := ls) fun q hq => h q (List.mem_cons_of_mem _ hq)
    refine ⟨.str (S l) :: ps, ?_, ?_, ?_, by rw [List.length_cons, List.length_cons, e4]⟩
    · show toPs (.str (S l) :: lsD ls) = _
      unfold toPs
      rw [e1]
      rfl
    · unfold PyData.canLayAll0
      rw [e2, Bool.and_true]
      unfold PyData.canLay0 PyData.strOk
      rw [Array.all_eq_true_iff_forall_mem]
      intro c hc
      have := h l List.mem_cons_self c (by simpa using hc)
      exact decide_eq_true (by omega)
    · unfold PyData.depthAll
      rw [e3]
      unfold PyData.depth
      rfl
theorem lsD_eq {ls : List (List Nat)} (h : ∀ l ∈ ls, ∀ c ∈ l, c ≤ 126) : cmpD .Eq (.lst (lsD ls)) (.lst []) = some (decide (ls = [])) := by
  obtain ⟨ps, e1, e2, e3, e4⟩ := lsD_P h
  show (match toP (.lst (lsD ls)), toP (.lst []) with
    | some p, some q => if SeqAt.shaped p = true ∧ SeqAt.shaped q = true then some (PyData.eqv p q) else none
    | _, _ => none) = _
  have a1 : toP (.lst (lsD ls)) = some (.list ps) := by
    unfold toP
    rw [e1]
    rfl
  rw [a1]
  show (if SeqAt.shaped (.list ps) = true ∧ SeqAt.shaped (.list []) = true then some (PyData.eqv (.list ps) (.list [])) else none) = _
  have a2 : SeqAt.shaped (.list ps) = true := by
    unfold SeqAt.shaped PyData.canLay0
    rw [e2]
    unfold PyData.depth
    rw [e3]
    rfl
  rw [if_pos ⟨a2, by decide +kernel⟩]
  cases ls with
  | nil =>
    have : ps = [] := List.eq_nil_of_length_eq_zero (by rw [e4]; rfl)
    subst this
    unfold PyData.eqv PyData.eqvAll
    rfl
  | cons l ls =>
    cases ps with
    | nil => cases e4
    | cons p ps =>
      unfold PyData.eqv PyData.eqvAll
      rfl
def okR : D → Bool
  | .str s => s.cps.toList.all (fun c => decide (c ≤ 126)) && decide (s.cps.toList.length ≤ 403)
  | _ => false
theorem okR_of {d : D} (h : okR d = true) : ∃ l, d = .str (S l) ∧ l.length ≤ 403 ∧ ∀ c ∈ l, c ≤ 126 := by
  cases d with
  | str s =>
    unfold okR at h
    rw [Bool.and_eq_true, decide_eq_true_eq] at h
    exact ⟨s.cps.toList, by rw [S_tl], h.2, fun c hc => of_decide_eq_true (List.all_eq_true.mp h.1 c hc)⟩
  | _ => cases h
def someR : List D := [.str (Str.ofString ""), .str (Str.ofString "none"), .str (Str.ofString "5"), .str (Str.ofString "()"), .str (Str.ofString "(1)"), .str (Str.ofString "\"a\""), .str (Str.ofString "("), .str (Str.ofString " ()"), .str (Str.ofString "() "), .str (S ([40] ++ List.replicate 400 49 ++ [41])), .str (S ([40] ++ List.replicate 401 49 ++ [41]))]
theorem someR_ok : someR.all okR = true := by decide +kernel
theorem x_someR (env : MI.Env) (st : Store) : (eLst (aCons (eK (.str (Str.ofString ""))) (aCons (eK (.str (Str.ofString "none"))) (aCons (eK (.str (Str.ofString "5"))) (aCons (eK (.str (Str.ofString "()"))) (aCons (eK (.str (Str.ofString "(1)"))) (aCons (eK (.str (Str.ofString "\"a\""))) (aCons (eK (.str (Str.ofString "("))) (aCons (eK (.str (Str.ofString " ()"))) (aCons (eK (.str (Str.ofString "() "))) (aCons (eBin .Add (eBin .Add (eK (.str (Str.ofString "("))) (eBin .Mult (eK (.str (Str.ofString "1"))) (eK (.int 400)))) (eK (.str (Str.ofString ")")))) (aCons (eBin .Add (eBin .Add (eK (.str (Str.ofString "("))) (eBin .Mult (eK (.str (Str.ofString "1"))) (eK (.int 401)))) (eK (.str (Str.ofString ")")))) aNil)))))))))))) env st = .ok (.lst someR) st := by
  have b1 (a b : List Nat) (h : a.length ≤ 6000) (h2 : b.length ≤ 6000) : opD .Add (.str (S a)) (.str (S b)) = some (.str (S (a ++ b))) := op_cat (Nat.le_trans (Nat.add_le_add h h2) (by decide))
  have m1 : opD .Mult (.str (S [49])) (.int 400) = some (.str (S (List.replicate 400 49))) := op_mulT 49 400 (by decide)
  have m2 : opD .Mult (.str (S [49])) (.int 401) = some (.str (S (List.replicate 401 49))) := op_mulT 49 401 (by decide)
  have c1 := b1 [40] (List.replicate 400 49) (by decide) (by rw [List.length_replicate]; decide)
  have c2 := b1 ([40] ++ List.replicate 400 49) [41] (by rw [List.length_append, List.length_replicate]; decide) (by decide)
  have c3 := b1 [40] (List.replicate 401 49) (by decide) (by rw [List.length_replicate]; decide)
  have c4 := b1 ([40] ++ List.replicate 401 49) [41] (by rw [List.length_append, List.length_replicate]; decide) (by decide)
  unfold someR
  generalize List.replicate 400 49 = r1 at *
  generalize List.replicate 401 49 = r2 at *
  have k1 : eBin .Add (eBin .Add (eK (.str (Str.ofString "("))) (eBin .Mult (eK (.str (Str.ofString "1"))) (eK (.int 400)))) (eK (.str (Str.ofString ")"))) env st = .ok (.str (S ([40] ++ r1 ++ [41]))) st := by
    simp only [MI.run, MI.strD, MI.lstOf, MI.known, MI.sPar, MI.sTry, MI.sRaise0, MI.sRaise1, MI.sParOwn, MI.sForR, MI.sStar, MI.starD, MI.eTupRg, MI.eLm, MI.eIsX, MI.eFld, MI.eDic0, MI.eLam, MI.xCat, MI.freed, MI.sNil, MI.sCons, MI.sIf, MI.sSet, MI.sSetL, MI.sRet, MI.sRetN, MI.sRetV, MI.sSub, MI.sAug, MI.sApp, MI.sOwn, MI.sSetT, MI.sFor, MI.sWhile, MI.eVar, MI.eBor, MI.eK, MI.eBin, MI.eNeg, MI.eNot, MI.eAnd, MI.eOr, MI.eT, MI.eIf, MI.eIx, MI.eSl, MI.eCall, MI.eInst, MI.eBlt1, MI.eBlt, MI.eMeth, MI.eTup, MI.eLst, MI.eOfA, MI.aNil, MI.aCons, MI.tCmp, MI.tChain, MI.tNot, MI.tAnd, MI.tOr, MI.tOf, MI.tYes, MI.pNo, MI.pYes, MI.boolOf, MI.blOf, MI.truth, MI.partD, MI.gOne, bind_ok, of_some, toS_ok, then_next, then_ret, then_brk, map_some, List.getElem?_cons_zero, List.getElem?_cons_succ, List.set_cons_zero, List.set_cons_succ, if_true, if_false, Bool.false_eq_true, reduceIte, l_op, l_cl, l_1, m1, c1, c2]
  have k2 : eBin .Add (eBin .Add (eK (.str (Str.ofString "("))) (eBin .Mult (eK (.str (Str.ofString "1"))) (eK (.int 401)))) (eK (.str (Str.ofString ")"))) env st = .ok (.str (S ([40] ++ r2 ++ [41]))) st := by
    simp only [MI.run, MI.strD, MI.lstOf, MI.known, MI.sPar, MI.sTry, MI.sRaise0, MI.sRaise1, MI.sParOwn, MI.sForR, MI.sStar, MI.starD, MI.eTupRg, MI.eLm, MI.eIsX, MI.eFld, MI.eDic0, MI.eLam, MI.xCat, MI.freed, MI.sNil, MI.sCons, MI.sIf, MI.sSet, MI.sSetL, MI.sRet, MI.sRetN, MI.sRetV, MI.sSub, MI.sAug, MI.sApp, MI.sOwn, MI.sSetT, MI.sFor, MI.sWhile, MI.eVar, MI.eBor, MI.eK, MI.eBin, MI.eNeg, MI.eNot, MI.eAnd, MI.eOr, MI.eT, MI.eIf, MI.eIx, MI.eSl, MI.eCall, MI.eInst, MI.eBlt1, MI.eBlt, MI.eMeth, MI.eTup, MI.eLst, MI.eOfA, MI.aNil, MI.aCons, MI.tCmp, MI.tChain, MI.tNot, MI.tAnd, MI.tOr, MI.tOf, MI.tYes, MI.pNo, MI.pYes, MI.boolOf, MI.blOf, MI.truth, MI.partD, MI.gOne, bind_ok, of_some, toS_ok, then_next, then_ret, then_brk, map_some, List.getElem?_cons_zero, List.getElem?_cons_succ, List.set_cons_zero, List.set_cons_succ, if_true, if_false, Bool.false_eq_true, reduceIte, l_op, l_cl, l_1, m2, c3, c4]
  generalize eBin .Add (eBin .Add (eK (.str (Str.ofString "("))) (eBin .Mult (eK (.str (Str.ofString "1"))) (eK (.int 400)))) (eK (.str (Str.ofString ")"))) = y1 at k1
  generalize eBin .Add (eBin .Add (eK (.str (Str.ofString "("))) (eBin .Mult (eK (.str (Str.ofString "1"))) (eK (.int 401)))) (eK (.str (Str.ofString ")"))) = y2 at k2
  simp only [MI.run, MI.strD, MI.lstOf, MI.known, MI.sPar, MI.sTry, MI.sRaise0, MI.sRaise1, MI.sParOwn, MI.sForR, MI.sStar, MI.starD, MI.eTupRg, MI.eLm, MI.eIsX, MI.eFld, MI.eDic0, MI.eLam, MI.xCat, MI.freed, MI.sNil, MI.sCons, MI.sIf, MI.sSet, MI.sSetL, MI.sRet, MI.sRetN, MI.sRetV, MI.sSub, MI.sAug, MI.sApp, MI.sOwn, MI.sSetT, MI.sFor, MI.sWhile, MI.eVar, MI.eBor, MI.eK, MI.eBin, MI.eNeg, MI.eNot, MI.eAnd, MI.eOr, MI.eT, MI.eIf, MI.eIx, MI.eSl, MI.eCall, MI.eInst, MI.eBlt1, MI.eBlt, MI.eMeth, MI.eTup, MI.eLst, MI.eOfA, MI.aNil, MI.aCons, MI.tCmp, MI.tChain, MI.tNot, MI.tAnd, MI.tOr, MI.tOf, MI.tYes, MI.pNo, MI.pYes, MI.boolOf, MI.blOf, MI.truth, MI.partD, MI.gOne, bind_ok, of_some, toS_ok, then_next, then_ret, then_brk, map_some, List.getElem?_cons_zero, List.getElem?_cons_succ, List.set_cons_zero, List.set_cons_succ, if_true, if_false, Bool.false_eq_true, reduceIte, k1, k2]
theorem chrows_ok (n : Nat) {st : Store} {i : Nat} {m : Int} (h : Drw st i m) (hm : m + 30 < 1000000) {ls : List (List Nat)} {b : Nat} (hb : 403 ≤ b) (hb2 : b ≤ 20000) (hr : Rw b ls) (hn : ls.length ≤ 20) :
    ∃ us st', tab G fs (n + 5) (Str.ofString "_law_changed_rows") [.ref i, .lst (lsD ls)] st = .ok (.lst (lsD us)) st' ∧ Rw (b + 1) us ∧ us.length ≤ ls.length + 1 ∧ Drw st' i (m + 30) := by
  have hln : bltD (Str.ofString "len") [.lst (lsD ls)] st = some (.int (ls.length : Nat)) := by
    show some (D.int ((lsD ls).length : Nat)) = _
    rw [lsD_len]
  have hlnA : ∀ st', bltD (Str.ofString "len") [.lst (lsD ls)] st' = some (.int (ls.length : Nat)) := fun st' => by
    show some (D.int ((lsD ls).length : Nat)) = _
    rw [lsD_len]
  obtain ⟨w, st1, w1, w2, w3, w4⟩ := next_ok (n + 3) h (by omega) (z := 7) (by omega) (by omega)
  obtain ⟨a, st2, a1, a2, a3, a4⟩ := next_ok (n + 3) w4 (by omega) (z := ((ls.length : Nat) : Int) + 1) (by omega) (by omega)
  obtain ⟨k, rfl⟩ := Int.eq_ofNat_of_zero_le a2
  have s1 : (sPar 3 2 (aCons (eCall (tab G fs (n + 4)) (Str.ofString "_law_next") (aCons (eVar 0) (aCons (eK (.int 7)) aNil))) (aCons (eCall (tab G fs (n + 4)) (Str.ofString "_law_next") (aCons (eVar 0) (aCons (eBin .Add (eBlt1 (Str.ofString "len") (eBor 1)) (eK (.int 1))) aNil))) aNil))) [.v (.ref i), .v (.lst (lsD ls)), .no, .no, .no, .no] st = .next [.v (.ref i), .v (.lst (lsD ls)), .v (.int (k : Nat)), .v (.int w), .no, .no] st2 := by
    simp only [MI.run, MI.strD, MI.lstOf, MI.known, MI.sPar, MI.sTry, MI.sRaise0, MI.sRaise1, MI.sParOwn, MI.sForR, MI.sStar, MI.starD, MI.eTupRg, MI.eLm, MI.eIsX, MI.eFld, MI.eDic0, MI.eLam, MI.xCat, MI.freed, MI.sNil, MI.sCons, MI.sIf, MI.sSet, MI.sSetL, MI.sRet, MI.sRetN, MI.sRetV, MI.sSub, MI.sAug, MI.sApp, MI.sOwn, MI.sSetT, MI.sFor, MI.sWhile, MI.eVar, MI.eBor, MI.eK, MI.eBin, MI.eNeg, MI.eNot, MI.eAnd, MI.eOr, MI.eT, MI.eIf, MI.eIx, MI.eSl, MI.eCall, MI.eInst, MI.eBlt1, MI.eBlt, MI.eMeth, MI.eTup, MI.eLst, MI.eOfA, MI.aNil, MI.aCons, MI.tCmp, MI.tChain, MI.tNot, MI.tAnd, MI.tOr, MI.tOf, MI.tYes, MI.pNo, MI.pYes, MI.boolOf, MI.blOf, MI.truth, MI.partD, MI.gOne, bind_ok, of_some, toS_ok, then_next, then_ret, then_brk, map_some, List.getElem?_cons_zero, List.getElem?_cons_succ, List.set_cons_zero, List.set_cons_succ, if_true, if_false, Bool.false_eq_true, reduceIte, w1, hlnA, op_add, a1]
  have heq := lsD_eq hr.sig
  have tk : ∀ j, Rw b (ls.take j) := fun j => hr.sub fun l hl => List.mem_of_mem_take hl
  have dr : ∀ j, Rw b (ls.drop j) := fun j => hr.sub fun l hl => List.mem_of_mem_drop hl
  have cat : ∀ x y : List (List Nat), x.length ≤ 100 → y.length ≤ 100 → opD .Add (.lst (lsD x)) (.lst (lsD y)) = some (.lst (lsD (x ++ y))) := fun x y h1 h2 => by
    rw [op_catL (by rw [lsD_len, lsD_len]; exact Nat.le_trans (Nat.add_le_add h1 h2) (by decide)), lsD_app]
  have ltk : ∀ j, (ls.take j).length ≤ 20 := fun j => by rw [List.length_take]; omega
  have ldr : ∀ j, (ls.drop j).length ≤ 20 := fun j => by rw [List.length_drop]; omega
  rw [at_law_changed_rows]
  unfold b_law_changed_rows
  by_cases g0 : w = 0 ∨ ls = []
  · -- a row put in
    obtain ⟨x, st3, x1, x2, x3⟩ := pick_ok (n + 2) a4 (by omega) (ds := someR) (by unfold someR; simp) (by decide)
    obtain ⟨l, rfl, hl1, hl2⟩ := okR_of (List.all_eq_true.mp someR_ok x x2)
    refine ⟨ls.take k ++ [l] ++ ls.drop k, st3, ?_, (((tk k).mono (Nat.le_succ b)).app (Rw.one (by omega) hl2)).app ((dr k).mono (Nat.le_succ b)), by rw [List.length_append, List.length_append, List.length_take, List.length_drop, List.length_singleton]; omega, x3.mono (by omega)⟩
    refine (run_step s1).trans ?_
    refine run_ifR (st1 := st2) ?_ ?_
    · by_cases gw : w = 0
      · subst gw
        simp only [MI.run, MI.strD, MI.lstOf, MI.known, MI.sPar, MI.sTry, MI.sRaise0, MI.sRaise1, MI.sParOwn, MI.sForR, MI.sStar, MI.starD, MI.eTupRg, MI.eLm, MI.eIsX, MI.eFld, MI.eDic0, MI.eLam, MI.xCat, MI.freed, MI.sNil, MI.sCons, MI.sIf, MI.sSet, MI.sSetL, MI.sRet, MI.sRetN, MI.sRetV, MI.sSub, MI.sAug, MI.sApp, MI.sOwn, MI.sSetT, MI.sFor, MI.sWhile, MI.eVar, MI.eBor, MI.eK, MI.eBin, MI.eNeg, MI.eNot, MI.eAnd, MI.eOr, MI.eT, MI.eIf, MI.eIx, MI.eSl, MI.eCall, MI.eInst, MI.eBlt1, MI.eBlt, MI.eMeth, MI.eTup, MI.eLst, MI.eOfA, MI.aNil, MI.aCons, MI.tCmp, MI.tChain, MI.tNot, MI.tAnd, MI.tOr, MI.tOf, MI.tYes, MI.pNo, MI.pYes, MI.boolOf, MI.blOf, MI.truth, MI.partD, MI.gOne, bind_ok, of_some, toS_ok, then_next, then_ret, then_brk, map_some, List.getElem?_cons_zero, List.getElem?_cons_succ, List.set_cons_zero, List.set_cons_succ, if_true, if_false, Bool.false_eq_true, reduceIte, cmp_eqI, beq_self_eq_true]
      · have gl : ls = [] := g0.elim (fun z => absurd z gw) id
        simp only [MI.run, MI.strD, MI.lstOf, MI.known, MI.sPar, MI.sTry, MI.sRaise0, MI.sRaise1, MI.sParOwn, MI.sForR, MI.sStar, MI.starD, MI.eTupRg, MI.eLm, MI.eIsX, MI.eFld, MI.eDic0, MI.eLam, MI.xCat, MI.freed, MI.sNil, MI.sCons, MI.sIf, MI.sSet, MI.sSetL, MI.sRet, MI.sRetN, MI.sRetV, MI.sSub, MI.sAug, MI.sApp, MI.sOwn, MI.sSetT, MI.sFor, MI.sWhile, MI.eVar, MI.eBor, MI.eK, MI.eBin, MI.eNeg, MI.eNot, MI.eAnd, MI.eOr, MI.eT, MI.eIf, MI.eIx, MI.eSl, MI.eCall, MI.eInst, MI.eBlt1, MI.eBlt, MI.eMeth, MI.eTup, MI.eLst, MI.eOfA, MI.aNil, MI.aCons, MI.tCmp, MI.tChain, MI.tNot, MI.tAnd, MI.tOr, MI.tOf, MI.tYes, MI.pNo, MI.pYes, MI.boolOf, MI.blOf, MI.truth, MI.partD, MI.gOne, bind_ok, of_some, toS_ok, then_next, then_ret, then_brk, map_some, List.getElem?_cons_zero, List.getElem?_cons_succ, List.set_cons_zero, List.set_cons_succ, if_true, if_false, Bool.false_eq_true, reduceIte, cmp_eqI, beq_eq_false_iff_ne.mpr gw, heq, decide_eq_true gl]
    · refine (seq_set (x_someR _ _)).trans (seq_ret ?_)
      have c1 := cat (ls.take k) [l] (Nat.le_trans (ltk k) (by decide)) (by show 1 ≤ 100; decide)
      have c2 := cat (ls.take k ++ [l]) (ls.drop k) (by rw [List.length_append, List.length_singleton]; have := ltk k; omega) (Nat.le_trans (ldr k) (by decide))
      generalize hsr : someR = sr at x1
      have c1 : opD .Add (.lst (lsD (ls.take k))) (.lst [.str (S l)]) = some (.lst (lsD (ls.take k ++ [l]))) := c1
      simp only [MI.run, MI.strD, MI.lstOf, MI.known, MI.sPar, MI.sTry, MI.sRaise0, MI.sRaise1, MI.sParOwn, MI.sForR, MI.sStar, MI.starD, MI.eTupRg, MI.eLm, MI.eIsX, MI.eFld, MI.eDic0, MI.eLam, MI.xCat, MI.freed, MI.sNil, MI.sCons, MI.sIf, MI.sSet, MI.sSetL, MI.sRet, MI.sRetN, MI.sRetV, MI.sSub, MI.sAug, MI.sApp, MI.sOwn, MI.sSetT, MI.sFor, MI.sWhile, MI.eVar, MI.eBor, MI.eK, MI.eBin, MI.eNeg, MI.eNot, MI.eAnd, MI.eOr, MI.eT, MI.eIf, MI.eIx, MI.eSl, MI.eCall, MI.eInst, MI.eBlt1, MI.eBlt, MI.eMeth, MI.eTup, MI.eLst, MI.eOfA, MI.aNil, MI.aCons, MI.tCmp, MI.tChain, MI.tNot, MI.tAnd, MI.tOr, MI.tOf, MI.tYes, MI.pNo, MI.pYes, MI.boolOf, MI.blOf, MI.truth, MI.partD, MI.gOne, bind_ok, of_some, toS_ok, then_next, then_ret, then_brk, map_some, List.getElem?_cons_zero, List.getElem?_cons_succ, List.set_cons_zero, List.set_cons_succ, if_true, if_false, Bool.false_eq_true, reduceIte, x1, slL_nk, slL_kn, lsD_take, lsD_drop, c1, c2]
  · have gw : w ≠ 0 := fun z => g0 (.inl z)
    have gl : ls ≠ [] := fun z => g0 (.inr z)
    have hpos : 0 < ls.length := List.length_pos_iff.mpr gl
    have t0 : (MI.tOr (MI.tCmp .Eq (eBor 3) (eK (.int 0))) (MI.tCmp .Eq (eBor 1) (eLst aNil))) [.v (.ref i), .v (.lst (lsD ls)), .v (.int (k : Nat)), .v (.int w), .no, .no] st2 = .ok false st2 := by
      simp only [MI.run, MI.strD, MI.lstOf, MI.known, MI.sPar, MI.sTry, MI.sRaise0, MI.sRaise1, MI.sParOwn, MI.sForR, MI.sStar, MI.starD, MI.eTupRg, MI.eLm, MI.eIsX, MI.eFld, MI.eDic0, MI.eLam, MI.xCat, MI.freed, MI.sNil, MI.sCons, MI.sIf, MI.sSet, MI.sSetL, MI.sRet, MI.sRetN, MI.sRetV, MI.sSub, MI.sAug, MI.sApp, MI.sOwn, MI.sSetT, MI.sFor, MI.sWhile, MI.eVar, MI.eBor, MI.eK, MI.eBin, MI.eNeg, MI.eNot, MI.eAnd, MI.eOr, MI.eT, MI.eIf, MI.eIx, MI.eSl, MI.eCall, MI.eInst, MI.eBlt1, MI.eBlt, MI.eMeth, MI.eTup, MI.eLst, MI.eOfA, MI.aNil, MI.aCons, MI.tCmp, MI.tChain, MI.tNot, MI.tAnd, MI.tOr, MI.tOf, MI.tYes, MI.pNo, MI.pYes, MI.boolOf, MI.blOf, MI.truth, MI.partD, MI.gOne, bind_ok, of_some, toS_ok, then_next, then_ret, then_brk, map_some, List.getElem?_cons_zero, List.getElem?_cons_succ, List.set_cons_zero, List.set_cons_succ, if_true, if_false, Bool.false_eq_true, reduceIte, cmp_eqI, beq_eq_false_iff_ne.mpr gw, heq, decide_eq_false gl]
    by_cases g1 : w = 1
    · subst g1
      refine ⟨ls.take k ++ ls.drop (k + 1), st2, ?_, ((tk k).mono (Nat.le_succ b)).app ((dr (k + 1)).mono (Nat.le_succ b)), by rw [List.length_append, List.length_take, List.length_drop]; omega, a4.mono (by omega)⟩
      refine (run_step s1).trans ((run_ifF t0).trans ?_)
      refine run_ifR (st1 := st2) (by simp only [MI.run, MI.strD, MI.lstOf, MI.known, MI.sPar, MI.sTry, MI.sRaise0, MI.sRaise1, MI.sParOwn, MI.sForR, MI.sStar, MI.starD, MI.eTupRg, MI.eLm, MI.eIsX, MI.eFld, MI.eDic0, MI.eLam, MI.xCat, MI.freed, MI.sNil, MI.sCons, MI.sIf, MI.sSet, MI.sSetL, MI.sRet, MI.sRetN, MI.sRetV, MI.sSub, MI.sAug, MI.sApp, MI.sOwn, MI.sSetT, MI.sFor, MI.sWhile, MI.eVar, MI.eBor, MI.eK, MI.eBin, MI.eNeg, MI.eNot, MI.eAnd, MI.eOr, MI.eT, MI.eIf, MI.eIx, MI.eSl, MI.eCall, MI.eInst, MI.eBlt1, MI.eBlt, MI.eMeth, MI.eTup, MI.eLst, MI.eOfA, MI.aNil, MI.aCons, MI.tCmp, MI.tChain, MI.tNot, MI.tAnd, MI.tOr, MI.tOf, MI.tYes, MI.pNo, MI.pYes, MI.boolOf, MI.blOf, MI.truth, MI.partD, MI.gOne, bind_ok, of_some, toS_ok, then_next, then_ret, then_brk, map_some, List.getElem?_cons_zero, List.getElem?_cons_succ, List.set_cons_zero, List.set_cons_succ, if_true, if_false, Bool.false_eq_true, reduceIte, cmp_eqI, beq_self_eq_true]) (seq_ret ?_)
      simp only [MI.run, MI.strD, MI.lstOf, MI.known, MI.sPar, MI.sTry, MI.sRaise0, MI.sRaise1, MI.sParOwn, MI.sForR, MI.sStar, MI.starD, MI.eTupRg, MI.eLm, MI.eIsX, MI.eFld, MI.eDic0, MI.eLam, MI.xCat, MI.freed, MI.sNil, MI.sCons, MI.sIf, MI.sSet, MI.sSetL, MI.sRet, MI.sRetN, MI.sRetV, MI.sSub, MI.sAug, MI.sApp, MI.sOwn, MI.sSetT, MI.sFor, MI.sWhile, MI.eVar, MI.eBor, MI.eK, MI.eBin, MI.eNeg, MI.eNot, MI.eAnd, MI.eOr, MI.eT, MI.eIf, MI.eIx, MI.eSl, MI.eCall, MI.eInst, MI.eBlt1, MI.eBlt, MI.eMeth, MI.eTup, MI.eLst, MI.eOfA, MI.aNil, MI.aCons, MI.tCmp, MI.tChain, MI.tNot, MI.tAnd, MI.tOr, MI.tOf, MI.tYes, MI.pNo, MI.pYes, MI.boolOf, MI.blOf, MI.truth, MI.partD, MI.gOne, bind_ok, of_some, toS_ok, then_next, then_ret, then_brk, map_some, List.getElem?_cons_zero, List.getElem?_cons_succ, List.set_cons_zero, List.set_cons_succ, if_true, if_false, Bool.false_eq_true, reduceIte, op_add, slL_nk, slL_k1n, lsD_take, lsD_drop, cat (ls.take k) (ls.drop (k + 1)) (Nat.le_trans (ltk k) (by decide)) (Nat.le_trans (ldr (k + 1)) (by decide))]
    · have t1 : (MI.tCmp .Eq (eBor 3) (eK (.int 1))) [.v (.ref i), .v (.lst (lsD ls)), .v (.int (k : Nat)), .v (.int w), .no, .no] st2 = .ok false st2 := by
        simp only [MI.run, MI.strD, MI.lstOf, MI.known, MI.sPar, MI.sTry, MI.sRaise0, MI.sRaise1, MI.sParOwn, MI.sForR, MI.sStar, MI.starD, MI.eTupRg, MI.eLm, MI.eIsX, MI.eFld, MI.eDic0, MI.eLam, MI.xCat, MI.freed, MI.sNil, MI.sCons, MI.sIf, MI.sSet, MI.sSetL, MI.sRet, MI.sRetN, MI.sRetV, MI.sSub, MI.sAug, MI.sApp, MI.sOwn, MI.sSetT, MI.sFor, MI.sWhile, MI.eVar, MI.eBor, MI.eK, MI.eBin, MI.eNeg, MI.eNot, MI.eAnd, MI.eOr, MI.eT, MI.eIf, MI.eIx, MI.eSl, MI.eCall, MI.eInst, MI.eBlt1, MI.eBlt, MI.eMeth, MI.eTup, MI.eLst, MI.eOfA, MI.aNil, MI.aCons, MI.tCmp, MI.tChain, MI.tNot, MI.tAnd, MI.tOr, MI.tOf, MI.tYes, MI.pNo, MI.pYes, MI.boolOf, MI.blOf, MI.truth, MI.partD, MI.gOne, bind_ok, of_some, toS_ok, then_next, then_ret, then_brk, map_some, List.getElem?_cons_zero, List.getElem?_cons_succ, List.set_cons_zero, List.set_cons_succ, if_true, if_false, Bool.false_eq_true, reduceIte, cmp_eqI, beq_eq_false_iff_ne.mpr g1]
      by_cases g2 : w = 2
      · subst g2
        have l1 : ((ls.drop k).take 1).length ≤ 1 := by rw [List.length_take]; omega
        refine ⟨ls.take k ++ (ls.drop k).take 1 ++ ls.drop k, st2, ?_, (((tk k).mono (Nat.le_succ b)).app (((dr k).sub fun l hl => List.mem_of_mem_take hl).mono (Nat.le_succ b))).app ((dr k).mono (Nat.le_succ b)), by rw [List.length_append, List.length_append, List.length_take, List.length_drop]; omega, a4.mono (by omega)⟩
        refine (run_step s1).trans ((run_ifF t0).trans ((run_ifF t1).trans ?_))
        refine run_ifR (st1 := st2) (by simp only [MI.run, MI.strD, MI.lstOf, MI.known, MI.sPar, MI.sTry, MI.sRaise0, MI.sRaise1, MI.sParOwn, MI.sForR, MI.sStar, MI.starD, MI.eTupRg, MI.eLm, MI.eIsX, MI.eFld, MI.eDic0, MI.eLam, MI.xCat, MI.freed, MI.sNil, MI.sCons, MI.sIf, MI.sSet, MI.sSetL, MI.sRet, MI.sRetN, MI.sRetV, MI.sSub, MI.sAug, MI.sApp, MI.sOwn, MI.sSetT, MI.sFor, MI.sWhile, MI.eVar, MI.eBor, MI.eK, MI.eBin, MI.eNeg, MI.eNot, MI.eAnd, MI.eOr, MI.eT, MI.eIf, MI.eIx, MI.eSl, MI.eCall, MI.eInst, MI.eBlt1, MI.eBlt, MI.eMeth, MI.eTup, MI.eLst, MI.eOfA, MI.aNil, MI.aCons, MI.tCmp, MI.tChain, MI.tNot, MI.tAnd, MI.tOr, MI.tOf, MI.tYes, MI.pNo, MI.pYes, MI.boolOf, MI.blOf, MI.truth, MI.partD, MI.gOne, bind_ok, of_some, toS_ok, then_next, then_ret, then_brk, map_some, List.getElem?_cons_zero, List.getElem?_cons_succ, List.set_cons_zero, List.set_cons_succ, if_true, if_false, Bool.false_eq_true, reduceIte, cmp_eqI, beq_self_eq_true]) (seq_ret ?_)
        simp only [MI.run, MI.strD, MI.lstOf, MI.known, MI.sPar, MI.sTry, MI.sRaise0, MI.sRaise1, MI.sParOwn, MI.sForR, MI.sStar, MI.starD, MI.eTupRg, MI.eLm, MI.eIsX, MI.eFld, MI.eDic0, MI.eLam, MI.xCat, MI.freed, MI.sNil, MI.sCons, MI.sIf, MI.sSet, MI.sSetL, MI.sRet, MI.sRetN, MI.sRetV, MI.sSub, MI.sAug, MI.sApp, MI.sOwn, MI.sSetT, MI.sFor, MI.sWhile, MI.eVar, MI.eBor, MI.eK, MI.eBin, MI.eNeg, MI.eNot, MI.eAnd, MI.eOr, MI.eT, MI.eIf, MI.eIx, MI.eSl, MI.eCall, MI.eInst, MI.eBlt1, MI.eBlt, MI.eMeth, MI.eTup, MI.eLst, MI.eOfA, MI.aNil, MI.aCons, MI.tCmp, MI.tChain, MI.tNot, MI.tAnd, MI.tOr, MI.tOf, MI.tYes, MI.pNo, MI.pYes, MI.boolOf, MI.blOf, MI.truth, MI.partD, MI.gOne, bind_ok, of_some, toS_ok, then_next, then_ret, then_brk, map_some, List.getElem?_cons_zero, List.getElem?_cons_succ, List.set_cons_zero, List.set_cons_succ, if_true, if_false, Bool.false_eq_true, reduceIte, op_add, slL_nk, slL_kn, slL_kk, lsD_take, lsD_drop, cat (ls.take k) ((ls.drop k).take 1) (Nat.le_trans (ltk k) (by decide)) (by omega), cat (ls.take k ++ (ls.drop k).take 1) (ls.drop k) (by rw [List.length_append]; have := ltk k; omega) (Nat.le_trans (ldr k) (by decide))]
      · have t2 : (MI.tCmp .Eq (eBor 3) (eK (.int 2))) [.v (.ref i), .v (.lst (lsD ls)), .v (.int (k : Nat)), .v (.int w), .no, .no] st2 = .ok false st2 := by
          simp only [MI.run, MI.strD, MI.lstOf, MI.known, MI.sPar, MI.sTry, MI.sRaise0, MI.sRaise1, MI.sParOwn, MI.sForR, MI.sStar, MI.starD, MI.eTupRg, MI.eLm, MI.eIsX, MI.eFld, MI.eDic0, MI.eLam, MI.xCat, MI.freed, MI.sNil, MI.sCons, MI.sIf, MI.sSet, MI.sSetL, MI.sRet, MI.sRetN, MI.sRetV, MI.sSub, MI.sAug, MI.sApp, MI.sOwn, MI.sSetT, MI.sFor, MI.sWhile, MI.eVar, MI.eBor, MI.eK, MI.eBin, MI.eNeg, MI.eNot, MI.eAnd, MI.eOr, MI.eT, MI.eIf, MI.eIx, MI.eSl, MI.eCall, MI.eInst, MI.eBlt1, MI.eBlt, MI.eMeth, MI.eTup, MI.eLst, MI.eOfA, MI.aNil, MI.aCons, MI.tCmp, MI.tChain, MI.tNot, MI.tAnd, MI.tOr, MI.tOf, MI.tYes, MI.pNo, MI.pYes, MI.boolOf, MI.blOf, MI.truth, MI.partD, MI.gOne, bind_ok, of_some, toS_ok, then_next, then_ret, then_brk, map_some, List.getElem?_cons_zero, List.getElem?_cons_succ, List.set_cons_zero, List.set_cons_succ, if_true, if_false, Bool.false_eq_true, reduceIte, cmp_eqI, beq_eq_false_iff_ne.mpr g2]
        have hq : k % ls.length < ls.length := Nat.mod_lt _ hpos
        have hmod : ((k : Nat) : Int) % ((ls.length : Nat) : Int) = ((k % ls.length : Nat) : Int) := (Int.natCast_emod k ls.length).symm
        have s2 : (eBin .Mod (eVar 2) (eBlt1 (Str.ofString "len") (eBor 1))) [.v (.ref i), .v (.lst (lsD ls)), .v (.int (k : Nat)), .v (.int w), .no, .no] st2 = .ok (.int ((k % ls.length : Nat) : Int)) st2 := by
          simp only [MI.run, MI.strD, MI.lstOf, MI.known, MI.sPar, MI.sTry, MI.sRaise0, MI.sRaise1, MI.sParOwn, MI.sForR, MI.sStar, MI.starD, MI.eTupRg, MI.eLm, MI.eIsX, MI.eFld, MI.eDic0, MI.eLam, MI.xCat, MI.freed, MI.sNil, MI.sCons, MI.sIf, MI.sSet, MI.sSetL, MI.sRet, MI.sRetN, MI.sRetV, MI.sSub, MI.sAug, MI.sApp, MI.sOwn, MI.sSetT, MI.sFor, MI.sWhile, MI.eVar, MI.eBor, MI.eK, MI.eBin, MI.eNeg, MI.eNot, MI.eAnd, MI.eOr, MI.eT, MI.eIf, MI.eIx, MI.eSl, MI.eCall, MI.eInst, MI.eBlt1, MI.eBlt, MI.eMeth, MI.eTup, MI.eLst, MI.eOfA, MI.aNil, MI.aCons, MI.tCmp, MI.tChain, MI.tNot, MI.tAnd, MI.tOr, MI.tOf, MI.tYes, MI.pNo, MI.pYes, MI.boolOf, MI.blOf, MI.truth, MI.partD, MI.gOne, bind_ok, of_some, toS_ok, then_next, then_ret, then_brk, map_some, List.getElem?_cons_zero, List.getElem?_cons_succ, List.set_cons_zero, List.set_cons_succ, if_true, if_false, Bool.false_eq_true, reduceIte, hlnA, op_mod (show (0 : Int) < ((ls.length : Nat) : Int) by omega), hmod]
        generalize k % ls.length = q at hq s2
        have hx : ∀ st', ixD (.lst (lsD ls)) (.int (q : Nat)) st' = some (.str (S ls[q])) := fun st' => ixL hq st'
        have hrow : ls[q].length ≤ b := hr.len _ (List.getElem_mem hq)
        have hsig : ∀ c ∈ ls[q], c ≤ 126 := hr.sig _ (List.getElem_mem hq)
        have hbig : ls[q].length ≤ big := Nat.le_trans hrow (Nat.le_trans hb2 (by decide))
        by_cases g3 : w = 3
        · subst g3
          obtain ⟨c, st3, c1, c2, c3, c4⟩ := next_ok (n + 3) a4 (by omega) (z := ((ls[q].length : Nat) : Int) + 1) (by omega) (by omega)
          obtain ⟨p, rfl⟩ := Int.eq_ofNat_of_zero_le c2
          refine ⟨ls.take q ++ [ls[q].take p, ls[q].drop p] ++ ls.drop (q + 1), st3, ?_, (((tk q).mono (Nat.le_succ b)).app ((Rw.one (by rw [List.length_take]; omega) fun c hc => hsig c (List.mem_of_mem_take hc)).app (Rw.one (by rw [List.length_drop]; omega) fun c hc => hsig c (List.mem_of_mem_drop hc)))).app ((dr (q + 1)).mono (Nat.le_succ b)), by rw [List.length_append, List.length_append, List.length_take, List.length_drop]; show _ + 2 + _ ≤ _; omega, c4.mono (by omega)⟩
          refine (run_step s1).trans ((run_ifF t0).trans ((run_ifF t1).trans ((run_ifF t2).trans ((run_set s2).trans ?_))))
          refine run_ifR (st1 := st2) (by simp only [MI.run, MI.strD, MI.lstOf, MI.known, MI.sPar, MI.sTry, MI.sRaise0, MI.sRaise1, MI.sParOwn, MI.sForR, MI.sStar, MI.starD, MI.eTupRg, MI.eLm, MI.eIsX, MI.eFld, MI.eDic0, MI.eLam, MI.xCat, MI.freed, MI.sNil, MI.sCons, MI.sIf, MI.sSet, MI.sSetL, MI.sRet, MI.sRetN, MI.sRetV, MI.sSub, MI.sAug, MI.sApp, MI.sOwn, MI.sSetT, MI.sFor, MI.sWhile, MI.eVar, MI.eBor, MI.eK, MI.eBin, MI.eNeg, MI.eNot, MI.eAnd, MI.eOr, MI.eT, MI.eIf, MI.eIx, MI.eSl, MI.eCall, MI.eInst, MI.eBlt1, MI.eBlt, MI.eMeth, MI.eTup, MI.eLst, MI.eOfA, MI.aNil, MI.aCons, MI.tCmp, MI.tChain, MI.tNot, MI.tAnd, MI.tOr, MI.tOf, MI.tYes, MI.pNo, MI.pYes, MI.boolOf, MI.blOf, MI.truth, MI.partD, MI.gOne, bind_ok, of_some, toS_ok, then_next, then_ret, then_brk, map_some, List.getElem?_cons_zero, List.getElem?_cons_succ, List.set_cons_zero, List.set_cons_succ, if_true, if_false, Bool.false_eq_true, reduceIte, cmp_eqI, beq_self_eq_true]) ?_
          refine (seq_set (d := .int (p : Nat)) (st1 := st3) ?_).trans (seq_ret ?_)
          · simp only [MI.run, MI.strD, MI.lstOf, MI.known, MI.sPar, MI.sTry, MI.sRaise0, MI.sRaise1, MI.sParOwn, MI.sForR, MI.sStar, MI.starD, MI.eTupRg, MI.eLm, MI.eIsX, MI.eFld, MI.eDic0, MI.eLam, MI.xCat, MI.freed, MI.sNil, MI.sCons, MI.sIf, MI.sSet, MI.sSetL, MI.sRet, MI.sRetN, MI.sRetV, MI.sSub, MI.sAug, MI.sApp, MI.sOwn, MI.sSetT, MI.sFor, MI.sWhile, MI.eVar, MI.eBor, MI.eK, MI.eBin, MI.eNeg, MI.eNot, MI.eAnd, MI.eOr, MI.eT, MI.eIf, MI.eIx, MI.eSl, MI.eCall, MI.eInst, MI.eBlt1, MI.eBlt, MI.eMeth, MI.eTup, MI.eLst, MI.eOfA, MI.aNil, MI.aCons, MI.tCmp, MI.tChain, MI.tNot, MI.tAnd, MI.tOr, MI.tOf, MI.tYes, MI.pNo, MI.pYes, MI.boolOf, MI.blOf, MI.truth, MI.partD, MI.gOne, bind_ok, of_some, toS_ok, then_next, then_ret, then_brk, map_some, List.getElem?_cons_zero, List.getElem?_cons_succ, List.set_cons_zero, List.set_cons_succ, if_true, if_false, Bool.false_eq_true, reduceIte, hx, len_ok hbig, op_add, c1]
          · have d1 : opD .Add (.lst (lsD (ls.take q))) (.lst [.str (S (ls[q].take p)), .str (S (ls[q].drop p))]) = some (.lst (lsD (ls.take q ++ [ls[q].take p, ls[q].drop p]))) := cat (ls.take q) [ls[q].take p, ls[q].drop p] (Nat.le_trans (ltk q) (by decide)) (by show 2 ≤ 100; decide)
            have d2 := cat (ls.take q ++ [ls[q].take p, ls[q].drop p]) (ls.drop (q + 1)) (by rw [List.length_append]; have := ltk q; show _ + 2 ≤ 100; omega) (Nat.le_trans (ldr (q + 1)) (by decide))
            simp only [MI.run, MI.strD, MI.lstOf, MI.known, MI.sPar, MI.sTry, MI.sRaise0, MI.sRaise1, MI.sParOwn, MI.sForR, MI.sStar, MI.starD, MI.eTupRg, MI.eLm, MI.eIsX, MI.eFld, MI.eDic0, MI.eLam, MI.xCat, MI.freed, MI.sNil, MI.sCons, MI.sIf, MI.sSet, MI.sSetL, MI.sRet, MI.sRetN, MI.sRetV, MI.sSub, MI.sAug, MI.sApp, MI.sOwn, MI.sSetT, MI.sFor, MI.sWhile, MI.eVar, MI.eBor, MI.eK, MI.eBin, MI.eNeg, MI.eNot, MI.eAnd, MI.eOr, MI.eT, MI.eIf, MI.eIx, MI.eSl, MI.eCall, MI.eInst, MI.eBlt1, MI.eBlt, MI.eMeth, MI.eTup, MI.eLst, MI.eOfA, MI.aNil, MI.aCons, MI.tCmp, MI.tChain, MI.tNot, MI.tAnd, MI.tOr, MI.tOf, MI.tYes, MI.pNo, MI.pYes, MI.boolOf, MI.blOf, MI.truth, MI.partD, MI.gOne, bind_ok, of_some, toS_ok, then_next, then_ret, then_brk, map_some, List.getElem?_cons_zero, List.getElem?_cons_succ, List.set_cons_zero, List.set_cons_succ, if_true, if_false, Bool.false_eq_true, reduceIte, hx, op_add, slL_nk, slL_k1n, sl_nk hbig, sl_kn hbig, lsD_take, lsD_drop, d1, d2]
        · have t3 : (MI.tCmp .Eq (eBor 3) (eK (.int 3))) [.v (.ref i), .v (.lst (lsD ls)), .v (.int (q : Nat)), .v (.int w), .no, .no] st2 = .ok false st2 := by
            simp only [MI.run, MI.strD, MI.lstOf, MI.known, MI.sPar, MI.sTry, MI.sRaise0, MI.sRaise1, MI.sParOwn, MI.sForR, MI.sStar, MI.starD, MI.eTupRg, MI.eLm, MI.eIsX, MI.eFld, MI.eDic0, MI.eLam, MI.xCat, MI.freed, MI.sNil, MI.sCons, MI.sIf, MI.sSet, MI.sSetL, MI.sRet, MI.sRetN, MI.sRetV, MI.sSub, MI.sAug, MI.sApp, MI.sOwn, MI.sSetT, MI.sFor, MI.sWhile, MI.eVar, MI.eBor, MI.eK, MI.eBin, MI.eNeg, MI.eNot, MI.eAnd, MI.eOr, MI.eT, MI.eIf, MI.eIx, MI.eSl, MI.eCall, MI.eInst, MI.eBlt1, MI.eBlt, MI.eMeth, MI.eTup, MI.eLst, MI.eOfA, MI.aNil, MI.aCons, MI.tCmp, MI.tChain, MI.tNot, MI.tAnd, MI.tOr, MI.tOf, MI.tYes, MI.pNo, MI.pYes, MI.boolOf, MI.blOf, MI.truth, MI.partD, MI.gOne, bind_ok, of_some, toS_ok, then_next, then_ret, then_brk, map_some, List.getElem?_cons_zero, List.getElem?_cons_succ, List.set_cons_zero, List.set_cons_succ, if_true, if_false, Bool.false_eq_true, reduceIte, cmp_eqI, beq_eq_false_iff_ne.mpr g3]
          obtain ⟨u, st3, u1, u2, u3⟩ := changed_ok n a4 (by omega) (t := ls[q]) (by omega) hsig
          refine ⟨ls.take q ++ [u] ++ ls.drop (q + 1), st3, ?_, (((tk q).mono (Nat.le_succ b)).app (Rw.one (by have := u2.1; omega) u2.2)).app ((dr (q + 1)).mono (Nat.le_succ b)), by rw [List.length_append, List.length_append, List.length_take, List.length_drop, List.length_singleton]; omega, u3.mono (by omega)⟩
          refine (run_step s1).trans ((run_ifF t0).trans ((run_ifF t1).trans ((run_ifF t2).trans ((run_set s2).trans ((run_ifF t3).trans (run_ret ?_))))))
          have d1 : opD .Add (.lst (lsD (ls.take q))) (.lst [.str (S u)]) = some (.lst (lsD (ls.take q ++ [u]))) := cat (ls.take q) [u] (Nat.le_trans (ltk q) (by decide)) (by show 1 ≤ 100; decide)
          have d2 := cat (ls.take q ++ [u]) (ls.drop (q + 1)) (by rw [List.length_append]; have := ltk q; show _ + 1 ≤ 100; omega) (Nat.le_trans (ldr (q + 1)) (by decide))
          simp only [MI.run, MI.strD, MI.lstOf, MI.known, MI.sPar, MI.sTry, MI.sRaise0, MI.sRaise1, MI.sParOwn, MI.sForR, MI.sStar, MI.starD, MI.eTupRg, MI.eLm, MI.eIsX, MI.eFld, MI.eDic0, MI.eLam, MI.xCat, MI.freed, MI.sNil, MI.sCons, MI.sIf, MI.sSet, MI.sSetL, MI.sRet, MI.sRetN, MI.sRetV, MI.sSub, MI.sAug, MI.sApp, MI.sOwn, MI.sSetT, MI.sFor, MI.sWhile, MI.eVar, MI.eBor, MI.eK, MI.eBin, MI.eNeg, MI.eNot, MI.eAnd, MI.eOr, MI.eT, MI.eIf, MI.eIx, MI.eSl, MI.eCall, MI.eInst, MI.eBlt1, MI.eBlt, MI.eMeth, MI.eTup, MI.eLst, MI.eOfA, MI.aNil, MI.aCons, MI.tCmp, MI.tChain, MI.tNot, MI.tAnd, MI.tOr, MI.tOf, MI.tYes, MI.pNo, MI.pYes, MI.boolOf, MI.blOf, MI.truth, MI.partD, MI.gOne, bind_ok, of_some, toS_ok, then_next, then_ret, then_brk, map_some, List.getElem?_cons_zero, List.getElem?_cons_succ, List.set_cons_zero, List.set_cons_succ, if_true, if_false, Bool.false_eq_true, reduceIte, hx, op_add, slL_nk, slL_k1n, lsD_take, lsD_drop, u1, d1, d2]
end K77

set_option maxRecDepth 100000
set_option maxHeartbeats 4000000
namespace K77
open PySem MI SX
theorem new_drw {st : Store} {c s : Int} (h1 : 0 ≤ c) (h2 : 0 ≤ s) (h3 : s ≤ 2147483629) : Drw (st ++ [.lst [.int c, .int s, .int 0]]) st.length 0 := by
  refine ⟨⟨c, s, 0, ?_, h1, h2, h3, Int.le_refl 0, Int.le_refl 0⟩⟩
  rw [List.getElem?_append_right (Nat.le_refl _), Nat.sub_self]
  rfl
theorem seed_ok (c k : Int) (hk : 0 ≤ k) (hk2 : k ≤ 1000) (st : Store) : ∃ s : Int, (eBin .Add (eK (.int 1)) (eBin .Mod (eBin .Pow (eBin .Add (eBin .Add (eBin .Mult (eBin .Mod (eVar 0) (eK (.int 2147483647))) (eK (.int 48271))) (eBin .Mult (eK (.int 104729)) (eVar 1))) (eK (.int 7))) (eK (.int 3))) (eK (.int 2147483629)))) [.v (.int c), .v (.int k), .no] st = .ok (.int s) st ∧ 0 ≤ s ∧ s ≤ 2147483629 := by
  have q0 : 0 ≤ c % 2147483647 := Int.emod_nonneg _ (by decide)
  have q1 : c % 2147483647 < 2147483647 := Int.emod_lt_of_pos _ (by decide)
  have m1 := op_mulS (i := c % 2147483647) (j := 48271) (by omega) (by decide)
  have m2 := op_mulS (i := 104729) (j := k) (by decide) (by omega)
  have p1 := op_pow (i := c % 2147483647 * 48271 + 104729 * k + 7) (j := 3) (by decide) (by decide) (by omega)
  generalize (c % 2147483647 * 48271 + 104729 * k + 7) ^ (3 : Int).toNat = w at p1
  have r0 : 0 ≤ w % 2147483629 := Int.emod_nonneg _ (by decide)
  have r1 : w % 2147483629 < 2147483629 := Int.emod_lt_of_pos _ (by decide)
  refine ⟨1 + w % 2147483629, ?_, by omega, by omega⟩
  refine bin_of (y := .int (w % 2147483629)) (st1 := st) (st2 := st) (x := .int 1) rfl ?_ (op_add _ _)
  refine bin_of (x := .int w) (y := .int 2147483629) (st1 := st) ?_ rfl (op_mod (by decide))
  refine bin_of (x := .int (c % 2147483647 * 48271 + 104729 * k + 7)) (y := .int 3) (st1 := st) ?_ rfl p1
  refine bin_of (x := .int (c % 2147483647 * 48271 + 104729 * k)) (y := .int 7) (st1 := st) ?_ rfl (op_add _ _)
  refine bin_of (x := .int (c % 2147483647 * 48271)) (y := .int (104729 * k)) (st1 := st) ?_ ?_ (op_add _ _)
  · refine bin_of (x := .int (c % 2147483647)) (y := .int 48271) (st1 := st) ?_ rfl m1
    exact bin_of (x := .int c) (y := .int 2147483647) (st1 := st) rfl rfl (op_mod (by decide))
  · exact bin_of (x := .int 104729) (y := .int k) (st1 := st) rfl rfl m2
theorem e18 (env : MI.Env) (st : Store) : eBin .Pow (eK (.int 10)) (eK (.int 18)) env st = .ok (.int 1000000000000000000) st := by
  refine bin_of (x := .int 10) (y := .int 18) (st1 := st) rfl rfl ?_
  rw [op_pow (by decide) (by decide) (by decide)]
  rfl
theorem ge_of {a b : EX} {env : MI.Env} {st : Store} {i j : Int} (ha : a env st = .ok (.int i) st) (hb : b env st = .ok (.int j) st) : MI.tCmp .GtE a b env st = .ok (decide (j ≤ i)) st := by
  unfold MI.tCmp
  rw [ha, bind_ok, hb, bind_ok, cmp_ge, of_some]
theorem begun_ok (n : Nat) (st : Store) (c k : Int) (hk : 0 ≤ k) (hk2 : k ≤ 1000) : ∃ st', tab G fs (n + 1) (Str.ofString "_law_begun") [.int c, .int k] st = .ok (.ref st.length) st' ∧ Drw st' st.length 0 := by
  obtain ⟨s, hs, h1, h2⟩ := seed_ok c k hk hk2 st
  rw [at_law_begun]
  unfold b_law_begun
  have hc := ge_of (a := eBor 0) (env := [.v (.int c), .v (.int k), .v (.int s)]) (st := st) (i := c) rfl (e18 _ st)
  by_cases h : (1000000000000000000 : Int) ≤ c
  · rw [decide_eq_true h] at hc
    refine ⟨_, ?_, new_drw (st := st) (c := c - 1000000000000000000) (s := s) (by omega) h1 h2⟩
    refine (run_set hs).trans ?_
    refine run_ifR hc ?_
    refine seq_stepR ?_
    have e : eBin .Sub (eVar 0) (eBin .Pow (eK (.int 10)) (eK (.int 18))) [.v (.int c), .v (.int k), .v (.int s)] st = .ok (.int (c - 1000000000000000000)) st := bin_of (x := .int c) rfl (e18 _ st) (op_sub _ _)
    show ((aCons _ _ [.v (.int c), .v (.int k), .v (.int s)] st).toS [.v (.int c), .v (.int k), .v (.int s)] fun ds st1 => RS.ret (.ref st1.length) (st1 ++ [.lst ds])) = _
    unfold aCons
    rw [e, bind_ok]
    rfl
  · rw [decide_eq_false h] at hc
    refine ⟨_, ?_, new_drw (st := st) (c := 0) (s := s) (by omega) h1 h2⟩
    refine (run_set hs).trans ?_
    refine (run_ifF hc).trans ?_
    exact run_stepR rfl
theorem wip10 (e0 e1 e2 e3 e4 e5 e6 e7 e8 e9 e10 e11 : Sl) (z : D) : List.set (wipeE [e0, e1, e2, e3, e4, e5, e6, e7, e8, e9, e10, e11] [10]) 10 (.v z) = [e0, e1, e2, e3, e4, e5, e6, e7, e8, e9, .v z, e11] := rfl
theorem wip11 (e0 e1 e2 e3 e4 e5 e6 e7 e8 e9 e10 e11 : Sl) (z : D) : List.set (wipeE [e0, e1, e2, e3, e4, e5, e6, e7, e8, e9, e10, e11] [11]) 11 (.v z) = [e0, e1, e2, e3, e4, e5, e6, e7, e8, e9, e10, .v z] := rfl
abbrev rowX (T : Tab) : EX := (eBlt1 (Str.ofString "tuple") (eOfA (xComp [11] (xRange1 (eCall T (Str.ofString "_law_next") (aCons (eVar 2) (aCons (eK (.int 5)) aNil)))) (gOne 11) MI.tYes (eCall T (Str.ofString "_law_thing") (aCons (eVar 2) (aCons (eK (.int 2)) aNil))))))
theorem row_draw (n : Nat) {st : Store} {i : Nat} {m : Int} (h : Drw st i m) (hm : m + 700 < 1000000) (a b c d e f g j k l y : Sl) :
    ∃ r st2, rowX (tab G fs (n + 22)) [a, b, .v (.ref i), c, d, e, f, g, j, k, l, y] st = .ok (.tup r) st2 ∧ r.length ≤ 4 ∧ (∀ d ∈ r, Bd 2 800 d) ∧ Drw st2 i (m + 641) := by
  obtain ⟨r, st1, h1, h2, h3, h4⟩ := next_ok (n + 21) h (by omega) (z := 5) (by omega) (by omega)
  obtain ⟨q, rfl⟩ := Int.eq_ofNat_of_zero_le h2
  obtain ⟨xs, st2, c1, c2, c3, c4⟩ := comp_draw (own := [11]) (src := xRange1 (eCall (tab G fs (n + 22)) (Str.ofString "_law_next") (aCons (eVar 2) (aCons (eK (.int 5)) aNil)))) (bind := gOne 11) (elt := eCall (tab G fs (n + 22)) (Str.ofString "_law_thing") (aCons (eVar 2) (aCons (eK (.int 2)) aNil))) (env := [a, b, .v (.ref i), c, d, e, f, g, j, k, l, y]) (st := st) (st1 := st1) (ds := rangeD 0 q) (i := i) (m := m + 1) (c := 160) (M := m + 641) (P := fun x => Bd 2 800 x) (range_src (by simp only [MI.run, MI.strD, MI.lstOf, MI.known, MI.sPar, MI.sTry, MI.sRaise0, MI.sRaise1, MI.sParOwn, MI.sForR, MI.sStar, MI.starD, MI.eTupRg, MI.eLm, MI.eIsX, MI.eFld, MI.eDic0, MI.eLam, MI.xCat, MI.freed, MI.sNil, MI.sCons, MI.sIf, MI.sSet, MI.sSetL, MI.sRet, MI.sRetN, MI.sRetV, MI.sSub, MI.sAug, MI.sApp, MI.sOwn, MI.sSetT, MI.sFor, MI.sWhile, MI.eVar, MI.eBor, MI.eK, MI.eBin, MI.eNeg, MI.eNot, MI.eAnd, MI.eOr, MI.eT, MI.eIf, MI.eIx, MI.eSl, MI.eCall, MI.eInst, MI.eBlt1, MI.eBlt, MI.eMeth, MI.eTup, MI.eLst, MI.eOfA, MI.aNil, MI.aCons, MI.tCmp, MI.tChain, MI.tNot, MI.tAnd, MI.tOr, MI.tOf, MI.tYes, MI.pNo, MI.pYes, MI.boolOf, MI.blOf, MI.truth, MI.partD, MI.gOne, bind_ok, of_some, toS_ok, then_next, then_ret, then_brk, map_some, List.getElem?_cons_zero, List.getElem?_cons_succ, List.set_cons_zero, List.set_cons_succ, if_true, if_false, Bool.false_eq_true, reduceIte, h1]) (Nat.le_trans (show q ≤ 5 by omega) (by decide))) (by rw [range_len]; omega) (by decide) (by rw [range_len]; omega) h4 (fun z hz st' m' hd hm' => by
      obtain ⟨x, st3, g1, g2, g3⟩ := thing_gen 2 (n + 16) st' i m' hd (by show m' + 160 < 1000000; omega)
      refine ⟨x, st3, ?_, g2, g3⟩
      have G1 : tab G fs (n + 22) (Str.ofString "_law_thing") [.ref i, .int 2] st' = .ok x st3 := g1
      generalize tab G fs (n + 22) = T at G1
      show ((MI.tYes [a, b, .v (.ref i), c, d, e, f, g, j, k, l, .v z] st').bind _) = _
      simp only [MI.run, MI.strD, MI.lstOf, MI.known, MI.sPar, MI.sTry, MI.sRaise0, MI.sRaise1, MI.sParOwn, MI.sForR, MI.sStar, MI.starD, MI.eTupRg, MI.eLm, MI.eIsX, MI.eFld, MI.eDic0, MI.eLam, MI.xCat, MI.freed, MI.sNil, MI.sCons, MI.sIf, MI.sSet, MI.sSetL, MI.sRet, MI.sRetN, MI.sRetV, MI.sSub, MI.sAug, MI.sApp, MI.sOwn, MI.sSetT, MI.sFor, MI.sWhile, MI.eVar, MI.eBor, MI.eK, MI.eBin, MI.eNeg, MI.eNot, MI.eAnd, MI.eOr, MI.eT, MI.eIf, MI.eIx, MI.eSl, MI.eCall, MI.eInst, MI.eBlt1, MI.eBlt, MI.eMeth, MI.eTup, MI.eLst, MI.eOfA, MI.aNil, MI.aCons, MI.tCmp, MI.tChain, MI.tNot, MI.tAnd, MI.tOr, MI.tOf, MI.tYes, MI.pNo, MI.pYes, MI.boolOf, MI.blOf, MI.truth, MI.partD, MI.gOne, bind_ok, of_some, toS_ok, then_next, then_ret, then_brk, map_some, List.getElem?_cons_zero, List.getElem?_cons_succ, List.set_cons_zero, List.set_cons_succ, if_true, if_false, Bool.false_eq_true, reduceIte, wip11, G1])
  rw [range_len] at c2 c4
  refine ⟨xs, st2, ?_, by omega, c3, c4.mono (by omega)⟩
  generalize tab G fs (n + 22) = T at c1
  show (((xComp [11] _ (gOne 11) MI.tYes _ [a, b, .v (.ref i), c, d, e, f, g, j, k, l, y] st).bind fun ds st1 => Res.ok (D.lst ds) st1).bind _) = _
  rw [c1]
  rfl
theorem brd_of {Q : List D → Prop} : ∀ {xs : List D}, (∀ x ∈ xs, ∃ r, x = .tup r ∧ Q r) → ∃ rs, xs = brd rs ∧ ∀ r ∈ rs, Q r
  | [], _ => ⟨[], rfl, fun r h => by cases h⟩
  | x :: xs, h => by
    obtain ⟨r, rfl, hr⟩ := h x List.mem_cons_self
    obtain ⟨rs, e, hrs⟩ := brd_of fun y hy => h y (List.mem_cons_of_mem _ hy)
    refine ⟨r :: rs, by rw [e]; rfl, fun q hq => ?_⟩
    rcases List.mem_cons.mp hq with rfl | hq
    · exact hr
    · exact hrs q hq
abbrev boardX (T : Tab) : AX := (xComp [10] (xRange1 (eCall T (Str.ofString "_law_next") (aCons (eVar 2) (aCons (eK (.int 7)) aNil)))) (gOne 10) MI.tYes (rowX T))
theorem board_draw (n : Nat) {st : Store} {i : Nat} {m : Int} (h : Drw st i m) (hm : m + 5000 < 1000000) (a b c d e f g j k l y : Sl) :
    ∃ rs st2, boardX (tab G fs (n + 22)) [a, b, .v (.ref i), c, d, e, f, g, j, k, l, y] st = .ok (brd rs) st2 ∧ rs.length ≤ 6 ∧ (∀ r ∈ rs, r.length ≤ 4 ∧ ∀ d ∈ r, Bd 2 800 d) ∧ Drw st2 i (m + 5000) := by
  obtain ⟨r, st1, h1, h2, h3, h4⟩ := next_ok (n + 21) h (by omega) (z := 7) (by omega) (by omega)
  obtain ⟨q, rfl⟩ := Int.eq_ofNat_of_zero_le h2
  obtain ⟨xs, st2, c1, c2, c3, c4⟩ := comp_draw (own := [10]) (src := xRange1 (eCall (tab G fs (n + 22)) (Str.ofString "_law_next") (aCons (eVar 2) (aCons (eK (.int 7)) aNil)))) (bind := gOne 10) (elt := rowX (tab G fs (n + 22))) (env := [a, b, .v (.ref i), c, d, e, f, g, j, k, l, y]) (st := st) (st1 := st1) (ds := rangeD 0 q) (i := i) (m := m + 1) (c := 641) (M := m + 4000) (P := fun x => ∃ r, x = .tup r ∧ r.length ≤ 4 ∧ ∀ d ∈ r, Bd 2 800 d) (range_src (by simp only [MI.run, MI.strD, MI.lstOf, MI.known, MI.sPar, MI.sTry, MI.sRaise0, MI.sRaise1, MI.sParOwn, MI.sForR, MI.sStar, MI.starD, MI.eTupRg, MI.eLm, MI.eIsX, MI.eFld, MI.eDic0, MI.eLam, MI.xCat, MI.freed, MI.sNil, MI.sCons, MI.sIf, MI.sSet, MI.sSetL, MI.sRet, MI.sRetN, MI.sRetV, MI.sSub, MI.sAug, MI.sApp, MI.sOwn, MI.sSetT, MI.sFor, MI.sWhile, MI.eVar, MI.eBor, MI.eK, MI.eBin, MI.eNeg, MI.eNot, MI.eAnd, MI.eOr, MI.eT, MI.eIf, MI.eIx, MI.eSl, MI.eCall, MI.eInst, MI.eBlt1, MI.eBlt, MI.eMeth, MI.eTup, MI.eLst, MI.eOfA, MI.aNil, MI.aCons, MI.tCmp, MI.tChain, MI.tNot, MI.tAnd, MI.tOr, MI.tOf, MI.tYes, MI.pNo, MI.pYes, MI.boolOf, MI.blOf, MI.truth, MI.partD, MI.gOne, bind_ok, of_some, toS_ok, then_next, then_ret, then_brk, map_some, List.getElem?_cons_zero, List.getElem?_cons_succ, List.set_cons_zero, List.set_cons_succ, if_true, if_false, Bool.false_eq_true, reduceIte, h1]) (Nat.le_trans (show q ≤ 7 by omega) (by decide))) (by rw [range_len]; omega) (by decide) (by rw [range_len]; omega) h4 (fun z hz st' m' hd hm' => by
      obtain ⟨x, st3, g1, g2, g3, g4⟩ := row_draw n hd (by omega) a b c d e f g j k (.v z) y
      refine ⟨.tup x, st3, ?_, ⟨x, rfl, g2, g3⟩, g4⟩
      show ((MI.tYes [a, b, .v (.ref i), c, d, e, f, g, j, k, .v z, y] st').bind _) = _
      generalize rowX (tab G fs (n + 22)) = w at g1
      simp only [MI.run, MI.strD, MI.lstOf, MI.known, MI.sPar, MI.sTry, MI.sRaise0, MI.sRaise1, MI.sParOwn, MI.sForR, MI.sStar, MI.starD, MI.eTupRg, MI.eLm, MI.eIsX, MI.eFld, MI.eDic0, MI.eLam, MI.xCat, MI.freed, MI.sNil, MI.sCons, MI.sIf, MI.sSet, MI.sSetL, MI.sRet, MI.sRetN, MI.sRetV, MI.sSub, MI.sAug, MI.sApp, MI.sOwn, MI.sSetT, MI.sFor, MI.sWhile, MI.eVar, MI.eBor, MI.eK, MI.eBin, MI.eNeg, MI.eNot, MI.eAnd, MI.eOr, MI.eT, MI.eIf, MI.eIx, MI.eSl, MI.eCall, MI.eInst, MI.eBlt1, MI.eBlt, MI.eMeth, MI.eTup, MI.eLst, MI.eOfA, MI.aNil, MI.aCons, MI.tCmp, MI.tChain, MI.tNot, MI.tAnd, MI.tOr, MI.tOf, MI.tYes, MI.pNo, MI.pYes, MI.boolOf, MI.blOf, MI.truth, MI.partD, MI.gOne, bind_ok, of_some, toS_ok, then_next, then_ret, then_brk, map_some, List.getElem?_cons_zero, List.getElem?_cons_succ, List.set_cons_zero, List.set_cons_succ, if_true, if_false, Bool.false_eq_true, reduceIte, wip10, g1])
  rw [range_len] at c2 c4
  obtain ⟨rs, rfl, hrs⟩ := brd_of c3
  refine ⟨rs, st2, c1, by unfold brd at c2; rw [List.length_map] at c2; omega, hrs, c4.mono (by omega)⟩
theorem bo_of {rs : List (List D)} (h1 : rs.length ≤ 6) (h2 : ∀ r ∈ rs, r.length ≤ 4 ∧ ∀ d ∈ r, Bd 2 800 d) : Bo rs ∧ Rw 3210 (rowT rs) := by
  have key : ∀ r ∈ rs, Bd 3 3210 (.tup r) := fun r hr => one_bd (n := 4) (h2 r hr).1 (h2 r hr).2 (by decide)
  refine ⟨⟨fun r hr => (key r hr).th.mono (by decide), fun r hr => Nat.le_trans (key r hr).len (by decide), by omega⟩, ⟨fun l hl => ?_, fun l hl c hc => ?_⟩⟩
  · obtain ⟨r, hr, rfl⟩ := List.mem_map.mp hl
    exact (key r hr).len
  · obtain ⟨r, hr, rfl⟩ := List.mem_map.mp hl
    exact (txt_signs 3 (.tup r) (key r hr).th c hc).2
theorem rowT_len (rs : List (List D)) : (rowT rs).length = rs.length := List.length_map ..
/-- the rows' texts -/
theorem rows_x (n : Nat) {rs : List (List D)} (hB : Bo rs) (st : Store) (a b c d e f g j k l y : Sl) : xComp [10] (xOwn 3 (xSeq (eVar 3))) (gOne 10) MI.tYes (eCall (tab G fs (n + 22)) (Str.ofString "_law_text") (aCons (eVar 10) aNil)) [a, b, c, .v (.lst (brd rs)), d, e, f, g, j, k, l, y] st = .ok (lsD (rowT rs)) st := by
  have hc := comp_map (own := [10]) (src := xOwn 3 (xSeq (eVar 3))) (bind := gOne 10) (t := MI.tYes) (elt := eCall (tab G fs (n + 22)) (Str.ofString "_law_text") (aCons (eVar 10) aNil)) (env := [a, b, c, .v (.lst (brd rs)), d, e, f, g, j, k, l, y]) (st := st) (st1 := st) (g := fun d => .str (S (txt d))) (ds := brd rs) rfl (Nat.le_trans (show (brd rs).length ≤ 100 by unfold brd; rw [List.length_map]; exact Nat.le_trans hB.few (by decide)) (by decide)) fun z hz => by
    obtain ⟨r, hr, rfl⟩ := brd_mem hz
    have ht := ltext_ok 8 (n + 13) (.tup r) st (hB.th r hr) (Nat.le_trans (hB.len r hr) (by decide))
    have ht : tab G fs (n + 22) (Str.ofString "_law_text") [.tup r] st = .ok (.str (S (txt (.tup r)))) st := ht
    generalize tab G fs (n + 22) = T at ht
    show ((MI.tYes [a, b, c, .v (.lst (brd rs)), d, e, f, g, j, k, .v (.tup r), y] st).bind _) = _
    simp only [MI.run, MI.strD, MI.lstOf, MI.known, MI.sPar, MI.sTry, MI.sRaise0, MI.sRaise1, MI.sParOwn, MI.sForR, MI.sStar, MI.starD, MI.eTupRg, MI.eLm, MI.eIsX, MI.eFld, MI.eDic0, MI.eLam, MI.xCat, MI.freed, MI.sNil, MI.sCons, MI.sIf, MI.sSet, MI.sSetL, MI.sRet, MI.sRetN, MI.sRetV, MI.sSub, MI.sAug, MI.sApp, MI.sOwn, MI.sSetT, MI.sFor, MI.sWhile, MI.eVar, MI.eBor, MI.eK, MI.eBin, MI.eNeg, MI.eNot, MI.eAnd, MI.eOr, MI.eT, MI.eIf, MI.eIx, MI.eSl, MI.eCall, MI.eInst, MI.eBlt1, MI.eBlt, MI.eMeth, MI.eTup, MI.eLst, MI.eOfA, MI.aNil, MI.aCons, MI.tCmp, MI.tChain, MI.tNot, MI.tAnd, MI.tOr, MI.tOf, MI.tYes, MI.pNo, MI.pYes, MI.boolOf, MI.blOf, MI.truth, MI.partD, MI.gOne, bind_ok, of_some, toS_ok, then_next, then_ret, then_brk, map_some, List.getElem?_cons_zero, List.getElem?_cons_succ, List.set_cons_zero, List.set_cons_succ, if_true, if_false, Bool.false_eq_true, reduceIte, wip10, ht]
  have e1 : ((brd rs).map fun d => D.str (S (txt d))) = lsD (rowT rs) := by
    unfold brd rowT lsD
    rw [List.map_map, List.map_map]
    rfl
  rw [e1] at hc
  exact hc
theorem nl_elt {ls : List (List Nat)} {b : Nat} (hb : b ≤ 2000000) (h : ∀ l ∈ ls, l.length ≤ b) : ∀ d ∈ lsD ls, ∃ l ∈ ls, d = .str (S l) ∧ opD .Add (.str (S l)) (.str (S [10])) = some (nlD l) := fun d hd => by
  obtain ⟨l, hl, rfl⟩ := List.mem_map.mp hd
  exact ⟨l, hl, rfl, op_cat (Nat.le_trans (Nat.add_le_add_right (Nat.le_trans (h l hl) hb) 1) (by decide))⟩
def nlE : D → D
  | .str z => .str (S (z.cps.toList ++ [10]))
  | d => d
theorem lsD_nl (ls : List (List Nat)) : (lsD ls).map nlE = ls.map nlD := by
  unfold lsD
  rw [List.map_map]
  rfl
/-- the text of rows in slot 4 -/
theorem whole_4 {ls : List (List Nat)} {b : Nat} (hb : b ≤ 200000) (h : ∀ l ∈ ls, l.length ≤ b) (hn : ls.length ≤ 20) (st : Store) (a a1 c d e f g j k l y : Sl) : (eMeth (Str.ofString "join") (eK (.str (Str.ofString ""))) (eOfA (xComp [10] (xOwn 4 (xSeq (eVar 4))) (gOne 10) MI.tYes (eBin .Add (eVar 10) (eK (.str (Str.ofString "\n"))))))) [a, a1, c, d, .v (.lst (lsD ls)), e, f, g, j, k, l, y] st = .ok (.str (S (bT ls))) st := by
  have hc := comp_map (own := [10]) (src := xOwn 4 (xSeq (eVar 4))) (bind := gOne 10) (t := MI.tYes) (elt := eBin .Add (eVar 10) (eK (.str (Str.ofString "\n")))) (env := [a, a1, c, d, .v (.lst (lsD ls)), e, f, g, j, k, l, y]) (st := st) (st1 := st) (g := nlE) (ds := lsD ls) rfl (Nat.le_trans (show (lsD ls).length ≤ 20 by rw [lsD_len]; exact hn) (by decide)) fun z hz => by
    obtain ⟨q, hq, rfl, hop⟩ := nl_elt (by omega) h z hz
    show ((MI.tYes [a, a1, c, d, .v (.lst (lsD ls)), e, f, g, j, k, .v (.str (S q)), y] st).bind _) = _
    simp only [MI.run, MI.strD, MI.lstOf, MI.known, MI.sPar, MI.sTry, MI.sRaise0, MI.sRaise1, MI.sParOwn, MI.sForR, MI.sStar, MI.starD, MI.eTupRg, MI.eLm, MI.eIsX, MI.eFld, MI.eDic0, MI.eLam, MI.xCat, MI.freed, MI.sNil, MI.sCons, MI.sIf, MI.sSet, MI.sSetL, MI.sRet, MI.sRetN, MI.sRetV, MI.sSub, MI.sAug, MI.sApp, MI.sOwn, MI.sSetT, MI.sFor, MI.sWhile, MI.eVar, MI.eBor, MI.eK, MI.eBin, MI.eNeg, MI.eNot, MI.eAnd, MI.eOr, MI.eT, MI.eIf, MI.eIx, MI.eSl, MI.eCall, MI.eInst, MI.eBlt1, MI.eBlt, MI.eMeth, MI.eTup, MI.eLst, MI.eOfA, MI.aNil, MI.aCons, MI.tCmp, MI.tChain, MI.tNot, MI.tAnd, MI.tOr, MI.tOf, MI.tYes, MI.pNo, MI.pYes, MI.boolOf, MI.blOf, MI.truth, MI.partD, MI.gOne, bind_ok, of_some, toS_ok, then_next, then_ret, then_brk, map_some, List.getElem?_cons_zero, List.getElem?_cons_succ, List.set_cons_zero, List.set_cons_succ, if_true, if_false, Bool.false_eq_true, reduceIte, wip10, l_nl, hop]
    rfl
  rw [lsD_nl] at hc
  have hl := bT_len h
  have h2 := Nat.mul_le_mul hn (Nat.add_le_add_right hb 1)
  simp only [MI.run, MI.strD, MI.lstOf, MI.known, MI.sPar, MI.sTry, MI.sRaise0, MI.sRaise1, MI.sParOwn, MI.sForR, MI.sStar, MI.starD, MI.eTupRg, MI.eLm, MI.eIsX, MI.eFld, MI.eDic0, MI.eLam, MI.xCat, MI.freed, MI.sNil, MI.sCons, MI.sIf, MI.sSet, MI.sSetL, MI.sRet, MI.sRetN, MI.sRetV, MI.sSub, MI.sAug, MI.sApp, MI.sOwn, MI.sSetT, MI.sFor, MI.sWhile, MI.eVar, MI.eBor, MI.eK, MI.eBin, MI.eNeg, MI.eNot, MI.eAnd, MI.eOr, MI.eT, MI.eIf, MI.eIx, MI.eSl, MI.eCall, MI.eInst, MI.eBlt1, MI.eBlt, MI.eMeth, MI.eTup, MI.eLst, MI.eOfA, MI.aNil, MI.aCons, MI.tCmp, MI.tChain, MI.tNot, MI.tAnd, MI.tOr, MI.tOf, MI.tYes, MI.pNo, MI.pYes, MI.boolOf, MI.blOf, MI.truth, MI.partD, MI.gOne, bind_ok, of_some, toS_ok, then_next, then_ret, then_brk, map_some, List.getElem?_cons_zero, List.getElem?_cons_succ, List.set_cons_zero, List.set_cons_succ, if_true, if_false, Bool.false_eq_true, reduceIte, hc, meth_join, l_empty, join_nl (ls := ls) (by omega)]
/-- .. in slot 8 -/
theorem whole_8 {ls : List (List Nat)} {b : Nat} (hb : b ≤ 200000) (h : ∀ l ∈ ls, l.length ≤ b) (hn : ls.length ≤ 20) (st : Store) (a a1 c d e f g j k l y : Sl) : (eMeth (Str.ofString "join") (eK (.str (Str.ofString ""))) (eOfA (xComp [10] (xOwn 8 (xSeq (eVar 8))) (gOne 10) MI.tYes (eBin .Add (eVar 10) (eK (.str (Str.ofString "\n"))))))) [a, a1, c, d, e, f, g, j, .v (.lst (lsD ls)), k, l, y] st = .ok (.str (S (bT ls))) st := by
  have hc := comp_map (own := [10]) (src := xOwn 8 (xSeq (eVar 8))) (bind := gOne 10) (t := MI.tYes) (elt := eBin .Add (eVar 10) (eK (.str (Str.ofString "\n")))) (env := [a, a1, c, d, e, f, g, j, .v (.lst (lsD ls)), k, l, y]) (st := st) (st1 := st) (g := nlE) (ds := lsD ls) rfl (Nat.le_trans (show (lsD ls).length ≤ 20 by rw [lsD_len]; exact hn) (by decide)) fun z hz => by
    obtain ⟨q, hq, rfl, hop⟩ := nl_elt (by omega) h z hz
    show ((MI.tYes [a, a1, c, d, e, f, g, j, .v (.lst (lsD ls)), k, .v (.str (S q)), y] st).bind _) = _
    simp only [MI.run, MI.strD, MI.lstOf, MI.known, MI.sPar, MI.sTry, MI.sRaise0, MI.sRaise1, MI.sParOwn, MI.sForR, MI.sStar, MI.starD, MI.eTupRg, MI.eLm, MI.eIsX, MI.eFld, MI.eDic0, MI.eLam, MI.xCat, MI.freed, MI.sNil, MI.sCons, MI.sIf, MI.sSet, MI.sSetL, MI.sRet, MI.sRetN, MI.sRetV, MI.sSub, MI.sAug, MI.sApp, MI.sOwn, MI.sSetT, MI.sFor, MI.sWhile, MI.eVar, MI.eBor, MI.eK, MI.eBin, MI.eNeg, MI.eNot, MI.eAnd, MI.eOr, MI.eT, MI.eIf, MI.eIx, MI.eSl, MI.eCall, MI.eInst, MI.eBlt1, MI.eBlt, MI.eMeth, MI.eTup, MI.eLst, MI.eOfA, MI.aNil, MI.aCons, MI.tCmp, MI.tChain, MI.tNot, MI.tAnd, MI.tOr, MI.tOf, MI.tYes, MI.pNo, MI.pYes, MI.boolOf, MI.blOf, MI.truth, MI.partD, MI.gOne, bind_ok, of_some, toS_ok, then_next, then_ret, then_brk, map_some, List.getElem?_cons_zero, List.getElem?_cons_succ, List.set_cons_zero, List.set_cons_succ, if_true, if_false, Bool.false_eq_true, reduceIte, wip10, l_nl, hop]
    rfl
  rw [lsD_nl] at hc
  have hl := bT_len h
  have h2 := Nat.mul_le_mul hn (Nat.add_le_add_right hb 1)
  simp only [MI.run, MI.strD, MI.lstOf, MI.known, MI.sPar, MI.sTry, MI.sRaise0, MI.sRaise1, MI.sParOwn, MI.sForR, MI.sStar, MI.starD, MI.eTupRg, MI.eLm, MI.eIsX, MI.eFld, MI.eDic0, MI.eLam, MI.xCat, MI.freed, MI.sNil, MI.sCons, MI.sIf, MI.sSet, MI.sSetL, MI.sRet, MI.sRetN, MI.sRetV, MI.sSub, MI.sAug, MI.sApp, MI.sOwn, MI.sSetT, MI.sFor, MI.sWhile, MI.eVar, MI.eBor, MI.eK, MI.eBin, MI.eNeg, MI.eNot, MI.eAnd, MI.eOr, MI.eT, MI.eIf, MI.eIx, MI.eSl, MI.eCall, MI.eInst, MI.eBlt1, MI.eBlt, MI.eMeth, MI.eTup, MI.eLst, MI.eOfA, MI.aNil, MI.aCons, MI.tCmp, MI.tChain, MI.tNot, MI.tAnd, MI.tOr, MI.tOf, MI.tYes, MI.pNo, MI.pYes, MI.boolOf, MI.blOf, MI.truth, MI.partD, MI.gOne, bind_ok, of_some, toS_ok, then_next, then_ret, then_brk, map_some, List.getElem?_cons_zero, List.getElem?_cons_succ, List.set_cons_zero, List.set_cons_succ, if_true, if_false, Bool.false_eq_true, reduceIte, hc, meth_join, l_empty, join_nl (ls := ls) (by omega)]
end K77

set_option maxRecDepth 100000
set_option maxHeartbeats 4000000
namespace K77
open PySem MI SX
theorem op_catS {a b : List D} (h : a.length + b.length ≤ big) : opD .Add (.scr a) (.lst b) = some (.lst (a ++ b)) := if_pos h
theorem last_of {T : Tab} {g : EX} {env : MI.Env} {st : Store} (h1 : eLam T (Str.ofString "_law_safe_told") g env st = .ok (noText 0) st) (h2 : T (Str.ofString "_law_like") [(noText 0), (noText 0)] st = .ok (.bl true) st) :
    (eCall T (Str.ofString "_law_like") (aCons (eLam T (Str.ofString "_law_safe_told") g) (aCons (eLst (aCons (eK (.str (Str.ofString "NoText"))) (aCons (eK (.int 0)) aNil))) aNil))) env st = .ok (.bl true) st := by
  have e1 : (eLst (aCons (eK (.str (Str.ofString "NoText"))) (aCons (eK (.int 0)) aNil))) env st = .ok (noText 0) st := rfl
  generalize eLam T (Str.ofString "_law_safe_told") g = y at h1
  generalize (eLst (aCons (eK (.str (Str.ofString "NoText"))) (aCons (eK (.int 0)) aNil))) = w at e1
  generalize (noText 0) = nt at *
  simp only [MI.run, MI.strD, MI.lstOf, MI.known, MI.sPar, MI.sTry, MI.sRaise0, MI.sRaise1, MI.sParOwn, MI.sForR, MI.sStar, MI.starD, MI.eTupRg, MI.eLm, MI.eIsX, MI.eFld, MI.eDic0, MI.eLam, MI.xCat, MI.freed, MI.sNil, MI.sCons, MI.sIf, MI.sSet, MI.sSetL, MI.sRet, MI.sRetN, MI.sRetV, MI.sSub, MI.sAug, MI.sApp, MI.sOwn, MI.sSetT, MI.sFor, MI.sWhile, MI.eVar, MI.eBor, MI.eK, MI.eBin, MI.eNeg, MI.eNot, MI.eAnd, MI.eOr, MI.eT, MI.eIf, MI.eIx, MI.eSl, MI.eCall, MI.eInst, MI.eBlt1, MI.eBlt, MI.eMeth, MI.eTup, MI.eLst, MI.eOfA, MI.aNil, MI.aCons, MI.tCmp, MI.tChain, MI.tNot, MI.tAnd, MI.tOr, MI.tOf, MI.tYes, MI.pNo, MI.pYes, MI.boolOf, MI.blOf, MI.truth, MI.partD, MI.gOne, bind_ok, of_some, toS_ok, then_next, then_ret, then_brk, map_some, List.getElem?_cons_zero, List.getElem?_cons_succ, List.set_cons_zero, List.set_cons_succ, if_true, if_false, Bool.false_eq_true, reduceIte, h1, e1, h2]
abbrev tuX (T : Tab) (g : EX) : SX := (sCons (sSet 8 (eCall T (Str.ofString "_law_changed_rows") (aCons (eVar 2) (aCons (eVar 4) aNil))))
    (sCons (sSet 8 (MI.eIf (MI.tCmp .Eq (eCall T (Str.ofString "_law_next") (aCons (eVar 2) (aCons (eK (.int 3)) aNil))) (eK (.int 0))) (eCall T (Str.ofString "_law_changed_rows") (aCons (eVar 2) (aCons (eVar 8) aNil))) (eVar 8)))
    (sCons (sSet 9 (eMeth (Str.ofString "join") (eK (.str (Str.ofString ""))) (eOfA (xComp [10] (xOwn 8 (xSeq (eVar 8))) (gOne 10) MI.tYes (eBin .Add (eVar 10) (eK (.str (Str.ofString "\n"))))))))
    (sCons (sSet 9 (MI.eIf (MI.tCmp .Eq (eCall T (Str.ofString "_law_next") (aCons (eVar 2) (aCons (eK (.int 6)) aNil))) (eK (.int 0))) (eSl (eBor 9) pNo (pYes (eNeg (eK (.int 1))))) (eVar 9)))
    (sCons (sIf (MI.tNot (MI.tOf (eCall T (Str.ofString "_law_like") (aCons (eLam T (Str.ofString "_law_safe_told") g) (aCons (eCall T (Str.ofString "_law_due") (aCons (eVar 9) aNil)) aNil)))))
     (sCons (sRet (eK (.bl false)))
      sNil)
     sNil)
    sNil)))))
theorem cutS_m1 (t : List Nat) : L2.cutS (S t) none (some (-1)) = S t.dropLast := by
  refine TL.ext_tl ?_
  show (t.drop 0).take (((-1 : Int) + ((S t).length : Nat)).toNat - 0) = t.dropLast
  rw [List.drop_zero, Nat.sub_zero, List.dropLast_eq_take, S_len]
  congr 1
  omega
theorem slS_m1 {t : List Nat} (h : t.length ≤ big) : slD (.str (S t)) none (some (-1)) = some (.str (S t.dropLast)) := by
  show (if (S t).length ≤ big then some (D.str (L2.cutS (S t) none (some (-1)))) else none) = _
  rw [S_len, if_pos h, cutS_m1]
theorem check_ok {T : Tab} {g : EX} {d : D} {z : Str} {st : Store} {a b c e f h i j k l m : Sl} (h1 : eLam T (Str.ofString "_law_safe_told") g [a, b, c, e, f, h, i, j, k, .v (.str z), l, m] st = .ok d st) (h2 : T (Str.ofString "_law_due") [.str z] st = .ok d st) (h3 : T (Str.ofString "_law_like") [d, d] st = .ok (.bl true) st) :
    (sCons (sIf (MI.tNot (MI.tOf (eCall T (Str.ofString "_law_like") (aCons (eLam T (Str.ofString "_law_safe_told") g) (aCons (eCall T (Str.ofString "_law_due") (aCons (eVar 9) aNil)) aNil)))))
     (sCons (sRet (eK (.bl false)))
      sNil)
     sNil)
    sNil) [a, b, c, e, f, h, i, j, k, .v (.str z), l, m] st = .next [a, b, c, e, f, h, i, j, k, .v (.str z), l, m] st := by
  generalize eLam T (Str.ofString "_law_safe_told") g = y at h1
  simp only [MI.run, MI.strD, MI.lstOf, MI.known, MI.sPar, MI.sTry, MI.sRaise0, MI.sRaise1, MI.sParOwn, MI.sForR, MI.sStar, MI.starD, MI.eTupRg, MI.eLm, MI.eIsX, MI.eFld, MI.eDic0, MI.eLam, MI.xCat, MI.freed, MI.sNil, MI.sCons, MI.sIf, MI.sSet, MI.sSetL, MI.sRet, MI.sRetN, MI.sRetV, MI.sSub, MI.sAug, MI.sApp, MI.sOwn, MI.sSetT, MI.sFor, MI.sWhile, MI.eVar, MI.eBor, MI.eK, MI.eBin, MI.eNeg, MI.eNot, MI.eAnd, MI.eOr, MI.eT, MI.eIf, MI.eIx, MI.eSl, MI.eCall, MI.eInst, MI.eBlt1, MI.eBlt, MI.eMeth, MI.eTup, MI.eLst, MI.eOfA, MI.aNil, MI.aCons, MI.tCmp, MI.tChain, MI.tNot, MI.tAnd, MI.tOr, MI.tOf, MI.tYes, MI.pNo, MI.pYes, MI.boolOf, MI.blOf, MI.truth, MI.partD, MI.gOne, bind_ok, of_some, toS_ok, then_next, then_ret, then_brk, map_some, List.getElem?_cons_zero, List.getElem?_cons_succ, List.set_cons_zero, List.set_cons_succ, if_true, if_false, Bool.false_eq_true, reduceIte, h1, h2, h3, Bool.not_true]
theorem turn_ok (n : Nat) {st : Store} {i : Nat} {m : Int} (h : Drw st i m) (hm : m + 100 < 1000000) {ls : List (List Nat)} (hr : Rw 3210 ls) (hn : ls.length ≤ 6) (a b d w x6 x7 x8 x9 x10 x11 : Sl) :
    ∃ y z st2, tuX (tab G fs (n + 22)) (eCall (tab G fs (n + 20)) (Str.ofString "read_board") (aCons (eVar 9) aNil)) [a, b, .v (.ref i), d, .v (.lst (lsD ls)), w, x6, x7, x8, x9, x10, x11] st = .next [a, b, .v (.ref i), d, .v (.lst (lsD ls)), w, x6, x7, y, z, x10, x11] st2 ∧ Drw st2 i (m + 100) := by
  obtain ⟨us, st1, u1, u2, u3, u4⟩ := chrows_ok (n + 17) h (by omega) (b := 3210) (by omega) (by omega) hr (by omega)
  obtain ⟨r, st2, r1, r2, r3, r4⟩ := next_ok (n + 21) u4 (by omega) (z := 3) (by decide) (by decide)
  obtain ⟨vs, st3, v1, v2, v3, v4⟩ : ∃ vs st3, (MI.eIf (MI.tCmp .Eq (eCall (tab G fs (n + 22)) (Str.ofString "_law_next") (aCons (eVar 2) (aCons (eK (.int 3)) aNil))) (eK (.int 0))) (eCall (tab G fs (n + 22)) (Str.ofString "_law_changed_rows") (aCons (eVar 2) (aCons (eVar 8) aNil))) (eVar 8)) [a, b, .v (.ref i), d, .v (.lst (lsD ls)), w, x6, x7, .v (.lst (lsD us)), x9, x10, x11] st1 = .ok (.lst (lsD vs)) st3 ∧ Rw 3212 vs ∧ vs.length ≤ 8 ∧ Drw st3 i (m + 80) := by
    by_cases hz : r = 0
    · subst hz
      obtain ⟨vs, st3, v1, v2, v3, v4⟩ := chrows_ok (n + 17) r4 (by omega) (b := 3211) (by omega) (by omega) u2 (by omega)
      refine ⟨vs, st3, ?_, v2, by omega, v4.mono (by omega)⟩
      simp only [MI.run, MI.strD, MI.lstOf, MI.known, MI.sPar, MI.sTry, MI.sRaise0, MI.sRaise1, MI.sParOwn, MI.sForR, MI.sStar, MI.starD, MI.eTupRg, MI.eLm, MI.eIsX, MI.eFld, MI.eDic0, MI.eLam, MI.xCat, MI.freed, MI.sNil, MI.sCons, MI.sIf, MI.sSet, MI.sSetL, MI.sRet, MI.sRetN, MI.sRetV, MI.sSub, MI.sAug, MI.sApp, MI.sOwn, MI.sSetT, MI.sFor, MI.sWhile, MI.eVar, MI.eBor, MI.eK, MI.eBin, MI.eNeg, MI.eNot, MI.eAnd, MI.eOr, MI.eT, MI.eIf, MI.eIx, MI.eSl, MI.eCall, MI.eInst, MI.eBlt1, MI.eBlt, MI.eMeth, MI.eTup, MI.eLst, MI.eOfA, MI.aNil, MI.aCons, MI.tCmp, MI.tChain, MI.tNot, MI.tAnd, MI.tOr, MI.tOf, MI.tYes, MI.pNo, MI.pYes, MI.boolOf, MI.blOf, MI.truth, MI.partD, MI.gOne, bind_ok, of_some, toS_ok, then_next, then_ret, then_brk, map_some, List.getElem?_cons_zero, List.getElem?_cons_succ, List.set_cons_zero, List.set_cons_succ, if_true, if_false, Bool.false_eq_true, reduceIte, r1, cmp_eqI, beq_self_eq_true, v1]
    · refine ⟨us, st2, ?_, u2.mono (by omega), by omega, r4.mono (by omega)⟩
      simp only [MI.run, MI.strD, MI.lstOf, MI.known, MI.sPar, MI.sTry, MI.sRaise0, MI.sRaise1, MI.sParOwn, MI.sForR, MI.sStar, MI.starD, MI.eTupRg, MI.eLm, MI.eIsX, MI.eFld, MI.eDic0, MI.eLam, MI.xCat, MI.freed, MI.sNil, MI.sCons, MI.sIf, MI.sSet, MI.sSetL, MI.sRet, MI.sRetN, MI.sRetV, MI.sSub, MI.sAug, MI.sApp, MI.sOwn, MI.sSetT, MI.sFor, MI.sWhile, MI.eVar, MI.eBor, MI.eK, MI.eBin, MI.eNeg, MI.eNot, MI.eAnd, MI.eOr, MI.eT, MI.eIf, MI.eIx, MI.eSl, MI.eCall, MI.eInst, MI.eBlt1, MI.eBlt, MI.eMeth, MI.eTup, MI.eLst, MI.eOfA, MI.aNil, MI.aCons, MI.tCmp, MI.tChain, MI.tNot, MI.tAnd, MI.tOr, MI.tOf, MI.tYes, MI.pNo, MI.pYes, MI.boolOf, MI.blOf, MI.truth, MI.partD, MI.gOne, bind_ok, of_some, toS_ok, then_next, then_ret, then_brk, map_some, List.getElem?_cons_zero, List.getElem?_cons_succ, List.set_cons_zero, List.set_cons_succ, if_true, if_false, Bool.false_eq_true, reduceIte, r1, cmp_eqI, beq_eq_false_iff_ne.mpr hz]
  have hj := whole_8 (ls := vs) (b := 3212) (by omega) v2.len (by omega) st3 a b (.v (.ref i)) d (.v (.lst (lsD ls))) w x6 x7 x9 x10 x11
  have hbl := bT_len v2.len
  have hbl2 := Nat.mul_le_mul_right 3213 v3
  obtain ⟨q, st4, q1, q2, q3, q4⟩ := next_ok (n + 21) v4 (by omega) (z := 6) (by decide) (by decide)
  obtain ⟨t, t1, t2⟩ : ∃ t, (MI.eIf (MI.tCmp .Eq (eCall (tab G fs (n + 22)) (Str.ofString "_law_next") (aCons (eVar 2) (aCons (eK (.int 6)) aNil))) (eK (.int 0))) (eSl (eBor 9) pNo (pYes (eNeg (eK (.int 1))))) (eVar 9)) [a, b, .v (.ref i), d, .v (.lst (lsD ls)), w, x6, x7, .v (.lst (lsD vs)), .v (.str (S (bT vs))), x10, x11] st3 = .ok (.str (S t)) st4 ∧ t.length ≤ 2000000 := by
    by_cases hz : q = 0
    · subst hz
      refine ⟨(bT vs).dropLast, ?_, by rw [List.length_dropLast]; omega⟩
      simp only [MI.run, MI.strD, MI.lstOf, MI.known, MI.sPar, MI.sTry, MI.sRaise0, MI.sRaise1, MI.sParOwn, MI.sForR, MI.sStar, MI.starD, MI.eTupRg, MI.eLm, MI.eIsX, MI.eFld, MI.eDic0, MI.eLam, MI.xCat, MI.freed, MI.sNil, MI.sCons, MI.sIf, MI.sSet, MI.sSetL, MI.sRet, MI.sRetN, MI.sRetV, MI.sSub, MI.sAug, MI.sApp, MI.sOwn, MI.sSetT, MI.sFor, MI.sWhile, MI.eVar, MI.eBor, MI.eK, MI.eBin, MI.eNeg, MI.eNot, MI.eAnd, MI.eOr, MI.eT, MI.eIf, MI.eIx, MI.eSl, MI.eCall, MI.eInst, MI.eBlt1, MI.eBlt, MI.eMeth, MI.eTup, MI.eLst, MI.eOfA, MI.aNil, MI.aCons, MI.tCmp, MI.tChain, MI.tNot, MI.tAnd, MI.tOr, MI.tOf, MI.tYes, MI.pNo, MI.pYes, MI.boolOf, MI.blOf, MI.truth, MI.partD, MI.gOne, bind_ok, of_some, toS_ok, then_next, then_ret, then_brk, map_some, List.getElem?_cons_zero, List.getElem?_cons_succ, List.set_cons_zero, List.set_cons_succ, if_true, if_false, Bool.false_eq_true, reduceIte, q1, cmp_eqI, beq_self_eq_true, neg1, slS_m1 (t := bT vs) (Nat.le_trans (show (bT vs).length ≤ 25704 by omega) (by decide))]
    · refine ⟨bT vs, ?_, by omega⟩
      simp only [MI.run, MI.strD, MI.lstOf, MI.known, MI.sPar, MI.sTry, MI.sRaise0, MI.sRaise1, MI.sParOwn, MI.sForR, MI.sStar, MI.starD, MI.eTupRg, MI.eLm, MI.eIsX, MI.eFld, MI.eDic0, MI.eLam, MI.xCat, MI.freed, MI.sNil, MI.sCons, MI.sIf, MI.sSet, MI.sSetL, MI.sRet, MI.sRetN, MI.sRetV, MI.sSub, MI.sAug, MI.sApp, MI.sOwn, MI.sSetT, MI.sFor, MI.sWhile, MI.eVar, MI.eBor, MI.eK, MI.eBin, MI.eNeg, MI.eNot, MI.eAnd, MI.eOr, MI.eT, MI.eIf, MI.eIx, MI.eSl, MI.eCall, MI.eInst, MI.eBlt1, MI.eBlt, MI.eMeth, MI.eTup, MI.eLst, MI.eOfA, MI.aNil, MI.aCons, MI.tCmp, MI.tChain, MI.tNot, MI.tAnd, MI.tOr, MI.tOf, MI.tYes, MI.pNo, MI.pYes, MI.boolOf, MI.blOf, MI.truth, MI.partD, MI.gOne, bind_ok, of_some, toS_ok, then_next, then_ret, then_brk, map_some, List.getElem?_cons_zero, List.getElem?_cons_succ, List.set_cons_zero, List.set_cons_succ, if_true, if_false, Bool.false_eq_true, reduceIte, q1, cmp_eqI, beq_eq_false_iff_ne.mpr hz]
  refine ⟨.v (.lst (lsD vs)), .v (.str (S t)), st4, ?_, q4.mono (by omega)⟩
  have s1 : (eCall (tab G fs (n + 22)) (Str.ofString "_law_changed_rows") (aCons (eVar 2) (aCons (eVar 4) aNil))) [a, b, .v (.ref i), d, .v (.lst (lsD ls)), w, x6, x7, x8, x9, x10, x11] st = .ok (.lst (lsD us)) st1 := by
    simp only [MI.run, MI.strD, MI.lstOf, MI.known, MI.sPar, MI.sTry, MI.sRaise0, MI.sRaise1, MI.sParOwn, MI.sForR, MI.sStar, MI.starD, MI.eTupRg, MI.eLm, MI.eIsX, MI.eFld, MI.eDic0, MI.eLam, MI.xCat, MI.freed, MI.sNil, MI.sCons, MI.sIf, MI.sSet, MI.sSetL, MI.sRet, MI.sRetN, MI.sRetV, MI.sSub, MI.sAug, MI.sApp, MI.sOwn, MI.sSetT, MI.sFor, MI.sWhile, MI.eVar, MI.eBor, MI.eK, MI.eBin, MI.eNeg, MI.eNot, MI.eAnd, MI.eOr, MI.eT, MI.eIf, MI.eIx, MI.eSl, MI.eCall, MI.eInst, MI.eBlt1, MI.eBlt, MI.eMeth, MI.eTup, MI.eLst, MI.eOfA, MI.aNil, MI.aCons, MI.tCmp, MI.tChain, MI.tNot, MI.tAnd, MI.tOr, MI.tOf, MI.tYes, MI.pNo, MI.pYes, MI.boolOf, MI.blOf, MI.truth, MI.partD, MI.gOne, bind_ok, of_some, toS_ok, then_next, then_ret, then_brk, map_some, List.getElem?_cons_zero, List.getElem?_cons_succ, List.set_cons_zero, List.set_cons_succ, if_true, if_false, Bool.false_eq_true, reduceIte, u1]
  refine (seq_set s1).trans ((seq_set v1).trans ((seq_set hj).trans ((seq_set t1).trans ?_)))
  refine check_ok (d := dueD t) (told_due n t2 st4 ?_) (due_ok (n + 2) (by omega) st4) (like_due (n + 10) t2 st4)
  generalize tab G fs (n + 20) = T
  simp only [MI.run, MI.strD, MI.lstOf, MI.known, MI.sPar, MI.sTry, MI.sRaise0, MI.sRaise1, MI.sParOwn, MI.sForR, MI.sStar, MI.starD, MI.eTupRg, MI.eLm, MI.eIsX, MI.eFld, MI.eDic0, MI.eLam, MI.xCat, MI.freed, MI.sNil, MI.sCons, MI.sIf, MI.sSet, MI.sSetL, MI.sRet, MI.sRetN, MI.sRetV, MI.sSub, MI.sAug, MI.sApp, MI.sOwn, MI.sSetT, MI.sFor, MI.sWhile, MI.eVar, MI.eBor, MI.eK, MI.eBin, MI.eNeg, MI.eNot, MI.eAnd, MI.eOr, MI.eT, MI.eIf, MI.eIx, MI.eSl, MI.eCall, MI.eInst, MI.eBlt1, MI.eBlt, MI.eMeth, MI.eTup, MI.eLst, MI.eOfA, MI.aNil, MI.aCons, MI.tCmp, MI.tChain, MI.tNot, MI.tAnd, MI.tOr, MI.tOf, MI.tYes, MI.pNo, MI.pYes, MI.boolOf, MI.blOf, MI.truth, MI.partD, MI.gOne, bind_ok, of_some, toS_ok, then_next, then_ret, then_brk, map_some, List.getElem?_cons_zero, List.getElem?_cons_succ, List.set_cons_zero, List.set_cons_succ, if_true, if_false, Bool.false_eq_true, reduceIte]
def oddL (t : List Nat) : List D := [.non, .int 5, .lst [], .tup [], .bl true, .lst [.str (S t)]]
theorem odd_no (t : List Nat) (st : Store) : ∀ d ∈ oddL t, isTy d st ["str"] = some false := by
  intro d hd
  unfold oddL at hd
  simp only [List.mem_cons, List.not_mem_nil, or_false] at hd
  rcases hd with rfl | rfl | rfl | rfl | rfl | rfl <;> rfl
theorem odd_of (T : Tab) {i : Nat} {t : List Nat} {d : D} {st st1 : Store} {e f g h k l m o p q : Sl} (h1 : T (Str.ofString "_law_pick") [.ref i, .lst (oddL t)] st = .ok d st1) :
    (eCall T (Str.ofString "_law_pick") (aCons (eVar 2) (aCons (eLst (aCons (eK .non) (aCons (eK (.int 5)) (aCons (eLst aNil) (aCons (eTup aNil) (aCons (eK (.bl true)) (aCons (eLst (aCons (eVar 5) aNil)) aNil))))))) aNil))) [e, f, .v (.ref i), g, h, .v (.str (S t)), k, l, m, o, p, q] st = .ok d st1 := by
  unfold oddL at h1
  simp only [MI.run, MI.strD, MI.lstOf, MI.known, MI.sPar, MI.sTry, MI.sRaise0, MI.sRaise1, MI.sParOwn, MI.sForR, MI.sStar, MI.starD, MI.eTupRg, MI.eLm, MI.eIsX, MI.eFld, MI.eDic0, MI.eLam, MI.xCat, MI.freed, MI.sNil, MI.sCons, MI.sIf, MI.sSet, MI.sSetL, MI.sRet, MI.sRetN, MI.sRetV, MI.sSub, MI.sAug, MI.sApp, MI.sOwn, MI.sSetT, MI.sFor, MI.sWhile, MI.eVar, MI.eBor, MI.eK, MI.eBin, MI.eNeg, MI.eNot, MI.eAnd, MI.eOr, MI.eT, MI.eIf, MI.eIx, MI.eSl, MI.eCall, MI.eInst, MI.eBlt1, MI.eBlt, MI.eMeth, MI.eTup, MI.eLst, MI.eOfA, MI.aNil, MI.aCons, MI.tCmp, MI.tChain, MI.tNot, MI.tAnd, MI.tOr, MI.tOf, MI.tYes, MI.pNo, MI.pYes, MI.boolOf, MI.blOf, MI.truth, MI.partD, MI.gOne, bind_ok, of_some, toS_ok, then_next, then_ret, then_brk, map_some, List.getElem?_cons_zero, List.getElem?_cons_succ, List.set_cons_zero, List.set_cons_succ, if_true, if_false, Bool.false_eq_true, reduceIte, h1]
theorem two_like (n : Nat) (z : Str) (st : Store) : tab G fs (n + 2) (Str.ofString "_law_like") [.lst [.str z, .str z], .lst [.str z, .str z]] st = .ok (.bl true) st := by
  refine like_seq (ds := [.str z, .str z]) (show 2 ≤ big by decide) (fun d hd => ?_) (.inr rfl)
  simp only [List.mem_cons, List.not_mem_nil, or_false, or_self] at hd
  rw [hd]
  exact like_str n z st
theorem test1 {T : Tab} {ds : List D} {z : Str} {st : Store} {a b c e f g h i j k : Sl} (h1 : T (Str.ofString "board_text") [.lst ds] st = .ok (.str z) st) (h2 : T (Str.ofString "board_text") [.tup ds] st = .ok (.str z) st) (h3 : T (Str.ofString "_law_like") [.lst [.str z, .str z], .lst [.str z, .str z]] st = .ok (.bl true) st) :
    (MI.tNot (MI.tOf (eCall T (Str.ofString "_law_like") (aCons (eLst (aCons (eCall T (Str.ofString "board_text") (aCons (eVar 3) aNil)) (aCons (eCall T (Str.ofString "board_text") (aCons (eBlt1 (Str.ofString "tuple") (eBor 3)) aNil)) aNil))) (aCons (eLst (aCons (eVar 5) (aCons (eVar 5) aNil))) aNil))))) [a, b, c, .v (.lst ds), e, .v (.str z), f, g, h, i, j, k] st = .ok false st := by
  simp only [MI.run, MI.strD, MI.lstOf, MI.known, MI.sPar, MI.sTry, MI.sRaise0, MI.sRaise1, MI.sParOwn, MI.sForR, MI.sStar, MI.starD, MI.eTupRg, MI.eLm, MI.eIsX, MI.eFld, MI.eDic0, MI.eLam, MI.xCat, MI.freed, MI.sNil, MI.sCons, MI.sIf, MI.sSet, MI.sSetL, MI.sRet, MI.sRetN, MI.sRetV, MI.sSub, MI.sAug, MI.sApp, MI.sOwn, MI.sSetT, MI.sFor, MI.sWhile, MI.eVar, MI.eBor, MI.eK, MI.eBin, MI.eNeg, MI.eNot, MI.eAnd, MI.eOr, MI.eT, MI.eIf, MI.eIx, MI.eSl, MI.eCall, MI.eInst, MI.eBlt1, MI.eBlt, MI.eMeth, MI.eTup, MI.eLst, MI.eOfA, MI.aNil, MI.aCons, MI.tCmp, MI.tChain, MI.tNot, MI.tAnd, MI.tOr, MI.tOf, MI.tYes, MI.pNo, MI.pYes, MI.boolOf, MI.blOf, MI.truth, MI.partD, MI.gOne, bind_ok, of_some, toS_ok, then_next, then_ret, then_brk, map_some, List.getElem?_cons_zero, List.getElem?_cons_succ, List.set_cons_zero, List.set_cons_succ, if_true, if_false, Bool.false_eq_true, reduceIte, h1, tup_of, h2, h3, Bool.not_true]
theorem test2 {T : Tab} {ds : List D} {z : Str} {st : Store} {a b c e f g h i j k : Sl} (h1 : T (Str.ofString "read_board") [.str z] st = .ok (.tup ds) st) (h3 : T (Str.ofString "_law_like") [.tup ds, .tup ds] st = .ok (.bl true) st) :
    (MI.tNot (MI.tOf (eCall T (Str.ofString "_law_like") (aCons (eCall T (Str.ofString "read_board") (aCons (eVar 5) aNil)) (aCons (eBlt1 (Str.ofString "tuple") (eBor 3)) aNil))))) [a, b, c, .v (.lst ds), e, .v (.str z), f, g, h, i, j, k] st = .ok false st := by
  simp only [MI.run, MI.strD, MI.lstOf, MI.known, MI.sPar, MI.sTry, MI.sRaise0, MI.sRaise1, MI.sParOwn, MI.sForR, MI.sStar, MI.starD, MI.eTupRg, MI.eLm, MI.eIsX, MI.eFld, MI.eDic0, MI.eLam, MI.xCat, MI.freed, MI.sNil, MI.sCons, MI.sIf, MI.sSet, MI.sSetL, MI.sRet, MI.sRetN, MI.sRetV, MI.sSub, MI.sAug, MI.sApp, MI.sOwn, MI.sSetT, MI.sFor, MI.sWhile, MI.eVar, MI.eBor, MI.eK, MI.eBin, MI.eNeg, MI.eNot, MI.eAnd, MI.eOr, MI.eT, MI.eIf, MI.eIx, MI.eSl, MI.eCall, MI.eInst, MI.eBlt1, MI.eBlt, MI.eMeth, MI.eTup, MI.eLst, MI.eOfA, MI.aNil, MI.aCons, MI.tCmp, MI.tChain, MI.tNot, MI.tAnd, MI.tOr, MI.tOf, MI.tYes, MI.pNo, MI.pYes, MI.boolOf, MI.blOf, MI.truth, MI.partD, MI.gOne, bind_ok, of_some, toS_ok, then_next, then_ret, then_brk, map_some, List.getElem?_cons_zero, List.getElem?_cons_succ, List.set_cons_zero, List.set_cons_succ, if_true, if_false, Bool.false_eq_true, reduceIte, h1, tup_of, h3, Bool.not_true]
theorem right_ok (n : Nat) (st : Store) (c k : Int) (hk : 0 ≤ k) (hk2 : k ≤ 1000) : ∃ st', tab G fs (n + 23) (Str.ofString "_law_right") [.int c, .int k] st = .ok (.bl true) st' := by
  obtain ⟨s0, g0, d0⟩ := begun_ok (n + 21) st c k hk hk2
  obtain ⟨rs, s1, g1, l1, b1, d1⟩ := board_draw n d0 (by decide) (.v (.int c)) (.v (.int k)) .no .no .no .no .no .no .no .no .no
  obtain ⟨B, R⟩ := bo_of l1 b1
  have g2 := rows_x n B s1 (.v (.int c)) (.v (.int k)) (.v (.ref st.length)) .no .no .no .no .no .no .no .no
  have g3 := whole_4 (ls := rowT rs) (b := 3210) (by decide) R.len (by rw [rowT_len]; omega) s1 (.v (.int c)) (.v (.int k)) (.v (.ref st.length)) (.v (.lst (brd rs))) .no .no .no .no .no .no .no
  have hl0 : (tabL G fs (n + 22)).E f_law_right.N (lamOf f_law_right 0).1 (lamOf f_law_right 0).2 = eCall (tab G fs (n + 20)) (Str.ofString "read_board") (aCons (eVar 9) aNil) := by
    rw [tabL_two]
    exact lam_law_right_0 _
  have hl1 : (tabL G fs (n + 22)).E f_law_right.N (lamOf f_law_right 1).1 (lamOf f_law_right 1).2 = eCall (tab G fs (n + 20)) (Str.ofString "read_board") (aCons (eVar 7) aNil) := by
    rw [tabL_two]
    exact lam_law_right_1 _
  obtain ⟨env1, s2, f1, f2⟩ := for_inv (bind := gOne 6) (s := tuX (tab G fs (n + 22)) (eCall (tab G fs (n + 20)) (Str.ofString "read_board") (aCons (eVar 9) aNil))) (fun j env st' => ∃ x y z, env = [.v (.int c), .v (.int k), .v (.ref st.length), .v (.lst (brd rs)), .v (.lst (lsD (rowT rs))), .v (.str (S (bT (rowT rs)))), x, .no, y, z, .no, .no] ∧ Drw st' st.length (5000 + 100 * j)) (rangeD 0 6) 0 (fun d hd j env st' hj hI => by
      obtain ⟨x, y, z, rfl, hD⟩ := hI
      rw [range_len] at hj
      obtain ⟨y2, z2, st3, h1, h2⟩ := turn_ok n hD (by omega) R (by rw [rowT_len]; exact l1) (.v (.int c)) (.v (.int k)) (.v (.lst (brd rs))) (.v (.str (S (bT (rowT rs))))) (.v d) .no y z .no .no
      exact ⟨_, _, st3, rfl, h1, _, _, _, rfl, h2.mono (by omega)⟩) [.v (.int c), .v (.int k), .v (.ref st.length), .v (.lst (brd rs)), .v (.lst (lsD (rowT rs))), .v (.str (S (bT (rowT rs)))), .no, .no, .no, .no, .no, .no] s1 ⟨_, _, _, rfl, d1.mono (by decide)⟩
  obtain ⟨x6, x8, x9, rfl, d2⟩ := f2
  rw [range_len] at d2
  obtain ⟨o, s3, o1, o2, o3⟩ := pick_ok (n + 20) d2 (by decide) (ds := oddL (bT (rowT rs))) (by unfold oddL; simp) (by show 6 ≤ 1000; decide)
  have hlast := lam_exc (T := tab G fs (n + 22)) (r := 0) (g := eCall (tab G fs (n + 20)) (Str.ofString "read_board") (aCons (eVar 7) aNil)) (env := [.v (.int c), .v (.int k), .v (.ref st.length), .v (.lst (brd rs)), .v (.lst (lsD (rowT rs))), .v (.str (S (bT (rowT rs)))), x6, .v o, x8, x9, .no, .no]) (st := s3) (by
    have := odd_exc (odd_no _ s3 o o2) (n + 19)
    generalize tab G fs (n + 20) = T at *
    simp only [MI.run, MI.strD, MI.lstOf, MI.known, MI.sPar, MI.sTry, MI.sRaise0, MI.sRaise1, MI.sParOwn, MI.sForR, MI.sStar, MI.starD, MI.eTupRg, MI.eLm, MI.eIsX, MI.eFld, MI.eDic0, MI.eLam, MI.xCat, MI.freed, MI.sNil, MI.sCons, MI.sIf, MI.sSet, MI.sSetL, MI.sRet, MI.sRetN, MI.sRetV, MI.sSub, MI.sAug, MI.sApp, MI.sOwn, MI.sSetT, MI.sFor, MI.sWhile, MI.eVar, MI.eBor, MI.eK, MI.eBin, MI.eNeg, MI.eNot, MI.eAnd, MI.eOr, MI.eT, MI.eIf, MI.eIx, MI.eSl, MI.eCall, MI.eInst, MI.eBlt1, MI.eBlt, MI.eMeth, MI.eTup, MI.eLst, MI.eOfA, MI.aNil, MI.aCons, MI.tCmp, MI.tChain, MI.tNot, MI.tAnd, MI.tOr, MI.tOf, MI.tYes, MI.pNo, MI.pYes, MI.boolOf, MI.blOf, MI.truth, MI.partD, MI.gOne, bind_ok, of_some, toS_ok, then_next, then_ret, then_brk, map_some, List.getElem?_cons_zero, List.getElem?_cons_succ, List.set_cons_zero, List.set_cons_succ, if_true, if_false, Bool.false_eq_true, reduceIte, this]) (safe_exn (n + 19) 0 s3)
  have hlike := like_noText (n + 20) 0 s3
  have t1 : tab G fs (n + 22) (Str.ofString "board_text") [.lst (brd rs)] s1 = .ok (.str (S (bT (rowT rs)))) s1 := board_text_ok (n + 12) B s1 (.inr rfl)
  have t2 : tab G fs (n + 22) (Str.ofString "board_text") [.tup (brd rs)] s1 = .ok (.str (S (bT (rowT rs)))) s1 := board_text_ok (n + 12) B s1 (.inl rfl)
  have t3 := two_like (n + 20) (S (bT (rowT rs))) s1
  have t4 : tab G fs (n + 22) (Str.ofString "read_board") [.str (S (bT (rowT rs)))] s1 = .ok (.tup (brd rs)) s1 := read_back (n + 2) B s1
  have t5 : tab G fs (n + 22) (Str.ofString "_law_like") [.tup (brd rs), .tup (brd rs)] s1 = .ok (.bl true) s1 := like_brd (n + 12) B s1
  refine ⟨s3, ?_⟩
  rw [show n + 23 = (n + 22) + 1 from rfl, at_law_right]
  unfold b_law_right
  rw [hl0, hl1]
  have G0 : tab G fs (n + 22) (Str.ofString "_law_begun") [.int c, .int k] st = .ok (.ref st.length) s0 := g0
  have G8 : tab G fs (n + 22) (Str.ofString "_law_pick") [.ref st.length, .lst (oddL (bT (rowT rs)))] s2 = .ok o s3 := o1
  generalize tab G fs (n + 22) = T at *
  generalize eCall (tab G fs (n + 20)) (Str.ofString "read_board") (aCons (eVar 9) aNil) = e6 at *
  generalize eCall (tab G fs (n + 20)) (Str.ofString "read_board") (aCons (eVar 7) aNil) = e7 at *
  refine (run_set (d := .ref st.length) (st1 := s0) (by simp only [MI.run, MI.strD, MI.lstOf, MI.known, MI.sPar, MI.sTry, MI.sRaise0, MI.sRaise1, MI.sParOwn, MI.sForR, MI.sStar, MI.starD, MI.eTupRg, MI.eLm, MI.eIsX, MI.eFld, MI.eDic0, MI.eLam, MI.xCat, MI.freed, MI.sNil, MI.sCons, MI.sIf, MI.sSet, MI.sSetL, MI.sRet, MI.sRetN, MI.sRetV, MI.sSub, MI.sAug, MI.sApp, MI.sOwn, MI.sSetT, MI.sFor, MI.sWhile, MI.eVar, MI.eBor, MI.eK, MI.eBin, MI.eNeg, MI.eNot, MI.eAnd, MI.eOr, MI.eT, MI.eIf, MI.eIx, MI.eSl, MI.eCall, MI.eInst, MI.eBlt1, MI.eBlt, MI.eMeth, MI.eTup, MI.eLst, MI.eOfA, MI.aNil, MI.aCons, MI.tCmp, MI.tChain, MI.tNot, MI.tAnd, MI.tOr, MI.tOf, MI.tYes, MI.pNo, MI.pYes, MI.boolOf, MI.blOf, MI.truth, MI.partD, MI.gOne, bind_ok, of_some, toS_ok, then_next, then_ret, then_brk, map_some, List.getElem?_cons_zero, List.getElem?_cons_succ, List.set_cons_zero, List.set_cons_succ, if_true, if_false, Bool.false_eq_true, reduceIte, G0])).trans ?_
  refine (run_setL g1).trans ?_
  refine (run_setL g2).trans ?_
  refine (run_set g3).trans ?_
  refine (run_ifF (test1 t1 t2 t3)).trans ?_
  refine (run_ifF (test2 t4 t5)).trans ?_
  refine (run_for (ds := rangeD 0 6) (st1 := s1) (range_src (n := 6) (by simp only [MI.run, MI.strD, MI.lstOf, MI.known, MI.sPar, MI.sTry, MI.sRaise0, MI.sRaise1, MI.sParOwn, MI.sForR, MI.sStar, MI.starD, MI.eTupRg, MI.eLm, MI.eIsX, MI.eFld, MI.eDic0, MI.eLam, MI.xCat, MI.freed, MI.sNil, MI.sCons, MI.sIf, MI.sSet, MI.sSetL, MI.sRet, MI.sRetN, MI.sRetV, MI.sSub, MI.sAug, MI.sApp, MI.sOwn, MI.sSetT, MI.sFor, MI.sWhile, MI.eVar, MI.eBor, MI.eK, MI.eBin, MI.eNeg, MI.eNot, MI.eAnd, MI.eOr, MI.eT, MI.eIf, MI.eIx, MI.eSl, MI.eCall, MI.eInst, MI.eBlt1, MI.eBlt, MI.eMeth, MI.eTup, MI.eLst, MI.eOfA, MI.aNil, MI.aCons, MI.tCmp, MI.tChain, MI.tNot, MI.tAnd, MI.tOr, MI.tOf, MI.tYes, MI.pNo, MI.pYes, MI.boolOf, MI.blOf, MI.truth, MI.partD, MI.gOne, bind_ok, of_some, toS_ok, then_next, then_ret, then_brk, map_some, List.getElem?_cons_zero, List.getElem?_cons_succ, List.set_cons_zero, List.set_cons_succ, if_true, if_false, Bool.false_eq_true, reduceIte]; rfl) (by decide))).trans ?_
  show fin _ (forL (gOne 6) (tuX T e6) (rangeD 0 6) [.v (.int c), .v (.int k), .v (.ref st.length), .v (.lst (brd rs)), .v (.lst (lsD (rowT rs))), .v (.str (S (bT (rowT rs)))), .no, .no, .no, .no, .no, .no] s1) = _
  rw [f1, fin_next]
  refine (run_set (odd_of T G8)).trans ?_
  exact run_ret (last_of hlast hlike)
end K77

set_option maxRecDepth 100000
set_option maxHeartbeats 4000000
namespace K77
open PySem MI SX
theorem foldl_arr : ∀ (l : List (Array Nat)) (a : Array Nat), (l.foldl (· ++ ·) a).toList = a.toList ++ (l.map fun x => x.toList).flatten
  | [], a => by simp
  | x :: l, a => by
    rw [List.foldl_cons, foldl_arr l, Array.toList_append, List.append_assoc]
    rfl
theorem mul_list (x : Str) (n : Nat) (h : 2 ≤ n) (hx : (x.length == 0) = false) : (Txt.mul x (n : Int)).cps.toList = (List.replicate n x.cps.toList).flatten := by
  unfold Txt.mul
  rw [if_neg (by omega)]
  have e : (((n : Nat) : Int) == 1 || x.length == 0) = false := by
    have a1 : (((n : Nat) : Int) == 1) = false := by
      rw [beq_eq_false_iff_ne]
      omega
    rw [a1, hx]
    rfl
  rw [e, if_neg Bool.false_ne_true]
  show ((List.replicate ((n : Nat) : Int).toNat x.cps).foldl (· ++ ·) #[]).toList = _
  rw [foldl_arr, Int.toNat_natCast]
  simp
def w4 : List Nat := [97, 92, 32, 34]
theorem l_w4 : Str.ofString "a\\ \"" = S w4 := by decide +kernel
def w5 : List Nat := (List.replicate 1250 w4).flatten
theorem w5_mem : ∀ c ∈ w5, 32 ≤ c ∧ c ≤ 126 := by
  intro c hc
  obtain ⟨l, hl, hc⟩ := List.mem_flatten.mp hc
  rw [List.eq_of_mem_replicate hl] at hc
  unfold w4 at hc
  simp only [List.mem_cons, List.not_mem_nil, or_false] at hc
  omega
theorem w5_len : w5.length = 5000 := by
  unfold w5
  rw [List.length_flatten, List.map_replicate, List.sum_replicate_nat]
  rfl
theorem op_w5 : opD .Mult (.str (S w4)) (.int 1250) = some (.str (S w5)) := by
  show (if (S w4).length ≤ 16 ∧ (0 : Int) ≤ 1250 ∧ (1250 : Int) ≤ 1000000 then some (D.str (Txt.mul (S w4) 1250)) else none) = _
  rw [if_pos (by decide)]
  refine congrArg (fun z => some (D.str z)) (TL.ext_tl ?_)
  exact mul_list (S w4) 1250 (by decide) (by decide)
def r3 : List D := (rangeD 0 100).map fun d => .tup [.str (S [120]), d]
def wideR : List (List D) := [rangeD 0 300, [.str (S w5), .tup []], r3]
theorem rg_bd {m : Nat} (hm : m ≤ 300) : ∀ d ∈ rangeD 0 m, ∀ q, Bd q 4 d := by
  intro d hd q
  obtain ⟨i, hi, rfl⟩ := range_mem hd
  exact bd_int (k := 3) (by decide) (by show ((i : Nat) : Int).natAbs < 10 ^ 3; omega) (by decide)
theorem wide_bo : Bo wideR := by
  have k1 : Bd 1 2000 (.tup (rangeD 0 300)) := one_bd (n := 300) (k := 0) (b := 4) (by rw [range_len]; exact Nat.le_refl _) (fun d hd => rg_bd (Nat.le_refl _) d hd 0) (by decide)
  have k2 : Bd 2 20010 (.tup [.str (S w5), .tup []]) := one_bd (ds := [.str (S w5), .tup []]) (n := 2) (k := 1) (b := 10002) (Nat.le_refl 2) (fun d hd => by
    simp only [List.mem_cons, List.not_mem_nil, or_false] at hd
    rcases hd with rfl | rfl
    · have := bd_str (l := w5) w5_mem (q := 1)
      rw [w5_len] at this
      exact this
    · exact (bd_tup (ds := []) (k := 0) (b := 0) (fun d hd => nomatch hd)).mono (Nat.le_refl _) (by decide)) (by decide)
  have k3 : Bd 2 2202 (.tup r3) := one_bd (n := 100) (k := 1) (b := 20) (by unfold r3; rw [List.length_map, range_len]; exact Nat.le_refl _) (fun d hd => by
    obtain ⟨x, hx, rfl⟩ := List.mem_map.mp hd
    exact one_bd (ds := [.str (S [120]), x]) (n := 2) (k := 0) (b := 4) (Nat.le_refl 2) (fun y hy => by
      simp only [List.mem_cons, List.not_mem_nil, or_false] at hy
      rcases hy with rfl | rfl
      · exact bd_str (l := [120]) (fun c hc => by rw [List.mem_singleton.mp hc]; omega) (q := 0)
      · exact rg_bd (by decide) _ hx 0) (by decide)) (by decide)
  refine ⟨fun r hr => ?_, fun r hr => ?_, by decide⟩
  · unfold wideR at hr
    simp only [List.mem_cons, List.not_mem_nil, or_false] at hr
    rcases hr with rfl | rfl | rfl
    · exact k1.th.mono (by decide)
    · exact k2.th.mono (by decide)
    · exact k3.th.mono (by decide)
  · unfold wideR at hr
    simp only [List.mem_cons, List.not_mem_nil, or_false] at hr
    rcases hr with rfl | rfl | rfl
    · exact Nat.le_trans k1.len (by decide)
    · exact Nat.le_trans k2.len (by decide)
    · exact Nat.le_trans k3.len (by decide)
theorem x_r3 (st : Store) (a b c d : Sl) : (eBlt1 (Str.ofString "tuple") (eOfA (xComp [3] (xRange1 (eK (.int 100))) (gOne 3) MI.tYes (eTup (aCons (eK (.str (Str.ofString "x"))) (aCons (eVar 3) aNil)))))) [a, b, c, d] st = .ok (.tup r3) st := by
  have hc := comp_map (own := [3]) (src := xRange1 (eK (.int 100))) (bind := gOne 3) (t := MI.tYes) (elt := eTup (aCons (eK (.str (Str.ofString "x"))) (aCons (eVar 3) aNil))) (env := [a, b, c, d]) (st := st) (st1 := st) (g := fun d => .tup [.str (S [120]), d]) (ds := rangeD 0 100) (range_src (n := 100) (by simp only [MI.run, MI.strD, MI.lstOf, MI.known, MI.sPar, MI.sTry, MI.sRaise0, MI.sRaise1, MI.sParOwn, MI.sForR, MI.sStar, MI.starD, MI.eTupRg, MI.eLm, MI.eIsX, MI.eFld, MI.eDic0, MI.eLam, MI.xCat, MI.freed, MI.sNil, MI.sCons, MI.sIf, MI.sSet, MI.sSetL, MI.sRet, MI.sRetN, MI.sRetV, MI.sSub, MI.sAug, MI.sApp, MI.sOwn, MI.sSetT, MI.sFor, MI.sWhile, MI.eVar, MI.eBor, MI.eK, MI.eBin, MI.eNeg, MI.eNot, MI.eAnd, MI.eOr, MI.eT, MI.eIf, MI.eIx, MI.eSl, MI.eCall, MI.eInst, MI.eBlt1, MI.eBlt, MI.eMeth, MI.eTup, MI.eLst, MI.eOfA, MI.aNil, MI.aCons, MI.tCmp, MI.tChain, MI.tNot, MI.tAnd, MI.tOr, MI.tOf, MI.tYes, MI.pNo, MI.pYes, MI.boolOf, MI.blOf, MI.truth, MI.partD, MI.gOne, bind_ok, of_some, toS_ok, then_next, then_ret, then_brk, map_some, List.getElem?_cons_zero, List.getElem?_cons_succ, List.set_cons_zero, List.set_cons_succ, if_true, if_false, Bool.false_eq_true, reduceIte]; rfl) (by decide)) (by rw [range_len]; decide) fun z hz => by
    show ((MI.tYes [a, b, c, .v z] st).bind _) = _
    simp only [MI.run, MI.strD, MI.lstOf, MI.known, MI.sPar, MI.sTry, MI.sRaise0, MI.sRaise1, MI.sParOwn, MI.sForR, MI.sStar, MI.starD, MI.eTupRg, MI.eLm, MI.eIsX, MI.eFld, MI.eDic0, MI.eLam, MI.xCat, MI.freed, MI.sNil, MI.sCons, MI.sIf, MI.sSet, MI.sSetL, MI.sRet, MI.sRetN, MI.sRetV, MI.sSub, MI.sAug, MI.sApp, MI.sOwn, MI.sSetT, MI.sFor, MI.sWhile, MI.eVar, MI.eBor, MI.eK, MI.eBin, MI.eNeg, MI.eNot, MI.eAnd, MI.eOr, MI.eT, MI.eIf, MI.eIx, MI.eSl, MI.eCall, MI.eInst, MI.eBlt1, MI.eBlt, MI.eMeth, MI.eTup, MI.eLst, MI.eOfA, MI.aNil, MI.aCons, MI.tCmp, MI.tChain, MI.tNot, MI.tAnd, MI.tOr, MI.tOf, MI.tYes, MI.pNo, MI.pYes, MI.boolOf, MI.blOf, MI.truth, MI.partD, MI.gOne, bind_ok, of_some, toS_ok, then_next, then_ret, then_brk, map_some, List.getElem?_cons_zero, List.getElem?_cons_succ, List.set_cons_zero, List.set_cons_succ, if_true, if_false, Bool.false_eq_true, reduceIte, show List.set (wipeE [a, b, c, d] [3]) 3 (.v z) = [a, b, c, .v z] from rfl, l_x]
  show (((xComp [3] _ (gOne 3) MI.tYes _ [a, b, c, d] st).bind fun ds st1 => Res.ok (D.lst ds) st1).bind _) = _
  rw [hc]
  rfl
theorem x_wide (st : Store) (a b c d : Sl) : (eTup (aCons (eTupRg (eK (.int 300))) (aCons (eTup (aCons (eBin .Mult (eK (.str (Str.ofString "a\\ \""))) (eK (.int 1250))) (aCons (eTup aNil) aNil))) (aCons (eBlt1 (Str.ofString "tuple") (eOfA (xComp [3] (xRange1 (eK (.int 100))) (gOne 3) MI.tYes (eTup (aCons (eK (.str (Str.ofString "x"))) (aCons (eVar 3) aNil)))))) aNil)))) [a, b, c, d] st = .ok (.tup (brd wideR)) st := by
  have h3 := x_r3 st a b c d
  have h1 : (eTupRg (eK (.int 300))) [a, b, c, d] st = .ok (.tup (rangeD 0 300)) st := rfl
  have h2 : (eBin .Mult (eK (.str (Str.ofString "a\\ \""))) (eK (.int 1250))) [a, b, c, d] st = .ok (.str (S w5)) st := by
    simp only [MI.run, MI.strD, MI.lstOf, MI.known, MI.sPar, MI.sTry, MI.sRaise0, MI.sRaise1, MI.sParOwn, MI.sForR, MI.sStar, MI.starD, MI.eTupRg, MI.eLm, MI.eIsX, MI.eFld, MI.eDic0, MI.eLam, MI.xCat, MI.freed, MI.sNil, MI.sCons, MI.sIf, MI.sSet, MI.sSetL, MI.sRet, MI.sRetN, MI.sRetV, MI.sSub, MI.sAug, MI.sApp, MI.sOwn, MI.sSetT, MI.sFor, MI.sWhile, MI.eVar, MI.eBor, MI.eK, MI.eBin, MI.eNeg, MI.eNot, MI.eAnd, MI.eOr, MI.eT, MI.eIf, MI.eIx, MI.eSl, MI.eCall, MI.eInst, MI.eBlt1, MI.eBlt, MI.eMeth, MI.eTup, MI.eLst, MI.eOfA, MI.aNil, MI.aCons, MI.tCmp, MI.tChain, MI.tNot, MI.tAnd, MI.tOr, MI.tOf, MI.tYes, MI.pNo, MI.pYes, MI.boolOf, MI.blOf, MI.truth, MI.partD, MI.gOne, bind_ok, of_some, toS_ok, then_next, then_ret, then_brk, map_some, List.getElem?_cons_zero, List.getElem?_cons_succ, List.set_cons_zero, List.set_cons_succ, if_true, if_false, Bool.false_eq_true, reduceIte, l_w4, op_w5]
  generalize (eBlt1 (Str.ofString "tuple") (eOfA (xComp [3] (xRange1 (eK (.int 100))) (gOne 3) MI.tYes (eTup (aCons (eK (.str (Str.ofString "x"))) (aCons (eVar 3) aNil)))))) = y3 at h3
  generalize (eTupRg (eK (.int 300))) = y1 at h1
  generalize (eBin .Mult (eK (.str (Str.ofString "a\\ \""))) (eK (.int 1250))) = y2 at h2
  show _ = Res.ok (D.tup [.tup (rangeD 0 300), .tup [.str (S w5), .tup []], .tup r3]) st
  simp only [MI.run, MI.strD, MI.lstOf, MI.known, MI.sPar, MI.sTry, MI.sRaise0, MI.sRaise1, MI.sParOwn, MI.sForR, MI.sStar, MI.starD, MI.eTupRg, MI.eLm, MI.eIsX, MI.eFld, MI.eDic0, MI.eLam, MI.xCat, MI.freed, MI.sNil, MI.sCons, MI.sIf, MI.sSet, MI.sSetL, MI.sRet, MI.sRetN, MI.sRetV, MI.sSub, MI.sAug, MI.sApp, MI.sOwn, MI.sSetT, MI.sFor, MI.sWhile, MI.eVar, MI.eBor, MI.eK, MI.eBin, MI.eNeg, MI.eNot, MI.eAnd, MI.eOr, MI.eT, MI.eIf, MI.eIx, MI.eSl, MI.eCall, MI.eInst, MI.eBlt1, MI.eBlt, MI.eMeth, MI.eTup, MI.eLst, MI.eOfA, MI.aNil, MI.aCons, MI.tCmp, MI.tChain, MI.tNot, MI.tAnd, MI.tOr, MI.tOf, MI.tYes, MI.pNo, MI.pYes, MI.boolOf, MI.blOf, MI.truth, MI.partD, MI.gOne, bind_ok, of_some, toS_ok, then_next, then_ret, then_brk, map_some, List.getElem?_cons_zero, List.getElem?_cons_succ, List.set_cons_zero, List.set_cons_succ, if_true, if_false, Bool.false_eq_true, reduceIte, h1, h2, h3]
theorem wide_run (n : Nat) (st : Store) {rs : List (List D)} (B : Bo rs) (hx : (eTup (aCons (eTupRg (eK (.int 300))) (aCons (eTup (aCons (eBin .Mult (eK (.str (Str.ofString "a\\ \""))) (eK (.int 1250))) (aCons (eTup aNil) aNil))) (aCons (eBlt1 (Str.ofString "tuple") (eOfA (xComp [3] (xRange1 (eK (.int 100))) (gOne 3) MI.tYes (eTup (aCons (eK (.str (Str.ofString "x"))) (aCons (eVar 3) aNil)))))) aNil)))) [.no, .no, .no, .no] st = .ok (.tup (brd rs)) st) : tab G fs (n + 23) (Str.ofString "_law_is_wide") [] st = .ok (.bl true) st := by
  have hc := comp_map (own := [2]) (src := xOwn 0 (xSeq (eVar 0))) (bind := gOne 2) (t := MI.tYes) (elt := eBin .Add (eCall (tab G fs (n + 22)) (Str.ofString "_law_text") (aCons (eVar 2) aNil)) (eK (.str (Str.ofString "\n")))) (env := [.v (.tup (brd rs)), .no, .no, .no]) (st := st) (st1 := st) (g := fun d => nlD (txt d)) (ds := brd rs) rfl (Nat.le_trans (show (brd rs).length ≤ 60 by unfold brd; rw [List.length_map]; exact B.few) (by decide)) fun z hz => by
    obtain ⟨r, hr, rfl⟩ := brd_mem hz
    have ht := ltext_ok 8 (n + 13) (.tup r) st (B.th r hr) (Nat.le_trans (B.len r hr) (by decide))
    have ht : tab G fs (n + 22) (Str.ofString "_law_text") [.tup r] st = .ok (.str (S (txt (.tup r)))) st := ht
    have hcat : opD .Add (.str (S (txt (.tup r)))) (.str (S [10])) = some (.str (S (txt (.tup r) ++ [10]))) := op_cat (Nat.le_trans (Nat.add_le_add_right (B.len r hr) 1) (by decide))
    generalize tab G fs (n + 22) = T at ht
    show ((MI.tYes [.v (.tup (brd rs)), .no, .v (.tup r), .no] st).bind _) = _
    simp only [MI.run, MI.strD, MI.lstOf, MI.known, MI.sPar, MI.sTry, MI.sRaise0, MI.sRaise1, MI.sParOwn, MI.sForR, MI.sStar, MI.starD, MI.eTupRg, MI.eLm, MI.eIsX, MI.eFld, MI.eDic0, MI.eLam, MI.xCat, MI.freed, MI.sNil, MI.sCons, MI.sIf, MI.sSet, MI.sSetL, MI.sRet, MI.sRetN, MI.sRetV, MI.sSub, MI.sAug, MI.sApp, MI.sOwn, MI.sSetT, MI.sFor, MI.sWhile, MI.eVar, MI.eBor, MI.eK, MI.eBin, MI.eNeg, MI.eNot, MI.eAnd, MI.eOr, MI.eT, MI.eIf, MI.eIx, MI.eSl, MI.eCall, MI.eInst, MI.eBlt1, MI.eBlt, MI.eMeth, MI.eTup, MI.eLst, MI.eOfA, MI.aNil, MI.aCons, MI.tCmp, MI.tChain, MI.tNot, MI.tAnd, MI.tOr, MI.tOf, MI.tYes, MI.pNo, MI.pYes, MI.boolOf, MI.blOf, MI.truth, MI.partD, MI.gOne, bind_ok, of_some, toS_ok, then_next, then_ret, then_brk, map_some, List.getElem?_cons_zero, List.getElem?_cons_succ, List.set_cons_zero, List.set_cons_succ, if_true, if_false, Bool.false_eq_true, reduceIte, show List.set (wipeE [.v (.tup (brd rs)), .no, .no, .no] [2]) 2 (.v (.tup r)) = [.v (.tup (brd rs)), .no, .v (.tup r), .no] from rfl, ht, l_nl, hcat]
    rfl
  rw [brd_nl] at hc
  have t1 : tab G fs (n + 22) (Str.ofString "board_text") [.tup (brd rs)] st = .ok (.str (S (bT (rowT rs)))) st := board_text_ok (n + 12) B st (.inl rfl)
  have t4 : tab G fs (n + 22) (Str.ofString "read_board") [.str (S (bT (rowT rs)))] st = .ok (.tup (brd rs)) st := read_back (n + 2) B st
  have t5 : tab G fs (n + 22) (Str.ofString "_law_like") [.lst [.str (S (bT (rowT rs))), .tup (brd rs)], .lst [.str (S (bT (rowT rs))), .tup (brd rs)]] st = .ok (.bl true) st := by
    refine like_seq (n := n + 21) (ds := [.str (S (bT (rowT rs))), .tup (brd rs)]) (show 2 ≤ big by decide) (fun d hd => ?_) (.inr rfl)
    simp only [List.mem_cons, List.not_mem_nil, or_false] at hd
    rcases hd with rfl | rfl
    · exact like_str (n + 20) _ st
    · exact like_brd (n + 11) B st
  rw [show n + 23 = (n + 22) + 1 from rfl, at_law_is_wide]
  unfold b_law_is_wide
  have hj := join_nl (ls := rowT rs) (Nat.le_trans B.bl (by decide))
  generalize tab G fs (n + 22) = T at *
  refine (run_set hx).trans ?_
  refine (run_set (d := .str (S (bT (rowT rs)))) (st1 := st) ?_).trans ?_
  · show eMeth _ _ _ [.v (.tup (brd rs)), .no, .no, .no] st = _
    simp only [MI.run, MI.strD, MI.lstOf, MI.known, MI.sPar, MI.sTry, MI.sRaise0, MI.sRaise1, MI.sParOwn, MI.sForR, MI.sStar, MI.starD, MI.eTupRg, MI.eLm, MI.eIsX, MI.eFld, MI.eDic0, MI.eLam, MI.xCat, MI.freed, MI.sNil, MI.sCons, MI.sIf, MI.sSet, MI.sSetL, MI.sRet, MI.sRetN, MI.sRetV, MI.sSub, MI.sAug, MI.sApp, MI.sOwn, MI.sSetT, MI.sFor, MI.sWhile, MI.eVar, MI.eBor, MI.eK, MI.eBin, MI.eNeg, MI.eNot, MI.eAnd, MI.eOr, MI.eT, MI.eIf, MI.eIx, MI.eSl, MI.eCall, MI.eInst, MI.eBlt1, MI.eBlt, MI.eMeth, MI.eTup, MI.eLst, MI.eOfA, MI.aNil, MI.aCons, MI.tCmp, MI.tChain, MI.tNot, MI.tAnd, MI.tOr, MI.tOf, MI.tYes, MI.pNo, MI.pYes, MI.boolOf, MI.blOf, MI.truth, MI.partD, MI.gOne, bind_ok, of_some, toS_ok, then_next, then_ret, then_brk, map_some, List.getElem?_cons_zero, List.getElem?_cons_succ, List.set_cons_zero, List.set_cons_succ, if_true, if_false, Bool.false_eq_true, reduceIte, hc, meth_join, l_empty, hj]
  · show MI.run _ [.v (.tup (brd rs)), .v (.str (S (bT (rowT rs)))), .no, .no] st = _
    simp only [MI.run, MI.strD, MI.lstOf, MI.known, MI.sPar, MI.sTry, MI.sRaise0, MI.sRaise1, MI.sParOwn, MI.sForR, MI.sStar, MI.starD, MI.eTupRg, MI.eLm, MI.eIsX, MI.eFld, MI.eDic0, MI.eLam, MI.xCat, MI.freed, MI.sNil, MI.sCons, MI.sIf, MI.sSet, MI.sSetL, MI.sRet, MI.sRetN, MI.sRetV, MI.sSub, MI.sAug, MI.sApp, MI.sOwn, MI.sSetT, MI.sFor, MI.sWhile, MI.eVar, MI.eBor, MI.eK, MI.eBin, MI.eNeg, MI.eNot, MI.eAnd, MI.eOr, MI.eT, MI.eIf, MI.eIx, MI.eSl, MI.eCall, MI.eInst, MI.eBlt1, MI.eBlt, MI.eMeth, MI.eTup, MI.eLst, MI.eOfA, MI.aNil, MI.aCons, MI.tCmp, MI.tChain, MI.tNot, MI.tAnd, MI.tOr, MI.tOf, MI.tYes, MI.pNo, MI.pYes, MI.boolOf, MI.blOf, MI.truth, MI.partD, MI.gOne, bind_ok, of_some, toS_ok, then_next, then_ret, then_brk, map_some, List.getElem?_cons_zero, List.getElem?_cons_succ, List.set_cons_zero, List.set_cons_succ, if_true, if_false, Bool.false_eq_true, reduceIte, t1, t4, t5]
theorem wide_ok (n : Nat) (st : Store) : tab G fs (n + 23) (Str.ofString "_law_is_wide") [] st = .ok (.bl true) st := wide_run n st wide_bo (x_wide st .no .no .no .no)
theorem wide_test {T : Tab} {env : MI.Env} {st : Store} (W : T (Str.ofString "_law_is_wide") [] st = .ok (.bl true) st) : (MI.tNot (MI.tOf (eCall T (Str.ofString "_law_is_wide") aNil))) env st = .ok false st := by
  simp only [MI.run, MI.strD, MI.lstOf, MI.known, MI.sPar, MI.sTry, MI.sRaise0, MI.sRaise1, MI.sParOwn, MI.sForR, MI.sStar, MI.starD, MI.eTupRg, MI.eLm, MI.eIsX, MI.eFld, MI.eDic0, MI.eLam, MI.xCat, MI.freed, MI.sNil, MI.sCons, MI.sIf, MI.sSet, MI.sSetL, MI.sRet, MI.sRetN, MI.sRetV, MI.sSub, MI.sAug, MI.sApp, MI.sOwn, MI.sSetT, MI.sFor, MI.sWhile, MI.eVar, MI.eBor, MI.eK, MI.eBin, MI.eNeg, MI.eNot, MI.eAnd, MI.eOr, MI.eT, MI.eIf, MI.eIx, MI.eSl, MI.eCall, MI.eInst, MI.eBlt1, MI.eBlt, MI.eMeth, MI.eTup, MI.eLst, MI.eOfA, MI.aNil, MI.aCons, MI.tCmp, MI.tChain, MI.tNot, MI.tAnd, MI.tOr, MI.tOf, MI.tYes, MI.pNo, MI.pYes, MI.boolOf, MI.blOf, MI.truth, MI.partD, MI.gOne, bind_ok, of_some, toS_ok, then_next, then_ret, then_brk, map_some, List.getElem?_cons_zero, List.getElem?_cons_succ, List.set_cons_zero, List.set_cons_succ, if_true, if_false, Bool.false_eq_true, reduceIte, W, Bool.not_true]
theorem max_of (i j : Int) (st : Store) : bltD (Str.ofString "max") [.int i, .int j] st = some (.int (if j > i then j else i)) := rfl
theorem min_of (i j : Int) (st : Store) : bltD (Str.ofString "min") [.int i, .int j] st = some (.int (if j < i then j else i)) := rfl
theorem enum_mem {l : List D} {d : D} (h : d ∈ enumD l) : ∃ (i : Nat) (x : D), i < l.length ∧ x ∈ l ∧ d = .tup [.int (i : Nat), x] := by
  unfold enumD at h
  obtain ⟨i, hi, he⟩ := List.getElem_of_mem h
  rw [List.length_zipWith, List.length_range] at hi
  rw [List.getElem_zipWith] at he
  have hi2 : i < l.length := by omega
  refine ⟨i, l[i], hi2, List.getElem_mem hi2, ?_⟩
  rw [← he, List.getElem_range]
theorem lsrc {ns : List Int} (h : ns.length ≤ 63) {st : Store} {x y : Sl} : ∃ l : List D, xEnum (eSl (eBin .Add (eVar 0) (eLst (aCons (eK (.int 3)) aNil))) pNo (pYes (eBlt (Str.ofString "max") (aCons (eK (.int 1)) (aCons (eBlt (Str.ofString "min") (aCons (eK (.int 10)) (aCons (eBlt1 (Str.ofString "len") (eBor 0)) aNil))) aNil))))) [.v (.scr (ns.map .int)), x, y] st = .ok (enumD l) st ∧ l.length ≤ 64 ∧ ∀ d ∈ l, ∃ c : Int, d = .int c := by
  have e1 : eBin .Add (eVar 0) (eLst (aCons (eK (.int 3)) aNil)) [.v (.scr (ns.map .int)), x, y] st = .ok (.lst (ns.map .int ++ [.int 3])) st := bin_of (x := .scr (ns.map .int)) (y := .lst [.int 3]) (st1 := st) rfl rfl (op_catS (by
    rw [List.length_map]
    exact Nat.le_trans (show ns.length + 1 ≤ 64 by omega) (by decide)))
  have hln : bltD (Str.ofString "len") [.scr (ns.map .int)] st = some (.int ((ns.map D.int).length : Nat)) := rfl
  obtain ⟨j, hj⟩ : ∃ j : Int, eBlt (Str.ofString "max") (aCons (eK (.int 1)) (aCons (eBlt (Str.ofString "min") (aCons (eK (.int 10)) (aCons (eBlt1 (Str.ofString "len") (eBor 0)) aNil))) aNil)) [.v (.scr (ns.map .int)), x, y] st = .ok (.int j) st := by
    generalize (((ns.map D.int).length : Nat) : Int) = L at hln
    refine ⟨if (if L < 10 then L else 10) > 1 then (if L < 10 then L else 10) else 1, ?_⟩
    simp only [MI.run, MI.strD, MI.lstOf, MI.known, MI.sPar, MI.sTry, MI.sRaise0, MI.sRaise1, MI.sParOwn, MI.sForR, MI.sStar, MI.starD, MI.eTupRg, MI.eLm, MI.eIsX, MI.eFld, MI.eDic0, MI.eLam, MI.xCat, MI.freed, MI.sNil, MI.sCons, MI.sIf, MI.sSet, MI.sSetL, MI.sRet, MI.sRetN, MI.sRetV, MI.sSub, MI.sAug, MI.sApp, MI.sOwn, MI.sSetT, MI.sFor, MI.sWhile, MI.eVar, MI.eBor, MI.eK, MI.eBin, MI.eNeg, MI.eNot, MI.eAnd, MI.eOr, MI.eT, MI.eIf, MI.eIx, MI.eSl, MI.eCall, MI.eInst, MI.eBlt1, MI.eBlt, MI.eMeth, MI.eTup, MI.eLst, MI.eOfA, MI.aNil, MI.aCons, MI.tCmp, MI.tChain, MI.tNot, MI.tAnd, MI.tOr, MI.tOf, MI.tYes, MI.pNo, MI.pYes, MI.boolOf, MI.blOf, MI.truth, MI.partD, MI.gOne, bind_ok, of_some, toS_ok, then_next, then_ret, then_brk, map_some, List.getElem?_cons_zero, List.getElem?_cons_succ, List.set_cons_zero, List.set_cons_succ, if_true, if_false, Bool.false_eq_true, reduceIte, hln, min_of, max_of]
  refine ⟨cutL (ns.map .int ++ [.int 3]) none (some j), ?_, ?_, ?_⟩
  · have e2 : eSl (eBin .Add (eVar 0) (eLst (aCons (eK (.int 3)) aNil))) pNo (pYes (eBlt (Str.ofString "max") (aCons (eK (.int 1)) (aCons (eBlt (Str.ofString "min") (aCons (eK (.int 10)) (aCons (eBlt1 (Str.ofString "len") (eBor 0)) aNil))) aNil)))) [.v (.scr (ns.map .int)), x, y] st = .ok (.lst (cutL (ns.map .int ++ [.int 3]) none (some j))) st := by
      unfold eSl
      rw [e1, bind_ok]
      unfold pNo pYes
      rw [bind_ok, hj]
      rfl
    unfold xEnum
    rw [e2]
    rfl
  · unfold cutL
    have : ((ns.map D.int ++ [D.int 3])).length ≤ 64 := by
      rw [List.length_append, List.length_map]
      show ns.length + 1 ≤ 64
      omega
    rw [List.length_take, List.length_drop]
    omega
  · intro d hd
    unfold cutL at hd
    have h1 := List.mem_of_mem_drop (List.mem_of_mem_take hd)
    rcases List.mem_append.mp h1 with z | z
    · obtain ⟨c, _, rfl⟩ := List.mem_map.mp z
      exact ⟨c, rfl⟩
    · exact ⟨3, List.mem_singleton.mp z⟩
theorem law_body {T : Tab} {c : Int} {i : Nat} {st st' : Store} {x : Sl} (h : T (Str.ofString "_law_right") [.int c, .int (i : Nat)] st = .ok (.bl true) st') : (sCons (sIf (MI.tNot (MI.tOf (eCall T (Str.ofString "_law_right") (aCons (eVar 2) (aCons (eVar 1) aNil)))))
     (sCons (sRet (eK (.bl false)))
      sNil)
     sNil)
    sNil) [x, .v (.int (i : Nat)), .v (.int c)] st = .next [x, .v (.int (i : Nat)), .v (.int c)] st' := by
  simp only [MI.run, MI.strD, MI.lstOf, MI.known, MI.sPar, MI.sTry, MI.sRaise0, MI.sRaise1, MI.sParOwn, MI.sForR, MI.sStar, MI.starD, MI.eTupRg, MI.eLm, MI.eIsX, MI.eFld, MI.eDic0, MI.eLam, MI.xCat, MI.freed, MI.sNil, MI.sCons, MI.sIf, MI.sSet, MI.sSetL, MI.sRet, MI.sRetN, MI.sRetV, MI.sSub, MI.sAug, MI.sApp, MI.sOwn, MI.sSetT, MI.sFor, MI.sWhile, MI.eVar, MI.eBor, MI.eK, MI.eBin, MI.eNeg, MI.eNot, MI.eAnd, MI.eOr, MI.eT, MI.eIf, MI.eIx, MI.eSl, MI.eCall, MI.eInst, MI.eBlt1, MI.eBlt, MI.eMeth, MI.eTup, MI.eLst, MI.eOfA, MI.aNil, MI.aCons, MI.tCmp, MI.tChain, MI.tNot, MI.tAnd, MI.tOr, MI.tOf, MI.tYes, MI.pNo, MI.pYes, MI.boolOf, MI.blOf, MI.truth, MI.partD, MI.gOne, bind_ok, of_some, toS_ok, then_next, then_ret, then_brk, map_some, List.getElem?_cons_zero, List.getElem?_cons_succ, List.set_cons_zero, List.set_cons_succ, if_true, if_false, Bool.false_eq_true, reduceIte, h, Bool.not_true]
theorem plain (ns : List Int) (h : ns.length ≤ 63) (_hb : ∀ z ∈ ns, Builtin.Int.intBits z ≤ 1048576) : ∃ st', tab (mkG fs free consts xs (Str.ofString "VoteError")) fs 60 f_law.name [.scr (ns.map .int)] [] = .ok (.bl true) st' := by
  obtain ⟨l, hs, hl, hm⟩ := lsrc h (st := []) (x := .no) (y := .no)
  have R : ∀ (st : Store) (c k : Int), 0 ≤ k → k ≤ 1000 → ∃ st', tab G fs 59 (Str.ofString "_law_right") [.int c, .int k] st = .ok (.bl true) st' := fun st c k h1 h2 => right_ok 36 st c k h1 h2
  have e0 := at_law 59 (.scr (ns.map .int)) []
  have e1 : ∃ st', MI.run (b_law (tab G fs 59) (tabL G fs 59)) [.v (.scr (ns.map .int)), .no, .no] [] = .ok (.bl true) st' := by
    unfold b_law
    have W := wide_ok 36 []
    have W : tab G fs 59 (Str.ofString "_law_is_wide") [] [] = .ok (.bl true) [] := W
    generalize tab G fs 59 = T at R W
    obtain ⟨env', st', h1, h2⟩ := for_inv (bind := gMany [((Str.ofString "_law_k"), 1), ((Str.ofString "_law_cell"), 2)]) (s := (sCons (sIf (MI.tNot (MI.tOf (eCall T (Str.ofString "_law_right") (aCons (eVar 2) (aCons (eVar 1) aNil)))))
     (sCons (sRet (eK (.bl false)))
      sNil)
     sNil)
    sNil)) (fun j env st' => ∃ x y z, env = [x, y, z]) (enumD l) 0 (fun d hd j env st' hj hI => by
      obtain ⟨x, y, z, rfl⟩ := hI
      obtain ⟨i, v, hi, hv, rfl⟩ := enum_mem hd
      obtain ⟨c, rfl⟩ := hm v hv
      obtain ⟨st2, hr⟩ := R st' c (i : Nat) (by omega) (by omega)
      exact ⟨_, _, st2, rfl, law_body hr, _, _, _, rfl⟩) [.v (.scr (ns.map .int)), .no, .no] [] ⟨_, _, _, rfl⟩
    refine ⟨st', ?_⟩
    refine (run_ifF (wide_test W)).trans ?_
    refine (run_for hs).trans ?_
    rw [h1, fin_next]
    rfl
  obtain ⟨st', e1⟩ := e1
  exact ⟨st', e0.trans e1⟩
end K77

set_option maxRecDepth 1000000
set_option maxHeartbeats 0
namespace K77
open PySem PySem.Spec PyProof.Rows L2 MI
def fa : List He.Fa := faOf fs free consts
def fn : List He.DefD := fnOfAll fs xs
def tf : List He.Defn := LamDefs.ls.map (·.1)
abbrev R : PySem.W.OpenRow := PySem.W.OpenLaw.row PySem.Challenge.rw_rolltally_k77_boards_of_rows
abbrev hk : PySem.W.Hook := He.hookX 5 fa fn [] tf (exB xs (Str.ofString "VoteError"))
def ob (z : PySem.W.SharedT) : He.AlX := He.obsX 5 fa fn [] tf (exB xs (Str.ofString "VoteError")) (HandSHeadRun.getT z)
theorem ob_eq (z : PySem.W.SharedT) : ob z = hk.obs z.abs := He.obsX_eq (HandSHeadRun.getT_eq z)
def loose : List PySem.Str := [(Str.ofString "VoteError"), (Str.ofString "NoName"), (Str.ofString "NoDay"), (Str.ofString "NoRace"), (Str.ofString "NoMark"), (Str.ofString "NoCode"), (Str.ofString "NoPlace"), (Str.ofString "NoStub"), (Str.ofString "NoWay"), (Str.ofString "NoTime"), (Str.ofString "NoLetter"), (Str.ofString "NotWhole"), (Str.ofString "NoRuling"), (Str.ofString "NoChain"), (Str.ofString "NoBits"), (Str.ofString "NoLot"), (Str.ofString "NoCount"), (Str.ofString "NoPhase"), (Str.ofString "Twice"), (Str.ofString "NotThere"), (Str.ofString "NoRow"), (Str.ofString "NoText"), (Str.ofString "FIGURES"), (Str.ofString "DEEPEST"), (Str.ofString "MOST_FIGURES"), (Str.ofString "thing_text"), (Str.ofString "number_from"), (Str.ofString "text_from"), (Str.ofString "tuple_from"), (Str.ofString "thing_from"), (Str.ofString "read_whole"), (Str.ofString "board_text"), (Str.ofString "read_board"), (Str.ofString "_law_begun"), (Str.ofString "_law_next"), (Str.ofString "_law_pick"), (Str.ofString "_law_like"), (Str.ofString "_law_any_sign"), (Str.ofString "_law_ten"), (Str.ofString "_law_alone"), (Str.ofString "_law_refusal"), (Str.ofString "_law_safe_told"), (Str.ofString "_law_thing"), (Str.ofString "_law_text"), (Str.ofString "_law_read_word"), (Str.ofString "_law_read_number"), (Str.ofString "_law_read_tuple"), (Str.ofString "_law_read_thing"), (Str.ofString "_law_told_of"), (Str.ofString "_law_changed_text"), (Str.ofString "_law_due"), (Str.ofString "_law_changed_rows"), (Str.ofString "_law_right"), (Str.ofString "_law_is_wide")]
theorem run (w : World) : HandSHeadRun.RunEq R (PySem.W.view R.prog [57]) hk ob 20000 loose w := by
  intro os
  kernel_rfl
theorem sc_all : fs.all (fun f => C8.scC f.N f.ps (defScope f.st)) = true := by kernel_rfl
theorem nd_all : (fs.map (·.name)).Nodup := by decide +kernel
theorem lm_all : fs.all (fun f => !f.lam || LamDefs.ls.contains ((f.name, none), (f.name ++ ".<locals>.") ++ "<lambda>")) = true := by kernel_rfl
end K77
open PySem PySem.W PySem.Calls PyProof.Rows
theorem PySem.Challenge.cw_rolltally_k77_boards_of_rows_holds : PySem.Challenge.rw_rolltally_k77_boards_of_rows.Holds := by
  w_on; o_law
  refine HandSHeadRun.head_any (r := OpenLaw.row PySem.Challenge.rw_rolltally_k77_boards_of_rows) (q := view (OpenLaw.row PySem.Challenge.rw_rolltally_k77_boards_of_rows).prog [57]) (H := K77.hk) (ob := K77.ob) (M := 20000) (loose := K77.loose) (d := HandSHeadRun.topDef (OpenLaw.row PySem.Challenge.rw_rolltally_k77_boards_of_rows).prog 57) (kwd := []) K77.ob_eq
    (by kernel_rfl) (fun s => by kernel_rfl) K77.run (by kernel_rfl) (by kernel_rfl) (by kernel_rfl) (by rfl) (by first | assumption | decide +kernel) (by decide +kernel) ⟨rfl, rfl, rfl, rfl, rfl, by decide +kernel⟩ ?hw ?hc
  case hw => w_witness2
  case hc =>
    refine LamX.walk_ofTsE (l := PySem.Challenge.rw_rolltally_k77_boards_of_rows) (n := 63) (k := 62) (x := (Str.ofString "_law_script")) (CX := fun w => L2.CX (PySem.Challenge.rw_rolltally_k77_boards_of_rows).prog w) rfl (by decide) (by kernel_rfl) ⟨rfl, by decide, by decide⟩ ?F (fun _ _ _ _ _ z => MI.cx_false z)
    intro w mg fa h Y G hmg0
    obtain ⟨K, KX, c⟩ := Y
    have hmg : mg K77.f_law.name = some (.ref fa) := by
      have e : (HandSHeadRun.topDef (OpenLaw.row PySem.Challenge.rw_rolltally_k77_boards_of_rows).prog 57).name = K77.f_law.name := by kernel_rfl
      rw [← e]
      exact hmg0
    exact ⟨K, KX, MI.law_facts (fs := K77.fs) (free := K77.free) (consts := K77.consts) (xs := K77.xs) 59 KX G hmg (tf := K77.tf) c K77.all_ini K77.all_bi K77.sc_all (by decide +kernel) K77.nd_all K77.all_told K77.lm_all (List.mem_of_getElem? (i := 29) rfl) rfl rfl K77.plain⟩
