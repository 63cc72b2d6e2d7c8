import PyProof.Rows.All
import Wide.All
import OpenK.AllK
import Wide.FinOn
import HandS.ForMost
import HandS.Exc
import HandS.ExcOwn
import HandS.WordsExc
import HandS.Flow
import HandS.Wide
import HandS.TupAny
import HandS.TupMul
import HandS.Deep
import HandS.IsInst
import HandS.Style
import HandS.DictComp
import PyProof.StrOps2
import PyProof.ReprRoads
import HandS.Conv
import HandS.Text
import KE.IntTextLaws
import PyProof.ReprLen
import PyProof.StrLawsRepr
import HandS.More
import HandS.SortInts
import HandS.Zip
import HandS.ExcIs
import HandS.HotCalls
import HandS.ExcField
import KE.KExcIs
import HandS.Set
import HandS.SetFor
import HandS.Strs
import HandS.SetKeys
import HandS.SortKw
import HandS.RevTup
import KE.GoesEnum
import KE.KDictPairs
import HandS.Finally
import PyProof.P3Eq
import HandS.DictTup
import HandS.ListItems
import HandS.SortRule
import KE.KeyNested
import KE.KSortTupAny
import KE.KEqNest
import HandS.ExcValue
import PyProof.DictUpdate
import HandS.Keys
import KE.GoesZip
import KE.GoesMore
import HandS.TryOnly
import HandS.RaiseMore
import PyProof.NeKinds
import HandS.WideBits
import HandS.ExcInit
import KE.KIntText
import PySem.Challenge.RW_changewhile_k43_runs_begun
set_option Elab.async false
set_option linter.all false
set_option maxRecDepth 100000
set_option maxHeartbeats 4000000
namespace G
open PySem L2

abbrev AK := Sum Int (List Nat)
def mkS (l : List Nat) : Str := ⟨l.toArray⟩
def akey : AK → Key
  | .inl i => .inl i
  | .inr s => .inr (mkS s)

inductive AV where
  | non
  | bl (b : Bool)
  | int (i : Int)
  | str (s : List Nat)
  | tup (l : List AV)
  | lst (l : List AV)
  | dk (l : List (AK × AV))
  | fl (l : List AV)
  | ref (n : Nat)
  | fn (x : Str)

inductive HObj where
  | lst (l : List AV)
  | dk (l : List (AK × AV))
abbrev AH := List HObj
abbrev Env := List (Option AV)

/-- an error: its class's name, its fields -/
structure EV where
  cls : Str
  fs : List (Str × AV)

inductive Res (α : Type) where
  | ok (a : α) (h : AH)
  | exc (e : EV) (h : AH)
  | bad

namespace Res
def post {α : Type} (r : Res α) (P : α → AH → Prop) (E : EV → AH → Prop) : Prop := match r with
  | .ok a h => P a h
  | .exc e h => E e h
  | .bad => False
end Res
def rb {α β : Type} (r : Res α) (g : α → AH → Res β) : Res β := match r with
  | .ok a h => g a h
  | .exc e h => .exc e h
  | .bad => .bad
@[simp] theorem rb_ok {α β : Type} {a : α} {h : AH} {g : α → AH → Res β} : rb (.ok a h) g = g a h := rfl
@[simp] theorem rb_exc {α β : Type} {e : EV} {h : AH} {g : α → AH → Res β} : rb (.exc e h) g = .exc e h := rfl
@[simp] theorem rb_bad {α β : Type} {g : α → AH → Res β} : rb (.bad : Res α) g = .bad := rfl
@[simp] theorem rb_pure {α : Type} (r : Res α) : rb r (fun a h => .ok a h) = r := by cases r <;> rfl
theorem rb_rb {α β γ : Type} (r : Res α) (f : α → AH → Res β) (g : β → AH → Res γ) : rb (rb r f) g = rb r fun a h => rb (f a h) g := by cases r <;> rfl
theorem rb_congr {α β : Type} {r : Res α} {f g : α → AH → Res β} (h : ∀ a ah, r = .ok a ah → f a ah = g a ah) : rb r f = rb r g := by
  cases r with
  | ok a ah => exact h a ah rfl
  | exc e ah => rfl
  | bad => rfl
def lift1 {α : Type} (o : Option α) (ah : AH) : Res α := match o with
  | some a => .ok a ah
  | none => .bad
@[simp] theorem lift1_some {α : Type} {a : α} {ah : AH} : lift1 (some a) ah = .ok a ah := rfl
@[simp] theorem lift1_none {α : Type} {ah : AH} : lift1 (none : Option α) ah = .bad := rfl

/-- what never changes -/
def stl : HO → Bool
  | .tup _ => true
  | .frz _ _ => true
  | _ => false
/-- a list of the module -/
def WL (K : PySem.W.Frag) (a : Addr) (vs : List V) : Prop := ∃ (o : Obj) (its : Array Value) (n : Nat), K.lookup a = some o ∧ o.cls = .type "list" ∧ o.dict = none ∧ o.data = .seq its n ∧ its.size ≤ sizeLine ∧ Vals vs its.toList

/-- where our objects stand; p: objects of somebody else's that no value of ours holds, that stay -/
structure MM where
  l : List Addr
  p : List Addr
instance : Membership Addr MM := ⟨fun m a => a ∈ m.l ∨ a ∈ m.p⟩
def MM.add (m : MM) (a : Addr) : MM := ⟨m.l ++ [a], m.p⟩
theorem MM.mem_iff {m : MM} {a : Addr} : a ∈ m ↔ a ∈ m.l ∨ a ∈ m.p := Iff.rfl
/-- a tuple, of whose object no dict hangs -/
def SqN (K : PySem.W.Frag) (H : Hp) (a : Addr) (xs : List V) : Prop :=
  (∃ o : Obj, o.dict = none ∧ H a = some (.frz o (.tup xs))) ∨ ∃ (o : Obj) (its : Array Value) (n : Nat), K.lookup a = some o ∧ o.cls = .type "tuple" ∧ o.dict = none ∧ o.data = .seq its n ∧ its.size ≤ sizeLine ∧ Vals xs its.toList
theorem SqN.sqT {K : PySem.W.Frag} {H : Hp} {a : Addr} {xs : List V} (h : SqN K H a xs) : SqT K H a xs := by
  rcases h with ⟨o, _, h⟩ | ⟨o, its, n, h1, h2, _, h3, h4, h5⟩
  · exact .inl (.inr ⟨o, h⟩)
  · exact .inr ⟨o, its, n, h1, h2, h3, h4, h5⟩
instance {K : PySem.W.Frag} {H : Hp} {a : Addr} {xs : List V} : Coe (SqN K H a xs) (SqT K H a xs) := ⟨SqN.sqT⟩
mutual
inductive VR (K : PySem.W.Frag) (m : MM) (H : Hp) : AV → V → Prop
  | non : VR K m H .non .non
  | bl (b : Bool) : VR K m H (.bl b) (.bl b)
  | int (i : Int) : VR K m H (.int i) (.int i)
  | str (s : List Nat) : VR K m H (.str s) (.str (mkS s))
  | tup {a : Addr} {l : List AV} {vs : List V} : SqN K H a vs → VRs K m H l vs → VR K m H (.tup l) (.ref a)
  | lst {a : Addr} {l : List AV} {vs : List V} : H a = some (.lst vs) → a ∉ m → VRs K m H l vs → VR K m H (.lst l) (.ref a)
  | dk {a : Addr} {l : List (AK × AV)} {kvs : List (Key × V)} : Rd H a (.dK kvs) → a ∉ m → VRk K m H l kvs → VR K m H (.dk l) (.ref a)
  | fl {a : Addr} {l : List AV} {vs : List V} : (∃ o, H a = some (.frz o (.lst vs))) ∨ WL K a vs → VRs K m H l vs → VR K m H (.fl l) (.ref a)
  | ref {n : Nat} {a : Addr} : m.l[n]? = some a → VR K m H (.ref n) (.ref a)
  | fn {x : Str} {a : Addr} : PySem.W.nsIn K mainGlobals x = some (some (.ref a)) → VR K m H (.fn x) (.ref a)
inductive VRs (K : PySem.W.Frag) (m : MM) (H : Hp) : List AV → List V → Prop
  | nil : VRs K m H [] []
  | cons {v : AV} {l : List AV} {x : V} {xs : List V} : VR K m H v x → VRs K m H l xs → VRs K m H (v :: l) (x :: xs)
inductive VRk (K : PySem.W.Frag) (m : MM) (H : Hp) : List (AK × AV) → List (Key × V) → Prop
  | nil : VRk K m H [] []
  | cons {k : AK} {v : AV} {l : List (AK × AV)} {x : V} {xs : List (Key × V)} : VR K m H v x → VRk K m H l xs → VRk K m H ((k, v) :: l) ((akey k, x) :: xs)
end

def OR (K : PySem.W.Frag) (m : MM) (H : Hp) : HObj → Option HO → Prop
  | .lst l, ho => ∃ vs, ho = some (.lst vs) ∧ VRs K m H l vs
  | .dk l, ho => ∃ kvs, ho = some (.dK kvs) ∧ VRk K m H l kvs
structure Rel (K : PySem.W.Frag) (m : MM) (ah : AH) (H : Hp) : Prop where
  len : m.l.length = ah.length
  nd : m.l.Nodup
  obj : ∀ (n : Nat) (a : Addr) (o : HObj), m.l[n]? = some a → ah[n]? = some o → OR K m H o (H a)
  prot : ∀ a, a ∈ m.p → a ∉ m.l ∧ ∃ u, H a = some u ∧ stl u = false

/-- a dict may be closed for good -/
def Shut (H' : Hp) (a : Addr) (o : HO) : Prop := ∃ kvs od, o = .dK kvs ∧ H' a = some (.frz od (.dK kvs))
structure Ext (m : MM) (H : Hp) (m' : MM) (H' : Hp) : Prop where
  pre : ∃ t q, m' = ⟨m.l ++ t, q ++ m.p⟩
  keep : ∀ a o, H a = some o → a ∉ m → H' a = some o ∨ Shut H' a o
  still : ∀ a o, H a = some o → stl o = true → H' a = some o
  fresh : ∀ a, a ∈ m' → a ∈ m ∨ H a = none
  hold : ∀ a, a ∈ m.p → ∀ o, H a = some o → H' a = some o
theorem Ext.refl (m : MM) (H : Hp) : Ext m H m H := ⟨⟨[], [], by simp⟩, fun _ _ h _ => .inl h, fun _ _ h _ => h, fun _ h => .inl h, fun _ _ _ h => h⟩
theorem Ext.not {m m' : MM} {H H' : Hp} (e : Ext m H m' H') {a : Addr} {o : HO} (h : H a = some o) (hm : a ∉ m) : a ∉ m' := fun z => by
  rcases e.fresh a z with q | q
  · exact hm q
  · rw [h] at q; cases q
theorem Ext.trans {m m1 m2 : MM} {H H1 H2 : Hp} (a : Ext m H m1 H1) (b : Ext m1 H1 m2 H2) : Ext m H m2 H2 := by
  refine ⟨?_, fun x o h hm => ?_, fun x o h s => b.still x o (a.still x o h s) s, fun x hx => ?_, fun x hx o h => b.hold x ?_ o (a.hold x hx o h)⟩
  · obtain ⟨t, q, rfl⟩ := a.pre
    obtain ⟨u, q', rfl⟩ := b.pre
    exact ⟨t ++ u, q' ++ q, by simp⟩
  · rcases a.keep x o h hm with q | ⟨kvs, od, rfl, q⟩
    · exact b.keep x o q (a.not h hm)
    · exact .inr ⟨kvs, od, rfl, b.still _ _ q rfl⟩
  · by_cases q : x ∈ m
    · exact .inl q
    cases e : H x with
    | none => exact .inr rfl
    | some o =>
      rcases a.keep x o e q with k | ⟨kvs, od, rfl, k⟩
      · exact absurd hx (b.not k (a.not e q))
      · exact absurd hx (b.not k (a.not e q))
  · obtain ⟨t, q, rfl⟩ := a.pre
    exact List.mem_append_right _ hx
theorem Ext.sqN {K : PySem.W.Frag} {m m' : MM} {H H' : Hp} (e : Ext m H m' H') {a : Addr} {vs : List V} (h : SqN K H a vs) : SqN K H' a vs := by
  rcases h with ⟨o, h1, h⟩ | h
  · exact .inl ⟨o, h1, e.still _ _ h rfl⟩
  · exact .inr h
theorem Ext.sqT {K : PySem.W.Frag} {m m' : MM} {H H' : Hp} (e : Ext m H m' H') {a : Addr} {vs : List V} (h : SqT K H a vs) : SqT K H' a vs := by
  rcases h with (h | ⟨o, h⟩) | h
  · exact .inl (.inl (e.still _ _ h rfl))
  · exact .inl (.inr ⟨o, e.still _ _ h rfl⟩)
  · exact .inr h
theorem Ext.get {m m' : MM} {H H' : Hp} (e : Ext m H m' H') {n : Nat} {a : Addr} (h : m.l[n]? = some a) : m'.l[n]? = some a := by
  obtain ⟨t, q, rfl⟩ := e.pre
  show (m.l ++ t)[n]? = some a
  rw [List.getElem?_append_left (List.getElem?_eq_some_iff.mp h).1]
  exact h

/-- what a value's bearing needs to go over -/
structure Mv (m : MM) (H : Hp) (m' : MM) (H' : Hp) : Prop where
  get : ∀ (n : Nat) (a : Addr), m.l[n]? = some a → m'.l[n]? = some a
  keep : ∀ a o, H a = some o → a ∉ m → (H' a = some o ∨ Shut H' a o) ∧ a ∉ m'
  still : ∀ a o, H a = some o → stl o = true → H' a = some o
theorem Ext.mv {m m' : MM} {H H' : Hp} (e : Ext m H m' H') : Mv m H m' H' := ⟨fun _ _ h => e.get h, fun a o h hm => ⟨e.keep a o h hm, e.not h hm⟩, e.still⟩
theorem keep_ne {H' : Hp} {a : Addr} {o : HO} (h : H' a = some o ∨ Shut H' a o) (hn : ∀ kvs, o ≠ .dK kvs) : H' a = some o := h.elim id fun ⟨kvs, _, e, _⟩ => absurd e (hn kvs)
theorem keep_dk {H' : Hp} {a : Addr} {kvs : List (Key × V)} (h : H' a = some (.dK kvs) ∨ Shut H' a (.dK kvs)) : Rd H' a (.dK kvs) := h.elim .inl fun ⟨kvs', od, e, q⟩ => by cases e; exact .inr ⟨od, q⟩
section
variable {K : PySem.W.Frag} {m m' : MM} {H H' : Hp}
theorem Mv.rd (e : Mv m H m' H') {a : Addr} {kvs : List (Key × V)} (h : Rd H a (.dK kvs)) (hm : a ∉ m) : Rd H' a (.dK kvs) ∧ a ∉ m' := by
  rcases h with h | ⟨od, h⟩
  · exact ⟨keep_dk (e.keep _ _ h hm).1, (e.keep _ _ h hm).2⟩
  · exact ⟨.inr ⟨od, e.still _ _ h rfl⟩, (e.keep _ _ h hm).2⟩
theorem Mv.sqN (e : Mv m H m' H') {a : Addr} {vs : List V} (h : SqN K H a vs) : SqN K H' a vs := by
  rcases h with ⟨o, h1, h⟩ | h
  · exact .inl ⟨o, h1, e.still _ _ h rfl⟩
  · exact .inr h
theorem Mv.sqT (e : Mv m H m' H') {a : Addr} {vs : List V} (h : SqT K H a vs) : SqT K H' a vs := by
  rcases h with (h | ⟨o, h⟩) | h
  · exact .inl (.inl (e.still _ _ h rfl))
  · exact .inl (.inr ⟨o, e.still _ _ h rfl⟩)
  · exact .inr h
mutual
theorem VR.mv (e : Mv m H m' H') : ∀ {v : AV} {x : V}, VR K m H v x → VR K m' H' v x
  | _, _, .non => .non
  | _, _, .bl b => .bl b
  | _, _, .int i => .int i
  | _, _, .str s => .str s
  | _, _, .tup h r => .tup (e.sqN h) (VRs.mv e r)
  | _, _, .lst h hm r => .lst (keep_ne (e.keep _ _ h hm).1 fun _ z => nomatch z) (e.keep _ _ h hm).2 (VRs.mv e r)
  | _, _, .dk h hm r => .dk (e.rd h hm).1 (e.rd h hm).2 (VRk.mv e r)
  | _, _, .fl h r => .fl (h.imp (fun ⟨o, h⟩ => ⟨o, e.still _ _ h rfl⟩) id) (VRs.mv e r)
  | _, _, .ref h => .ref (e.get _ _ h)
  | _, _, .fn h => .fn h
theorem VRs.mv (e : Mv m H m' H') : ∀ {l : List AV} {xs : List V}, VRs K m H l xs → VRs K m' H' l xs
  | _, _, .nil => .nil
  | _, _, .cons h r => .cons (VR.mv e h) (VRs.mv e r)
theorem VRk.mv (e : Mv m H m' H') : ∀ {l : List (AK × AV)} {xs : List (Key × V)}, VRk K m H l xs → VRk K m' H' l xs
  | _, _, .nil => .nil
  | _, _, .cons h r => .cons (VR.mv e h) (VRk.mv e r)
end
theorem VR.mono (e : Ext m H m' H') {v : AV} {x : V} (h : VR K m H v x) : VR K m' H' v x := VR.mv e.mv h
theorem VRs.mono (e : Ext m H m' H') {v : List AV} {x : List V} (h : VRs K m H v x) : VRs K m' H' v x := VRs.mv e.mv h
theorem VRk.mono (e : Ext m H m' H') {v : List (AK × AV)} {x : List (Key × V)} (h : VRk K m H v x) : VRk K m' H' v x := VRk.mv e.mv h
theorem VRs.length : ∀ {l : List AV} {xs : List V}, VRs K m H l xs → l.length = xs.length
  | _, _, .nil => rfl
  | _, _, .cons _ r => by rw [List.length_cons, List.length_cons, VRs.length r]
theorem VRs.get : ∀ {l : List AV} {xs : List V}, VRs K m H l xs → ∀ {i : Nat} {v : AV}, l[i]? = some v → ∃ x, xs[i]? = some x ∧ VR K m H v x
  | _, _, .nil, i, v, h => by simp at h
  | _, _, .cons (x := x) h r, 0, v, e => by simp at e; subst e; exact ⟨x, rfl, h⟩
  | _, _, .cons h r, i + 1, v, e => by simpa using VRs.get r (i := i) (by simpa using e)
theorem VRs.getV : ∀ {l : List AV} {xs : List V}, VRs K m H l xs → ∀ {i : Nat} {x : V}, xs[i]? = some x → ∃ v, l[i]? = some v ∧ VR K m H v x
  | _, _, .nil, i, v, h => by simp at h
  | _, _, .cons (v := v) h r, 0, x, e => by simp at e; subst e; exact ⟨v, rfl, h⟩
  | _, _, .cons h r, i + 1, v, e => by simpa using VRs.getV r (i := i) (by simpa using e)
theorem VRs.append : ∀ {l l' : List AV} {xs ys : List V}, VRs K m H l xs → VRs K m H l' ys → VRs K m H (l ++ l') (xs ++ ys)
  | _, _, _, _, .nil, s => s
  | _, _, _, _, .cons h r, s => .cons h (VRs.append r s)
theorem VRs.take : ∀ {l : List AV} {xs : List V} (n : Nat), VRs K m H l xs → VRs K m H (l.take n) (xs.take n)
  | _, _, 0, _ => .nil
  | _, _, _ + 1, .nil => .nil
  | _, _, n + 1, .cons h r => .cons h (VRs.take n r)
theorem VRs.drop : ∀ {l : List AV} {xs : List V} (n : Nat), VRs K m H l xs → VRs K m H (l.drop n) (xs.drop n)
  | _, _, 0, r => r
  | _, _, _ + 1, .nil => .nil
  | _, _, n + 1, .cons _ r => VRs.drop n r
theorem VRs.set {v : AV} {x : V} (h : VR K m H v x) : ∀ {l : List AV} {xs : List V} (i : Nat), VRs K m H l xs → VRs K m H (l.set i v) (xs.set i x)
  | _, _, _, .nil => .nil
  | _, _, 0, .cons _ r => .cons h r
  | _, _, i + 1, .cons q r => .cons q (VRs.set h i r)
theorem VRs.dropLast : ∀ {l : List AV} {xs : List V}, VRs K m H l xs → VRs K m H l.dropLast xs.dropLast
  | _, _, .nil => .nil
  | _, _, .cons h .nil => .nil
  | _, _, .cons h (.cons h' r) => .cons h (VRs.dropLast (.cons h' r))
theorem VRs.reverse : ∀ {l : List AV} {xs : List V}, VRs K m H l xs → VRs K m H l.reverse xs.reverse
  | _, _, .nil => .nil
  | _, _, .cons h r => by
    rw [List.reverse_cons, List.reverse_cons]
    exact VRs.append (VRs.reverse r) (.cons h .nil)
theorem VRs.ints {ns : List Int} : VRs K m H (ns.map AV.int) (ns.map V.int) := by
  induction ns with
  | nil => exact .nil
  | cons n r ih => exact .cons (.int n) ih

/-- the heap grew by new things, or things that no object of ours is -/
theorem Ext.grow (h : ∀ a o, H a = some o → H' a = some o) : Ext m H m H' := ⟨⟨[], [], by simp⟩, fun a o q _ => .inl (h a o q), fun a o q _ => h a o q, fun _ q => .inl q, fun a _ o q => h a o q⟩
theorem Ext.new {p : Addr} {o : HO} (hp : H p = none) : Ext m H m (upd H p o) := Ext.grow fun a u h => by
  rw [upd_ne (ne_of_none h hp)]; exact h
theorem OR.mono {o : HObj} {ho : Option HO} (e : Ext m H m' H') (h : OR K m H o ho) : OR K m' H' o ho := by
  cases o with
  | lst l => obtain ⟨vs, h1, h2⟩ := h; exact ⟨vs, h1, h2.mono e⟩
  | dk l => obtain ⟨vs, h1, h2⟩ := h; exact ⟨vs, h1, h2.mono e⟩
theorem OR.mv {o : HObj} {ho : Option HO} (e : Mv m H m' H') (h : OR K m H o ho) : OR K m' H' o ho := by
  cases o with
  | lst l => obtain ⟨vs, h1, h2⟩ := h; exact ⟨vs, h1, h2.mv e⟩
  | dk l => obtain ⟨vs, h1, h2⟩ := h; exact ⟨vs, h1, h2.mv e⟩
theorem OR.some {o : HObj} {ho : Option HO} (h : OR K m H o ho) : ∃ u, ho = some u ∧ stl u = false := by
  cases o with
  | lst l => obtain ⟨vs, h1, h2⟩ := h; exact ⟨_, h1, rfl⟩
  | dk l => obtain ⟨vs, h1, h2⟩ := h; exact ⟨_, h1, rfl⟩
theorem Rel.at {ah : AH} (r : Rel K m ah H) {n : Nat} {a : Addr} (h : m.l[n]? = some a) : ∃ o, ah[n]? = some o ∧ OR K m H o (H a) := by
  have hl : n < ah.length := by rw [← r.len]; exact (List.getElem?_eq_some_iff.mp h).1
  exact ⟨ah[n], List.getElem?_eq_getElem hl, r.obj n a _ h (List.getElem?_eq_getElem hl)⟩
theorem Rel.at' {ah : AH} (r : Rel K m ah H) {n : Nat} {o : HObj} (h : ah[n]? = some o) : ∃ a, m.l[n]? = some a ∧ OR K m H o (H a) := by
  have hl : n < m.l.length := by rw [r.len]; exact (List.getElem?_eq_some_iff.mp h).1
  exact ⟨m.l[n], List.getElem?_eq_getElem hl, r.obj n _ o (List.getElem?_eq_getElem hl) h⟩
theorem Rel.mem {ah : AH} (r : Rel K m ah H) {a : Addr} (h : a ∈ m) : ∃ u, H a = some u ∧ stl u = false := by
  rcases h with h | h
  · obtain ⟨n, hn⟩ := List.getElem?_of_mem h
    obtain ⟨o, _, q⟩ := r.at hn
    exact q.some
  · exact (r.prot a h).2
theorem Rel.grow {ah : AH} (r : Rel K m ah H) (h : ∀ a o, H a = some o → H' a = some o) : Rel K m ah H' := by
  refine ⟨r.len, r.nd, fun n a o h1 h2 => ?_, fun a ha => ?_⟩
  · have q := r.obj n a o h1 h2
    obtain ⟨u, hu, _⟩ := q.some
    have q' := q.mono (Ext.grow (m := m) h)
    rw [h a u hu, ← hu]
    exact q'
  · obtain ⟨h1, u, h2, h3⟩ := r.prot a ha
    exact ⟨h1, u, h a u h2, h3⟩
theorem Rel.new {ah : AH} (r : Rel K m ah H) {p : Addr} {o : HO} (hp : H p = none) : Rel K m ah (upd H p o) := r.grow fun a u h => by
  rw [upd_ne (ne_of_none h hp)]; exact h
theorem Rel.notin {ah : AH} (r : Rel K m ah H) {p : Addr} (hp : H p = none) : p ∉ m := fun z => by
  obtain ⟨u, h, _⟩ := r.mem z
  rw [hp] at h; cases h
/-- a new object of ours -/
theorem Ext.alloc {p : Addr} {o : HO} (hp : H p = none) : Ext m H (m.add p) (upd H p o) := by
  refine ⟨⟨[p], [], rfl⟩, fun a u h _ => .inl ?_, fun a u h _ => ?_, fun a ha => ?_, fun a _ u h => ?_⟩
  · rw [upd_ne (ne_of_none h hp)]; exact h
  · rw [upd_ne (ne_of_none h hp)]; exact h
  · rcases ha with ha | ha
    · rcases List.mem_append.mp ha with q | q
      · exact .inl (.inl q)
      · simp at q; subst q; exact .inr hp
    · exact .inl (.inr ha)
  · rw [upd_ne (ne_of_none h hp)]; exact h
theorem Rel.alloc {ah : AH} (r : Rel K m ah H) {p : Addr} {o : HObj} {u : HO} (hp : H p = none) (ho : OR K (m.add p) (upd H p u) o (some u)) : Rel K (m.add p) (ah ++ [o]) (upd H p u) := by
  have hnm : p ∉ m := r.notin hp
  refine ⟨by simp [MM.add, r.len], ?_, fun n a o' h1 h2 => ?_, fun a ha => ?_⟩
  · show (m.l ++ [p]).Nodup
    rw [List.nodup_append]
    exact ⟨r.nd, by simp, fun a ha b hb => by simp at hb; subst hb; intro z; subst z; exact hnm (.inl ha)⟩
  · have h1 : (m.l ++ [p])[n]? = some a := h1
    by_cases hn : n < m.l.length
    · rw [List.getElem?_append_left hn] at h1
      rw [List.getElem?_append_left (by rw [← r.len]; exact hn)] at h2
      have q := r.obj n a o' h1 h2
      obtain ⟨w, hw, _⟩ := q.some
      have q' := q.mono (Ext.alloc (o := u) hp)
      rw [upd_ne (ne_of_none hw hp)]
      exact q'
    · have e : n = m.l.length := by
        have := (List.getElem?_eq_some_iff.mp h1).1
        simp at this; omega
      subst e
      rw [List.getElem?_append_right (Nat.le_refl _)] at h1
      rw [r.len, List.getElem?_append_right (Nat.le_refl _)] at h2
      simp at h1 h2
      subst h1; subst h2
      rw [upd_same]
      exact ho
  · obtain ⟨h1, w, h2, h3⟩ := r.prot a ha
    refine ⟨fun z => ?_, w, by rw [upd_ne (ne_of_none h2 hp)]; exact h2, h3⟩
    rcases List.mem_append.mp z with q | q
    · exact h1 q
    · simp at q; subst q; rw [hp] at h2; cases h2
/-- an object of ours is written -/
theorem Ext.write {ah : AH} (r : Rel K m ah H) {a : Addr} {u : HO} (ha : a ∈ m.l) : Ext m H m (upd H a u) := by
  refine ⟨⟨[], [], by simp⟩, fun b o h hb => .inl ?_, fun b o h s => ?_, fun b hb => .inl hb, fun b hb o h => ?_⟩
  · rw [upd_ne (fun z => hb (by rw [z]; exact .inl ha))]; exact h
  · rw [upd_ne (fun z => ?_)]
    · exact h
    · subst z
      obtain ⟨w, hw, sw⟩ := r.mem (.inl ha)
      rw [h] at hw; cases hw
      rw [s] at sw; cases sw
  · rw [upd_ne (fun z => by subst z; exact (r.prot b hb).1 ha)]; exact h
theorem Rel.write {ah : AH} (r : Rel K m ah H) {n : Nat} {a : Addr} {o : HObj} {u : HO} (ha : m.l[n]? = some a) (hu : stl u = false) (ho : OR K m (upd H a u) o (some u)) : Rel K m (ah.set n o) (upd H a u) := by
  refine ⟨by rw [List.length_set]; exact r.len, r.nd, fun k b o' h1 h2 => ?_, fun b hb => ?_⟩
  · by_cases hk : k = n
    · subst hk
      rw [ha] at h1; cases h1
      rw [List.getElem?_set_self (by rw [← r.len]; exact (List.getElem?_eq_some_iff.mp ha).1)] at h2
      cases h2
      rw [upd_same]
      exact ho
    · rw [List.getElem?_set_ne (Ne.symm hk)] at h2
      have hb : b ≠ a := fun z => by
        subst z
        have h3 := (List.getElem?_eq_some_iff.mp h1)
        have h4 := (List.getElem?_eq_some_iff.mp ha)
        obtain ⟨l1, e1⟩ := h3
        obtain ⟨l2, e2⟩ := h4
        exact hk ((List.getElem_inj r.nd).mp (e1.trans e2.symm))
      rw [upd_ne hb]
      exact (r.obj k b o' h1 h2).mono (Ext.write r (List.mem_of_getElem? ha))
  · obtain ⟨h1, w, h2, h3⟩ := r.prot b hb
    exact ⟨h1, w, by rw [upd_ne (fun z => by subst z; exact h1 (List.mem_of_getElem? ha))]; exact h2, h3⟩

/-- a dict that is nobody's is closed -/
theorem Ext.shut {a : Addr} {kvs : List (Key × V)} {od : Obj} (h : H a = some (.dK kvs)) (ha : a ∉ m) : Ext m H m (upd H a (.frz od (.dK kvs))) := by
  refine ⟨⟨[], [], by simp⟩, fun b o hb _ => ?_, fun b o hb s => ?_, fun b hb => .inl hb, fun b hb o h2 => ?_⟩
  · by_cases z : b = a
    · subst z; rw [h] at hb; cases hb
      exact .inr ⟨kvs, od, rfl, upd_same⟩
    · rw [upd_ne z]; exact .inl hb
  · rw [upd_ne (fun z => by subst z; rw [h] at hb; cases hb; cases s)]; exact hb
  · rw [upd_ne (fun z => by subst z; exact ha (.inr hb))]; exact h2
theorem Rel.shut {ah : AH} (r : Rel K m ah H) {a : Addr} {kvs : List (Key × V)} {od : Obj} (h : H a = some (.dK kvs)) (ha : a ∉ m) : Rel K m ah (upd H a (.frz od (.dK kvs))) := by
  refine ⟨r.len, r.nd, fun n b o h1 h2 => ?_, fun b hb => ?_⟩
  · rw [upd_ne (fun z => ha (by rw [← z]; exact .inl (List.mem_of_getElem? h1)))]
    exact (r.obj n b o h1 h2).mono (Ext.shut h ha)
  · obtain ⟨h1, u, h2, h3⟩ := r.prot b hb
    exact ⟨h1, u, by rw [upd_ne (fun z => by subst z; exact ha (.inr hb))]; exact h2, h3⟩
def EnvR (K : PySem.W.Frag) (m : MM) (H : Hp) (env : Env) (σ : L2.St) : Prop := env.length = σ.length ∧ ∀ (i : Nat) (v : AV), env[i]? = some (some v) → ∃ x : V, σ[i]? = some (some x) ∧ VR K m H v x
theorem EnvR.mono {env : Env} {σ : L2.St} (e : Ext m H m' H') (h : EnvR K m H env σ) : EnvR K m' H' env σ := ⟨h.1, fun i v q => by
  obtain ⟨x, h1, h2⟩ := h.2 i v q
  exact ⟨x, h1, h2.mono e⟩⟩
theorem EnvR.mv {env : Env} {σ : L2.St} (e : Mv m H m' H') (h : EnvR K m H env σ) : EnvR K m' H' env σ := ⟨h.1, fun i v q => by
  obtain ⟨x, h1, h2⟩ := h.2 i v q
  exact ⟨x, h1, h2.mv e⟩⟩
theorem EnvR.set {env : Env} {σ : L2.St} (h : EnvR K m H env σ) {v : AV} {x : V} (i : Nat) (r : VR K m H v x) : EnvR K m H (env.set i (some v)) (σ.set i (some x)) := by
  refine ⟨by rw [List.length_set, List.length_set]; exact h.1, fun j w q => ?_⟩
  by_cases hj : i = j
  · subst hj
    by_cases hl : i < env.length
    · rw [List.getElem?_set_self hl] at q
      have q' : v = w := by simpa using q
      subst q'
      exact ⟨x, List.getElem?_set_self (by rw [← h.1]; exact hl), r⟩
    · rw [List.getElem?_eq_none (by rw [List.length_set]; omega)] at q; cases q
  · rw [List.getElem?_set_ne hj] at q
    rw [List.getElem?_set_ne hj]
    exact h.2 j w q
def wipeE (env : Env) : List Nat → Env
  | [] => env
  | v :: vs => (wipeE env vs).set v none
theorem EnvR.unset {env : Env} {σ : L2.St} (h : EnvR K m H env σ) (i : Nat) : EnvR K m H (env.set i none) (σ.set i none) := by
  refine ⟨by rw [List.length_set, List.length_set]; exact h.1, fun j w q => ?_⟩
  by_cases hj : i = j
  · subst hj
    by_cases hl : i < env.length
    · rw [List.getElem?_set_self hl] at q; cases q
    · rw [List.getElem?_eq_none (by rw [List.length_set]; omega)] at q; cases q
  · rw [List.getElem?_set_ne hj] at q
    rw [List.getElem?_set_ne hj]
    exact h.2 j w q
theorem EnvR.wipe {env : Env} {σ : L2.St} (h : EnvR K m H env σ) : ∀ vs : List Nat, EnvR K m H (wipeE env vs) (L2.wipe σ vs)
  | [] => h
  | v :: vs => by
    unfold wipeE L2.wipe
    exact (EnvR.wipe h vs).unset v
end

/-- an error of an own class, without fields or with an own dict that holds them -/
def XR (K : PySem.W.Frag) (mg : Str → Option Value) (m : MM) (H : Hp) (e : EV) (cls : Value) (d : Option Addr) : Prop :=
  mg e.cls = some cls ∧ ((e.fs = [] ∧ d = none) ∨ ∃ dd fs, e.fs ≠ [] ∧ d = some dd ∧ H dd = some (.xd fs) ∧ dd ∉ m ∧ ∀ f v, e.fs.lookup f = some v → ∃ x, fs.lookup f = some x ∧ VR K m H v x)
theorem XR.mono {K : PySem.W.Frag} {mg : Str → Option Value} {m m' : MM} {H H' : Hp} {e : EV} {cls : Value} {d : Option Addr} (x : Ext m H m' H') (h : XR K mg m H e cls d) : XR K mg m' H' e cls d := by
  refine ⟨h.1, h.2.imp id fun ⟨dd, fs, h0, h1, h2, h3, h4⟩ => ⟨dd, fs, h0, h1, keep_ne (x.keep _ _ h2 h3) (fun _ z => nomatch z), x.not h2 h3, fun f v hf => ?_⟩⟩
  obtain ⟨y, hy, r⟩ := h4 f v hf
  exact ⟨y, hy, r.mono x⟩
def PQ (K : PySem.W.Frag) (m : MM) (H : Hp) (Q : VK) : AV → AH → Prop := fun v ah' => ∀ m' H' x, Ext m H m' H' → Rel K m' ah' H' → VR K m' H' v x → Q x H'
def PB {β : Type} (K : PySem.W.Frag) (m : MM) (H : Hp) (Q : β → Hp → Prop) : β → AH → Prop := fun v ah' => ∀ m' H', Ext m H m' H' → Rel K m' ah' H' → Q v H'
def PL (K : PySem.W.Frag) (m : MM) (H : Hp) (Q : List V → Hp → Prop) : List AV → AH → Prop := fun l ah' => ∀ m' H' xs, Ext m H m' H' → Rel K m' ah' H' → VRs K m' H' l xs → Q xs H'
def PX (K : PySem.W.Frag) (mg : Str → Option Value) (m : MM) (H : Hp) (E : XK) : EV → AH → Prop := fun e ah' => ∀ m' H' cls d, Ext m H m' H' → Rel K m' ah' H' → XR K mg m' H' e cls d → E cls d H'
section
variable {K : PySem.W.Frag} {mg : Str → Option Value} {m m1 : MM} {H H1 : Hp}
theorem Res.post_imp {α : Type} {r : Res α} {P P' : α → AH → Prop} {E E' : EV → AH → Prop} (h : r.post P E) (hp : ∀ a ah, r = .ok a ah → P a ah → P' a ah) (he : ∀ e ah, E e ah → E' e ah) : r.post P' E' := by
  cases r with
  | ok a ah => exact hp a ah rfl h
  | exc e ah => exact he e ah h
  | bad => exact h
theorem PQ.mono {Q : VK} {v : AV} {ah : AH} (e : Ext m H m1 H1) (h : PQ K m H Q v ah) : PQ K m1 H1 Q v ah := fun m' H' x e' => h m' H' x (e.trans e')
theorem PB.mono {β : Type} {Q : β → Hp → Prop} {v : β} {ah : AH} (e : Ext m H m1 H1) (h : PB K m H Q v ah) : PB K m1 H1 Q v ah := fun m' H' e' => h m' H' (e.trans e')
theorem PL.mono {Q : List V → Hp → Prop} {v : List AV} {ah : AH} (e : Ext m H m1 H1) (h : PL K m H Q v ah) : PL K m1 H1 Q v ah := fun m' H' xs e' => h m' H' xs (e.trans e')
theorem PX.mono {E : XK} {v : EV} {ah : AH} (e : Ext m H m1 H1) (h : PX K mg m H E v ah) : PX K mg m1 H1 E v ah := fun m' H' c d e' => h m' H' c d (e.trans e')
end

abbrev GE := Env → AH → Res AV
abbrev GT := Env → AH → Res Bool
abbrev GA := Env → AH → Res (List AV)
section
variable (X : Cx) (W : WX)
def tG (f : GE) : TE := fun σ H Q => ∃ m env ah, EnvR X.K m H env σ ∧ Rel X.K m ah H ∧ (f env ah).post (PQ X.K m H Q) (PX X.K X.mg m H fun c d H' => W c d σ H')
def tGT (f : GT) : TT := fun σ H Q => ∃ m env ah, EnvR X.K m H env σ ∧ Rel X.K m ah H ∧ (f env ah).post (PB X.K m H Q) (PX X.K X.mg m H fun c d H' => W c d σ H')
def tGA (f : GA) : TA := fun σ H Q => ∃ m env ah, EnvR X.K m H env σ ∧ Rel X.K m ah H ∧ (f env ah).post (PL X.K m H Q) (PX X.K X.mg m H fun c d H' => W c d σ H')
end
/-- where one stands: room, no guards, calm, what is raised is taken -/
structure XG (X : Cx) (W : WX) (k : Nat) : Prop where
  room : Room k X.A
  gd : X.A.guards = some []
  calm : X.calm = true
  tk : Takes X W
  po : PassesOwn (model X.prog X.w) X.A X.env X.xe
theorem XG.mono {X : Cx} {W : WX} {j k : Nat} (h : XG X W k) (hj : j ≤ k) : XG X W j := ⟨h.room.mono hj, h.gd, h.calm, h.tk, h.po⟩

theorem PE.weak {X : Cx} {e : Expr} {t t' : TE} (h : PE X e t) (w : ∀ σ H Q, t' σ H Q → t σ H Q) : PE X e t' := ⟨fun pins s σ H Q I q => h.run pins s σ H Q I (w σ H Q q)⟩
theorem PT.weak {X : Cx} {e : Expr} {t t' : TT} (h : PT X e t) (w : ∀ σ H Q, t' σ H Q → t σ H Q) : PT X e t' := ⟨fun pins s σ H Q I q => h.run pins s σ H Q I (w σ H Q q)⟩
theorem PA.weak {X : Cx} {es : List Expr} {t t' : TA} (h : PA X es t) (w : ∀ σ H Q, t' σ H Q → t σ H Q) : PA X es t' := ⟨fun pos pins s σ H Q I q => h.run pos pins s σ H Q I (w σ H Q q)⟩
theorem PS.weak {X : Cx} {st : Stmt} {t t' : TS} (h : PS X st t) (w : ∀ D σ H, t' D σ H → t D σ H) : PS X st t' := ⟨fun pins s σ H D I q => h.run pins s σ H D I (w D σ H q)⟩
theorem PSs.weak {X : Cx} {st : List Stmt} {t t' : TS} (h : PSs X st t) (w : ∀ D σ H, t' D σ H → t D σ H) : PSs X st t' := ⟨fun pins s σ H D I q => h.run pins s σ H D I (w D σ H q)⟩

section
variable {X : Cx} {W : WX} {m : MM} {H : Hp} {env : Env} {ah : AH} {σ : L2.St}
/-- one expression ahead of what follows -/
theorem tG_step {β : Type} {f : GE} {k : AV → AH → Res β} {P : β → AH → Prop} {E : EV → AH → Prop} {Q : VK} (hE : EnvR X.K m H env σ) (hR : Rel X.K m ah H) (h : (rb (f env ah) k).post P E)
    (hx : ∀ e ah1, E e ah1 → PX X.K X.mg m H (fun c d H' => W c d σ H') e ah1)
    (hk : ∀ v ah1 m1 H1 x, Ext m H m1 H1 → Rel X.K m1 ah1 H1 → VR X.K m1 H1 v x → (k v ah1).post P E → Q x H1) : tG X W f σ H Q := by
  refine ⟨m, env, ah, hE, hR, ?_⟩
  cases e : f env ah with
  | ok v ah1 =>
    rw [e] at h
    exact fun m1 H1 x e1 r1 v1 => hk v ah1 m1 H1 x e1 r1 v1 h
  | exc x ah1 =>
    rw [e] at h
    exact hx x ah1 h
  | bad =>
    rw [e] at h
    exact h
theorem tGT_step {β : Type} {f : GT} {k : Bool → AH → Res β} {P : β → AH → Prop} {E : EV → AH → Prop} {Q : Bool → Hp → Prop} (hE : EnvR X.K m H env σ) (hR : Rel X.K m ah H) (h : (rb (f env ah) k).post P E)
    (hx : ∀ e ah1, E e ah1 → PX X.K X.mg m H (fun c d H' => W c d σ H') e ah1)
    (hk : ∀ v ah1 m1 H1, Ext m H m1 H1 → Rel X.K m1 ah1 H1 → (k v ah1).post P E → Q v H1) : tGT X W f σ H Q := by
  refine ⟨m, env, ah, hE, hR, ?_⟩
  cases e : f env ah with
  | ok v ah1 =>
    rw [e] at h
    exact fun m1 H1 e1 r1 => hk v ah1 m1 H1 e1 r1 h
  | exc x ah1 =>
    rw [e] at h
    exact hx x ah1 h
  | bad =>
    rw [e] at h
    exact h
theorem tGA_step {β : Type} {f : GA} {k : List AV → AH → Res β} {P : β → AH → Prop} {E : EV → AH → Prop} {Q : List V → Hp → Prop} (hE : EnvR X.K m H env σ) (hR : Rel X.K m ah H) (h : (rb (f env ah) k).post P E)
    (hx : ∀ e ah1, E e ah1 → PX X.K X.mg m H (fun c d H' => W c d σ H') e ah1)
    (hk : ∀ v ah1 m1 H1 x, Ext m H m1 H1 → Rel X.K m1 ah1 H1 → VRs X.K m1 H1 v x → (k v ah1).post P E → Q x H1) : tGA X W f σ H Q := by
  refine ⟨m, env, ah, hE, hR, ?_⟩
  cases e : f env ah with
  | ok v ah1 =>
    rw [e] at h
    exact fun m1 H1 x e1 r1 v1 => hk v ah1 m1 H1 x e1 r1 v1 h
  | exc x ah1 =>
    rw [e] at h
    exact hx x ah1 h
  | bad =>
    rw [e] at h
    exact h
end

def gVar (i : Nat) : GE := fun env ah => match env[i]? with
  | some (some v) => .ok v ah
  | _ => .bad
def gC (v : AV) : GE := fun _ ah => .ok v ah
section
variable {X : Cx} {W : WX}
theorem ge_var (i : Nat) {x : Str} {pos : Pos} (hN : X.N[i]? = some x := by rfl) (hv : Vis X.env.scope x := by first | exact Or.inl rfl | exact Or.inr (Or.inl rfl) | exact Or.inr (Or.inr rfl)) (hd : (x == ("__debug__" : Str)) = false := by decide)
    (hcd : (x == ("__classdict__" : Str)) = false := by decide) : PE X (.Name x pos) (tG X W (gVar i)) :=
  PE.weak (pe_var hN hv hd hcd) fun σ H Q ⟨m, env, ah, hE, hR, h⟩ => by
    unfold gVar at h
    cases e : env[i]? with
    | none => rw [e] at h; exact h.elim
    | some o =>
      rw [e] at h
      cases o with
      | none => exact h.elim
      | some v =>
        obtain ⟨x, hx, r⟩ := hE.2 i v e
        exact ⟨x, hx, h m H x (Ext.refl m H) hR r⟩
theorem ge_const {e : Expr} {x : V} (v : AV) (h : PE X e (tC x)) (r : ∀ m H, VR X.K m H v x) : PE X e (tG X W (gC v)) :=
  PE.weak h fun σ H Q ⟨m, env, ah, hE, hR, h⟩ => h m H x (Ext.refl m H) hR (r m H)
theorem ge_int {i j pos} : PE X (.Constant (.int i) j pos) (tG X W (gC (.int i))) := ge_const _ pe_int fun _ _ => .int i
theorem ge_bl {b j pos} : PE X (.Constant (.bool b) j pos) (tG X W (gC (.bl b))) := ge_const _ pe_bl fun _ _ => .bl b
theorem ge_non {j pos} : PE X (.Constant .none j pos) (tG X W (gC .non)) := ge_const _ pe_non fun _ _ => .non
theorem ge_str {x j pos} (s : List Nat) (h : x = mkS s := by decide +kernel) : PE X (.Constant (.str x) j pos) (tG X W (gC (.str s))) := ge_const _ pe_str fun _ _ => by rw [h]; exact .str s
end
/-- a tuple's object -/
def tob (us : List Value) : Obj := { cls := .type "tuple", data := .seq us.toArray }
/-- a new tuple of these stands at p -/
def NewT (Q : VK) (H : Hp) (xs : List V) : Prop := ∀ (p : Addr) (o : Obj), o.dict = none → H p = none → Q (.ref p) (upd H p (.frz o (.tup xs)))
section
variable {X : Cx} {pins : List (Addr × Obj)} {σ : L2.St} {H : Hp} {s : Shared}
theorem new_tup (I : Inv X pins σ H s) {Q : VK} {xs : List V} {us : List Value} (r : Vals xs us) (hz : xs.length ≤ sizeLine) (q : NewT Q H xs) : ∃ x H', Inv X pins σ H' { s with heap := s.heap.push (tob us) } ∧ RelV x (.ref s.heap.objs.size) ∧ Q x H' := by
  have new : ObjOk X.prog X.w (upd H s.heap.objs.size (.frz (tob us) (.tup xs))) (s.heap.push (tob us)) s.heap.objs.size (.frz (tob us) (.tup xs)) :=
    ⟨Heap.get?_push_size _ rfl, hz, us, r, ⟨_, Heap.get?_push_size _ rfl, rfl, _, rfl⟩⟩
  exact ⟨.ref s.heap.objs.size, _, I.laid (t' := s.toks) (o := .frz (tob us) (.tup xs)) (fun b ob q => Heap.get?_push_of_some _ q) (Nat.le_refl _) new, rfl, q _ _ rfl (I.hok.fresh (Nat.le_refl _))⟩
/-- (a, b, ..) -/
def tTupN (t : TA) : TE := fun σ H Q => t σ H fun xs H1 => xs.length ≤ sizeLine ∧ NewT Q H1 xs
theorem pe_tupN {es : List Expr} {t : TA} {pos : Pos} {c : Nat} (h : PA X es t) : PE X (.Tuple es c pos) (tTupN t) := by
  refine ⟨fun pins s σ H Q I hq => ?_⟩
  refine wpAny_Tuple_spliced (thn (h.run pos pins s σ H _ I hq) fun us s1 ⟨xs, H1, I1, r, z, q⟩ => ⟨by rw [← r.length]; exact z, ?_⟩)
  exact new_tup I1 r z q
/-- tuple(x) of a list, of a tuple -/
theorem call_tupN : CallR X (.type "tuple") (fun xs H Q => ∃ p ys, xs = [.ref p] ∧ ((SqL X.K H p ys ∧ NewT Q H ys) ∨ (SqT X.K H p ys ∧ Q (.ref p) H))) := by
  intro pins s σ H xs us Q I r h
  obtain ⟨p, ys, rfl, h⟩ := h
  obtain ⟨u, rfl, rx⟩ := vals1 r
  cases rx
  rcases h with ⟨hl, q⟩ | ⟨ht, q⟩
  · obtain ⟨its, rv, pl, hz⟩ := I.list hl
    have hn := rv.length
    refine call_tuple_list pl.isList (fun h' kp => ?_) (by simp only [List.size_toArray]; omega)
    exact new_tup (I.kept (t' := s.toks) kp : Inv X pins σ H { s with heap := h' }) rv hz q
  · obtain ⟨its, rv, pl, _⟩ := I.tuple ht
    exact call_tuple_same pl ⟨.ref p, H, I, rfl, q⟩
/-- t + u -/
def rCatN (K : PySem.W.Frag) : R2 := fun x y H Q => ∃ a b xs ys, x = .ref a ∧ y = .ref b ∧ SqT K H a xs ∧ SqT K H b ys ∧ xs.length + ys.length ≤ sizeLine ∧ (xs = [] → Q (.ref b) H) ∧ (xs ≠ [] → ys = [] → Q (.ref a) H) ∧ (xs ≠ [] → ys ≠ [] → NewT Q H (xs ++ ys))
theorem op_catN : OpR X (binaryOp .Add) (rCatN X.K) := by
  intro pins s σ H x y v u Q I rx ry h
  obtain ⟨a, b, xs, ys, rfl, rfl, ha, hb, hz, q0, q1, q2⟩ := h
  cases rx
  cases ry
  obtain ⟨us, r1, p1, _⟩ := I.tuple ha
  obtain ⟨ws, r2, p2, _⟩ := I.tuple hb
  by_cases hx : xs = []
  · subst hx
    cases r1
    exact cat_tup0 p1 p2 ⟨.ref b, H, I, rfl, q0 rfl⟩
  · refine HT.cat_tup p1 p2 (fun z => hx (r1.nil_iff.mp z)) (fun z => ⟨.ref a, H, I, rfl, q1 hx (r2.nil_iff.mp z)⟩) (fun z => ?_) (by rw [← r1.length, ← r2.length]; exact hz)
    exact new_tup I (r1.append r2) (by rw [List.length_append]; exact hz) (q2 hx fun w => z (r2.nil_iff.mpr w))
/-- t[lo:hi] -/
def rSlN (K : PySem.W.Frag) : V → Option Int → Option Int → Hp → VK → Prop := fun x lo hi H Q => ∃ a xs, x = .ref a ∧ SqT K H a xs ∧
  (HT.sIx xs.length 0 lo = 0 ∧ HT.sIx xs.length xs.length hi = xs.length → Q (.ref a) H) ∧ (¬ (HT.sIx xs.length 0 lo = 0 ∧ HT.sIx xs.length xs.length hi = xs.length) → NewT Q H (cutV xs lo hi))
theorem sl_tupN : SlR X (rSlN X.K) := by
  intro pins s σ H x v vl vu lo hi sl Q I rx hs pl pu h
  obtain ⟨a, xs, rfl, hx, q1, q2⟩ := h
  cases rx
  obtain ⟨us, r, ht, hz⟩ := I.tuple hx
  have hn : us.toArray.size = xs.length := by rw [List.size_toArray]; exact r.length.symm
  refine ⟨"tuple", _, PyProof.Rows.slot_tuple_getitem.lookup, ht.typeIs, ?_⟩
  by_cases hw : HT.sIx xs.length 0 lo = 0 ∧ HT.sIx xs.length xs.length hi = xs.length
  · exact getItem_tuple_whole ht hs pl pu (by rw [hn]; exact hw) ⟨.ref a, H, I, rfl, q1 hw⟩
  · refine HT.getItem_tuple_cut ht hs pl pu (by rw [hn]; exact hw) ?_ (by rw [hn]; exact hz)
    rw [hn]
    exact new_tup I ((r.drop (HT.sIx xs.length 0 lo)).take (HT.sIx xs.length xs.length hi - HT.sIx xs.length 0 lo)) (Nat.le_trans (cutV_length xs lo hi) hz) (q2 hw)
end
end G
namespace G
open PySem PySem.Spec L2
set_option autoImplicit false

theorem lim_line {n : Nat} (h : n ≤ 1000000) : n ≤ sizeLine := Nat.le_trans h (by decide)
@[simp] theorem mkS_length (s : List Nat) : (mkS s).length = s.length := by simp [mkS, Str.length]
@[simp] theorem mkS_list (s : List Nat) : (mkS s).cps.toList = s := by simp [mkS]
theorem mkS_app (s t : List Nat) : mkS s ++ mkS t = mkS (s ++ t) := by
  show Str.append (mkS s) (mkS t) = _
  simp [mkS, Str.append]
theorem mkS_inj {s t : List Nat} (h : mkS s = mkS t) : s = t := by
  have := congrArg (fun z => z.cps.toList) h
  simpa using this

mutual
def eqA : AV → AV → Bool
  | .non, .non => true
  | .bl a, .bl b => a == b
  | .bl a, .int j => (if a then 1 else 0) == j
  | .int i, .bl b => i == (if b then 1 else 0)
  | .int i, .int j => decide (i = j)
  | .str a, .str b => decide (a = b)
  | .tup a, .tup b => eqAs a b
  | .lst a, .lst b => eqAs a b
  | _, _ => false
def eqAs : List AV → List AV → Bool
  | [], [] => true
  | x :: xs, y :: ys => eqA x y && eqAs xs ys
  | _, _ => false
end
mutual
/-- data that == takes: no dicts, no refs; texts of signs -/
def okA : AV → Bool
  | .non => true
  | .bl _ => true
  | .int _ => true
  | .str s => s.all (· < 0x110000)
  | .tup l => okAs l
  | .lst l => okAs l
  | _ => false
def okAs : List AV → Bool
  | [] => true
  | x :: xs => okA x && okAs xs
end
mutual
def depthA : AV → Nat
  | .tup l => depthAs l + 1
  | .lst l => depthAs l + 1
  | _ => 0
def depthAs : List AV → Nat
  | [] => 0
  | x :: xs => max (depthA x) (depthAs xs)
end
def keyD : AK → PyData
  | .inl i => .int i
  | .inr s => .str (mkS s)
mutual
def toD : AV → PyData
  | .non => .none
  | .bl b => .bool b
  | .int i => .int i
  | .str s => .str (mkS s)
  | .tup l => .tuple (toDs l)
  | .lst l => .list (toDs l)
  | .dk l => .dict (toDk l)
  | .fl l => .list (toDs l)
  | .ref _ => .none
  | .fn _ => .none
def toDs : List AV → List PyData
  | [] => []
  | x :: xs => toD x :: toDs xs
def toDk : List (AK × AV) → List (PyData × PyData)
  | [] => []
  | (k, v) :: r => (keyD k, toD v) :: toDk r
end
theorem strOk_mkS (s : List Nat) : PyData.strOk (mkS s) = s.all (· < 0x110000) := by simp [PyData.strOk, mkS]
mutual
theorem okA_lay : ∀ v : AV, okA v = true → (toD v).canLay0 = true
  | .non, _ => rfl
  | .bl _, _ => rfl
  | .int _, _ => rfl
  | .str s, h => by show PyData.strOk _ = true; rw [strOk_mkS]; exact h
  | .tup l, h => okAs_lay l h
  | .lst l, h => okAs_lay l h
theorem okAs_lay : ∀ l : List AV, okAs l = true → PyData.canLayAll0 (toDs l) = true
  | [], _ => rfl
  | x :: xs, h => by
    have h : (okA x && okAs xs) = true := h
    rw [Bool.and_eq_true] at h
    show (_ && _) = true
    rw [okA_lay x h.1, okAs_lay xs h.2]; rfl
end
mutual
theorem okA_depth : ∀ v : AV, okA v = true → (toD v).depth = depthA v
  | .non, _ => rfl
  | .bl _, _ => rfl
  | .int _, _ => rfl
  | .str s, h => rfl
  | .tup l, h => by
    show PyData.depthAll (toDs l) + 1 = depthAs l + 1
    rw [okAs_depth l h]
  | .lst l, h => by
    show PyData.depthAll (toDs l) + 1 = depthAs l + 1
    rw [okAs_depth l h]
theorem okAs_depth : ∀ l : List AV, okAs l = true → PyData.depthAll (toDs l) = depthAs l
  | [], _ => rfl
  | x :: xs, h => by
    have h : (okA x && okAs xs) = true := h
    rw [Bool.and_eq_true] at h
    show max _ _ = max _ _
    rw [okA_depth x h.1, okAs_depth xs h.2]
end
mutual
theorem okA_eqv : ∀ v w : AV, okA v = true → okA w = true → PyData.eqv (toD v) (toD w) = eqA v w
  | .tup l, .tup l', h, h' => okAs_eqv l l' h h'
  | .lst l, .lst l', h, h' => okAs_eqv l l' h h'
  | .str s, .str t, _, _ => by
    show (mkS s == mkS t) = decide (s = t)
    by_cases e : s = t
    · subst e; simp
    · rw [decide_eq_false e, beq_eq_false_iff_ne]; exact fun z => e (mkS_inj z)
  | .int i, .int j, _, _ => by
    show (i == j) = decide (i = j)
    exact Bool.beq_eq_decide_eq i j
  | .non, w, _, h' => by cases w <;> first | rfl | exact absurd h' (by simp [okA])
  | .bl b, w, _, h' => by cases w <;> first | rfl | exact absurd h' (by simp [okA])
  | .int i, .non, _, h' => rfl
  | .int i, .bl _, _, h' => rfl
  | .int i, .str _, _, h' => rfl
  | .int i, .tup _, _, h' => rfl
  | .int i, .lst _, _, h' => rfl
  | .str i, .non, _, h' => rfl
  | .str i, .bl _, _, h' => rfl
  | .str i, .int _, _, h' => rfl
  | .str i, .tup _, _, h' => rfl
  | .str i, .lst _, _, h' => rfl
  | .tup i, .non, _, h' => rfl
  | .tup i, .bl _, _, h' => rfl
  | .tup i, .int _, _, h' => rfl
  | .tup i, .str _, _, h' => rfl
  | .tup i, .lst _, _, h' => rfl
  | .lst i, .non, _, h' => rfl
  | .lst i, .bl _, _, h' => rfl
  | .lst i, .int _, _, h' => rfl
  | .lst i, .str _, _, h' => rfl
  | .lst i, .tup _, _, h' => rfl
theorem okAs_eqv : ∀ v w : List AV, okAs v = true → okAs w = true → PyData.eqvAll (toDs v) (toDs w) = eqAs v w
  | [], [], _, _ => rfl
  | [], _ :: _, _, _ => rfl
  | _ :: _, [], _, _ => rfl
  | x :: xs, y :: ys, h, h' => by
    have h : (okA x && okAs xs) = true := h
    have h' : (okA y && okAs ys) = true := h'
    rw [Bool.and_eq_true] at h h'
    show (_ && _) = (_ && _)
    rw [okA_eqv x y h.1 h'.1, okAs_eqv xs ys h.2 h'.2]
end
section
variable {K : PySem.W.Frag} {m : MM} {H : Hp}
mutual
theorem VR.dp : ∀ (v : AV) (x : V), VR K m H v x → okA v = true → Dp K H x (toD v)
  | .non, x, h, _ => by cases h; exact .non
  | .bl b, x, h, _ => by cases h; exact .bl b
  | .int i, x, h, _ => by cases h; exact .int i
  | .str s, x, h, _ => by cases h; exact .str _
  | .tup l, x, h, ok => by
    cases h with
    | tup h r => exact .tup h (VRs.dp l _ r ok)
  | .lst l, x, h, ok => by
    cases h with
    | lst h _ r => exact .lst (SqL.of h) (VRs.dp l _ r ok)
  | .dk l, x, h, ok => nomatch ok
  | .fl l, x, h, ok => nomatch ok
  | .ref l, x, h, ok => nomatch ok
  | .fn l, x, h, ok => nomatch ok
theorem VRs.dp : ∀ (l : List AV) (xs : List V), VRs K m H l xs → okAs l = true → DpAll K H xs (toDs l)
  | [], xs, h, _ => by cases h; exact .nil
  | v :: l, xs, h, ok => by
    cases h with
    | cons h r =>
      have ok : (okA v && okAs l) = true := ok
      rw [Bool.and_eq_true] at ok
      exact .cons (VR.dp v _ h ok.1) (VRs.dp l _ r ok.2)
end
end
def objV : HObj → AV
  | .lst l => .lst l
  | .dk l => .dk l
/-- a list of ours as the list that it is now -/
def dr (ah : AH) : AV → AV
  | .ref n => match ah[n]? with
    | some o => objV o
    | none => .ref n
  | v => v
theorem dr_ref {ah : AH} {n : Nat} {o : HObj} (h : ah[n]? = some o) : dr ah (.ref n) = objV o := by
  show (match ah[n]? with | some o => objV o | none => .ref n) = _
  rw [h]
def shA (v : AV) : Bool := okA v && decide (depthA v ≤ 64)
theorem VR.drD {K : PySem.W.Frag} {m : MM} {H : Hp} {ah : AH} {v : AV} {x : V} (r : Rel K m ah H) (h : VR K m H v x) (ok : okA (dr ah v) = true) : Dp K H x (toD (dr ah v)) := by
  cases h with
  | ref hm =>
    rename_i n a
    obtain ⟨o, ho, q⟩ := r.at hm
    rw [dr_ref ho] at ok ⊢
    cases o with
    | lst l =>
      obtain ⟨vs, h1, h2⟩ := q
      exact .lst (SqL.of h1) (VRs.dp _ _ h2 ok)
    | dk l => exact absurd ok (by simp [objV, okA])
  | non => exact .non
  | bl b => exact .bl b
  | int i => exact .int i
  | str s => exact .str _
  | tup h1 h2 => exact VR.dp _ _ (VR.tup h1 h2) ok
  | lst h1 h2 h3 => exact VR.dp _ _ (VR.lst h1 h2 h3) ok
  | dk h1 h3 h2 => exact absurd ok (by simp [G.dr, okA])
  | fl h1 h2 => exact absurd ok (by simp [G.dr, okA])
  | fn h1 => exact absurd ok (by simp [G.dr, okA])
theorem sh_of {v : AV} (h : shA v = true) : SeqAt.shaped (toD v) = true := by
  unfold shA at h
  rw [Bool.and_eq_true] at h
  unfold SeqAt.shaped
  rw [okA_lay v h.1, okA_depth v h.1]
  exact h.2

abbrev O2 := AH → AV → AV → Option AV
abbrev O1 := AH → AV → Option AV
def OpG (X : Cx) (r : R2) (f : O2) : Prop := ∀ (m : MM) (H : Hp) (ah : AH) (v w : AV) (x y : V) (z : AV) (Q : VK), Rel X.K m ah H → VR X.K m H v x → VR X.K m H w y → f ah v w = some z → PQ X.K m H Q z ah → r x y H Q
def gOp (f : O2) (a b : GE) : GE := fun env ah => rb (a env ah) fun v ah1 => rb (b env ah1) fun w ah2 => lift1 (f ah2 v w) ah2
section
variable {X : Cx} {W : WX} {r : R2} {f : O2} {a b c : Expr} {fa fb fc : GE} {pos : Pos}
/-- two expressions, then an operation on their values -/
theorem op_read (hr : OpG X r f) {σ : L2.St} {H : Hp} {Q : VK} (h : tG X W (gOp f fa fb) σ H Q) : tOp r (tG X W fa) (tG X W fb) σ H Q := by
  obtain ⟨m, env, ah, hE, hR, hp⟩ := h
  refine tG_step hE hR hp (fun _ _ h => h) fun v ah1 m1 H1 x e1 r1 v1 hp1 => ?_
  refine tG_step (hE.mono e1) r1 (Res.post_imp hp1 (fun _ _ _ h => PQ.mono e1 h) (fun _ _ h => PX.mono e1 h)) (fun _ _ h => h) fun w ah2 m2 H2 y e2 r2 v2 hp2 => ?_
  cases e : f ah2 v w with
  | none => rw [e] at hp2; exact hp2.elim
  | some z =>
    rw [e] at hp2
    exact hr m2 H2 ah2 v w x y z Q r2 (v1.mono e2) v2 e (PQ.mono e2 hp2)
theorem ge_op {op : Operator} (ho : OpR X (binaryOp op) r) (hr : OpG X r f) (ha : PE X a (tG X W fa)) (hb : PE X b (tG X W fb)) : PE X (.BinOp a op b pos) (tG X W (gOp f fa fb)) :=
  PE.weak (pe_op ho ha hb) fun _ _ _ h => op_read hr h
theorem ge_cmp {op : CmpOp} (ho : OpR X (compareOp op) r) (hr : OpG X r f) (ha : PE X a (tG X W fa)) (hb : PE X b (tG X W fb)) (hm : behindInMarks op b = false := by first | exact nomark _ | rfl) : PE X (.Compare a [op] [b] pos) (tG X W (gOp f fa fb)) :=
  PE.weak (pe_cmpR ho ha hb hm) fun _ _ _ h => op_read hr h
/-- a value as a test: True or False alone -/
def gTB (a : GE) : GT := fun env ah => rb (a env ah) fun v ah1 => match v with
  | .bl b => .ok b ah1
  | _ => .bad
theorem tb_read {t : TE} {σ : L2.St} {H : Hp} {Q : Bool → Hp → Prop} (ht : ∀ σ H Q, tG X W fa σ H Q → t σ H Q) (h : tGT X W (gTB fa) σ H Q) : t σ H (fun x H1 => ∃ k, x = .bl k ∧ Q k H1) := by
  obtain ⟨m, env, ah, hE, hR, hp⟩ := h
  refine ht _ _ _ (tG_step hE hR hp (fun _ _ h => h) fun v ah1 m1 H1 x e1 r1 v1 hp1 => ?_)
  cases v1 with
  | bl k => exact ⟨k, rfl, hp1 m1 H1 e1 r1⟩
  | _ => exact hp1.elim
theorem gt_cmp {op : CmpOp} (ho : OpR X (compareOp op) r) (hr : OpG X r f) (ha : PE X a (tG X W fa)) (hb : PE X b (tG X W fb)) (hm : behindInMarks op b = false := by first | exact nomark _ | rfl) : PT X (.Compare a [op] [b] pos) (tGT X W (gTB (gOp f fa fb))) :=
  PT.weak (pt_cmpR ho ha hb hm) fun _ _ _ h => tb_read (t := tOp r (tG X W fa) (tG X W fb)) (fun _ _ _ q => op_read hr q) h
theorem gt_val (ha : PE X a (tG X W fa)) (he : ∀ whole, isTrue a X.env whole = (do let v ← whole; standAt a.pos; holding [v] (truthy v)) := by intro _; rfl) : PT X a (tGT X W (gTB fa)) :=
  PT.weak (pt_val ha he) fun _ _ _ h => tb_read (t := tG X W fa) (fun _ _ _ q => q) h
end

def addO : O2 := fun ah v w => match v, w with
  | .int i, .int j => some (.int (i + j))
  | .str s, .str t => if s.length + t.length ≤ 1000000 then some (.str (s ++ t)) else none
  | .tup s, .tup t => if s.length + t.length ≤ 1000000 then some (.tup (s ++ t)) else none
  | .lst s, .lst t => if s.length + t.length ≤ 1000000 then some (.lst (s ++ t)) else none
  | v, w => match dr ah v, dr ah w with
    | .lst s, .lst t => if s.length + t.length ≤ 1000000 then some (.lst (s ++ t)) else none
    | _, _ => none
def subO : O2 := fun _ v w => match v, w with
  | .int i, .int j => some (.int (i - j))
  | _, _ => none
def mulO : O2 := fun _ v w => match v, w with
  | .int i, .int j => if (-18446744073709551616 < i ∧ i < 18446744073709551616) ∨ (-18446744073709551616 < j ∧ j < 18446744073709551616) then some (.int (i * j)) else none
  | .tup s, .int k => if s ≠ [] ∧ 2 ≤ k ∧ k ≤ 1000 ∧ s.length ≤ 1000 then some (.tup (List.replicate k.toNat s).flatten) else none
  | .str s, .int k => if 0 ≤ k ∧ k ≤ 1000000 ∧ s.length * k.toNat ≤ 1000000 then some (.str (List.replicate k.toNat s).flatten) else none
  | .lst s, .int k => if 0 ≤ k ∧ k ≤ 1000000 ∧ s.length * k.toNat ≤ 1000000 then some (.lst (List.replicate k.toNat s).flatten) else none
  | _, _ => none
def modO : O2 := fun _ v w => match v, w with
  | .int i, .int j => if 0 < j then some (.int (i % j)) else none
  | _, _ => none
def fdivO : O2 := fun _ v w => match v, w with
  | .int i, .int j => if 0 < j ∧ j < 10 ^ 100 then some (.int (i / j)) else none
  | _, _ => none
def powO : O2 := fun _ v w => match v, w with
  | .int i, .int j => if 0 ≤ j ∧ j ≤ 1000000 ∧ i.natAbs < 18446744073709551616 then some (.int (i ^ j.toNat)) else none
  | _, _ => none
/-- two lists of other lengths; two tuples of which one is empty -/
def lenNe : AV → AV → Bool
  | .lst l, .lst l' => decide (l.length ≠ l'.length)
  | .tup l, .tup l' => l.isEmpty != l'.isEmpty
  | _, _ => false
/-- two dicts of which one is empty -/
def dkE : AV → AV → Option Bool
  | .dk l, .dk l' => if l.isEmpty || l'.isEmpty then some (l.isEmpty == l'.isEmpty) else none
  | _, _ => none
def eqO : O2 := fun ah v w => match v, w with
  | .str s, .str t => some (.bl (decide (s = t)))
  | .int s, .int t => some (.bl (decide (s = t)))
  | .bl s, .bl t => some (.bl (decide (s = t)))
  | .non, .str _ => some (.bl false)
  | .str _, .non => some (.bl false)
  | .str _, .int _ => some (.bl false)
  | .int _, .str _ => some (.bl false)
  | v, w => match dkE (dr ah v) (dr ah w) with
    | some b => some (.bl b)
    | none => if lenNe (dr ah v) (dr ah w) then some (.bl false) else if shA (dr ah v) && shA (dr ah w) then some (.bl (eqA (dr ah v) (dr ah w))) else none
def notO (f : O2) : O2 := fun ah v w => match f ah v w with
  | some (.bl b) => some (.bl (!b))
  | _ => none
def cmpO (p : Int → Int → Bool) : O2 := fun _ v w => match v, w with
  | .int i, .int j => some (.bl (p i j))
  | _, _ => none
abbrev ltO : O2 := cmpO fun i j => decide (i < j)
abbrev leO : O2 := cmpO fun i j => decide (i ≤ j)
abbrev gtO : O2 := cmpO fun i j => decide (j < i)
abbrev geO : O2 := cmpO fun i j => decide (j ≤ i)
section
variable {X : Cx}
theorem PQ.here {K : PySem.W.Frag} {m : MM} {H : Hp} {ah : AH} {v : AV} {x : V} {Q : VK} (h : PQ K m H Q v ah) (r : Rel K m ah H) (hv : VR K m H v x) : Q x H := h m H x (Ext.refl m H) r hv
theorem PQ.laid {K : PySem.W.Frag} {m : MM} {H : Hp} {ah : AH} {v : AV} {Q : VK} (h : PQ K m H Q v ah) (r : Rel K m ah H) {p : Addr} {o : HO} (hp : H p = none) (hv : VR K m (upd H p o) v (.ref p)) : Q (.ref p) (upd H p o) := h m _ _ (Ext.new hp) (r.new hp) hv
theorem Rel.not {K : PySem.W.Frag} {m : MM} {H : Hp} {ah : AH} (r : Rel K m ah H) {p : Addr} (hp : H p = none) : p ∉ m := r.notin hp
theorem VR.newL {K : PySem.W.Frag} {m : MM} {H : Hp} {ah : AH} {l : List AV} {vs : List V} (r : Rel K m ah H) {p : Addr} (hp : H p = none) (h : VRs K m H l vs) : VR K m (upd H p (.lst vs)) (.lst l) (.ref p) := .lst upd_same (r.not hp) (h.mono (Ext.new hp))
theorem VR.newT {K : PySem.W.Frag} {m : MM} {H : Hp} {ah : AH} {l : List AV} {vs : List V} (r : Rel K m ah H) {p : Addr} (hp : H p = none) {o : Obj} (ho : o.dict = none) (h : VRs K m H l vs) : VR K m (upd H p (.frz o (.tup vs))) (.tup l) (.ref p) := .tup (.inl ⟨o, ho, upd_same⟩) (h.mono (Ext.new hp))
theorem PQ.newT {K : PySem.W.Frag} {m : MM} {H : Hp} {ah : AH} {l : List AV} {vs : List V} {Q : VK} (q : PQ K m H Q (.tup l) ah) (r : Rel K m ah H) (h : VRs K m H l vs) : NewT Q H vs := fun p o ho hp => q.laid r hp (VR.newT r hp ho h)
theorem lim2 {K : PySem.W.Frag} {m : MM} {H : Hp} {l l' : List AV} {vs vs' : List V} (h : VRs K m H l vs) (h' : VRs K m H l' vs') (hl : l.length + l'.length ≤ 1000000) : vs.length + vs'.length ≤ sizeLine := by
  rw [← h.length, ← h'.length]; exact lim_line hl

theorem VR.listH {K : PySem.W.Frag} {m : MM} {H : Hp} {ah : AH} {w : AV} {y : V} {l : List AV} (r : Rel K m ah H) (h : VR K m H w y) (e : dr ah w = .lst l) : ∃ a vs, y = .ref a ∧ H a = some (.lst vs) ∧ VRs K m H l vs := by
  cases h with
  | ref hm =>
    obtain ⟨o, ho, q⟩ := r.at hm
    rw [dr_ref ho] at e
    cases o with
    | lst l' =>
      obtain ⟨vs, h1, h2⟩ := q
      cases e
      exact ⟨_, vs, rfl, h1, h2⟩
    | dk l' => cases e
  | lst h1 h2 h3 => cases e; exact ⟨_, _, rfl, h1, h3⟩
  | _ => cases e
theorem add_g : ∃ r, OpR X (binaryOp .Add) r ∧ OpG X r addO := by
  refine ⟨_, op_add.or (op_add_str.or (op_catN.or op_cat)), ?_⟩
  intro m H ah v w x y z Q r hv hw hf q
  unfold addO at hf
  split at hf
  · cases hf; cases hv; cases hw
    exact .inl ⟨_, _, rfl, rfl, q.here r (.int _)⟩
  · split at hf
    · cases hf; cases hv; cases hw
      rename_i hl
      refine .inr (.inl ⟨_, _, rfl, rfl, ?_, ?_⟩)
      · rw [mkS_length, mkS_length]; exact lim_line hl
      · rw [mkS_app]; exact q.here r (.str _)
    · cases hf
  · split at hf
    · cases hf
      rename_i hl
      cases hv with
      | tup h1 h2 =>
        cases hw with
        | tup h3 h4 =>
          refine .inr (.inr (.inl ⟨_, _, _, _, rfl, rfl, h1, h3, lim2 h2 h4 hl, fun e => ?_, fun _ e => ?_, fun _ _ => q.newT r (h2.append h4)⟩))
          · subst e
            cases h2
            exact q.here r (.tup h3 h4)
          · subst e
            cases h4
            refine q.here r ?_
            rw [List.append_nil]
            exact .tup h1 h2
    · cases hf
  · split at hf
    · cases hf
      rename_i hl
      cases hv with
      | lst h1 n1 h2 =>
        cases hw with
        | lst h3 n3 h4 => exact .inr (.inr (.inr ⟨_, _, _, _, rfl, rfl, h1, h3, lim2 h2 h4 hl, fun p hp => q.laid r hp (VR.newL r hp (h2.append h4))⟩))
    · cases hf
  · split at hf
    · split at hf
      · rename_i hl
        cases hf
        obtain ⟨a, vs, rfl, h1, h2⟩ := VR.listH r hv (by assumption)
        obtain ⟨b, ws, rfl, h3, h4⟩ := VR.listH r hw (by assumption)
        exact .inr (.inr (.inr ⟨_, _, _, _, rfl, rfl, h1, h3, lim2 h2 h4 hl, fun p hp => q.laid r hp (VR.newL r hp (h2.append h4))⟩))
      · cases hf
    · cases hf

theorem sub_g : ∃ r, OpR X (binaryOp .Sub) r ∧ OpG X r subO := by
  refine ⟨_, op_sub, ?_⟩
  intro m H ah v w x y z Q r hv hw hf q
  unfold subO at hf
  split at hf
  · cases hf; cases hv; cases hw
    exact ⟨_, _, rfl, rfl, q.here r (.int _)⟩
  · cases hf
def rRepS : R2 := fun x y H Q => ∃ (s : List Nat) (k : Int), x = .str (mkS s) ∧ y = .int k ∧ 0 ≤ k ∧ k ≤ 1000000 ∧ s.length * k.toNat ≤ 1000000 ∧ Q (.str (mkS (List.replicate k.toNat s).flatten)) H
theorem fold_rep (s : Array Nat) : ∀ (n : Nat) (acc : Array Nat), ((List.replicate n s).foldl (· ++ ·) acc).toList = acc.toList ++ (List.replicate n s.toList).flatten
  | 0, acc => by simp
  | n + 1, acc => by
    rw [List.replicate_succ, List.foldl_cons, fold_rep s n, List.replicate_succ, List.flatten_cons]
    simp
theorem op_repS : OpR X (binaryOp .Mult) rRepS := by
  intro pins s0 σ H x y v u Q I rx ry h
  obtain ⟨s, k, rfl, rfl, h0, h1, h2, q⟩ := h
  obtain ⟨t, rfl⟩ := rx
  obtain ⟨t', rfl⟩ := ry
  have hl : (mkS s).length = s.length := mkS_length s
  have fin : ∀ (z : Str) (tk : Nat) (tu : Tok), z = mkS (List.replicate k.toNat s).flatten → EP X pins σ Q (.str z tu) { s0 with toks := tk } := fun z tk tu e => by
    subst e
    exact ⟨.str _, H, I.tok tk, ⟨_, rfl⟩, q⟩
  have big : ((s.length : Int)) * k ≤ 1000000 := by
    have : ((s.length * k.toNat : Nat) : Int) ≤ ((1000000 : Nat) : Int) := Int.ofNat_le.mpr h2
    rw [Int.natCast_mul, Int.toNat_of_nonneg h0] at this
    omega
  refine P.mul_str (by rw [decide_eq_false (by omega), decide_eq_false (by omega)]; rfl) (fun hn _ => ?_) (fun _ _ => ?_) ?_
  · rw [hl]
    have : (s.length : Int) ≤ (2 ^ 63 - 1) / k := (Int.le_ediv_iff_mul_le (by omega)).mpr (by omega)
    omega
  · rw [hl]
    unfold Builtin.Str.tooLong
    have h16 := sizeLine_eq
    exact decide_eq_false (by omega)
  · split
    · rename_i hn
      have : k = 0 := by omega
      subst this
      exact ⟨by decide, fin _ _ _ (by simp [mkS]; rfl)⟩
    · split
      · rename_i hc
        refine fin _ _ _ ?_
        rw [Bool.or_eq_true] at hc
        rcases hc with hc | hc
        · have : k = 1 := by simpa using hc
          subst this
          simp
        · have : s = [] := by
            rw [hl] at hc
            exact List.eq_nil_of_length_eq_zero (by simpa using hc)
          subst this
          simp
      · have e : (⟨(List.replicate k.toNat (mkS s).cps).foldl (· ++ ·) #[]⟩ : Str) = mkS (List.replicate k.toNat s).flatten := by
          show _ = (⟨(List.replicate k.toNat s).flatten.toArray⟩ : Str)
          congr 1
          apply Array.toList_inj.mp
          rw [fold_rep, mkS_list]
          simp
        refine ⟨?_, fin _ _ _ e⟩
        rw [e, mkS_length]
        have h16 := sizeLine_eq
        have : (List.replicate k.toNat s).flatten.length = k.toNat * s.length := by simp
        rw [this, Nat.mul_comm]
        omega
theorem tuple_mul1 (l : Addr) (items : Array Value) (n : Nat) (dd : Option Addr) (sl : Array (Option Value)) (x : Int) (u : Tok) (c0 : (decide (x < -(2 ^ 63)) || decide (x ≥ 2 ^ 63)) = false) (c1 : (items.isEmpty || x == 1) = true) :
    Meets (Builtin.«tuple.__mul__» ⟨[.ref l, .int x u], []⟩) (fun _ R s => s.heap.get? l = some { cls := .type "tuple", dict := dd, data := .seq items n, slots := sl } ∧ R (.ok (.ret (Value.ref l))) s) :=
  .of_wp fun prog w A R s h => by
    obtain ⟨hp, g, d, tk, os⟩ := s
    obtain ⟨hl, h⟩ := h
    have f1 := AutoSeq1.idx_int
    wp_walk using wpAny_loadPart' hl
    repeat (first
      | (refine wpAny_ite_false (decide_eq_false (by rw [c0]; exact Bool.false_ne_true)) ?_; wp_walk using wpAny_loadPart' hl)
      | (refine wpAny_ite_true (decide_eq_true (by rw [c1])) ?_; wp_walk using wpAny_loadPart' hl))
    exact ⟨_, rfl, h⟩
theorem tuple_mul0 (l : Addr) (items : Array Value) (n : Nat) (dd : Option Addr) (sl : Array (Option Value)) (x : Int) (u : Tok) (c0 : (decide (x < -(2 ^ 63)) || decide (x ≥ 2 ^ 63)) = false) (c1 : (items.isEmpty || x == 1) = false) (c2 : (decide (x ≤ 0) || items.isEmpty) = true) :
    Meets (Builtin.«tuple.__mul__» ⟨[.ref l, .int x u], []⟩) (fun _ R s => s.heap.get? l = some { cls := .type "tuple", dict := dd, data := .seq items n, slots := sl } ∧
      R (.ok (.ret (Value.ref s.heap.objs.size))) { s with heap := s.heap.push { cls := Value.type "tuple", data := Data.seq #[] }, toks := s.toks }) :=
  .of_wp fun prog w A R s h => by
    obtain ⟨hp, g, d, tk, os⟩ := s
    obtain ⟨hl, h⟩ := h
    have f1 := AutoSeq1.idx_int
    wp_walk using wpAny_loadPart' hl
    repeat (first
      | (refine wpAny_ite_false (decide_eq_false (by rw [c0]; exact Bool.false_ne_true)) ?_; wp_walk using wpAny_loadPart' hl)
      | (refine wpAny_ite_false (decide_eq_false (by rw [c1]; exact Bool.false_ne_true)) ?_; wp_walk using wpAny_loadPart' hl)
      | (refine wpAny_ite_true (decide_eq_true (by rw [c2])) ?_; wp_walk using wpAny_loadPart' hl))
    exact ⟨_, rfl, h⟩
/-- t * k -/
def rRepN (K : PySem.W.Frag) : R2 := fun x y H Q => ∃ l k xs, x = .ref l ∧ y = .int k ∧ SqT K H l xs ∧ -1000 ≤ k ∧ k ≤ 1000 ∧ xs.length ≤ 1000 ∧ (xs = [] ∨ k = 1 → Q (.ref l) H) ∧ (¬ (xs = [] ∨ k = 1) → NewT Q H (List.replicate k.toNat xs).flatten)
theorem op_repN {X : Cx} : OpR X (binaryOp .Mult) (rRepN X.K) := by
  intro pins s σ H x y v u Q I rx ry h
  obtain ⟨l, k, xs, rfl, rfl, hT, h1, h2, hl, q1, q2⟩ := h
  cases rx
  obtain ⟨t, rfl⟩ := ry
  obtain ⟨us, r, ⟨⟨cls, dd, data, sl⟩, ho, hc, n, hd⟩, hs⟩ := I.tuple hT
  simp only at hc hd
  subst hc hd
  have hle : us.length = xs.length := r.length.symm
  have c0 : (decide (k < -(2 ^ 63)) || decide (k ≥ 2 ^ 63)) = false := by
    rw [decide_eq_false (by omega), decide_eq_false (by omega)] <;> rfl
  have road : ∀ {S : Spec}, Meets (Builtin.«tuple.__mul__» ⟨[.ref l, .int k t], []⟩) S → S X.A (wants (fun v s' => ∃ x H', Inv X pins σ H' s' ∧ RelV x v ∧ Q x H') X.xe) s → wpAny (model X.prog X.w) X.A (binaryOp .Mult (.ref l) (.int k t)) (fun v s' => ∃ x H', Inv X pins σ H' s' ∧ RelV x v ∧ Q x H') X.xe s := fun {S} hm hS =>
    wpAny_binaryOp_repeat_ref (T := "tuple") (U := "int") (by decide) ⟨_, ho, rfl⟩ (fun s' => typeIs_int s' k t) noFill_tuple_mul F.fills_int_mul F.slot_int_rmul repeat_tuple F.slot_int_index.lookup
      (call_meets F.slot_int_rmul (typeIs_int s k t) F.entry_int_rmul (F.args_int_rmul_2 _ _) (int_rmul_tuple k t l us.toArray n dd sl)
        ⟨ho, rfl, ⟨_, ho, rfl⟩, call_meets F.slot_tuple_mul ⟨_, ho, rfl⟩ F.entry_tuple_mul (F.args_tuple_mul_2 _ _) hm hS⟩)
  by_cases hk : xs = [] ∨ k = 1
  · have c1 : (us.toArray.isEmpty || k == 1) = true := by
      rcases hk with hk | hk
      · have : us = [] := List.eq_nil_of_length_eq_zero (by rw [hle, hk]; rfl)
        subst this; rfl
      · subst hk; simp
    exact road (tuple_mul1 l us.toArray n dd sl k t c0 c1) ⟨ho, ⟨.ref l, H, I, rfl, q1 hk⟩⟩
  · have q2 := q2 hk
    have hne : us ≠ [] := fun e => hk (.inl (List.eq_nil_of_length_eq_zero (by rw [← hle, e]; rfl)))
    have hi : us.toArray.isEmpty = false := by
      cases us with
      | nil => exact absurd rfl hne
      | cons a b => rfl
    have c1 : (us.toArray.isEmpty || k == 1) = false := by
      rw [hi, Bool.false_or]
      exact beq_eq_false_iff_ne.mpr fun e => hk (.inr e)
    by_cases h0 : k ≤ 0
    · have c2 : (decide (k ≤ 0) || us.toArray.isEmpty) = true := by rw [decide_eq_true h0]; rfl
      refine road (tuple_mul0 l us.toArray n dd sl k t c0 c1 c2) ⟨ho, ?_⟩
      have hz : k.toNat = 0 := by omega
      rw [hz] at q2
      exact new_tup I (us := []) .nil (by decide) q2
    · have hz2 : us.toArray.size = xs.length := by rw [List.size_toArray, hle]
      have hm : ((us.toArray.size : Nat) : Int) * k ≤ 1000000 := by
        rw [hz2]
        have : ((xs.length : Nat) : Int) * k ≤ 1000 * k := Int.mul_le_mul_of_nonneg_right (by omega) (by omega)
        omega
      have flen : (List.replicate k.toNat us).flatten.length ≤ sizeLine := by
        rw [PyProof.Rows.lm_len_rep_flat, hle, sizeLine_eq]
        have : k.toNat * xs.length ≤ 1000 * 1000 := Nat.mul_le_mul (by omega) hl
        omega
      have c2 : (decide (k ≤ 0) || us.toArray.isEmpty) = false := by
        rw [hi, Bool.or_false]
        exact decide_eq_false h0
      have c4 : Builtin.Tuple.tupleTooMany (((us.toArray.size : Nat) : Int) * k) = false := by
        unfold Builtin.Tuple.tupleTooMany
        rw [sizeLine_eq]
        exact decide_eq_false (by omega)
      refine road (tuple_mulW l us.toArray n dd sl k t c0 c1 c2 (by omega) c4 (by rw [L2.size_rep, List.size_toArray]; exact flen)) ⟨ho, ?_⟩
      rw [L2.size_rep]
      refine new_tup I (r.rep k.toNat) ?_ q2
      have := (r.rep k.toNat).length
      rw [this]; exact flen
theorem vrs_rep {K : PySem.W.Frag} {m : MM} {H : Hp} {l : List AV} {xs : List V} (h : VRs K m H l xs) : ∀ n : Nat, VRs K m H (List.replicate n l).flatten (List.replicate n xs).flatten
  | 0 => .nil
  | n + 1 => by
    rw [List.replicate_succ, List.replicate_succ, List.flatten_cons, List.flatten_cons]
    exact h.append (vrs_rep h n)
theorem rep_read {X : Cx} {m : MM} {H : Hp} {ah : AH} {s : List AV} {k : Int} {x y : V} {Q : VK} (r : Rel X.K m ah H) (hv : VR X.K m H (.tup s) x) (hw : VR X.K m H (.int k) y) (h1 : -1000 ≤ k) (h2 : k ≤ 1000) (hl : s.length ≤ 1000) (q : PQ X.K m H Q (.tup (List.replicate k.toNat s).flatten) ah) : rRepN X.K x y H Q := by
  cases hw
  cases hv with
  | tup a1 a2 =>
    refine ⟨_, _, _, rfl, rfl, a1, h1, h2, by rw [← a2.length]; exact hl, fun hk => ?_, fun _ => q.newT r (vrs_rep a2 _)⟩
    refine q.here r ?_
    rcases hk with hk | hk
    · subst hk
      cases a2
      have : (List.replicate k.toNat ([] : List AV)).flatten = [] := by simp
      rw [this]
      exact .tup a1 .nil
    · subst hk
      have : (List.replicate (1 : Int).toNat s).flatten = s := by simp
      rw [this]
      exact .tup a1 a2
theorem mul_g : ∃ r, OpR X (binaryOp .Mult) r ∧ OpG X r mulO := by
  refine ⟨_, op_mul.or (op_repN.or (op_repS.or op_rep)), ?_⟩
  intro m H ah v w x y z Q r hv hw hf q
  unfold mulO at hf
  split at hf
  · split at hf
    · cases hf; cases hv; cases hw
      rename_i h
      exact .inl ⟨_, _, rfl, rfl, h, q.here r (.int _)⟩
    · cases hf
  · split at hf
    · cases hf
      rename_i h
      exact .inr (.inl (rep_read r hv hw (by omega) h.2.2.1 h.2.2.2 q))
    · cases hf
  · split at hf
    · cases hf; cases hv; cases hw
      rename_i h
      exact .inr (.inr (.inl ⟨_, _, rfl, rfl, h.1, h.2.1, h.2.2, q.here r (.str _)⟩))
    · cases hf
  · split at hf
    · cases hf; cases hw
      rename_i h
      obtain ⟨a, vs, rfl, h1, h2⟩ := VR.listH r hv rfl
      have rp : ∀ n : Nat, VRs X.K m H (List.replicate n _).flatten (List.replicate n vs).flatten := fun n => by
        induction n with
        | zero => exact .nil
        | succ n ih =>
          rw [List.replicate_succ, List.replicate_succ, List.flatten_cons, List.flatten_cons]
          exact h2.append ih
      exact .inr (.inr (.inr ⟨_, _, _, rfl, rfl, h1, by omega, by omega, by rw [← h2.length]; exact lim_line h.2.2, fun p hp => q.laid r hp (VR.newL r hp (rp _))⟩))
    · cases hf
  · cases hf
theorem mod_g : ∃ r, OpR X (binaryOp .Mod) r ∧ OpG X r modO := by
  refine ⟨_, op_mod, ?_⟩
  intro m H ah v w x y z Q r hv hw hf q
  unfold modO at hf
  split at hf
  · split at hf
    · cases hf; cases hv; cases hw
      rename_i h
      exact ⟨_, _, rfl, rfl, h, q.here r (.int _)⟩
    · cases hf
  · cases hf
theorem fdiv_g : ∃ r, OpR X (binaryOp .FloorDiv) r ∧ OpG X r fdivO := by
  refine ⟨_, op_fdivW, ?_⟩
  intro m H ah v w x y z Q r hv hw hf q
  unfold fdivO at hf
  split at hf
  · split at hf
    · cases hf; cases hv; cases hw
      rename_i h
      refine ⟨_, _, rfl, rfl, wide_div (b := 400) h.1 ?_ (by decide) (by decide), q.here r (.int _)⟩
      have h2 : ((10 : Int) ^ 100) < 2 ^ 400 := by decide +kernel
      have h3 := h.2
      have h4 := h.1
      have h5 : ((2 : Int) ^ 400) = ((2 ^ 400 : Nat) : Int) := by rw [Int.natCast_pow]; rfl
      rw [h5] at h2
      generalize (2 ^ 400 : Nat) = B at *
      generalize ((10 : Int) ^ 100) = C at *
      omega
    · cases hf
  · cases hf
theorem pow_g : ∃ r, OpR X (binaryOp .Pow) r ∧ OpG X r powO := by
  refine ⟨_, op_pow, ?_⟩
  intro m H ah v w x y z Q r hv hw hf q
  unfold powO at hf
  split at hf
  · split at hf
    · cases hf; cases hv; cases hw
      rename_i h
      exact ⟨_, _, rfl, rfl, h, q.here r (.int _)⟩
    · cases hf
  · cases hf
theorem cmp_g {op : CmpOp} {p : Int → Int → Bool} (h : OpR X (compareOp op) (rI0 fun i j => .bl (p i j))) : ∃ r, OpR X (compareOp op) r ∧ OpG X r (cmpO p) := by
  refine ⟨_, h, ?_⟩
  intro m H ah v w x y z Q r hv hw hf q
  unfold cmpO at hf
  split at hf
  · cases hf; cases hv; cases hw
    exact ⟨_, _, rfl, rfl, q.here r (.bl _)⟩
  · cases hf
theorem lt_g : ∃ r, OpR X (compareOp .Lt) r ∧ OpG X r ltO := cmp_g op_lt
theorem le_g : ∃ r, OpR X (compareOp .LtE) r ∧ OpG X r leO := cmp_g op_le
theorem gt_g : ∃ r, OpR X (compareOp .Gt) r ∧ OpG X r gtO := cmp_g op_gt
theorem ge_g : ∃ r, OpR X (compareOp .GtE) r ∧ OpG X r geO := cmp_g op_ge
theorem dstr {s t : List Nat} : decide (V.str (mkS s) = V.str (mkS t)) = decide (s = t) := by
  by_cases h : s = t
  · subst h; simp
  · rw [decide_eq_false h, decide_eq_false]; intro z; cases z; exact h rfl
theorem dint {s t : Int} : decide (V.int s = V.int t) = decide (s = t) := by
  by_cases h : s = t
  · subst h; simp
  · rw [decide_eq_false h, decide_eq_false]; intro z; cases z; exact h rfl
theorem dbl {s t : Bool} : decide (V.bl s = V.bl t) = decide (s = t) := by
  by_cases h : s = t
  · subst h; simp
  · rw [decide_eq_false h, decide_eq_false]; intro z; cases z; exact h rfl
theorem VR.listE {m : MM} {H : Hp} {ah : AH} {w : AV} {y : V} {l : List AV} (r : Rel X.K m ah H) (h : VR X.K m H w y) (e : dr ah w = .lst l) : ∃ a vs, y = .ref a ∧ SqL X.K H a vs ∧ VRs X.K m H l vs := by
  cases h with
  | ref hm =>
    obtain ⟨o, ho, q⟩ := r.at hm
    rw [dr_ref ho] at e
    cases o with
    | lst l' =>
      obtain ⟨vs, h1, h2⟩ := q
      cases e
      exact ⟨_, vs, rfl, SqL.of h1, h2⟩
    | dk l' => cases e
  | lst h1 h2 h3 => cases e; exact ⟨_, _, rfl, SqL.of h1, h3⟩
  | _ => cases e
theorem VR.tupE {m : MM} {H : Hp} {ah : AH} {w : AV} {y : V} {l : List AV} (r : Rel X.K m ah H) (h : VR X.K m H w y) (e : dr ah w = .tup l) : ∃ a vs, y = .ref a ∧ SqN X.K H a vs ∧ VRs X.K m H l vs := by
  cases h with
  | ref hm =>
    obtain ⟨o, ho, q⟩ := r.at hm
    rw [dr_ref ho] at e
    cases o <;> cases e
  | tup h1 h3 => cases e; exact ⟨_, _, rfl, h1, h3⟩
  | _ => cases e
def rLen (K : PySem.W.Frag) (x y : V) (H : Hp) (P : Prop) : Prop := ∃ a b vs ws, x = .ref a ∧ y = .ref b ∧ P ∧ ((SqL K H a vs ∧ SqL K H b ws ∧ vs.length ≠ ws.length) ∨ (SqT K H a vs ∧ SqT K H b ws ∧ vs.isEmpty ≠ ws.isEmpty))
theorem op_eqLen (hu : X.A.units < cLine) : OpR X (compareOp .Eq) fun x y H Q => rLen X.K x y H (Q (.bl false) H) := by
  intro pins s σ H x y v u Q I rx ry h
  obtain ⟨a, b, vs, ws, rfl, rfl, q, h⟩ := h
  cases rx; cases ry
  rcases h with ⟨h1, h2, hn⟩ | ⟨h1, h2, hn⟩
  · obtain ⟨us, r1, p1, _⟩ := I.list h1
    obtain ⟨us2, r2, p2, _⟩ := I.list h2
    exact SeqAt.RcAt.lists_lengths p1.isList p2.isList (by
      have e1 := r1.length
      have e2 := r2.length
      simp only [List.size_toArray, bne_iff_ne]
      omega) hu X.prog X.w X.xe _ ⟨.bl false, H, I, rfl, q⟩
  · obtain ⟨us, r1, p1, _⟩ := I.tuple h1
    obtain ⟨us2, r2, p2, _⟩ := I.tuple h2
    have z := SeqAt.RcAt.tuples (A := X.A) (e := fun _ => true) p1 p2 hu (fun j h1 h2 => by
      have e1 := r1.length
      have e2 := r2.length
      simp only [List.size_toArray] at h1 h2
      cases vs with
      | nil => simp at e1; omega
      | cons _ _ =>
        cases ws with
        | nil => simp at e2; omega
        | cons _ _ => exact absurd rfl hn)
    have e : ((List.range (min us.toArray.size us2.toArray.size)).all (fun _ => true) && us.toArray.size == us2.toArray.size) = false := by
      have e1 := r1.length
      have e2 := r2.length
      rw [Bool.and_eq_false_iff]
      refine .inr ?_
      simp only [List.size_toArray, beq_eq_false_iff_ne]
      intro k
      cases vs with
      | nil =>
        cases ws with
        | nil => exact hn rfl
        | cons _ _ => simp at e1 e2; omega
      | cons _ _ =>
        cases ws with
        | nil => simp at e1 e2; omega
        | cons _ _ => exact absurd rfl hn
    rw [e] at z
    exact z X.prog X.w X.xe _ ⟨.bl false, H, I, rfl, q⟩
theorem op_neLen (hu : X.A.units < cLine) : OpR X (compareOp .NotEq) fun x y H Q => rLen X.K x y H (Q (.bl true) H) := by
  intro pins s σ H x y v u Q I rx ry h
  obtain ⟨a, b, vs, ws, rfl, rfl, q, h⟩ := h
  cases rx; cases ry
  rcases h with ⟨h1, h2, hn⟩ | ⟨h1, h2, hn⟩
  · obtain ⟨us, r1, p1, _⟩ := I.list h1
    obtain ⟨us2, r2, p2, _⟩ := I.list h2
    exact SeqAt.RcNeAt.lists_lengths p1.isList p2.isList (by
      have e1 := r1.length
      have e2 := r2.length
      simp only [List.size_toArray, bne_iff_ne]
      omega) hu X.prog X.w X.xe _ ⟨.bl true, H, I, rfl, q⟩
  · obtain ⟨us, r1, p1, _⟩ := I.tuple h1
    obtain ⟨us2, r2, p2, _⟩ := I.tuple h2
    have z := SeqAt.RcNeAt.tuples (A := X.A) (e := fun _ => true) p1 p2 hu (fun j h1 h2 => by
      have e1 := r1.length
      have e2 := r2.length
      simp only [List.size_toArray] at h1 h2
      cases vs with
      | nil => simp at e1; omega
      | cons _ _ =>
        cases ws with
        | nil => simp at e2; omega
        | cons _ _ => exact absurd rfl hn)
    have e : ((List.range (min us.toArray.size us2.toArray.size)).all (fun _ => true) && us.toArray.size == us2.toArray.size) = false := by
      have e1 := r1.length
      have e2 := r2.length
      rw [Bool.and_eq_false_iff]
      refine .inr ?_
      simp only [List.size_toArray, beq_eq_false_iff_ne]
      intro k
      cases vs with
      | nil =>
        cases ws with
        | nil => exact hn rfl
        | cons _ _ => simp at e1 e2; omega
      | cons _ _ =>
        cases ws with
        | nil => simp at e1 e2; omega
        | cons _ _ => exact absurd rfl hn
    rw [e] at z
    exact z X.prog X.w X.xe _ ⟨.bl true, H, I, rfl, q⟩
def rDkE (x y : V) (H : Hp) (P : Bool → Prop) : Prop := ∃ a b ks ls, x = .ref a ∧ y = .ref b ∧ Rd H a (.dK ks) ∧ Rd H b (.dK ls) ∧ (ks.isEmpty || ls.isEmpty) = true ∧ P (ks.isEmpty == ls.isEmpty)
theorem dkE_len {ks ls : List (Key × V)} {va vb : List (Key × Value)} (h : (ks.isEmpty || ls.isEmpty) = true) (ha : ks.length = va.length) (hb : ls.length = vb.length) : (va.length == vb.length && true) = (ks.isEmpty == ls.isEmpty) ∧ (va.length = vb.length → ks = []) := by
  rw [← ha, ← hb]
  cases ks <;> cases ls <;> simp_all <;> omega
theorem op_eqDk (hu : X.A.units < cLine) : OpR X (compareOp .Eq) fun x y H Q => rDkE x y H fun b => Q (.bl b) H := by
  intro pins s σ H x y v u Q I rx ry h
  obtain ⟨a, b, ks, ls, rfl, rfl, ea, eb, he, q⟩ := h
  cases rx; cases ry
  obtain ⟨_, ya, va, ra, da⟩ := dk_rd I.hok ea
  obtain ⟨_, yb, vb, rb, db⟩ := dk_rd I.hok eb
  obtain ⟨g1, g2⟩ := dkE_len he ra.length rb.length
  refine PySem.W.keq_eq (knd := mixKind X.prog X.w) (r := true) ya yb da db hu (fun z => hits_all rb ra (fun p hp => ?_)) ?_
  · rw [g2 z] at hp; cases hp
  · rw [g1]
    exact ⟨.bl _, H, I, rfl, q⟩
theorem op_neDk (hu : X.A.units < cLine) : OpR X (compareOp .NotEq) fun x y H Q => rDkE x y H fun b => Q (.bl !b) H := by
  intro pins s σ H x y v u Q I rx ry h
  obtain ⟨a, b, ks, ls, rfl, rfl, ea, eb, he, q⟩ := h
  cases rx; cases ry
  obtain ⟨_, ya, va, ra, da⟩ := dk_rd I.hok ea
  obtain ⟨_, yb, vb, rb, db⟩ := dk_rd I.hok eb
  obtain ⟨g1, g2⟩ := dkE_len he ra.length rb.length
  refine PySem.W.keq_ne (knd := mixKind X.prog X.w) (r := true) ya yb da db hu (fun z => hits_all rb ra (fun p hp => ?_)) ?_
  · rw [g2 z] at hp; cases hp
  · rw [g1]
    exact ⟨.bl _, H, I, rfl, q⟩
theorem VR.dkE {m : MM} {H : Hp} {ah : AH} {w : AV} {y : V} {l : List (AK × AV)} (r : Rel X.K m ah H) (h : VR X.K m H w y) (e : dr ah w = .dk l) : ∃ a kvs, y = .ref a ∧ Rd H a (.dK kvs) ∧ VRk X.K m H l kvs := by
  cases h with
  | ref hm =>
    obtain ⟨o, ho, q⟩ := r.at hm
    rw [dr_ref ho] at e
    cases o with
    | dk l' =>
      obtain ⟨vs, h1, h2⟩ := q
      cases e
      exact ⟨_, vs, rfl, .inl h1, h2⟩
    | lst l' => cases e
  | dk h1 h2 h3 => cases e; exact ⟨_, _, rfl, h1, h3⟩
  | _ => cases e
theorem VRk.emp {m : MM} {H : Hp} {l : List (AK × AV)} {kvs : List (Key × V)} (h : VRk X.K m H l kvs) : kvs.isEmpty = l.isEmpty := by cases h <;> rfl
theorem rDkE_of {m : MM} {H : Hp} {ah : AH} {v w : AV} {x y : V} {b : Bool} {P : Bool → Prop} (r : Rel X.K m ah H) (hv : VR X.K m H v x) (hw : VR X.K m H w y) (h : dkE (dr ah v) (dr ah w) = some b) (q : P b) : rDkE x y H P := by
  cases e1 : dr ah v with
  | dk l =>
    cases e2 : dr ah w with
    | dk l' =>
      rw [e1, e2] at h
      obtain ⟨a, ks, rfl, p1, p2⟩ := VR.dkE r hv e1
      obtain ⟨b', ls, rfl, p3, p4⟩ := VR.dkE r hw e2
      have h : (if l.isEmpty || l'.isEmpty then some (l.isEmpty == l'.isEmpty) else none) = some b := h
      split at h
      · rename_i z
        cases h
        exact ⟨a, b', ks, ls, rfl, rfl, p1, p3, by rw [p2.emp, p4.emp]; exact z, by rw [p2.emp, p4.emp]; exact q⟩
      · cases h
    | _ => rw [e1, e2] at h; cases h
  | _ => rw [e1] at h; cases e2 : dr ah w <;> rw [e2] at h <;> cases h
theorem rLen_of {m : MM} {H : Hp} {ah : AH} {v w : AV} {x y : V} {P : Prop} (r : Rel X.K m ah H) (hv : VR X.K m H v x) (hw : VR X.K m H w y) (h : lenNe (dr ah v) (dr ah w) = true) (q : P) : rLen X.K x y H P := by
  cases e1 : dr ah v with
  | lst l =>
    cases e2 : dr ah w with
    | lst l' =>
      rw [e1, e2] at h
      obtain ⟨a, vs, rfl, p1, p2⟩ := VR.listE r hv e1
      obtain ⟨b, ws, rfl, p3, p4⟩ := VR.listE r hw e2
      exact ⟨a, b, vs, ws, rfl, rfl, q, .inl ⟨p1, p3, by rw [← p2.length, ← p4.length]; exact of_decide_eq_true h⟩⟩
    | _ => rw [e1, e2] at h; cases h
  | tup l =>
    cases e2 : dr ah w with
    | tup l' =>
      rw [e1, e2] at h
      obtain ⟨a, vs, rfl, p1, p2⟩ := VR.tupE r hv e1
      obtain ⟨b, ws, rfl, p3, p4⟩ := VR.tupE r hw e2
      refine ⟨a, b, vs, ws, rfl, rfl, q, .inr ⟨p1, p3, ?_⟩⟩
      have h : (l.isEmpty != l'.isEmpty) = true := h
      have k1 := p2.length
      have k2 := p4.length
      intro k
      cases l <;> cases l' <;> cases vs <;> cases ws <;> simp_all
    | _ => rw [e1, e2] at h; cases h
  | _ => rw [e1] at h; cases e2 : dr ah w <;> rw [e2] at h <;> cases h
theorem eq_read {m : MM} {H : Hp} {ah : AH} {v w : AV} {x y : V} {b : Bool} {P : Bool → Prop} (r : Rel X.K m ah H) (hv : VR X.K m H v x) (hw : VR X.K m H w y) (hf : eqO ah v w = some (.bl b)) (q : P b) :
    (scal x y = true ∧ P (decide (x = y))) ∨ (∃ d e, Dp X.K H x d ∧ Dp X.K H y e ∧ SeqAt.shaped d = true ∧ SeqAt.shaped e = true ∧ P (PyData.eqv d e)) ∨ rLen X.K x y H (P false) ∨ rDkE x y H P := by
  unfold eqO at hf
  split at hf
  · cases hf; cases hv; cases hw
    exact .inl ⟨rfl, by rw [dstr]; exact q⟩
  · cases hf; cases hv; cases hw
    exact .inl ⟨rfl, by rw [dint]; exact q⟩
  · cases hf; cases hv; cases hw
    exact .inl ⟨rfl, by rw [dbl]; exact q⟩
  · cases hf; cases hv; cases hw
    exact .inl ⟨rfl, q⟩
  · cases hf; cases hv; cases hw
    exact .inl ⟨rfl, q⟩
  · cases hf; cases hv; cases hw
    exact .inl ⟨rfl, q⟩
  · cases hf; cases hv; cases hw
    exact .inl ⟨rfl, q⟩
  · split at hf
    · rename_i hb
      cases hf
      exact .inr (.inr (.inr (rDkE_of r hv hw hb q)))
    split at hf
    · rename_i hl
      cases hf
      exact .inr (.inr (.inl (rLen_of r hv hw hl q)))
    split at hf
    · rename_i h
      rw [Bool.and_eq_true] at h
      have h1 : okA (dr ah v) = true := by have := h.1; unfold shA at this; rw [Bool.and_eq_true] at this; exact this.1
      have h2 : okA (dr ah w) = true := by have := h.2; unfold shA at this; rw [Bool.and_eq_true] at this; exact this.1
      cases hf
      exact .inr (.inl ⟨_, _, VR.drD r hv h1, VR.drD r hw h2, sh_of h.1, sh_of h.2, by rw [okA_eqv _ _ h1 h2]; exact q⟩)
    · cases hf
theorem eqO_bl {ah : AH} {v w z : AV} (h : eqO ah v w = some z) : ∃ b, z = .bl b := by
  unfold eqO at h
  split at h <;> first | (cases h; exact ⟨_, rfl⟩) | skip
  split at h
  · cases h; exact ⟨_, rfl⟩
  split at h
  · cases h; exact ⟨_, rfl⟩
  split at h
  · cases h; exact ⟨_, rfl⟩
  · cases h
theorem eq_g (hu : X.A.units + 64 < cLine) : ∃ r, OpR X (compareOp .Eq) r ∧ OpG X r eqO := by
  refine ⟨_, op_eq.or ((op_eqD hu).or ((op_eqLen (by omega)).or (op_eqDk (by omega)))), ?_⟩
  intro m H ah v w x y z Q r hv hw hf q
  obtain ⟨b, rfl⟩ := eqO_bl hf
  rcases eq_read (P := fun b => Q (.bl b) H) r hv hw hf (q.here r (.bl b)) with h | h | h | h
  · exact .inl h
  · exact .inr (.inl h)
  · exact .inr (.inr (.inl h))
  · exact .inr (.inr (.inr h))
theorem ne_g (hu : X.A.units + 64 < cLine) : ∃ r, OpR X (compareOp .NotEq) r ∧ OpG X r (notO eqO) := by
  refine ⟨_, op_ne.or ((op_neD hu).or ((op_neLen (by omega)).or (op_neDk (by omega)))), ?_⟩
  intro m H ah v w x y z Q r hv hw hf q
  unfold notO at hf
  split at hf
  · rename_i b hb
    cases hf
    rcases eq_read (P := fun b => Q (.bl (!b)) H) r hv hw hb (q.here r (.bl (!b))) with h | h | h | h
    · exact .inl h
    · exact .inr (.inl h)
    · exact .inr (.inr (.inl h))
    · exact .inr (.inr (.inr h))
  · cases hf

def isO : O2 := fun _ v w => match v, w with
  | .bl a, .bl b => some (.bl (decide (a = b)))
  | .non, .non => some (.bl true)
  | .ref _, .non => some (.bl false)
  | .int _, .non => some (.bl false)
  | .str _, .non => some (.bl false)
  | .tup _, .non => some (.bl false)
  | .lst _, .non => some (.bl false)
  | .dk _, .non => some (.bl false)
  | .bl _, .non => some (.bl false)
  | _, _ => none
theorem is_read {m : MM} {H : Hp} {ah : AH} {v w : AV} {x y : V} {b : Bool} {P : Bool → Prop} (hv : VR X.K m H v x) (hw : VR X.K m H w y) (hf : isO ah v w = some (.bl b)) (q : P b) :
    (∃ a b : Bool, x = .bl a ∧ y = .bl b ∧ P (decide (a = b))) ∨ (y = .non ∧ P (decide (x = .non))) := by
  unfold isO at hf
  split at hf
  · cases hf; cases hv; cases hw; exact .inl ⟨_, _, rfl, rfl, q⟩
  all_goals first | (cases hf; cases hv; cases hw; exact .inr ⟨rfl, q⟩) | cases hf
theorem isO_bl {ah : AH} {v w z : AV} (h : isO ah v w = some z) : ∃ b, z = .bl b := by
  unfold isO at h
  split at h <;> first | (cases h; exact ⟨_, rfl⟩) | cases h
theorem is_g : ∃ r, OpR X (compareOp .Is) r ∧ OpG X r isO := by
  refine ⟨_, op_isBl.or op_isN, ?_⟩
  intro m H ah v w x y z Q r hv hw hf q
  obtain ⟨b, rfl⟩ := isO_bl hf
  exact is_read (P := fun b => Q (.bl b) H) hv hw hf (q.here r (.bl b))
theorem isnot_g : ∃ r, OpR X (compareOp .IsNot) r ∧ OpG X r (notO isO) := by
  refine ⟨_, op_notBl.or op_notN, ?_⟩
  intro m H ah v w x y z Q r hv hw hf q
  unfold notO at hf
  split at hf
  · rename_i b hb
    cases hf
    exact is_read (P := fun b => Q (.bl (!b)) H) hv hw hb (q.here r (.bl (!b)))
  · cases hf
end
end G
namespace G
open PySem PySem.Spec PyProof.Rows L2
set_option autoImplicit false

def lookK (l : List (AK × AV)) (k : AK) : Option AV := (l.find? fun p => decide (p.1 = k)).map (·.2)
theorem lookK_nil (k : AK) : lookK [] k = none := rfl
theorem lookK_cons (p : AK × AV) (l : List (AK × AV)) (k : AK) : lookK (p :: l) k = if p.1 = k then some p.2 else lookK l k := by
  unfold lookK
  rw [List.find?_cons]
  by_cases h : p.1 = k
  · simp [h]
  · simp [h]
theorem akey_inj {a b : AK} (h : akey a = akey b) : a = b := by
  cases a with
  | inl i =>
    cases b with
    | inl j => cases h; rfl
    | inr t => cases h
  | inr s =>
    cases b with
    | inl j => cases h
    | inr t =>
      have e : mkS s = mkS t := Sum.inr.inj h
      rw [mkS_inj e]
section
variable {K : PySem.W.Frag} {m : MM} {H : Hp}
theorem VRk.look : ∀ {l : List (AK × AV)} {kvs : List (Key × V)}, VRk K m H l kvs → ∀ k : AK, (lookK l k = none ∧ valV kvs (akey k) = none) ∨ ∃ v x, lookK l k = some v ∧ valV kvs (akey k) = some x ∧ VR K m H v x
  | _, _, .nil, k => .inl ⟨rfl, rfl⟩
  | _, _, .cons (k := j) (v := v) (x := x) h r, k => by
    by_cases e : j = k
    · subst e
      exact .inr ⟨v, x, by rw [lookK_cons, if_pos rfl], valV_pos rfl, h⟩
    · rw [lookK_cons, if_neg e, valV_neg fun z => e (akey_inj z)]
      exact VRk.look r k
theorem VRk.length : ∀ {l : List (AK × AV)} {kvs : List (Key × V)}, VRk K m H l kvs → l.length = kvs.length
  | _, _, .nil => rfl
  | _, _, .cons _ r => by rw [List.length_cons, List.length_cons, VRk.length r]
/-- a value as a key -/
def keyA : AV → Option AK
  | .int i => some (.inl i)
  | .str s => some (.inr s)
  | _ => none
theorem keyA_kV {v : AV} {x : V} {k : AK} (h : keyA v = some k) (r : VR K m H v x) : x = kV (akey k) := by
  cases v <;> first | (cases h; cases r; rfl) | cases h
end
abbrev DKR (_ : PySem.W.Frag) (H : Hp) (a : Addr) (kvs : List (Key × V)) : Prop := Rd H a (.dK kvs)
section
variable {X : Cx}
theorem DKR.at {pins : List (Addr × Obj)} {σ : L2.St} {H : Hp} {s : Shared} (I : Inv X pins σ H s) {a : Addr} {kvs : List (Key × V)} (h : DKR X.K H a kvs) :
    kvs.length ≤ sizeLine ∧ (a == sysModules) = false ∧ ∃ vs, KV kvs vs ∧ s.heap.DictOf (mixKind X.prog X.w) a vs := by
  exact dk_rd I.hok h
def rDIn (K : PySem.W.Frag) (neg : Bool) : R2 := fun x y H Q => ∃ a k kvs, x = kV k ∧ y = .ref a ∧ DKR K H a kvs ∧ Q (.bl (if neg then !(valV kvs k).isSome else (valV kvs k).isSome)) H
theorem op_din : OpR X (compareOp .In) (rDIn X.K false) := by
  intro pins s σ H x y v u Q I rx ry h
  obtain ⟨a, k, kvs, rfl, rfl, hd, q⟩ := h
  cases ry
  obtain ⟨_, hs, vs, rel, dd⟩ := hd.at I
  refine wpAny_in_of (kV_is rx) hs dd.mapOf ?_
  rw [← (rel.val k).isSome_eq]
  exact ⟨.bl _, H, I.tok _, rfl, q⟩
theorem op_dnotin : OpR X (compareOp .NotIn) (rDIn X.K true) := by
  intro pins s σ H x y v u Q I rx ry h
  obtain ⟨a, k, kvs, rfl, rfl, hd, q⟩ := h
  cases ry
  obtain ⟨_, hs, vs, rel, dd⟩ := hd.at I
  refine wpAny_notIn_of (kV_is rx) hs dd.mapOf ?_
  rw [← (rel.val k).isSome_eq]
  exact ⟨.bl _, H, I.tok _, rfl, q⟩
def rDIx (K : PySem.W.Frag) : R2 := fun x y H Q => ∃ a k kvs v, x = .ref a ∧ y = kV k ∧ DKR K H a kvs ∧ valV kvs k = some v ∧ Q v H
theorem ix_dict : IxR X (rDIx X.K) := by
  intro value slice pins s σ H x y v u Q I rx ry h hs
  obtain ⟨a, k, kvs, w, rfl, rfl, hd, hv, q⟩ := h
  cases rx
  obtain ⟨_, _, vs, rel, dd⟩ := hd.at I
  obtain ⟨w', hw, rw'⟩ := RelO.some_of (v := w) (o := valueAt vs k) (by rw [← hv]; exact rel.val k)
  exact tail_any dd.typeIs PySem.F.slot_dict_getitem.lookup (wpAny_getItem_of (kV_is ry) dd.mapOf hw ⟨w, H, I.tok _, rw', q⟩) hs
end

def flatA : AV → Bool
  | .non => true
  | .bl _ => true
  | .int _ => true
  | .str _ => true
  | _ => false
def inO : O2 := fun ah v w => match v, dr ah w with
  | .str [c], .str t => some (.bl (decide (c ∈ t)))
  | v, .tup l => if flatA v && l.all flatA then some (.bl (l.any fun y => eqA y v)) else none
  | v, .fl l => if flatA v && l.all flatA then some (.bl (l.any fun y => eqA y v)) else none
  | v, .lst l => if flatA v && l.all flatA then some (.bl (l.any fun y => eqA y v)) else if shA (dr ah v) && shA (.lst l) then some (.bl (l.any fun y => eqA y (dr ah v))) else none
  | v, .dk l => match keyA v with
    | some k => some (.bl (lookK l k).isSome)
    | none => none
  | _, _ => none
section
variable {K : PySem.W.Frag} {m : MM} {H : Hp}
theorem eqV_eqA {v w : AV} {x y : V} (hv : VR K m H v x) (hw : VR K m H w y) (fv : flatA v = true) (fw : flatA w = true) : eqV x y = eqA v w := by
  cases hv <;> first | cases fv | skip
  all_goals (cases hw <;> first | cases fw | skip)
  all_goals first | rfl | skip
  · rename_i s t
    show (mkS s == mkS t) = decide (s = t)
    by_cases e : s = t
    · subst e; simp
    · rw [decide_eq_false e, beq_eq_false_iff_ne]; exact fun z => e (mkS_inj z)
theorem flat_v {v : AV} {x : V} (hv : VR K m H v x) (fv : flatA v = true) : flatV x = true := by
  cases hv <;> first | rfl | cases fv
theorem flat_vs : ∀ {l : List AV} {xs : List V}, VRs K m H l xs → l.all flatA = true → xs.all flatV = true
  | _, _, .nil, _ => rfl
  | _, _, .cons h r, f => by
    rw [List.all_cons, Bool.and_eq_true] at f
    rw [List.all_cons, Bool.and_eq_true]
    exact ⟨flat_v h f.1, flat_vs r f.2⟩
theorem inV_any {v : AV} {x : V} (hv : VR K m H v x) (fv : flatA v = true) : ∀ {l : List AV} {xs : List V}, VRs K m H l xs → l.all flatA = true → inV x xs = l.any fun y => eqA y v
  | _, _, .nil, _ => rfl
  | _, _, .cons h r, f => by
    rw [List.all_cons, Bool.and_eq_true] at f
    have ih := inV_any hv fv r f.2
    unfold inV at ih ⊢
    rw [List.any_cons, List.any_cons, ih, eqV_eqA h hv f.1 fv]
theorem toDs_any {d : AV} (hd : okA d = true) : ∀ {l : List AV}, okAs l = true → ((toDs l).any fun z => PyData.eqv z (toD d)) = l.any fun y => eqA y d
  | [], _ => rfl
  | x :: l, h => by
    have h : (okA x && okAs l) = true := h
    rw [Bool.and_eq_true] at h
    have ih := toDs_any hd h.2
    show (PyData.eqv (toD x) (toD d) || (toDs l).any fun z => PyData.eqv z (toD d)) = (eqA x d || l.any fun y => eqA y d)
    rw [okA_eqv x d h.1 hd, ih]
end
section
variable {X : Cx}
theorem inO_bl {ah : AH} {v w z : AV} (h : inO ah v w = some z) : ∃ b, z = .bl b := by
  unfold inO at h
  split at h
  · cases h; exact ⟨_, rfl⟩
  · split at h
    · cases h; exact ⟨_, rfl⟩
    · cases h
  · split at h
    · cases h; exact ⟨_, rfl⟩
    · cases h
  · split at h
    · cases h; exact ⟨_, rfl⟩
    · split at h
      · cases h; exact ⟨_, rfl⟩
      · cases h
  · split at h
    · cases h; exact ⟨_, rfl⟩
    · cases h
  · cases h
/-- what a value stands for, a ref looked up -/
theorem VR.list {m : MM} {H : Hp} {ah : AH} {w : AV} {y : V} {l : List AV} (r : Rel X.K m ah H) (h : VR X.K m H w y) (e : dr ah w = .lst l) : ∃ a vs, y = .ref a ∧ H a = some (.lst vs) ∧ VRs X.K m H l vs := by
  cases h with
  | ref hm =>
    obtain ⟨o, ho, q⟩ := r.at hm
    rw [dr_ref ho] at e
    cases o with
    | lst l' =>
      obtain ⟨vs, h1, h2⟩ := q
      cases e
      exact ⟨_, vs, rfl, h1, h2⟩
    | dk l' => cases e
  | lst h1 h2 h3 => cases e; exact ⟨_, _, rfl, h1, h3⟩
  | _ => cases e
theorem VR.dict {m : MM} {H : Hp} {ah : AH} {w : AV} {y : V} {l : List (AK × AV)} (r : Rel X.K m ah H) (h : VR X.K m H w y) (e : dr ah w = .dk l) : ∃ a kvs, y = .ref a ∧ DKR X.K H a kvs ∧ VRk X.K m H l kvs := by
  cases h with
  | ref hm =>
    obtain ⟨o, ho, q⟩ := r.at hm
    rw [dr_ref ho] at e
    cases o with
    | dk l' =>
      obtain ⟨vs, h1, h2⟩ := q
      cases e
      exact ⟨_, vs, rfl, .inl h1, h2⟩
    | lst l' => cases e
  | dk h1 h2 h3 => cases e; exact ⟨_, _, rfl, h1, h3⟩
  | _ => cases e
theorem VR.tupl {m : MM} {H : Hp} {ah : AH} {w : AV} {y : V} {l : List AV} (r : Rel X.K m ah H) (h : VR X.K m H w y) (e : dr ah w = .tup l) : ∃ a vs, y = .ref a ∧ SqN X.K H a vs ∧ VRs X.K m H l vs := by
  cases h with
  | ref hm =>
    obtain ⟨o, ho, q⟩ := r.at hm
    rw [dr_ref ho] at e
    cases o <;> cases e
  | tup h1 h3 => cases e; exact ⟨_, _, rfl, h1, h3⟩
  | _ => cases e
theorem VR.flst {m : MM} {H : Hp} {ah : AH} {w : AV} {y : V} {l : List AV} (r : Rel X.K m ah H) (h : VR X.K m H w y) (e : dr ah w = .fl l) : ∃ a vs, y = .ref a ∧ SqL X.K H a vs ∧ VRs X.K m H l vs := by
  cases h with
  | ref hm =>
    obtain ⟨o, ho, q⟩ := r.at hm
    rw [dr_ref ho] at e
    cases o <;> cases e
  | fl h1 h3 =>
    cases e
    refine ⟨_, _, rfl, ?_, h3⟩
    rcases h1 with ⟨o, h1⟩ | h1
    · exact .inl (.inr ⟨o, h1⟩)
    · exact .inr h1
  | _ => cases e
theorem VR.strg {m : MM} {H : Hp} {ah : AH} {w : AV} {y : V} {l : List Nat} (r : Rel X.K m ah H) (h : VR X.K m H w y) (e : dr ah w = .str l) : y = .str (mkS l) := by
  cases h with
  | ref hm =>
    obtain ⟨o, ho, q⟩ := r.at hm
    rw [dr_ref ho] at e
    cases o <;> cases e
  | str s => cases e; rfl
  | _ => cases e
theorem sh_ok {v : AV} (h : shA v = true) : okA v = true := by
  unfold shA at h
  rw [Bool.and_eq_true] at h
  exact h.1
theorem in_read {m : MM} {H : Hp} {ah : AH} {v w : AV} {x y : V} {b : Bool} {P : Bool → Prop} (r : Rel X.K m ah H) (hv : VR X.K m H v x) (hw : VR X.K m H w y) (hf : inO ah v w = some (.bl b)) (q : P b) :
    (∃ (c : Nat) (z : Str), x = .str ⟨#[c]⟩ ∧ y = .str z ∧ P (decide (c ∈ z.cps.toList))) ∨ (∃ p xs, y = .ref p ∧ (SqL X.K H p xs ∨ SqT X.K H p xs) ∧ flatV x = true ∧ xs.all flatV = true ∧ P (inV x xs)) ∨
    (∃ d ds, Dp X.K H x d ∧ Dp X.K H y (.list ds) ∧ SeqAt.shaped d = true ∧ SeqAt.shaped (.list ds) = true ∧ P (ds.any fun z => PyData.eqv z d)) ∨ ∃ a k kvs, x = kV k ∧ y = .ref a ∧ DKR X.K H a kvs ∧ P (valV kvs k).isSome := by
  unfold inO at hf
  split at hf
  · rename_i c t e
    cases hf; cases hv
    cases VR.strg r hw e
    exact .inl ⟨c, mkS t, rfl, rfl, by rw [mkS_list]; exact q⟩
  · rename_i l e _
    split at hf
    · rename_i h
      rw [Bool.and_eq_true] at h
      cases hf
      obtain ⟨a, vs, rfl, h1, h2⟩ := VR.tupl r hw (by assumption)
      exact .inr (.inl ⟨a, vs, rfl, .inr h1, flat_v hv h.1, flat_vs h2 h.2, by rw [inV_any hv h.1 h2 h.2]; exact q⟩)
    · cases hf
  · split at hf
    · rename_i h
      rw [Bool.and_eq_true] at h
      cases hf
      obtain ⟨a, vs, rfl, h1, h2⟩ := VR.flst r hw (by assumption)
      exact .inr (.inl ⟨a, vs, rfl, .inl h1, flat_v hv h.1, flat_vs h2 h.2, by rw [inV_any hv h.1 h2 h.2]; exact q⟩)
    · cases hf
  · split at hf
    · rename_i h
      rw [Bool.and_eq_true] at h
      cases hf
      obtain ⟨a, vs, rfl, h1, h2⟩ := VR.list r hw (by assumption)
      exact .inr (.inl ⟨a, vs, rfl, .inl (SqL.of h1), flat_v hv h.1, flat_vs h2 h.2, by rw [inV_any hv h.1 h2 h.2]; exact q⟩)
    · split at hf
      · rename_i h
        rw [Bool.and_eq_true] at h
        cases hf
        obtain ⟨a, vs, rfl, h1, h2⟩ := VR.list r hw (by assumption)
        have o1 := h.1
        unfold shA at o1
        rw [Bool.and_eq_true] at o1
        have o1 := o1.1
        have o2 := h.2
        unfold shA at o2
        rw [Bool.and_eq_true] at o2
        have o2 : okAs _ = true := o2.1
        exact .inr (.inr (.inl ⟨_, _, VR.drD r hv o1, .lst (SqL.of h1) (VRs.dp _ _ h2 o2), sh_of h.1, sh_of h.2, by rw [toDs_any o1 o2]; exact q⟩))
      · cases hf
  · split at hf
    · rename_i k hk
      cases hf
      obtain ⟨a, kvs, rfl, h1, h2⟩ := VR.dict r hw (by assumption)
      refine .inr (.inr (.inr ⟨a, akey k, kvs, keyA_kV hk hv, rfl, h1, ?_⟩))
      rcases h2.look k with ⟨e1, e2⟩ | ⟨v', x', e1, e2, _⟩
      · rw [e1] at q; rw [e2]; exact q
      · rw [e1] at q; rw [e2]; exact q
    · cases hf
  · cases hf
theorem in_g (hu : X.A.units + 65 < cLine) : ∃ r, OpR X (compareOp .In) r ∧ OpG X r inO := by
  refine ⟨_, op_in_sign.or (op_in_seq.or ((op_inD hu).or op_din)), ?_⟩
  intro m H ah v w x y z Q r hv hw hf q
  obtain ⟨b, rfl⟩ := inO_bl hf
  exact in_read (P := fun b => Q (.bl b) H) r hv hw hf (q.here r (.bl b))
theorem notin_g (hu : X.A.units + 65 < cLine) : ∃ r, OpR X (compareOp .NotIn) r ∧ OpG X r (notO inO) := by
  refine ⟨_, op_notIn_sign.or (op_notIn_seq.or ((op_notInD hu).or op_dnotin)), ?_⟩
  intro m H ah v w x y z Q r hv hw hf q
  unfold notO at hf
  split at hf
  · rename_i b hb
    cases hf
    exact in_read (P := fun b => Q (.bl (!b)) H) r hv hw hb (q.here r (.bl (!b)))
  · cases hf
end
end G
namespace G
open PySem PySem.Spec PyProof.Rows L2
set_option autoImplicit false

def trA (ah : AH) (v : AV) : Option Bool := match dr ah v with
  | .non => some false
  | .bl b => some b
  | .int i => some (i != 0)
  | .str s => if s.length ≤ 1000000 then some (!s.isEmpty) else none
  | .tup l => some (!l.isEmpty)
  | .lst l => some (!l.isEmpty)
  | .fl l => some (!l.isEmpty)
  | _ => none
@[simp] theorem trA_bl {ah : AH} {b : Bool} : trA ah (.bl b) = some b := rfl
theorem dr_plain {ah : AH} {v w : AV} (h : dr ah v = w) (hn : ∀ o, w ≠ objV o) : v = w := by
  cases v with
  | ref n =>
    cases q : ah[n]? with
    | none =>
      have e : dr ah (.ref n) = .ref n := by
        show (match ah[n]? with | some o => objV o | none => .ref n) = _
        rw [q]
      rw [e] at h; exact h
    | some o => rw [dr_ref q] at h; exact absurd h.symm (hn o)
  | _ => exact h
section
variable {X : Cx} {W : WX} {a b c : Expr} {rest : List Expr} {fa fb fc : GE} {t u : GT} {pos : Pos}
theorem empty_vs {K : PySem.W.Frag} {m : MM} {H : Hp} {l : List AV} {xs : List V} (h : VRs K m H l xs) : (!l.isEmpty) = !xs.isEmpty := by cases h <;> rfl
theorem tru_of {m : MM} {H : Hp} {ah : AH} {v : AV} {x : V} {k : Bool} (r : Rel X.K m ah H) (h : VR X.K m H v x) (e : trA ah v = some k) : TruV X.K x H k := by
  unfold trA at e
  split at e
  · have q := dr_plain (by assumption) (by intro o; cases o <;> exact fun z => nomatch z)
    subst q; cases h; cases e; rfl
  · have q := dr_plain (by assumption) (by intro o; cases o <;> exact fun z => nomatch z)
    subst q; cases h; cases e; rfl
  · have q := dr_plain (by assumption) (by intro o; cases o <;> exact fun z => nomatch z)
    subst q; cases h; cases e; rfl
  · rename_i s q
    cases VR.strg r h q
    split at e
    · rename_i hl
      cases e
      refine ⟨by rw [mkS_length]; exact lim_line hl, ?_⟩
      rw [mkS_length]
      cases s with
      | nil => rfl
      | cons a l => simp; omega
    · cases e
  · obtain ⟨a, vs, rfl, h1, h2⟩ := VR.tupl r h (by assumption)
    cases e
    exact .inr (.inl ⟨vs, h1, empty_vs h2⟩)
  · obtain ⟨a, vs, rfl, h1, h2⟩ := VR.list r h (by assumption)
    cases e
    exact .inl ⟨vs, SqL.of h1, empty_vs h2⟩
  · obtain ⟨a, vs, rfl, h1, h2⟩ := VR.flst r h (by assumption)
    cases e
    exact .inl ⟨vs, h1, empty_vs h2⟩
  · cases e
def gTT (a : GE) : GT := fun env ah => rb (a env ah) fun v ah1 => lift1 (trA ah1 v) ah1
theorem gt_truth (ha : PE X a (tG X W fa)) (he : ∀ whole, isTrue a X.env whole = (do let v ← whole; standAt a.pos; holding [v] (truthy v)) := by intro _; rfl) : PT X a (tGT X W (gTT fa)) :=
  PT.weak (pt_truth ha he) fun σ H Q h => by
    obtain ⟨m, env, ah, hE, hR, hp⟩ := h
    refine tG_step hE hR hp (fun _ _ h => h) fun v ah1 m1 H1 x e1 r1 v1 hp1 => ?_
    cases e : trA ah1 v with
    | none => rw [e] at hp1; exact hp1.elim
    | some k => rw [e] at hp1; exact ⟨k, tru_of r1 v1 e, hp1 m1 H1 e1 r1⟩
def gNotT (t : GT) : GT := fun env ah => rb (t env ah) fun b ah1 => .ok (!b) ah1
def gAndT (t u : GT) : GT := fun env ah => rb (t env ah) fun b ah1 => if b = true then u env ah1 else .ok false ah1
def gOrT (t u : GT) : GT := fun env ah => rb (t env ah) fun b ah1 => if b = true then .ok true ah1 else u env ah1
theorem gt_not (ha : PT X a (tGT X W t)) : PT X (.UnaryOp .Not a pos) (tGT X W (gNotT t)) :=
  PT.weak (pt_not ha) fun σ H Q h => by
    obtain ⟨m, env, ah, hE, hR, hp⟩ := h
    exact tGT_step hE hR hp (fun _ _ h => h) fun v ah1 m1 H1 e1 r1 hp1 => hp1 m1 H1 e1 r1
theorem gt_and1 (ha : PT X a (tGT X W t)) : PW X (.BoolOp .And [a] pos) (tGT X W t) := pw_and1 ha
theorem gt_or1 (ha : PT X a (tGT X W t)) : PW X (.BoolOp .Or [a] pos) (tGT X W t) := pw_or1 ha
theorem PW.weak {e : Expr} {t t' : TT} (h : PW X e t) (w : ∀ σ H Q, t' σ H Q → t σ H Q) : PW X e t' := ⟨fun wh pins s σ H Q I q => h.run wh pins s σ H Q I (w σ H Q q)⟩
theorem gt_and (ha : PT X a (tGT X W t)) (hb : PW X (.BoolOp .And (b :: rest) pos) (tGT X W u)) : PW X (.BoolOp .And (a :: b :: rest) pos) (tGT X W (gAndT t u)) :=
  PW.weak (pw_and ha hb) fun σ H Q h => by
    obtain ⟨m, env, ah, hE, hR, hp⟩ := h
    refine tGT_step hE hR hp (fun _ _ h => h) fun v ah1 m1 H1 e1 r1 hp1 => ?_
    cases v with
    | true => exact iteT ⟨m1, env, ah1, hE.mono e1, r1, Res.post_imp hp1 (fun _ _ _ h => PB.mono e1 h) fun _ _ h => PX.mono e1 h⟩
    | false => exact iteF (hp1 m1 H1 e1 r1)
theorem gt_or (ha : PT X a (tGT X W t)) (hb : PW X (.BoolOp .Or (b :: rest) pos) (tGT X W u)) : PW X (.BoolOp .Or (a :: b :: rest) pos) (tGT X W (gOrT t u)) :=
  PW.weak (pw_or ha hb) fun σ H Q h => by
    obtain ⟨m, env, ah, hE, hR, hp⟩ := h
    refine tGT_step hE hR hp (fun _ _ h => h) fun v ah1 m1 H1 e1 r1 hp1 => ?_
    cases v with
    | true => exact iteT (hp1 m1 H1 e1 r1)
    | false => exact iteF ⟨m1, env, ah1, hE.mono e1, r1, Res.post_imp hp1 (fun _ _ _ h => PB.mono e1 h) fun _ _ h => PX.mono e1 h⟩
def gAnd (a b : GE) : GE := fun env ah => rb (a env ah) fun v ah1 => match trA ah1 v with
  | some true => b env ah1
  | some false => .ok v ah1
  | none => .bad
def gOr (a b : GE) : GE := fun env ah => rb (a env ah) fun v ah1 => match trA ah1 v with
  | some true => .ok v ah1
  | some false => b env ah1
  | none => .bad
def gNot (a : GE) : GE := fun env ah => rb (a env ah) fun v ah1 => match trA ah1 v with
  | some k => .ok (.bl (!k)) ah1
  | none => .bad
theorem ge_one {op : BoolOp} (ha : PE X a (tG X W fa)) : PE X (.BoolOp op [a] pos) (tG X W fa) := pe_one ha
theorem ge_and (ha : PE X a (tG X W fa)) (hb : PE X (.BoolOp .And (b :: rest) pos) (tG X W fb)) : PE X (.BoolOp .And (a :: b :: rest) pos) (tG X W (gAnd fa fb)) :=
  PE.weak (pe_andT ha hb) fun σ H Q h => by
    obtain ⟨m, env, ah, hE, hR, hp⟩ := h
    refine tG_step hE hR hp (fun _ _ h => h) fun v ah1 m1 H1 x e1 r1 v1 hp1 => ?_
    cases e : trA ah1 v with
    | none => rw [e] at hp1; exact hp1.elim
    | some k =>
      rw [e] at hp1
      refine ⟨k, tru_of r1 v1 e, ?_⟩
      cases k with
      | true => exact iteT ⟨m1, env, ah1, hE.mono e1, r1, Res.post_imp hp1 (fun _ _ _ h => PQ.mono e1 h) fun _ _ h => PX.mono e1 h⟩
      | false => exact iteF (hp1 m1 H1 x e1 r1 v1)
theorem ge_or (ha : PE X a (tG X W fa)) (hb : PE X (.BoolOp .Or (b :: rest) pos) (tG X W fb)) : PE X (.BoolOp .Or (a :: b :: rest) pos) (tG X W (gOr fa fb)) :=
  PE.weak (pe_orT ha hb) fun σ H Q h => by
    obtain ⟨m, env, ah, hE, hR, hp⟩ := h
    refine tG_step hE hR hp (fun _ _ h => h) fun v ah1 m1 H1 x e1 r1 v1 hp1 => ?_
    cases e : trA ah1 v with
    | none => rw [e] at hp1; exact hp1.elim
    | some k =>
      rw [e] at hp1
      refine ⟨k, tru_of r1 v1 e, ?_⟩
      cases k with
      | false => exact iteF ⟨m1, env, ah1, hE.mono e1, r1, Res.post_imp hp1 (fun _ _ _ h => PQ.mono e1 h) fun _ _ h => PX.mono e1 h⟩
      | true => exact iteT (hp1 m1 H1 x e1 r1 v1)
theorem ge_not (ha : PE X a (tG X W fa)) : PE X (.UnaryOp .Not a pos) (tG X W (gNot fa)) :=
  PE.weak (pe_notT ha) fun σ H Q h => by
    obtain ⟨m, env, ah, hE, hR, hp⟩ := h
    refine tG_step hE hR hp (fun _ _ h => h) fun v ah1 m1 H1 x e1 r1 v1 hp1 => ?_
    cases e : trA ah1 v with
    | none => rw [e] at hp1; exact hp1.elim
    | some k =>
      rw [e] at hp1
      exact ⟨k, tru_of r1 v1 e, hp1 m1 H1 _ e1 r1 (.bl _)⟩
def gIfE (t : GT) (a b : GE) : GE := fun env ah => rb (t env ah) fun k ah1 => if k = true then a env ah1 else b env ah1
theorem ge_ifE (hc : PT X c (tGT X W t)) (ha : PE X a (tG X W fa)) (hb : PE X b (tG X W fb)) : PE X (.IfExp c a b pos) (tG X W (gIfE t fa fb)) :=
  PE.weak (pe_ifExp hc ha hb) fun σ H Q h => by
    obtain ⟨m, env, ah, hE, hR, hp⟩ := h
    refine tGT_step hE hR hp (fun _ _ h => h) fun v ah1 m1 H1 e1 r1 hp1 => ?_
    cases v with
    | true => exact iteT ⟨m1, env, ah1, hE.mono e1, r1, Res.post_imp hp1 (fun _ _ _ h => PQ.mono e1 h) fun _ _ h => PX.mono e1 h⟩
    | false => exact iteF ⟨m1, env, ah1, hE.mono e1, r1, Res.post_imp hp1 (fun _ _ _ h => PQ.mono e1 h) fun _ _ h => PX.mono e1 h⟩

def gNeg (a : GE) : GE := fun env ah => rb (a env ah) fun v ah1 => match v with
  | .int i => .ok (.int (-i)) ah1
  | _ => .bad
theorem ge_neg (ha : PE X a (tG X W fa)) : PE X (.UnaryOp .USub a pos) (tG X W (gNeg fa)) :=
  PE.weak (pe_un un_neg ha) fun σ H Q h => by
    obtain ⟨m, env, ah, hE, hR, hp⟩ := h
    refine tG_step hE hR hp (fun _ _ h => h) fun v ah1 m1 H1 x e1 r1 v1 hp1 => ?_
    cases v1 with
    | int i => exact ⟨i, rfl, hp1 m1 H1 _ e1 r1 (.int _)⟩
    | _ => exact hp1.elim

def gChain (f g : O2) (a b c : GE) : GE := fun env ah => rb (a env ah) fun v ah1 => rb (b env ah1) fun w ah2 => match f ah2 v w with
  | some (.bl true) => rb (c env ah2) fun z ah3 => lift1 (g ah3 w z) ah3
  | some (.bl false) => .ok (.bl false) ah2
  | _ => .bad

def gNil : GA := fun _ ah => .ok [] ah
def gCons (a : GE) (r : GA) : GA := fun env ah => rb (a env ah) fun v ah1 => rb (r env ah1) fun l ah2 => .ok (v :: l) ah2
variable {es : List Expr} {fr fs : GA}
theorem ga_nil : PA X [] (tGA X W gNil) := PA.weak pa_nil fun σ H Q ⟨m, env, ah, hE, hR, hp⟩ => hp m H [] (Ext.refl m H) hR .nil
theorem ga_cons (ha : PE X a (tG X W fa)) (hr : PA X es (tGA X W fr)) (hs : starEach (a :: es) X.env = (false, eval a X.env) :: starEach es X.env := by rfl) : PA X (a :: es) (tGA X W (gCons fa fr)) :=
  PA.weak (pa_cons ha hr hs) fun σ H Q h => by
    obtain ⟨m, env, ah, hE, hR, hp⟩ := h
    refine tG_step hE hR hp (fun _ _ h => h) fun v ah1 m1 H1 x e1 r1 v1 hp1 => ?_
    refine tGA_step (hE.mono e1) r1 (Res.post_imp hp1 (fun _ _ _ h => PL.mono e1 h) (fun _ _ h => PX.mono e1 h)) (fun _ _ h => h) fun w ah2 m2 H2 y e2 r2 v2 hp2 => ?_
    exact PL.mono e2 hp2 m2 H2 (x :: y) (Ext.refl m2 H2) r2 (.cons (v1.mono e2) v2)
def limL (l : List AV) (v : AV) (ah : AH) : Res AV := if l.length ≤ 1000000 then .ok v ah else .bad
def gTup (r : GA) : GE := fun env ah => rb (r env ah) fun l ah1 => limL l (.tup l) ah1
def gLst (r : GA) : GE := fun env ah => rb (r env ah) fun l ah1 => limL l (.lst l) ah1
/-- a list that will be changed -/
def gLstH (r : GA) : GE := fun env ah => rb (r env ah) fun l ah1 => limL l (.ref ah1.length) (ah1 ++ [.lst l])
theorem limL_post {l : List AV} {v : AV} {ah : AH} {P : AV → AH → Prop} {E : EV → AH → Prop} (h : (limL l v ah).post P E) : l.length ≤ 1000000 ∧ P v ah := by
  unfold limL at h
  split at h
  · exact ⟨by assumption, h⟩
  · exact h.elim
theorem PQ.newH {K : PySem.W.Frag} {m : MM} {H : Hp} {ah : AH} {l : List AV} {vs : List V} {Q : VK} (h : PQ K m H Q (.ref ah.length) (ah ++ [.lst l])) (r : Rel K m ah H) (hv : VRs K m H l vs) {p : Addr} (hp : H p = none) : Q (.ref p) (upd H p (.lst vs)) := by
  refine h (m.add p) _ _ (Ext.alloc hp) (r.alloc hp ⟨vs, rfl, hv.mono (Ext.alloc hp)⟩) (.ref ?_)
  show (m.l ++ [p])[ah.length]? = some p
  rw [← r.len, List.getElem?_append_right (Nat.le_refl _)]
  simp
theorem PQ.newD {K : PySem.W.Frag} {m : MM} {H : Hp} {ah : AH} {l : List (AK × AV)} {vs : List (Key × V)} {Q : VK} (h : PQ K m H Q (.ref ah.length) (ah ++ [.dk l])) (r : Rel K m ah H) (hv : VRk K m H l vs) {p : Addr} (hp : H p = none) : Q (.ref p) (upd H p (.dK vs)) := by
  refine h (m.add p) _ _ (Ext.alloc hp) (r.alloc hp ⟨vs, rfl, hv.mono (Ext.alloc hp)⟩) (.ref ?_)
  show (m.l ++ [p])[ah.length]? = some p
  rw [← r.len, List.getElem?_append_right (Nat.le_refl _)]
  simp
theorem ge_tup {x1} (h : PA X es (tGA X W fr)) : PE X (.Tuple es x1 pos) (tG X W (gTup fr)) :=
  PE.weak (pe_tupN h) fun σ H Q h => by
    obtain ⟨m, env, ah, hE, hR, hp⟩ := h
    refine tGA_step hE hR hp (fun _ _ h => h) fun l ah1 m1 H1 xs e1 r1 v1 hp1 => ?_
    obtain ⟨hl, q⟩ := limL_post hp1
    exact ⟨by rw [← v1.length]; exact lim_line hl, (PQ.mono e1 q).newT r1 v1⟩
theorem ge_lst (h : PA X es (tGA X W fr)) : PE X (.List es pos) (tG X W (gLst fr)) :=
  PE.weak (pe_lst h) fun σ H Q h => by
    obtain ⟨m, env, ah, hE, hR, hp⟩ := h
    refine tGA_step hE hR hp (fun _ _ h => h) fun l ah1 m1 H1 xs e1 r1 v1 hp1 => ?_
    obtain ⟨hl, q⟩ := limL_post hp1
    exact ⟨by rw [← v1.length]; exact lim_line hl, fun p hp => PQ.laid (PQ.mono e1 q) r1 hp (VR.newL r1 hp v1)⟩
theorem ge_lstH (h : PA X es (tGA X W fr)) : PE X (.List es pos) (tG X W (gLstH fr)) :=
  PE.weak (pe_lst h) fun σ H Q h => by
    obtain ⟨m, env, ah, hE, hR, hp⟩ := h
    refine tGA_step hE hR hp (fun _ _ h => h) fun l ah1 m1 H1 xs e1 r1 v1 hp1 => ?_
    obtain ⟨hl, q⟩ := limL_post hp1
    exact ⟨by rw [← v1.length]; exact lim_line hl, fun p hp => PQ.newH (PQ.mono e1 q) r1 v1 hp⟩
/-- {} as a value, as one that will be changed -/
def gDk0 : GE := fun _ ah => .ok (.dk []) ah
def gDk0H : GE := fun _ ah => .ok (.ref ah.length) (ah ++ [.dk []])
theorem ge_dk0 : PE X (.Dict [] [] pos) (tG X W gDk0) :=
  PE.weak pe_dnewK fun σ H Q h => by
    obtain ⟨m, env, ah, hE, hR, hp⟩ := h
    exact fun p hn => PQ.laid hp hR hn (.dk (.inl upd_same) (hR.not hn) .nil)
theorem ge_dk0H : PE X (.Dict [] [] pos) (tG X W gDk0H) :=
  PE.weak pe_dnewK fun σ H Q h => by
    obtain ⟨m, env, ah, hE, hR, hp⟩ := h
    exact fun p hn => PQ.newD hp hR .nil hn

def ixO : O2 := fun ah v w => match dr ah v, w with
  | .tup l, .int i => atI l i
  | .lst l, .int i => atI l i
  | .fl l, .int i => atI l i
  | .str s, .int i => if s.length ≤ 1000000 then (atI s i).map fun c => .str [c] else none
  | .dk l, .int i => lookK l (.inl i)
  | .dk l, .str s => lookK l (.inr s)
  | _, _ => none
theorem VRs.atI {K : PySem.W.Frag} {m : MM} {H : Hp} {l : List AV} {xs : List V} (h : VRs K m H l xs) {i : Int} {v : AV} (e : L2.atI l i = some v) : ∃ x, L2.atI xs i = some x ∧ VR K m H v x := by
  unfold L2.atI at e ⊢
  rw [← h.length]
  cases q : ixN l.length i with
  | none => rw [q] at e; cases e
  | some j =>
    rw [q] at e
    exact h.get (i := j) e
theorem ix_g : ∃ r, IxR X r ∧ OpG X r ixO := by
  refine ⟨_, ix_list.or (ix_tup.or (ix_str.or ix_dict)), ?_⟩
  intro m H ah v w x y z Q r hv hw hf q
  unfold ixO at hf
  split at hf
  · obtain ⟨a, vs, rfl, h1, h2⟩ := VR.tupl r hv (by assumption)
    cases hw
    obtain ⟨x, e, hx⟩ := h2.atI hf
    exact .inr (.inl ⟨a, vs, _, x, rfl, rfl, h1, e, q.here r hx⟩)
  · obtain ⟨a, vs, rfl, h1, h2⟩ := VR.list r hv (by assumption)
    cases hw
    obtain ⟨x, e, hx⟩ := h2.atI hf
    exact .inl ⟨a, vs, _, x, rfl, rfl, SqL.of h1, e, q.here r hx⟩
  · obtain ⟨a, vs, rfl, h1, h2⟩ := VR.flst r hv (by assumption)
    cases hw
    obtain ⟨x, e, hx⟩ := h2.atI hf
    exact .inl ⟨a, vs, _, x, rfl, rfl, h1, e, q.here r hx⟩
  · cases VR.strg r hv (by assumption)
    cases hw
    split at hf
    · rename_i hl
      obtain ⟨c, e, hc⟩ := Option.map_eq_some_iff.mp hf
      subst hc
      exact .inr (.inr (.inl ⟨_, _, c, rfl, rfl, by rw [mkS_length]; exact lim_line hl, by rw [mkS_list]; exact e, q.here r (.str _)⟩))
    · cases hf
  · obtain ⟨a, kvs, rfl, h1, h2⟩ := VR.dict r hv (by assumption)
    cases hw
    rename_i i _
    rcases h2.look (.inl i) with ⟨e1, e2⟩ | ⟨v', x', e1, e2, hx⟩
    · rw [e1] at hf; cases hf
    · rw [e1] at hf; cases hf
      exact .inr (.inr (.inr ⟨a, _, kvs, x', rfl, rfl, h1, e2, q.here r hx⟩))
  · obtain ⟨a, kvs, rfl, h1, h2⟩ := VR.dict r hv (by assumption)
    cases hw
    rename_i i _
    rcases h2.look (.inr i) with ⟨e1, e2⟩ | ⟨v', x', e1, e2, hx⟩
    · rw [e1] at hf; cases hf
    · rw [e1] at hf; cases hf
      exact .inr (.inr (.inr ⟨a, _, kvs, x', rfl, rfl, h1, e2, q.here r hx⟩))
  · cases hf
theorem ge_ix (ha : PE X a (tG X W fa)) (hb : PE X b (tG X W fb)) (hs : PlainIx b := by exact fun _ _ => rfl) : PE X (.Subscript a b pos) (tG X W (gOp ixO fa fb)) := by
  obtain ⟨r, h1, h2⟩ := ix_g (X := X)
  exact PE.weak (pe_ix h1 ha hb hs) fun _ _ _ h => op_read h2 h

abbrev GO := Env → AH → Res (Option Int)
def tGO (X : Cx) (W : WX) (f : GO) : TO := fun σ H Q => ∃ m env ah, EnvR X.K m H env σ ∧ Rel X.K m ah H ∧ (f env ah).post (PB X.K m H Q) (PX X.K X.mg m H fun c d H' => W c d σ H')
def gNoP : GO := fun _ ah => .ok none ah
def gP (a : GE) : GO := fun env ah => rb (a env ah) fun v ah1 => match v with
  | .int i => .ok (some i) ah1
  | _ => .bad
def cutA {α : Type} (l : List α) (lo hi : Option Int) : List α := (l.drop (HT.sIx l.length 0 lo)).take (HT.sIx l.length l.length hi - HT.sIx l.length 0 lo)
def slO (ah : AH) (v : AV) (lo hi : Option Int) : Option AV := match dr ah v with
  | .tup l => some (.tup (cutA l lo hi))
  | .lst l => some (.lst (cutA l lo hi))
  | .fl l => some (.lst (cutA l lo hi))
  | .str s => if s.length ≤ 1000000 then some (.str (cutA s lo hi)) else none
  | _ => none
def gSl (a : GE) (lo hi : GO) : GE := fun env ah => rb (a env ah) fun v ah1 => rb (lo env ah1) fun l ah2 => rb (hi env ah2) fun h ah3 => lift1 (slO ah3 v l h) ah3
variable {lo hi : Option Expr} {gl gh : GO} {p2 : Pos}
theorem PO.weak {e : Option Expr} {t t' : TO} (h : PO X e t) (w : ∀ σ H Q, t' σ H Q → t σ H Q) : PO X e t' := ⟨fun pins s σ H Q I q => h.run pins s σ H Q I (w σ H Q q)⟩
theorem go_none : PO X none (tGO X W gNoP) := PO.weak po_none fun σ H Q ⟨m, env, ah, hE, hR, hp⟩ => hp m H (Ext.refl m H) hR
theorem go_some {e : Expr} (h : PE X e (tG X W fa)) : PO X (some e) (tGO X W (gP fa)) :=
  PO.weak (po_some h) fun σ H Q h => by
    obtain ⟨m, env, ah, hE, hR, hp⟩ := h
    refine tG_step hE hR hp (fun _ _ h => h) fun v ah1 m1 H1 x e1 r1 v1 hp1 => ?_
    cases v1 with
    | int i => exact ⟨i, rfl, hp1 m1 H1 e1 r1⟩
    | _ => exact hp1.elim
theorem tGO_step {β : Type} {m : MM} {H : Hp} {env : Env} {ah : AH} {σ : L2.St} {f : GO} {k : Option Int → AH → Res β} {P : β → AH → Prop} {E : EV → AH → Prop} {Q : Option Int → Hp → Prop} (hE : EnvR X.K m H env σ) (hR : Rel X.K m ah H) (h : (rb (f env ah) k).post P E)
    (hx : ∀ e ah1, E e ah1 → PX X.K X.mg m H (fun c d H' => W c d σ H') e ah1)
    (hk : ∀ v ah1 m1 H1, Ext m H m1 H1 → Rel X.K m1 ah1 H1 → (k v ah1).post P E → Q v H1) : tGO X W f σ H Q := by
  refine ⟨m, env, ah, hE, hR, ?_⟩
  cases e : f env ah with
  | ok v ah1 =>
    rw [e] at h
    exact fun m1 H1 e1 r1 => hk v ah1 m1 H1 e1 r1 h
  | exc x ah1 =>
    rw [e] at h
    exact hx x ah1 h
  | bad =>
    rw [e] at h
    exact h
theorem VRs.cut {K : PySem.W.Frag} {m : MM} {H : Hp} {l : List AV} {xs : List V} (h : VRs K m H l xs) (lo hi : Option Int) : VRs K m H (cutA l lo hi) (cutV xs lo hi) := by
  unfold cutA cutV
  rw [h.length]
  exact (h.drop _).take _
theorem sl_g {m : MM} {H : Hp} {ah : AH} {v z : AV} {x : V} {l h : Option Int} {Q : VK} (r : Rel X.K m ah H) (hv : VR X.K m H v x) (hf : slO ah v l h = some z) (q : PQ X.K m H Q z ah) :
    rSlL X.K x l h H Q ∨ rSlN X.K x l h H Q ∨ rSlS x l h H Q := by
  unfold slO at hf
  split at hf
  · obtain ⟨a, vs, rfl, h1, h2⟩ := VR.tupl r hv (by assumption)
    cases hf
    refine .inr (.inl ⟨a, vs, rfl, h1, fun hw => ?_, fun _ => q.newT r (h2.cut l h)⟩)
    refine q.here r ?_
    have e : ∀ l', VRs X.K m H l' vs → cutA l' l h = l' := fun l' h2 => by
      unfold cutA
      have hl := h2.length
      rw [hl, hw.1, hw.2, ← hl]
      simp
    rw [e _ h2]
    exact .tup h1 h2
  · obtain ⟨a, vs, rfl, h1, h2⟩ := VR.list r hv (by assumption)
    cases hf
    exact .inl ⟨a, vs, rfl, SqL.of h1, fun p hp => q.laid r hp (VR.newL r hp (h2.cut l h))⟩
  · obtain ⟨a, vs, rfl, h1, h2⟩ := VR.flst r hv (by assumption)
    cases hf
    exact .inl ⟨a, vs, rfl, h1, fun p hp => q.laid r hp (VR.newL r hp (h2.cut l h))⟩
  · cases VR.strg r hv (by assumption)
    split at hf
    · rename_i hl
      cases hf
      refine .inr (.inr ⟨_, rfl, by rw [mkS_length]; exact lim_line hl, ?_⟩)
      have e : ∀ s, cutS (mkS s) l h = mkS (cutA s l h) := fun s => by
        unfold cutS cutA
        rw [mkS_list, mkS_length]
        rfl
      rw [e]
      exact q.here r (.str _)
    · cases hf
  · cases hf
theorem ge_slice (ha : PE X a (tG X W fa)) (hl : PO X lo (tGO X W gl)) (hh : PO X hi (tGO X W gh)) : PE X (.Subscript a (.Slice lo hi none p2) pos) (tG X W (gSl fa gl gh)) :=
  PE.weak (pe_slice (sl_list.or (sl_tupN.or sl_str)) ha hl hh) fun σ H Q h => by
    obtain ⟨m, env, ah, hE, hR, hp⟩ := h
    refine tG_step hE hR hp (fun _ _ h => h) fun v ah1 m1 H1 x e1 r1 v1 hp1 => ?_
    refine tGO_step (hE.mono e1) r1 (Res.post_imp hp1 (fun _ _ _ h => PQ.mono e1 h) (fun _ _ h => PX.mono e1 h)) (fun _ _ h => h) fun l ah2 m2 H2 e2 r2 hp2 => ?_
    refine tGO_step ((hE.mono e1).mono e2) r2 (Res.post_imp hp2 (fun _ _ _ h => PQ.mono e2 h) (fun _ _ h => PX.mono e2 h)) (fun _ _ h => h) fun h ah3 m3 H3 e3 r3 hp3 => ?_
    cases e : slO ah3 v l h with
    | none => rw [e] at hp3; exact hp3.elim
    | some z =>
      rw [e] at hp3
      exact sl_g r3 ((v1.mono e2).mono e3) e (PQ.mono e3 hp3)
end
end G
namespace G
open PySem PySem.Spec PyProof.Rows L2
set_option autoImplicit false
section
variable {X : Cx} {W : WX} {r r' : R2} {f g : O2} {a b c e : Expr} {es : List Expr} {fa fb fc : GE} {fr : GA} {pos p : Pos} {x : Str}
theorem chain_read (hr : OpG X r f) (hr' : OpG X r' g) {σ : L2.St} {H : Hp} {Q : VK} (h : tG X W (gChain f g fa fb fc) σ H Q) : tChain r r' (tG X W fa) (tG X W fb) (tG X W fc) σ H Q := by
  obtain ⟨m, env, ah, hE, hR, hp⟩ := h
  refine tG_step hE hR hp (fun _ _ h => h) fun v ah1 m1 H1 x e1 r1 v1 hp1 => ?_
  refine tG_step (hE.mono e1) r1 (Res.post_imp hp1 (fun _ _ _ h => PQ.mono e1 h) (fun _ _ h => PX.mono e1 h)) (fun _ _ h => h) fun w ah2 m2 H2 y e2 r2 v2 hp2 => ?_
  cases e : f ah2 v w with
  | none => rw [e] at hp2; exact hp2.elim
  | some z =>
    rw [e] at hp2
    cases z with
    | bl k =>
      refine hr m2 H2 ah2 v w x y (.bl k) _ r2 (v1.mono e2) v2 e fun m3 H3 x3 e3 r3 v3 => ?_
      cases v3
      refine ⟨k, rfl, ?_⟩
      cases k with
      | false => exact iteF (hp2 m3 H3 _ (e2.trans e3) r3 (.bl false))
      | true =>
        refine iteT (tG_step (((hE.mono e1).mono e2).mono e3) r3 (Res.post_imp hp2 (fun _ _ _ h => PQ.mono (e2.trans e3) h) (fun _ _ h => PX.mono (e2.trans e3) h)) (fun _ _ h => h) fun u ah4 m4 H4 y4 e4 r4 v4 hp4 => ?_)
        cases e5 : g ah4 w u with
        | none => rw [e5] at hp4; exact hp4.elim
        | some z4 =>
          rw [e5] at hp4
          exact hr' m4 H4 ah4 w u y y4 z4 Q r4 ((v2.mono e3).mono e4) v4 e5 (PQ.mono e4 hp4)
    | _ => exact hp2.elim
theorem ge_chain {op op' : CmpOp} (ho : OpR X (compareOp op) r) (hr : OpG X r f) (ho' : OpR X (compareOp op') r') (hr' : OpG X r' g) (ha : PE X a (tG X W fa)) (hb : PE X b (tG X W fb)) (hc : PE X c (tG X W fc))
    (hm : lastMarks [op, op'] [b, c] = false := by with_unfolding_all rfl) : PE X (.Compare a [op, op'] [b, c] pos) (tG X W (gChain f g fa fb fc)) :=
  PE.weak (pe_chain ho ho' ha hb hc hm) fun _ _ _ h => chain_read hr hr' h
theorem gt_chain {op op' : CmpOp} (ho : OpR X (compareOp op) r) (hr : OpG X r f) (ho' : OpR X (compareOp op') r') (hr' : OpG X r' g) (ha : PE X a (tG X W fa)) (hb : PE X b (tG X W fb)) (hc : PE X c (tG X W fc))
    (hm : lastMarks [op, op'] [b, c] = false := by with_unfolding_all rfl) : PT X (.Compare a [op, op'] [b, c] pos) (tGT X W (gTB (gChain f g fa fb fc))) :=
  PT.weak (pt_chain ho ho' ha hb hc hm) fun _ _ _ h => tb_read (t := tChain r r' (tG X W fa) (tG X W fb) (tG X W fc)) (fun _ _ _ q => chain_read hr hr' q) h

abbrev OL := AH → List AV → Option AV
def CallG (X : Cx) (r : List V → Hp → VK → Prop) (f : OL) : Prop := ∀ (m : MM) (H : Hp) (ah : AH) (l : List AV) (xs : List V) (z : AV) (Q : VK), Rel X.K m ah H → VRs X.K m H l xs → f ah l = some z → PQ X.K m H Q z ah → r xs H Q
def gB (f : OL) (r : GA) : GE := fun env ah => rb (r env ah) fun l ah1 => lift1 (f ah1 l) ah1
theorem cb_read {r : List V → Hp → VK → Prop} {f : OL} (hr : CallG X r f) {σ : L2.St} {H : Hp} {Q : VK} (h : tG X W (gB f fr) σ H Q) : tCB r (tGA X W fr) σ H Q := by
  obtain ⟨m, env, ah, hE, hR, hp⟩ := h
  refine tGA_step hE hR hp (fun _ _ h => h) fun l ah1 m1 H1 xs e1 r1 v1 hp1 => ?_
  cases e : f ah1 l with
  | none => rw [e] at hp1; exact hp1.elim
  | some z =>
    rw [e] at hp1
    exact hr m1 H1 ah1 l xs z Q r1 v1 e (PQ.mono e1 hp1)
theorem ge_callB {id : String} {r : List V → Hp → VK → Prop} {f : OL} (hc : CallR X (.builtin id) r) (hr : CallG X r f) (hg : Gl X x) (hm : X.mg x = none) (hv : bootBuiltins x = some (.builtin id)) (ha : PA X (e :: es) (tGA X W fr)) (hn : x ≠ "__name__" := by decide) (hdb : (x == ("__debug__" : Str)) = false := by decide)
    (he : starEach (e :: es) X.env = (false, eval e X.env) :: starEach es X.env := by rfl) (hpl : (backTo pos (starEach es X.env)).any (·.1) = false := by rfl) : PE X (.Call (.Name x p) (e :: es) [] pos) (tG X W (gB f fr)) :=
  PE.weak (pe_callB hc hg hm hv ha hn hdb he hpl) fun _ _ _ h => cb_read hr h
theorem ge_callT {T : String} {r : List V → Hp → VK → Prop} {f : OL} (hc : CallR X (.type T) r) (hr : CallG X r f) (hg : Gl X x) (hm : X.mg x = none) (hv : bootBuiltins x = some (.type T)) (ha : PA X (e :: es) (tGA X W fr)) (hn : x ≠ "__name__" := by decide) (hdb : (x == ("__debug__" : Str)) = false := by decide)
    (he : starEach (e :: es) X.env = (false, eval e X.env) :: starEach es X.env := by rfl) (hpl : (backTo pos (starEach es X.env)).any (·.1) = false := by rfl) : PE X (.Call (.Name x p) (e :: es) [] pos) (tG X W (gB f fr)) :=
  PE.weak (pe_callTy hc hg hm hv ha hn hdb he hpl) fun _ _ _ h => cb_read hr h

def lenO : OL := fun ah l => match l with
  | [v] => match dr ah v with
    | .tup l => some (.int l.length)
    | .lst l => some (.int l.length)
    | .fl l => some (.int l.length)
    | .str s => if s.length ≤ 1000000 then some (.int s.length) else none
    | .dk l => some (.int l.length)
    | _ => none
  | _ => none
theorem VRs.one {K : PySem.W.Frag} {m : MM} {H : Hp} {v : AV} {xs : List V} (h : VRs K m H [v] xs) : ∃ x, xs = [x] ∧ VR K m H v x := by
  cases h with
  | cons h r => cases r; exact ⟨_, rfl, h⟩
theorem VRs.two {K : PySem.W.Frag} {m : MM} {H : Hp} {v w : AV} {xs : List V} (h : VRs K m H [v, w] xs) : ∃ x y, xs = [x, y] ∧ VR K m H v x ∧ VR K m H w y := by
  cases h with
  | cons h r => obtain ⟨y, rfl, hy⟩ := r.one; exact ⟨_, _, rfl, h, hy⟩
def rLenD (K : PySem.W.Frag) : List V → Hp → VK → Prop := fun xs H Q => ∃ a kvs, xs = [.ref a] ∧ DKR K H a kvs ∧ Q (.int kvs.length) H
theorem call_lenDK : CallR X (.builtin "len") (rLenD X.K) := by
  intro pins s σ H xs us Q I r h
  obtain ⟨a, kvs, rfl, hd, q⟩ := h
  obtain ⟨u, rfl, ru⟩ := vals1 r
  cases ru
  obtain ⟨hz, hs, vs, rel, dd⟩ := hd.at I
  have hl : kvs.length = vs.length := KV.length rel
  have h16 : sizeLine = 16777216 := sizeLine_eq
  refine call_len_dict hs dd (by omega) ?_
  rw [← hl]
  exact ⟨.int _, H, I.tok _, ⟨_, rfl⟩, q⟩
theorem len_g : ∃ r, CallR X (.builtin "len") r ∧ CallG X r lenO := by
  refine ⟨_, call_len.or call_lenDK, ?_⟩
  intro m H ah l xs z Q r hv hf q
  unfold lenO at hf
  split at hf
  · obtain ⟨x, rfl, hx⟩ := hv.one
    split at hf
    · obtain ⟨a, vs, rfl, h1, h2⟩ := VR.tupl r hx (by assumption)
      cases hf
      refine .inl ⟨_, vs.length, rfl, .inr ⟨vs, h1, rfl⟩, ?_⟩
      rw [← h2.length]
      exact q.here r (.int _)
    · obtain ⟨a, vs, rfl, h1, h2⟩ := VR.list r hx (by assumption)
      cases hf
      refine .inl ⟨_, vs.length, rfl, .inl ⟨vs, SqL.of h1, rfl⟩, ?_⟩
      rw [← h2.length]
      exact q.here r (.int _)
    · obtain ⟨a, vs, rfl, h1, h2⟩ := VR.flst r hx (by assumption)
      cases hf
      refine .inl ⟨_, vs.length, rfl, .inl ⟨vs, h1, rfl⟩, ?_⟩
      rw [← h2.length]
      exact q.here r (.int _)
    · cases VR.strg r hx (by assumption)
      split at hf
      · rename_i hl
        cases hf
        refine .inl ⟨_, (mkS _).length, rfl, ⟨by rw [mkS_length]; exact lim_line hl, rfl⟩, ?_⟩
        rw [mkS_length]
        exact q.here r (.int _)
      · cases hf
    · obtain ⟨a, kvs, rfl, h1, h2⟩ := VR.dict r hx (by assumption)
      cases hf
      refine .inr ⟨a, kvs, rfl, h1, ?_⟩
      rw [← h2.length]
      exact q.here r (.int _)
    · cases hf
  · cases hf
inductive Ty where
  | int | bool | str | tuple | list | dict
def Ty.name : Ty → String
  | .int => "int" | .bool => "bool" | .str => "str" | .tuple => "tuple" | .list => "list" | .dict => "dict"
def isiA (ah : AH) (v : AV) : Ty → Option Bool := fun t => match dr ah v, t with
  | .bl _, .int => some true
  | .bl _, .bool => some true
  | .int _, .int => some true
  | .str _, .str => some true
  | .tup _, .tuple => some true
  | .lst _, .list => some true
  | .fl _, .list => some true
  | .dk _, .dict => some true
  | .ref _, _ => none
  | .fn _, _ => none
  | _, _ => some false
def gIsi (t : Ty) (a : GE) : GE := fun env ah => rb (a env ah) fun v ah1 => match isiA ah1 v t with
  | some b => .ok (.bl b) ah1
  | none => .bad
def tyA : AV → Option String
  | .non => some "NoneType"
  | .bl _ => some "bool"
  | .int _ => some "int"
  | .str _ => some "str"
  | .tup _ => some "tuple"
  | .lst _ => some "list"
  | .fl _ => some "list"
  | .dk _ => some "dict"
  | .ref _ => none
  | .fn _ => none
theorem tyX_of {m : MM} {H : Hp} {ah : AH} {v : AV} {x : V} {T : String} (r : Rel X.K m ah H) (h : VR X.K m H v x) (e : tyA (dr ah v) = some T) : TyX X.K H x (.type T) := by
  cases h with
  | non => cases e; exact .base .non
  | bl b => cases e; exact .base (.bl b)
  | int b => cases e; exact .base (.int b)
  | str b => cases e; exact .base (.str _)
  | tup h1 h2 =>
    cases e
    rcases h1.sqT with (h1 | ⟨o, h1⟩) | ⟨o, its, n, h1, h3, _⟩
    · exact .base (.tup h1)
    · exact .fTuple h1
    · exact .kTuple h1 h3
  | lst h1 h2 h3 => cases e; exact .base (.lst h1)
  | dk h1 h3 h2 =>
    cases e
    rcases h1 with h1 | ⟨od, h1⟩
    · exact .base (.dK h1)
    · exact .fDict h1
  | fl h1 h2 =>
    cases e
    rcases h1 with ⟨o, h1⟩ | ⟨o, its, n, h1, h3, _⟩
    · exact .base (.frz h1)
    · exact .kList h1 h3
  | ref hm =>
    obtain ⟨o, ho, q⟩ := r.at hm
    rw [dr_ref ho] at e
    cases o with
    | lst l => obtain ⟨vs, h1, _⟩ := q; cases e; exact .base (.lst h1)
    | dk l => obtain ⟨vs, h1, _⟩ := q; cases e; exact .base (.dK h1)
  | fn h1 => cases e
theorem isi_kit {K : PySem.W.Frag} {ah : AH} {v : AV} {t : Ty} {b : Bool} (h : isiA ah v t = some b) : ∃ T, tyA (dr ah v) = some T ∧ PySem.W.kitOne K (.type T) (.type t.name) = some b := by
  unfold isiA at h
  cases q : dr ah v <;> rw [q] at h <;> cases t <;> first | (cases h; exact ⟨_, rfl, kit_ty (by decide +kernel)⟩) | cases h
theorem ge_isi (t : Ty) {p2 : Pos} {y : Str} (hg : Gl X "isinstance") (hm : X.mg "isinstance" = none) (hg2 : Gl X y) (hm2 : X.mg y = none) (hv2 : bootBuiltins y = some (.type t.name)) (hn2 : y ≠ "__name__") (hd2 : (y == ("__debug__" : Str)) = false) (ha : PE X a (tG X W fa))
    (hs : starEach [a, .Name y p2] X.env = (false, eval a X.env) :: starEach [.Name y p2] X.env := by rfl) (hs2 : starEach [.Name y p2] X.env = (false, eval (.Name y p2) X.env) :: starEach [] X.env := by rfl)
    (hpl : (backTo pos (starEach [.Name y p2] X.env)).any (·.1) = false := by rfl) : PE X (.Call (.Name "isinstance" p) [a, .Name y p2] [] pos) (tG X W (gIsi t fa)) := by
  refine PE.weak (pe_callB call_isi hg hm (by decide +kernel) (pa_cons ha (pa_cons (pe_bltn (v := .ty t.name) hg2 hm2 hv2 rfl hn2 hd2) pa_nil hs2) hs) (by decide) (by decide) hs hpl) fun σ H Q h => ?_
  obtain ⟨m, env, ah, hE, hR, hp⟩ := h
  refine tG_step hE hR hp (fun _ _ h => h) fun v ah1 m1 H1 x e1 r1 v1 hp1 => ?_
  cases e : isiA ah1 v t with
  | none => rw [e] at hp1; exact hp1.elim
  | some b =>
    rw [e] at hp1
    obtain ⟨T, h1, h2⟩ := isi_kit (K := X.K) e
    exact ⟨x, .ty t.name, .type T, .type t.name, b, rfl, .ty _, tyX_of r1 v1 h1, h2, hp1 m1 H1 _ e1 r1 (.bl b)⟩
def intO : OL := fun _ l => match l with
  | [.int i] => some (.int i)
  | [.bl b] => some (.int (if b then 1 else 0))
  | [.str s] => if s ≠ [] ∧ s.all (fun c => decide (48 ≤ c ∧ c ≤ 57)) = true ∧ s.length ≤ 640 then some (.int (NumText.digitsVal s : Nat)) else none
  | _ => none
theorem int_g : ∃ r, CallR X (.type "int") r ∧ CallG X r intO := by
  refine ⟨_, call_int1.or call_int_str, ?_⟩
  intro m H ah l xs z Q r hv hf q
  unfold intO at hf
  split at hf
  · obtain ⟨x, rfl, hx⟩ := hv.one
    cases hf; cases hx
    exact .inl (.inl ⟨_, rfl, q.here r (.int _)⟩)
  · obtain ⟨x, rfl, hx⟩ := hv.one
    cases hf; cases hx
    exact .inl (.inr ⟨_, rfl, q.here r (.int _)⟩)
  · obtain ⟨x, rfl, hx⟩ := hv.one
    split at hf
    · rename_i s hs
      obtain ⟨h1, h2, h3⟩ := hs
      cases hf; cases hx
      refine .inr ⟨_, _, rfl, PySem.intText_digits (x := mkS s) (fun c hc => ?_) (by rw [mkS_list]; exact h1) (by rw [mkS_length]; omega), by rw [mkS_length]; exact h3, ?_⟩
      · rw [mkS_list] at hc
        exact of_decide_eq_true (List.all_eq_true.mp h2 c hc)
      · rw [mkS_list]
        exact q.here r (.int _)
    · cases hf
  · cases hf
def digA (i : Int) : List Nat := (Str.ofString (toString i)).cps.toList
def strO : OL := fun _ l => match l with
  | [.int i] => if i.natAbs.log2 < 1920 then some (.str (digA i)) else none
  | _ => none
theorem mkS_dig (i : Int) : mkS (digA i) = (toString i : Str) := by
  show (⟨(Str.ofString (toString i)).cps.toList.toArray⟩ : Str) = Str.ofString (toString i)
  rw [Array.toArray_toList]
theorem str_g : ∃ r, CallR X (.type "str") r ∧ CallG X r strO := by
  refine ⟨_, call_str_int, ?_⟩
  intro m H ah l xs z Q r hv hf q
  unfold strO at hf
  split at hf
  · obtain ⟨x, rfl, hx⟩ := hv.one
    split at hf
    · rename_i h
      cases hf; cases hx
      refine ⟨_, rfl, h, ?_⟩
      rw [← mkS_dig]
      exact q.here r (.str _)
    · cases hf
  · cases hf
def maxO : OL := fun _ l => match l with
  | [.int i, .int j] => some (.int (if j > i then j else i))
  | _ => none
def minO : OL := fun _ l => match l with
  | [.int i, .int j] => some (.int (if j < i then j else i))
  | _ => none
theorem max_g (hc : X.calm = true) : ∃ r, CallR X (.builtin "max") r ∧ CallG X r maxO := by
  refine ⟨_, call_max2 hc, ?_⟩
  intro m H ah l xs z Q r hv hf q
  unfold maxO at hf
  split at hf
  · obtain ⟨x, y, rfl, hx, hy⟩ := hv.two
    cases hf; cases hx; cases hy
    exact ⟨_, _, rfl, q.here r (.int _)⟩
  · cases hf
theorem min_g (hc : X.calm = true) : ∃ r, CallR X (.builtin "min") r ∧ CallG X r minO := by
  refine ⟨_, call_min2 hc, ?_⟩
  intro m H ah l xs z Q r hv hf q
  unfold minO at hf
  split at hf
  · obtain ⟨x, y, rfl, hx, hy⟩ := hv.two
    cases hf; cases hx; cases hy
    exact ⟨_, _, rfl, q.here r (.int _)⟩
  · cases hf
def tupO : OL := fun ah l => match l with
  | [v] => match dr ah v with
    | .tup l => some (.tup l)
    | .lst l => some (.tup l)
    | .fl l => some (.tup l)
    | _ => none
  | _ => none
theorem tup_g : ∃ r, CallR X (.type "tuple") r ∧ CallG X r tupO := by
  refine ⟨_, call_tupN, ?_⟩
  intro m H ah l xs z Q r hv hf q
  unfold tupO at hf
  split at hf
  · obtain ⟨x, rfl, hx⟩ := hv.one
    split at hf
    · obtain ⟨a, vs, rfl, h1, h2⟩ := VR.tupl r hx (by assumption)
      cases hf
      exact ⟨a, vs, rfl, .inr ⟨h1, q.here r (.tup h1 h2)⟩⟩
    · obtain ⟨a, vs, rfl, h1, h2⟩ := VR.list r hx (by assumption)
      cases hf
      exact ⟨a, vs, rfl, .inl ⟨SqL.of h1, q.newT r h2⟩⟩
    · obtain ⟨a, vs, rfl, h1, h2⟩ := VR.flst r hx (by assumption)
      cases hf
      exact ⟨a, vs, rfl, .inl ⟨h1, q.newT r h2⟩⟩
    · cases hf
  · cases hf
def keyV : AK → AV
  | .inl i => .int i
  | .inr s => .str s
theorem VRk.keys {K : PySem.W.Frag} {m : MM} {H : Hp} : ∀ {l : List (AK × AV)} {kvs : List (Key × V)}, VRk K m H l kvs → VRs K m H (l.map fun p => keyV p.1) (kvs.map fun kv => kV kv.1)
  | _, _, .nil => .nil
  | _, _, .cons (k := k) h r => .cons (by
      cases k with
      | inl i => exact .int i
      | inr s => exact .str s) (VRk.keys r)
/-- list(d), also of a dict that is closed -/
def rListRd : List V → Hp → VK → Prop := fun xs H Q => ∃ a kvs, xs = [.ref a] ∧ Rd H a (.dK kvs) ∧ ∀ b, H b = none → Q (.ref b) (upd H b (.lst (kvs.map fun kv => kV kv.1)))
theorem call_listRd (hc : X.calm = true) : CallR X (.type "list") rListRd := by
  intro pins s σ H xs us Q I r h
  obtain ⟨a, kvs, rfl, hd, q⟩ := h
  obtain ⟨u, rfl, ru⟩ := vals1 r
  cases ru
  obtain ⟨hz, hsys, vs, rel, dof⟩ := dk_rd I.hok hd
  obtain ⟨n, hat⟩ := dof.dictAt
  have hl : kvs.length = vs.length := Paired.length rel
  refine PySem.W.kdl_call (PySem.W.kdl_dict (knd := mixKind X.prog X.w) (kvs := vs) (ep := n) hsys) (I.ok.hd hc) hat (by rw [← hl]; exact hz) fun h' tk acc c' hk hS hacc => ?_
  have hsz : acc.toList.length = vs.length := by rw [Array.length_toList, hacc.1]
  have hv : Vals (kvs.map fun kv => kV kv.1) acc.toList := by
    refine vals_of_at (by rw [List.length_map, hsz, hl]) fun j x u h1 h2 => ?_
    obtain ⟨k, y, e1, e2⟩ := hacc.2 j u (by rw [← Array.getElem?_toList]; exact h2)
    have g : (kvs.map Prod.fst)[j]? = some k := by
      rw [KV.keys rel, List.getElem?_map, e1]
      all_goals rfl
    rw [List.getElem?_map] at h1 g
    cases g2 : kvs[j]? with
    | none => rw [g2] at g; cases g
    | some kv =>
      rw [g2] at g h1
      cases g
      cases h1
      exact keyIs_rel e2
  have new : ObjOk X.prog X.w (upd H s.heap.objs.size (.lst (kvs.map fun kv => kV kv.1))) h' s.heap.objs.size (.lst (kvs.map fun kv => kV kv.1)) :=
    ⟨by rw [List.length_map]; exact hz, acc.toList, c', hv, by rw [Array.toArray_toList]; exact hS⟩
  exact ⟨.ref s.heap.objs.size, _, I.laid hk (Nat.le_refl _) new, rfl, q _ (I.hok.fresh (Nat.le_refl _))⟩
/-- list(e): its items -/
def lisO : AH → List AV → Option (List AV) := fun ah l => match l with
  | [v] => match dr ah v with
    | .tup l => some l
    | .lst l => some l
    | .fl l => some l
    | .dk l => some (l.map fun p => keyV p.1)
    | _ => none
  | _ => none
/-- what makes a new list -/
def CallGL (X : Cx) (r : List V → Hp → VK → Prop) (f : AH → List AV → Option (List AV)) : Prop := ∀ (m : MM) (H : Hp) (ah : AH) (l : List AV) (xs : List V) (z : List AV) (Q : VK), Rel X.K m ah H → VRs X.K m H l xs → f ah l = some z →
  (∀ p vs, H p = none → VRs X.K m H z vs → Q (.ref p) (upd H p (.lst vs))) → r xs H Q
def gBL (f : AH → List AV → Option (List AV)) (r : GA) : GE := fun env ah => rb (r env ah) fun l ah1 => lift1 ((f ah1 l).map AV.lst) ah1
def gBLH (f : AH → List AV → Option (List AV)) (r : GA) : GE := fun env ah => rb (r env ah) fun l ah1 => match f ah1 l with
  | some z => .ok (.ref ah1.length) (ah1 ++ [.lst z])
  | none => .bad
theorem CallGL.v {r : List V → Hp → VK → Prop} {f : AH → List AV → Option (List AV)} (h : CallGL X r f) : CallG X r fun ah l => (f ah l).map AV.lst := by
  intro m H ah l xs z Q r hv hf q
  obtain ⟨z', e, rfl⟩ := Option.map_eq_some_iff.mp hf
  exact h m H ah l xs z' Q r hv e fun p vs hp hvs => q.laid r hp (VR.newL r hp hvs)
theorem cbH_read {r : List V → Hp → VK → Prop} {f : AH → List AV → Option (List AV)} (hr : CallGL X r f) {σ : L2.St} {H : Hp} {Q : VK} (h : tG X W (gBLH f fr) σ H Q) : tCB r (tGA X W fr) σ H Q := by
  obtain ⟨m, env, ah, hE, hR, hp⟩ := h
  refine tGA_step hE hR hp (fun _ _ h => h) fun l ah1 m1 H1 xs e1 r1 v1 hp1 => ?_
  cases e : f ah1 l with
  | none => rw [e] at hp1; exact hp1.elim
  | some z =>
    rw [e] at hp1
    exact hr m1 H1 ah1 l xs z Q r1 v1 e fun p vs hp hvs => PQ.newH (PQ.mono e1 hp1) r1 hvs hp
theorem ge_callTH {T : String} {r : List V → Hp → VK → Prop} {f : AH → List AV → Option (List AV)} (hc : CallR X (.type T) r) (hr : CallGL X r f) (hg : Gl X x) (hm : X.mg x = none) (hv : bootBuiltins x = some (.type T)) (ha : PA X (e :: es) (tGA X W fr)) (hn : x ≠ "__name__" := by decide) (hdb : (x == ("__debug__" : Str)) = false := by decide)
    (he : starEach (e :: es) X.env = (false, eval e X.env) :: starEach es X.env := by rfl) (hpl : (backTo pos (starEach es X.env)).any (·.1) = false := by rfl) : PE X (.Call (.Name x p) (e :: es) [] pos) (tG X W (gBLH f fr)) :=
  PE.weak (pe_callTy hc hg hm hv ha hn hdb he hpl) fun _ _ _ h => cbH_read hr h
theorem lis_g (hc : X.calm = true) : ∃ r, CallR X (.type "list") r ∧ CallGL X r lisO := by
  refine ⟨_, call_list_of.or (call_listRd hc), ?_⟩
  intro m H ah l xs z Q r hv hf q
  unfold lisO at hf
  split at hf
  · obtain ⟨x, rfl, hx⟩ := hv.one
    split at hf
    · obtain ⟨a, vs, rfl, h1, h2⟩ := VR.tupl r hx (by assumption)
      cases hf
      exact .inl ⟨a, vs, rfl, .inr h1, fun p hp => q p vs hp h2⟩
    · obtain ⟨a, vs, rfl, h1, h2⟩ := VR.list r hx (by assumption)
      cases hf
      exact .inl ⟨a, vs, rfl, .inl (SqL.of h1), fun p hp => q p vs hp h2⟩
    · obtain ⟨a, vs, rfl, h1, h2⟩ := VR.flst r hx (by assumption)
      cases hf
      exact .inl ⟨a, vs, rfl, .inl h1, fun p hp => q p vs hp h2⟩
    · obtain ⟨a, kvs, rfl, h1, h2⟩ := VR.dict r hx (by assumption)
      cases hf
      exact .inr ⟨a, kvs, rfl, h1, fun p hp => q p _ hp h2.keys⟩
    · cases hf
  · cases hf
def blsA : List AV → Option (List Bool)
  | [] => some []
  | .bl b :: l => (blsA l).map (b :: ·)
  | _ :: _ => none
theorem bls_vs {K : PySem.W.Frag} {m : MM} {H : Hp} : ∀ {l : List AV} {xs : List V} {bs : List Bool}, VRs K m H l xs → blsA l = some bs → xs = bs.map V.bl
  | _, _, _, .nil, h => by cases h; rfl
  | _, _, bs, .cons (v := v) (l := l) h r, e => by
    cases v <;> first | cases e | skip
    rename_i b
    have e : (blsA l).map (b :: ·) = some bs := e
    obtain ⟨bs', e1, rfl⟩ := Option.map_eq_some_iff.mp e
    cases h
    rw [bls_vs r e1]; rfl
def allO : OL := fun ah l => match l with
  | [v] => match dr ah v with
    | .lst l => (blsA l).map fun bs => .bl (bs.all id)
    | _ => none
  | _ => none
def anyO : OL := fun ah l => match l with
  | [v] => match dr ah v with
    | .lst l => (blsA l).map fun bs => .bl (bs.any id)
    | _ => none
  | _ => none
theorem all_g (hc : X.calm = true) : ∃ r, CallR X (.builtin "all") r ∧ CallG X r allO := by
  refine ⟨_, cr_all hc, ?_⟩
  intro m H ah l xs z Q r hv hf q
  unfold allO at hf
  split at hf
  · obtain ⟨x, rfl, hx⟩ := hv.one
    split at hf
    · obtain ⟨a, vs, rfl, h1, h2⟩ := VR.list r hx (by assumption)
      obtain ⟨bs, e1, rfl⟩ := Option.map_eq_some_iff.mp hf
      have := bls_vs h2 e1
      subst this
      exact ⟨a, bs, rfl, SqL.of h1, q.here r (.bl _)⟩
    · cases hf
  · cases hf
theorem any_g (hc : X.calm = true) : ∃ r, CallR X (.builtin "any") r ∧ CallG X r anyO := by
  refine ⟨_, cr_any hc, ?_⟩
  intro m H ah l xs z Q r hv hf q
  unfold anyO at hf
  split at hf
  · obtain ⟨x, rfl, hx⟩ := hv.one
    split at hf
    · obtain ⟨a, vs, rfl, h1, h2⟩ := VR.list r hx (by assumption)
      obtain ⟨bs, e1, rfl⟩ := Option.map_eq_some_iff.mp hf
      have := bls_vs h2 e1
      subst this
      exact ⟨a, bs, rfl, SqL.of h1, q.here r (.bl _)⟩
    · cases hf
  · cases hf
end
end G
namespace G
open PySem PySem.Spec PyProof.Rows L2
set_option autoImplicit false

def okKey : AK → Bool
  | .inl i => decide (i.natAbs.log2 < 1920)
  | .inr s => s.all (· < 0x110000)
def lenKey : AK → Nat
  | .inl i => i.natAbs.log2 + 2
  | .inr s => 10 * s.length + 2
/-- what repr takes: lists and no dicts; dicts and no lists; both, but no lists within dicts -/
inductive Md where
  | l | d | m
def Md.lst : Md → Bool
  | .d => false
  | _ => true
def Md.dk : Md → Bool
  | .l => false
  | _ => true
mutual
def okR (c : Md) : AV → Bool
  | .non => true
  | .bl _ => true
  | .int i => decide (i.natAbs.log2 < 1920)
  | .str s => s.all (· < 0x110000)
  | .tup l => okRs c l
  | .lst l => c.lst && okRs c l
  | .dk l => c.dk && okRk l
  | .fl _ => false
  | .ref _ => false
  | .fn _ => false
def okRs (c : Md) : List AV → Bool
  | [] => true
  | x :: xs => okR c x && okRs c xs
def okRk : List (AK × AV) → Bool
  | [] => true
  | (k, v) :: r => okKey k && okR .d v && okRk r
end
mutual
theorem okR_m (c : Md) : ∀ v : AV, okR c v = true → okR .m v = true
  | .non, _ => rfl
  | .bl _, _ => rfl
  | .int _, h => h
  | .str _, h => h
  | .tup l, h => okRs_m c l h
  | .lst l, h => by
    rw [okR, Bool.and_eq_true] at h
    rw [okR, okRs_m c l h.2]; rfl
  | .dk l, h => by
    rw [okR, Bool.and_eq_true] at h
    rw [okR, h.2]; rfl
theorem okRs_m (c : Md) : ∀ l : List AV, okRs c l = true → okRs .m l = true
  | [], _ => rfl
  | x :: xs, h => by
    rw [okRs, Bool.and_eq_true] at h
    rw [okRs, okR_m c x h.1, okRs_m c xs h.2]; rfl
end
mutual
def lenR : AV → Nat
  | .non => 4
  | .bl _ => 5
  | .int i => i.natAbs.log2 + 2
  | .str s => 10 * s.length + 2
  | .tup l => lenRs l + 3
  | .lst l => lenRs l + 3
  | .dk l => lenRk l + 3
  | .fl _ => 0
  | .ref _ => 0
  | .fn _ => 0
def lenRs : List AV → Nat
  | [] => 0
  | x :: xs => lenR x + 2 + lenRs xs
def lenRk : List (AK × AV) → Nat
  | [] => 0
  | (k, v) :: r => lenKey k + 2 + lenR v + 2 + lenRk r
end
mutual
def depR : AV → Nat
  | .tup l => depRs l + 1
  | .lst l => depRs l + 1
  | .dk l => depRk l + 1
  | _ => 0
def depRs : List AV → Nat
  | [] => 0
  | x :: xs => max (depR x) (depRs xs)
def depRk : List (AK × AV) → Nat
  | [] => 0
  | (_, v) :: r => max (depR v) (depRk r)
end
theorem shown_int_len (i : Int) (h : i.natAbs.log2 < 1920) : (PyData.shown (.int i)).length ≤ i.natAbs.log2 + 2 := by
  show (Str.ofString (toString i)).length ≤ _
  rw [PySem.ofString_length]
  have := int_text_length_le (a := i) (k := i.natAbs.log2 + 1) (by omega) (by omega)
  omega
theorem shown_str_len (s : List Nat) (h : s.all (· < 0x110000) = true) : (PyData.shown (.str (mkS s))).length ≤ 10 * s.length + 2 := by
  have := PySem.StrLaws.reprText_len (mkS s) (fun c hc => by
    rw [mkS_list] at hc
    have := List.all_eq_true.mp h c hc
    have : c < 0x110000 := by simpa using this
    exact Nat.lt_trans this (by decide))
  rw [mkS_length] at this
  exact this
mutual
theorem shown_len : ∀ (c : Md) (v : AV), okR c v = true → (toD v).shown.length ≤ lenR v
  | _, .non, _ => by decide
  | _, .bl b, _ => by cases b <;> decide
  | _, .int i, h => shown_int_len i (of_decide_eq_true h)
  | _, .str s, h => shown_str_len s h
  | c, .tup l, h => by
    have e := shown_lens c l h
    have e2 := tupleText_len_le (PyData.shownAll (toDs l))
    show (tupleText (PyData.shownAll (toDs l))).length ≤ lenRs l + 3
    have e3 : (PyData.shownAll (toDs l)).length = l.length := shownAll_len l
    omega
  | c, .lst l, h => by
    rw [okR, Bool.and_eq_true] at h
    have e := shown_lens c l h.2
    have e2 := listText_len_le (PyData.shownAll (toDs l))
    show (listText (PyData.shownAll (toDs l))).length ≤ lenRs l + 3
    have e3 : (PyData.shownAll (toDs l)).length = l.length := shownAll_len l
    omega
  | c, .dk l, h => by
    rw [okR, Bool.and_eq_true] at h
    have e := shown_lenk l h.2
    have e2 := dictText_len_le (PyData.shownKv (toDk l))
    show (dictText (PyData.shownKv (toDk l))).length ≤ lenRk l + 3
    have e3 : (PyData.shownKv (toDk l)).length = l.length := shownKv_len l
    omega
theorem shown_lens : ∀ (c : Md) (l : List AV), okRs c l = true → ((PyData.shownAll (toDs l)).map (·.length)).sum + 2 * l.length ≤ lenRs l
  | _, [], _ => by decide
  | c, x :: xs, h => by
    rw [okRs, Bool.and_eq_true] at h
    have e1 := shown_len c x h.1
    have e2 := shown_lens c xs h.2
    show ((toD x).shown.length :: (PyData.shownAll (toDs xs)).map (·.length)).sum + 2 * (xs.length + 1) ≤ lenR x + 2 + lenRs xs
    rw [List.sum_cons]
    omega
theorem shown_lenk : ∀ l : List (AK × AV), okRk l = true → ((PyData.shownKv (toDk l)).map (·.length)).sum + 2 * l.length ≤ lenRk l
  | [], _ => by decide
  | (k, v) :: xs, h => by
    rw [okRk, Bool.and_eq_true, Bool.and_eq_true] at h
    have e1 := shown_len .d v h.1.2
    have e2 := shown_lenk xs h.2
    have e3 : (PyData.shown (keyD k)).length ≤ lenKey k := by
      cases k with
      | inl i => exact shown_int_len i (of_decide_eq_true h.1.1)
      | inr s => exact shown_str_len s h.1.1
    show ((PyData.shown (keyD k) ++ ": " ++ (toD v).shown).length :: (PyData.shownKv (toDk xs)).map (·.length)).sum + 2 * (xs.length + 1) ≤
      lenKey k + 2 + lenR v + 2 + lenRk xs
    rw [List.sum_cons, strLen_append, strLen_append]
    have e4 : (": " : Str).length = 2 := by decide +kernel
    rw [e4]
    omega
theorem shownAll_len : ∀ l : List AV, (PyData.shownAll (toDs l)).length = l.length
  | [] => rfl
  | x :: xs => by show (PyData.shownAll (toDs xs)).length + 1 = xs.length + 1; rw [shownAll_len xs]
theorem shownKv_len : ∀ l : List (AK × AV), (PyData.shownKv (toDk l)).length = l.length
  | [] => rfl
  | (k, v) :: xs => by show (PyData.shownKv (toDk xs)).length + 1 = xs.length + 1; rw [shownKv_len xs]
end
mutual
theorem showable_of : ∀ (c : Md) (v : AV), okR c v = true → (toD v).showable = true
  | _, .non, _ => rfl
  | _, .bl b, _ => rfl
  | _, .int i, h => h
  | _, .str s, h => rfl
  | c, .tup l, h => showables_of c l h
  | c, .lst l, h => by
    rw [okR, Bool.and_eq_true] at h
    exact showables_of c l h.2
  | c, .dk l, h => by
    rw [okR, Bool.and_eq_true] at h
    exact showablek_of l h.2
theorem showables_of : ∀ (c : Md) (v : List AV), okRs c v = true → PyData.showableAll (toDs v) = true
  | _, [], _ => rfl
  | c, x :: xs, h => by
    rw [okRs, Bool.and_eq_true] at h
    show (_ && _) = true
    rw [showable_of c x h.1, showables_of c xs h.2]; rfl
theorem showablek_of : ∀ v : List (AK × AV), okRk v = true → PyData.showableKv (toDk v) = true
  | [], _ => rfl
  | (k, v) :: xs, h => by
    rw [okRk, Bool.and_eq_true, Bool.and_eq_true] at h
    show (_ && _ && _) = true
    rw [showable_of .d v h.1.2, showablek_of xs h.2]
    cases k with
    | inl i => show (decide _ && true && true) = true; have h3 : decide (i.natAbs.log2 < 1920) = true := h.1.1; rw [h3]; rfl
    | inr s => rfl
end
mutual
theorem dep_of : ∀ (c : Md) (v : AV), okR c v = true → (toD v).depth = depR v
  | _, .non, _ => rfl
  | _, .bl b, _ => rfl
  | _, .int i, h => rfl
  | _, .str s, h => rfl
  | c, .tup l, h => by show _ + 1 = _ + 1; rw [deps_of c l h]
  | c, .lst l, h => by
    rw [okR, Bool.and_eq_true] at h
    show _ + 1 = _ + 1
    rw [deps_of c l h.2]
  | c, .dk l, h => by
    rw [okR, Bool.and_eq_true] at h
    show _ + 1 = _ + 1
    rw [depk_of l h.2]
theorem deps_of : ∀ (c : Md) (v : List AV), okRs c v = true → PyData.depthAll (toDs v) = depRs v
  | _, [], _ => rfl
  | c, x :: xs, h => by
    rw [okRs, Bool.and_eq_true] at h
    show max _ _ = max _ _
    rw [dep_of c x h.1, deps_of c xs h.2]
theorem depk_of : ∀ v : List (AK × AV), okRk v = true → PyData.depthKv (toDk v) = depRk v
  | [], _ => rfl
  | (k, v) :: xs, h => by
    rw [okRk, Bool.and_eq_true, Bool.and_eq_true] at h
    show max (max _ _) _ = max _ _
    rw [dep_of .d v h.1.2, depk_of xs h.2]
    cases k <;> simp [keyD, PyData.depth]
end
section
variable {X : Cx} {pins : List (Addr × Obj)} {σ : L2.St} {H : Hp} {s : Shared} {m : MM}
mutual
theorem VR.reads (I : Inv X pins σ H s) : ∀ (c : Md) (v : AV) (x : V) (u : Value), VR X.K m H v x → RelV x u → okR c v = true → ∃ as, Reads s.heap u (toD v) as ∧ (c = .d → sysModules ∉ as)
  | _, .non, x, u, h, r, _ => by cases h; cases r; exact ⟨_, .none, fun _ z => nomatch z⟩
  | _, .bl b, x, u, h, r, _ => by cases h; cases r; exact ⟨_, .bool b, fun _ z => nomatch z⟩
  | _, .int i, x, u, h, r, _ => by cases h; obtain ⟨t, rfl⟩ := r; exact ⟨_, .int i t, fun _ z => nomatch z⟩
  | _, .str i, x, u, h, r, _ => by cases h; obtain ⟨t, rfl⟩ := r; exact ⟨_, .str _ t, fun _ z => nomatch z⟩
  | c, .tup l, x, u, h, r, ok => by
    cases h with
    | tup h1 h2 =>
      cases r
      obtain ⟨its, rv, ⟨o, ho, hc, n, hd⟩, _⟩ := I.tuple h1.sqT
      obtain ⟨as, q, q2⟩ := VRs.reads I c l _ its h2 rv ok
      exact ⟨_, .tuple ho hc hd q, q2⟩
  | c, .lst l, x, u, h, r, ok => by
    rw [okR, Bool.and_eq_true] at ok
    cases h with
    | lst h1 _ h2 =>
      cases r
      obtain ⟨its, rv, ⟨o, n, ho, hc, _, hd⟩, _⟩ := I.list (SqL.of h1)
      obtain ⟨as, q, q2⟩ := VRs.reads I c l _ its h2 rv ok.2
      refine ⟨_, .list ho hc hd q, fun e => ?_⟩
      subst e
      exact absurd ok.1 (by decide)
  | c, .dk l, x, u, h, r, ok => by
    rw [okR, Bool.and_eq_true] at ok
    cases h with
    | dk h1 h3 h2 =>
      cases r
      obtain ⟨_, hs, vs, rel, o, es, ep, e1, e2, e3, e4, e5, _⟩ := DKR.at I h1
      obtain ⟨as, bs, q1, q2, q3⟩ := VRk.reads I l _ vs es.toList h2 rel e5 ok.2
      refine ⟨_, .dict e1 e2.1 e3 q1 q2, fun e => ?_⟩
      intro z
      rcases List.mem_cons.mp (List.append_eq .. ▸ z) with z | z
      · rw [← z] at hs; simp at hs
      · exact q3 z
  | _, .fl l, _, _, _, _, ok => nomatch ok
  | _, .ref l, _, _, _, _, ok => nomatch ok
theorem VRs.reads (I : Inv X pins σ H s) : ∀ (c : Md) (l : List AV) (xs : List V) (us : List Value), VRs X.K m H l xs → Vals xs us → okRs c l = true → ∃ as, ReadsAll s.heap us (toDs l) as ∧ (c = .d → sysModules ∉ as)
  | _, [], xs, us, h, r, _ => by cases h; cases r; exact ⟨_, .nil, fun _ z => nomatch z⟩
  | c, v :: l, xs, us, h, r, ok => by
    rw [okRs, Bool.and_eq_true] at ok
    cases h with
    | cons h1 h2 =>
      cases r with
      | cons r1 r2 =>
        obtain ⟨as, q1, q2⟩ := VR.reads I c v _ _ h1 r1 ok.1
        obtain ⟨bs, p1, p2⟩ := VRs.reads I c l _ _ h2 r2 ok.2
        exact ⟨_, .cons q1 p1, fun e z => (List.mem_append.mp z).elim (q2 e) (p2 e)⟩
theorem VRk.reads (I : Inv X pins σ H s) : ∀ (l : List (AK × AV)) (kvs : List (Key × V)) (vs : List (Key × Value)) (es : List DictEntry), VRk X.K m H l kvs → KV kvs vs → Pairs (mixKind X.prog X.w) es vs → okRk l = true →
    ∃ as bs, ReadsAll s.heap (es.map (·.key)) ((toDk l).map (·.1)) as ∧ ReadsAll s.heap (es.map (·.val)) ((toDk l).map (·.2)) bs ∧ sysModules ∉ as ++ bs
  | [], kvs, vs, es, h, r, p, _ => by cases h; cases r; cases p; exact ⟨_, _, .nil, .nil, fun z => nomatch z⟩
  | (k, v) :: l, kvs, vs, es, h, r, p, ok => by
    rw [okRk, Bool.and_eq_true, Bool.and_eq_true] at ok
    cases h with
    | cons h1 h2 =>
      cases r with
      | cons r1 r2 =>
        cases p with
        | cons p1 p2 p3 =>
          obtain ⟨as, q1, q2⟩ := VR.reads I .d v _ _ h1 r1.2 ok.1.2
          obtain ⟨a2, b2, g1, g2, g3⟩ := VRk.reads I l _ _ _ h2 r2 p3 ok.2
          rename_i kv kvs' e es'
          have hk : ∃ w, Reads s.heap e.key (keyD k) w ∧ w = [] := by
            have p1 : keyIs kv.1 e.key = true := p1
            rw [← r1.1] at p1
            cases k with
            | inl i =>
              rcases keyIs_shape p1 with ⟨i', t, e1, e2⟩ | ⟨y, t, e1, e2⟩
              · cases e1; rw [e2]; exact ⟨_, .int _ t, rfl⟩
              · cases e1
            | inr z =>
              rcases keyIs_shape p1 with ⟨i', t, e1, e2⟩ | ⟨y, t, e1, e2⟩
              · cases e1
              · cases e1; rw [e2]; exact ⟨_, .str _ t, rfl⟩
          obtain ⟨w, hw, rfl⟩ := hk
          refine ⟨[] ++ a2, as ++ b2, .cons hw g1, .cons (show Reads s.heap e.val (toD v) as by rw [p2]; exact q1) g2, fun z => ?_⟩
          rcases List.mem_append.mp z with z | z
          · exact g3 (List.mem_append_left _ z)
          · rcases List.mem_append.mp z with z | z
            · exact q2 rfl z
            · exact g3 (List.mem_append_right _ z)
end
/-- what the machine shows -/
def Shw (P : Program) (w : World) (h : Heap) (u : Value) (d : PyData) : Prop := ∃ bs, ReadAtMost h d.depth bs ∧ ReprK P w bs h d.depth u d.shown
def Shws (P : Program) (w : World) (h : Heap) (us : List Value) (ds : List PyData) : Prop := ∃ bs, ReadAtMost h (PyData.depthAll ds) bs ∧ ReprAllK P w bs h (PyData.depthAll ds) us (PyData.shownAll ds)
theorem Shw.flat {P : Program} {w : World} {h : Heap} {u : Value} {d : PyData} {as : List Addr} (r : Reads h u d as) (hs : d.showable = true) (hd : d.hasDict = true → sysModules ∉ as) (hz : d.shown.length ≤ sizeLine) : Shw P w h u d :=
  PySem.ReprK.of_reads r hs hd hz
theorem Shw.tup {P : Program} {w : World} {h : Heap} {a : Addr} {o : Obj} {vs : Array Value} {n : Nat} {ds : List PyData} {as : List Addr} (h1 : h.get? a = some o) (h2 : o.cls = .type "tuple") (h3 : o.data = .seq vs n) (r : ReadsAll h vs.toList ds as) (q : Shws P w h vs.toList ds) :
    ∃ bs, ReadAtMost h (PyData.depthAll ds) bs ∧ a ∉ bs ∧ ReprAllK P w bs h (PyData.depthAll ds) vs.toList (PyData.shownAll ds) := by
  obtain ⟨bs, b1, b2⟩ := q
  refine ⟨bs, b1, ?_, b2⟩
  exact PySem.not_mem_of_deeper (.tuple h1 h2 h3 r) (show PyData.depthAll ds < PyData.depthAll ds + 1 by omega) b1
theorem Shw.lst {P : Program} {w : World} {h : Heap} {a : Addr} {o : Obj} {vs : Array Value} {n : Nat} {ds : List PyData} {as : List Addr} (h1 : h.get? a = some o) (h2 : o.cls = .type "list") (h3 : o.data = .seq vs n) (r : ReadsAll h vs.toList ds as) (q : Shws P w h vs.toList ds) :
    ∃ bs, ReadAtMost h (PyData.depthAll ds) bs ∧ a ∉ bs ∧ ReprAllK P w bs h (PyData.depthAll ds) vs.toList (PyData.shownAll ds) := by
  obtain ⟨bs, b1, b2⟩ := q
  refine ⟨bs, b1, ?_, b2⟩
  exact PySem.not_mem_of_deeper (.list h1 h2 h3 r) (show PyData.depthAll ds < PyData.depthAll ds + 1 by omega) b1
theorem lenR_mem {l : List AV} {v : AV} (h : v ∈ l) : lenR v ≤ lenRs l := by
  induction l with
  | nil => cases h
  | cons w l ih =>
    rw [lenRs]
    rcases List.mem_cons.mp h with rfl | h
    · omega
    · have := ih h; omega
mutual
theorem VR.shw (I : Inv X pins σ H s) : ∀ (c : Md) (v : AV) (x : V) (u : Value), VR X.K m H v x → RelV x u → okR c v = true → lenR v ≤ sizeLine → Shw X.prog X.w s.heap u (toD v)
  | c, .non, x, u, h, r, ok, hz => by
    obtain ⟨as, q, _⟩ := VR.reads I c _ x u h r ok
    exact Shw.flat q (showable_of c _ ok) (fun z => nomatch z) (Nat.le_trans (shown_len c _ ok) hz)
  | c, .bl b, x, u, h, r, ok, hz => by
    obtain ⟨as, q, _⟩ := VR.reads I c _ x u h r ok
    exact Shw.flat q (showable_of c _ ok) (fun z => nomatch z) (Nat.le_trans (shown_len c _ ok) hz)
  | c, .int b, x, u, h, r, ok, hz => by
    obtain ⟨as, q, _⟩ := VR.reads I c _ x u h r ok
    exact Shw.flat q (showable_of c _ ok) (fun z => nomatch z) (Nat.le_trans (shown_len c _ ok) hz)
  | c, .str b, x, u, h, r, ok, hz => by
    obtain ⟨as, q, _⟩ := VR.reads I c _ x u h r ok
    exact Shw.flat q (showable_of c _ ok) (fun z => nomatch z) (Nat.le_trans (shown_len c _ ok) hz)
  | c, .tup l, x, u, h, r, ok, hz => by
    rw [lenR] at hz
    cases h with
    | tup h1 h2 =>
      cases r
      obtain ⟨its, rv, ⟨o, ho, hc, n, hd⟩, _⟩ := I.tuple h1.sqT
      obtain ⟨as, q, _⟩ := VRs.reads I c l _ its h2 rv ok
      obtain ⟨bs, b1, b2, b3⟩ := Shw.tup (P := X.prog) (w := X.w) ho hc hd q (VRs.shw I c l _ its h2 rv ok (by omega))
      exact ⟨_, ReadAtMost.cons (.tuple ho hc hd q) (show PyData.depthAll (toDs l) ≤ PyData.depthAll (toDs l) + 1 by omega) b1, PySem.ReprK.tuple ho hc hd b2 b3⟩
  | c, .lst l, x, u, h, r, ok, hz => by
    rw [lenR] at hz
    rw [okR, Bool.and_eq_true] at ok
    cases h with
    | lst h1 _ h2 =>
      cases r
      obtain ⟨its, rv, ⟨o, n, ho, hc, _, hd⟩, _⟩ := I.list (SqL.of h1)
      obtain ⟨as, q, _⟩ := VRs.reads I c l _ its h2 rv ok.2
      obtain ⟨bs, b1, b2, b3⟩ := Shw.lst (P := X.prog) (w := X.w) ho hc hd q (VRs.shw I c l _ its h2 rv ok.2 (by omega))
      refine ⟨_, ReadAtMost.cons (.list ho hc hd q) (show PyData.depthAll (toDs l) ≤ PyData.depthAll (toDs l) + 1 by omega) b1, ?_⟩
      cases its with
      | nil =>
        cases l with
        | cons _ _ => cases rv; cases h2
        | nil =>
          show PySem.ReprK _ _ _ _ _ _ (listText [])
          rw [PySem.listText_nil]
          exact PySem.ReprK.listEmpty ho hc hd
      | cons y l' => exact PySem.ReprK.list ho hc hd b2 (by simpa using b3.length_eq) (fun i y e => b3.item i y (by simpa using e))
  | c, .dk l, x, u, h, r, ok, hz => by
    rw [okR, Bool.and_eq_true] at ok
    have ok' : okR .d (.dk l) = true := by rw [okR, ok.2]; rfl
    obtain ⟨as, q, q2⟩ := VR.reads I .d _ x u h r ok'
    exact Shw.flat q (showable_of .d _ ok') (fun _ => q2 rfl) (Nat.le_trans (shown_len .d _ ok') hz)
  | _, .fl l, _, _, _, _, ok, _ => nomatch ok
  | _, .ref l, _, _, _, _, ok, _ => nomatch ok
theorem VRs.shw (I : Inv X pins σ H s) : ∀ (c : Md) (l : List AV) (xs : List V) (us : List Value), VRs X.K m H l xs → Vals xs us → okRs c l = true → lenRs l ≤ sizeLine → Shws X.prog X.w s.heap us (toDs l)
  | _, [], xs, us, h, r, _, _ => by cases h; cases r; exact ⟨[], (fun _ h => nomatch h), .nil⟩
  | c, v :: l, xs, us, h, r, ok, hz => by
    rw [okRs, Bool.and_eq_true] at ok
    rw [lenRs] at hz
    cases h with
    | cons h1 h2 =>
      cases r with
      | cons r1 r2 =>
        obtain ⟨b1, q1, k1⟩ := VR.shw I c v _ _ h1 r1 ok.1 (by omega)
        obtain ⟨b2, q2, k2⟩ := VRs.shw I c l _ _ h2 r2 ok.2 (by omega)
        refine ⟨b1 ++ b2, (q1.mono (Nat.le_max_left _ _)).append (q2.mono (Nat.le_max_right _ _)), ?_⟩
        exact .cons ((k1.more fun b hb => List.mem_append_left _ hb).level_le (Nat.le_max_left _ _)) (k2.more_le (fun b hb => List.mem_append_right _ hb) (Nat.le_max_right _ _))
end
theorem shows_top (I : Inv X pins σ H s) (c : Md) {v : AV} {x : V} {a : Addr} (h : VR X.K m H v x) (r : RelV x (.ref a)) (ok : okR c v = true) (hz : lenR v ≤ sizeLine) : ∃ T idr, ShowsBy X.prog X.w s.heap a (toD v) T idr := by
  have hz' := Nat.le_trans (shown_len c _ ok) hz
  cases h with
  | non => cases r
  | bl b => cases r
  | int b => obtain ⟨t, r⟩ := r; cases r
  | str b => obtain ⟨t, r⟩ := r; cases r
  | tup h1 h2 =>
    rename_i l vs
    rw [lenR] at hz
    cases r
    obtain ⟨its, rv, ⟨o, ho, hc, n, hd⟩, _⟩ := I.tuple h1.sqT
    obtain ⟨as, q, _⟩ := VRs.reads I c l _ its h2 rv ok
    obtain ⟨bs, b1, b2, b3⟩ := Shw.tup (P := X.prog) (w := X.w) ho hc hd q (VRs.shw I c l _ its h2 rv ok (by omega))
    refine ⟨"tuple", "tuple.__repr__", F.slot_tuple_repr, F.slot_tuple_str, F.slot_tuple_format, fun s2 hk => ⟨o, hk _ _ ho, hc⟩, fun A E s2 Q hg hu hk hQ => ?_⟩
    exact call_tuple_reprK ho hc hd b2 b3 hg (fun b _ => Clear.nil b) hu hk hQ hz'
  | lst h1 h3 h2 =>
    rename_i l vs
    rw [lenR] at hz
    rw [okR, Bool.and_eq_true] at ok
    cases r
    obtain ⟨its, rv, ⟨o, n, ho, hc, _, hd⟩, _⟩ := I.list (SqL.of h1)
    obtain ⟨as, q, _⟩ := VRs.reads I c l _ its h2 rv ok.2
    obtain ⟨bs, b1, b2, b3⟩ := Shw.lst (P := X.prog) (w := X.w) ho hc hd q (VRs.shw I c l _ its h2 rv ok.2 (by omega))
    refine ⟨"list", "list.__repr__", F.slot_list_repr.toG, F.slot_list_str, F.slot_list_format, fun s2 hk => ⟨o, hk _ _ ho, hc⟩, fun A E s2 Q hg hu hk hQ => ?_⟩
    cases its with
    | nil =>
      cases l with
      | cons _ _ => cases rv; cases h2
      | nil =>
        have hQ' := hQ s2.heap
        rw [show (toD (.lst [])).shown = "[]" from PySem.listText_nil] at hQ'
        exact call_list_repr_empty ⟨o, hk _ _ ho, hc⟩ (hk _ _ ho) hd (hQ' _ _ fun _ _ e => e)
    | cons y l' => exact call_list_reprK ho hc hd b2 (by simpa using b3.length_eq) (fun i y e => b3.item i y (by simpa using e)) hg (fun b _ => Clear.nil b) hu hk hQ hz'
  | dk h1 h3 h2 =>
    rename_i l kvs
    have ok2 := ok
    rw [okR, Bool.and_eq_true] at ok2
    have ok' : okR .d (.dk l) = true := by rw [okR, ok2.2]; rfl
    cases r
    obtain ⟨as, q, q2⟩ := VR.reads I .d (.dk l) _ _ (.dk h1 h3 h2) (show RelV (.ref a) (.ref a) from rfl) ok'
    exact showsBy_of_reads q (showable_of .d _ ok') (fun _ => q2 rfl) hz'
  | fl h1 h2 => exact nomatch ok
  | ref h1 => exact nomatch ok
  | fn h1 => exact nomatch ok
end
section
variable {K : PySem.W.Frag} {m : MM} {H : Hp}
theorem nomem {a : Addr} : a ∉ (⟨[], []⟩ : MM) := fun z => z.elim (fun q => nomatch q) (fun q => nomatch q)
mutual
theorem VR.bare : ∀ (c : Md) (v : AV) (x : V), VR K m H v x → okR c v = true → VR K ⟨[], []⟩ H v x
  | _, .non, x, h, _ => by cases h; exact .non
  | _, .bl b, x, h, _ => by cases h; exact .bl b
  | _, .int b, x, h, _ => by cases h; exact .int b
  | _, .str b, x, h, _ => by cases h; exact .str b
  | c, .tup l, x, h, ok => by
    cases h with
    | tup h1 h2 => exact .tup h1 (VRs.bare c l _ h2 ok)
  | c, .lst l, x, h, ok => by
    rw [okR, Bool.and_eq_true] at ok
    cases h with
    | lst h1 _ h2 => exact .lst h1 nomem (VRs.bare c l _ h2 ok.2)
  | c, .dk l, x, h, ok => by
    rw [okR, Bool.and_eq_true] at ok
    cases h with
    | dk h1 _ h2 => exact .dk h1 nomem (VRk.bare l _ h2 ok.2)
  | _, .fl l, _, _, ok => nomatch ok
  | _, .ref l, _, _, ok => nomatch ok
theorem VRs.bare : ∀ (c : Md) (l : List AV) (x : List V), VRs K m H l x → okRs c l = true → VRs K ⟨[], []⟩ H l x
  | _, [], x, h, _ => by cases h; exact .nil
  | c, v :: l, x, h, ok => by
    rw [okRs, Bool.and_eq_true] at ok
    cases h with
    | cons h1 h2 => exact .cons (VR.bare c v _ h1 ok.1) (VRs.bare c l _ h2 ok.2)
theorem VRk.bare : ∀ (l : List (AK × AV)) (x : List (Key × V)), VRk K m H l x → okRk l = true → VRk K ⟨[], []⟩ H l x
  | [], x, h, _ => by cases h; exact .nil
  | (k, v) :: l, x, h, ok => by
    rw [okRk, Bool.and_eq_true, Bool.and_eq_true] at ok
    cases h with
    | cons h1 h2 => exact .cons (VR.bare .d v _ h1 ok.1.2) (VRk.bare l _ h2 ok.2)
end
/-- what is ours, seen as it is now -/
theorem VR.now {ah : AH} {v : AV} {x : V} {c : Md} (rel : Rel K m ah H) (h : VR K m H v x) (ok : okR c (dr ah v) = true) : VR K ⟨[], []⟩ H (dr ah v) x := by
  cases h with
  | ref hm =>
    obtain ⟨o, ho, q⟩ := rel.at hm
    rw [dr_ref ho] at ok ⊢
    cases o with
    | lst l =>
      obtain ⟨vs, h1, h2⟩ := q
      have ok : okR c (.lst l) = true := ok
      rw [okR, Bool.and_eq_true] at ok
      exact .lst h1 nomem (VRs.bare c l _ h2 ok.2)
    | dk l =>
      obtain ⟨vs, h1, h2⟩ := q
      have ok : okR c (.dk l) = true := ok
      rw [okR, Bool.and_eq_true] at ok
      exact .dk (.inl h1) nomem (VRk.bare l _ h2 ok.2)
  | non => exact .non
  | bl b => exact .bl b
  | int b => exact .int b
  | str b => exact .str b
  | tup h1 h2 => exact VR.bare c _ _ (.tup h1 h2) ok
  | lst h1 h2 h3 => exact VR.bare c _ _ (.lst h1 h2 h3) ok
  | dk h1 h2 h3 => exact VR.bare c _ _ (.dk h1 h2 h3) ok
  | fl h1 h2 => exact nomatch ok
  | fn h1 => exact nomatch ok
end
def repA (v : AV) : List Nat := (toD v).shown.cps.toList
def repOk (v : AV) : Bool := okR .m v && decide (lenR v ≤ 16000000) && decide (depR v ≤ 150)
def repO : OL := fun ah l => match l with
  | [v] => if repOk (dr ah v) then some (.str (repA (dr ah v))) else none
  | _ => none
section
variable {X : Cx}
def rRep (K : PySem.W.Frag) : List V → Hp → VK → Prop := fun xs H Q => ∃ m ah v x, xs = [x] ∧ Rel K m ah H ∧ VR K m H v x ∧ repOk (dr ah v) = true ∧ Q (.str (mkS (repA (dr ah v)))) H
theorem call_rep {k : Nat} (hr : Room k X.A) (hg : X.A.guards = some []) : CallR X (.builtin "repr") (rRep X.K) := by
  intro pins s σ H xs us Q I r h
  obtain ⟨m, ah, v, x, rfl, rel, hv, ok, q⟩ := h
  obtain ⟨u, rfl, ru⟩ := vals1 r
  unfold repOk at ok
  rw [Bool.and_eq_true, Bool.and_eq_true] at ok
  obtain ⟨⟨ok, hl⟩, hd⟩ := ok
  have hl := of_decide_eq_true hl
  have hd := of_decide_eq_true hd
  have h16 : sizeLine = 16777216 := sizeLine_eq
  have sl := shown_len .m _ ok
  have e : mkS (repA (dr ah v)) = (toD (dr ah v)).shown := by
    show (⟨(toD (dr ah v)).shown.cps.toList.toArray⟩ : Str) = _
    rw [Array.toArray_toList]
  rw [e] at q
  have now := VR.now rel hv ok
  have fin : ∀ (h' : Heap) (tu : Tok) (tk : Nat), (∀ b o, s.heap.get? b = some o → h'.get? b = some o) → EP X pins σ Q (.str (toD (dr ah v)).shown tu) { s with heap := h', toks := tk } := fun h' tu tk k =>
    ⟨.str _, H, I.kept (t' := tk) k, ⟨_, rfl⟩, q⟩
  have hu := hr.un
  cases u with
  | ref a =>
    obtain ⟨T, idr, S⟩ := shows_top I .m now ru ok (by omega)
    refine call_repr_slot (by omega) (S.typeIs s fun _ _ z => z) S.slotRepr (S.call X.A.in1 _ s _ hg ?_ (fun _ _ z => z) fun h' u tk hk => ⟨_, _, rfl, fin h' u tk hk⟩)
    rw [dep_of .m _ ok]
    show X.A.units + 1 + _ < cLine
    omega
  | none => obtain ⟨as, rd, _⟩ := VR.reads I .m _ _ _ now ru ok; generalize hD : toD (dr ah v) = D at *; cases rd; exact P.repr_of_none (fin s.heap _ _ fun _ _ z => z)
  | bool b => obtain ⟨as, rd, _⟩ := VR.reads I .m _ _ _ now ru ok; generalize hD : toD (dr ah v) = D at *; cases rd; refine P.repr_of_bool ?_; have := fin s.heap s.toks (s.toks + 1) fun _ _ z => z; cases b <;> exact this
  | int i t => obtain ⟨as, rd, _⟩ := VR.reads I .m _ _ _ now ru ok; generalize hD : toD (dr ah v) = D at *; cases rd; exact P.repr_of_int (by
      have := showable_of .m _ ok
      rw [hD] at this
      exact of_decide_eq_true this) (fin s.heap _ _ fun _ _ z => z)
  | str y t => obtain ⟨as, rd, _⟩ := VR.reads I .m _ _ _ now ru ok; generalize hD : toD (dr ah v) = D at *; cases rd; exact P.repr_of_str (fin s.heap _ _ fun _ _ z => z) (by
      have : (PyData.shown (.str y)).length ≤ sizeLine := by omega
      exact this)
  | _ => obtain ⟨as, rd, _⟩ := VR.reads I .m _ _ _ now ru ok; nomatch rd
theorem rep_g {k : Nat} (hr : Room k X.A) (hg : X.A.guards = some []) : ∃ r, CallR X (.builtin "repr") r ∧ CallG X r repO := by
  refine ⟨_, call_rep hr hg, ?_⟩
  intro m H ah l xs z Q r hv hf q
  unfold repO at hf
  split at hf
  · obtain ⟨x, rfl, hx⟩ := hv.one
    split at hf
    · rename_i ok
      cases hf
      exact ⟨m, ah, _, x, rfl, r, hx, ok, q.here r (.str _)⟩
    · cases hf
  · cases hf
end
end G
namespace G
open PySem PySem.Spec PyProof.Rows L2
set_option autoImplicit false

abbrev GG := Env → AV → Option Env
abbrev GGs := Env → List AV → Option Env
/-- what a walk tells: also (w) a pair that is nothing but taken apart -/
def VRw (w : Bool) (K : PySem.W.Frag) (m : MM) (H : Hp) (v : AV) (x : V) : Prop := VR K m H v x ∨ (w = true ∧ ∃ a b xa xb p, v = .tup [a, b] ∧ x = .ref p ∧ SqT K H p [xa, xb] ∧ VR K m H a xa ∧ VR K m H b xb)
theorem VRw.strict {K : PySem.W.Frag} {m : MM} {H : Hp} {v : AV} {x : V} (h : VRw false K m H v x) : VR K m H v x := h.elim id fun z => nomatch z.1
/-- the places that are stored: is -/
def tGG (w : Bool) (K : PySem.W.Frag) (is : List Nat) (h : GG) : TG := fun x σ H Q => ∃ m env v env', EnvR K m H env σ ∧ VRw w K m H v x ∧ h env v = some env' ∧ ∀ σ', EnvR K m H env' σ' → (∀ vs, (∀ i ∈ is, i ∈ vs) → L2.wipe σ' vs = L2.wipe σ vs) → Q σ' H
def tGGs (K : PySem.W.Frag) (is : List Nat) (h : GGs) : TGs := fun xs σ H Q => ∃ m env l env', EnvR K m H env σ ∧ VRs K m H l xs ∧ h env l = some env' ∧ ∀ σ', EnvR K m H env' σ' → (∀ vs, (∀ i ∈ is, i ∈ vs) → L2.wipe σ' vs = L2.wipe σ vs) → Q σ' H
def gNm (i : Nat) : GG := fun env v => some (env.set i (some v))
def gTg (n : Nat) (h : GGs) : GG := fun env v => match v with
  | .tup l => if l.length = n then h env l else none
  | _ => none
def gTn : GGs := fun env l => match l with
  | [] => some env
  | _ :: _ => none
def gTc (h : GG) (hs : GGs) : GGs := fun env l => match l with
  | v :: r => match h env v with
    | some env1 => hs env1 r
    | none => none
  | [] => none
theorem wipe_get {σ : L2.St} {j : Nat} : ∀ {vs : List Nat}, j ∈ vs → (L2.wipe σ vs)[j]? = if j < σ.length then some none else none
  | [], h => by cases h
  | v :: vs, h => by
    unfold L2.wipe
    by_cases e : v = j
    · subst e
      by_cases hl : v < σ.length
      · rw [List.getElem?_set_self (by rw [L2.wipe_length]; exact hl), if_pos hl]
      · rw [List.getElem?_eq_none (by rw [List.length_set, L2.wipe_length]; omega), if_neg hl]
    · rw [List.getElem?_set_ne e]
      rcases List.mem_cons.mp h with q | q
      · exact absurd q.symm e
      · exact wipe_get q
theorem wipe_getO {σ : L2.St} {j : Nat} : ∀ {vs : List Nat}, j ∉ vs → (L2.wipe σ vs)[j]? = σ[j]? := fun h => L2.wipe_out h
theorem wipe_set {σ : L2.St} {i : Nat} {x : Option V} {vs : List Nat} (h : i ∈ vs) : L2.wipe (σ.set i x) vs = L2.wipe σ vs := by
  apply List.ext_getElem?
  intro j
  by_cases hj : j ∈ vs
  · rw [wipe_get hj, wipe_get hj, List.length_set]
  · rw [wipe_getO hj, wipe_getO hj, List.getElem?_set_ne (fun e => hj (by rw [← e]; exact h))]
theorem wipe_wipe {σ : L2.St} (vs : List Nat) : L2.wipe (L2.wipe σ vs) vs = L2.wipe σ vs := by
  apply List.ext_getElem?
  intro j
  by_cases hj : j ∈ vs
  · rw [wipe_get hj, wipe_get hj, L2.wipe_length]
  · rw [wipe_getO hj]
section
variable {X : Cx} {W : WX} {tg : Expr} {tgs : List Expr} {pos : Pos}
theorem PG.weak {t t' : TG} (h : PG X tg t) (w : ∀ x σ H Q, t' x σ H Q → t x σ H Q) : PG X tg t' := ⟨fun pins s σ H v u Q I r q => h.run pins s σ H v u Q I r (w _ _ _ _ q)⟩
theorem PGs.weak {t t' : TGs} (h : PGs X tgs t) (w : ∀ x σ H Q, t' x σ H Q → t x σ H Q) : PGs X tgs t' := ⟨fun pins s σ H v u Q I r q => h.run pins s σ H v u Q I r (w _ _ _ _ q)⟩
theorem gg_name {i : Nat} {x : Str} (hN : X.N.Nodup) (hi : X.N[i]? = some x) (hx : Loc X.env.scope x) (hf : X.fn x = true ∨ X.env.scope.names.lookup x = some .local := by first | exact .inl rfl | exact .inr rfl) : PG X (.Name x pos) (tGG false X.K [i] (gNm i)) :=
  PG.weak (pg_name hN hi hx hf) fun x σ H Q h => by
    obtain ⟨m, env, v, env', hE, hv, e, q⟩ := h
    cases e
    exact q _ (hE.set i hv.strict) fun vs hvs => wipe_set (hvs i (by simp))
theorem gg_nil {is : List Nat} : PGs X [] (tGGs X.K is gTn) :=
  PGs.weak pgs_nil fun xs σ H Q h => by
    obtain ⟨m, env, l, env', hE, hv, e, q⟩ := h
    cases hv with
    | nil => cases e; exact ⟨rfl, q _ hE fun _ _ => rfl⟩
    | cons h r => cases e
theorem gg_cons {e : Expr} {es : List Expr} {is js : List Nat} {h : GG} {hs : GGs} (h1 : PG X e (tGG false X.K is h)) (h2 : PGs X es (tGGs X.K js hs)) (hst : (assignEach (e :: es) X.env).map (·.2) = assign e X.env :: (assignEach es X.env).map (·.2) := by rfl) : PGs X (e :: es) (tGGs X.K (is ++ js) (gTc h hs)) :=
  PGs.weak (pgs_cons h1 h2 hst) fun xs σ H Q hh => by
    obtain ⟨m, env, l, env', hE, hv, e, q⟩ := hh
    cases hv with
    | nil => cases e
    | cons hx hr =>
      rename_i v l x xs
      have e : (match h env v with | some env1 => hs env1 l | none => none) = some env' := e
      cases e1 : h env v with
      | none => rw [e1] at e; cases e
      | some env1 =>
        rw [e1] at e
        refine ⟨x, xs, rfl, m, env, v, env1, hE, .inl hx, e1, fun σ1 hE1 w1 => ⟨m, env1, l, env', hE1, hr, e, fun σ2 hE2 w2 => q σ2 hE2 fun vs hvs => ?_⟩⟩
        rw [w2 vs fun i hi => hvs i (List.mem_append_right _ hi), w1 vs fun i hi => hvs i (List.mem_append_left _ hi)]
theorem gg_tup {w : Bool} {es : List Expr} {k : Nat} {n : Nat} {is : List Nat} {hs : GGs} (hc : X.calm = true) (h : PGs X es (tGGs X.K is hs))
    (hn : (assignEach es X.env).length = n := by rfl) (hst : (assignEach es X.env).findIdx? (·.1) = none := by rfl) : PG X (.Tuple es k pos) (tGG w X.K is (gTg n hs)) :=
  PG.weak (pg_tup hc h hn hst) fun x σ H Q hh => by
    obtain ⟨m, env, v, env', hE, hv, e, q⟩ := hh
    have go : ∀ {l : List AV} {vs : List V} {a : Addr}, v = .tup l → x = .ref a → SqT X.K H a vs → VRs X.K m H l vs → L2.gTup X.K n (tGGs X.K is hs) x σ H Q := fun {l vs a} ev ex h1 h2 => by
      subst ev
      have e : (if l.length = n then hs env l else none) = some env' := e
      split at e
      · rename_i hl
        exact ⟨a, vs, ex, h1, by rw [← h2.length]; exact hl, m, env, l, env', hE, h2, e, q⟩
      · cases e
    rcases hv with hv | ⟨_, a, b, xa, xb, p, rfl, ex, hp, ha, hb⟩
    · cases hv with
      | tup h1 h2 => exact go rfl rfl h1 h2
      | _ => cases e
    · exact go rfl ex hp (.cons ha (.cons hb .nil))
end

abbrev Src := Option Nat × List AV
def ckS (src : Src) (ah : AH) : Prop := match src.1 with
  | none => True
  | some n => ah[n]? = some (.lst src.2)
@[simp] theorem ckS_none {l : List AV} {ah : AH} : ckS (none, l) ah = True := rfl
@[simp] theorem ckS_some {n : Nat} {l : List AV} {ah : AH} : ckS (some n, l) ah = (ah[n]? = some (.lst l)) := rfl
structure JG (w : Bool) (K : PySem.W.Frag) (J : It) (m : MM) (H : Hp) (src : Src) : Prop where
  stop : ∀ m' H' ah', Ext m H m' H' → Rel K m' ah' H' → ckS src ah' → J.stop src.2.length H'
  go : ∀ m' H' ah' (i : Nat) (v : AV), Ext m H m' H' → Rel K m' ah' H' → ckS src ah' → src.2[i]? = some v → J.go i H'
  yld : ∀ m' H' ah' (i : Nat) (v : AV) x H'', Ext m H m' H' → Rel K m' ah' H' → ckS src ah' → src.2[i]? = some v → J.yld i H' x H'' → (∀ a o, H' a = some o → H'' a = some o) ∧ VRw w K m' H'' v x
abbrev GI := Env → AH → Res Src
def tGI (w : Bool) (X : Cx) (W : WX) (f : GI) : TI := fun σ H R => ∃ m env ah, EnvR X.K m H env σ ∧ Rel X.K m ah H ∧ (f env ah).post (fun src ah1 => ∀ m1 H1 J, Ext m H m1 H1 → Rel X.K m1 ah1 H1 → JG w X.K J m1 H1 src → R J H1) (PX X.K X.mg m H fun c d H' => W c d σ H')
section
variable {X : Cx} {W : WX} {tg iter a b : Expr} {fa fb : GE} {fr : GA} {pos p : Pos}
theorem PI.weak {t t' : TI} (h : PI X tg iter t) (w : ∀ σ H R, t' σ H R → t σ H R) : PI X tg iter t' := ⟨fun pins s σ H R I q => h.run pins s σ H R I (w _ _ _ q)⟩
theorem PI.or {t t' : TI} (h : PI X tg iter t) (h' : PI X tg iter t') : PI X tg iter (fun σ H R => t σ H R ∨ t' σ H R) := ⟨fun pins s σ H R I q => q.elim (h.run pins s σ H R I) (h'.run pins s σ H R I)⟩
def itA (ah : AH) (v : AV) : Option Src := match v with
  | .tup l => some (none, l)
  | .lst l => some (none, l)
  | .fl l => some (none, l)
  | .str s => some (none, s.map fun c => .str [c])
  | .dk l => some (none, l.map fun p => keyV p.1)
  | .ref n => match ah[n]? with
    | some (.lst l) => some (some n, l)
    | _ => none
  | _ => none
def gIt (a : GE) : GI := fun env ah => rb (a env ah) fun v ah1 => lift1 (itA ah1 v) ah1
theorem jg_list {K : PySem.W.Frag} {m : MM} {H : Hp} {a : Addr} {src : Src} (h : ∀ m' H' ah', Ext m H m' H' → Rel K m' ah' H' → ckS src ah' → ∃ vs, SqL K H' a vs ∧ VRs K m' H' src.2 vs) : JG false K (Itl K a) m H src := by
  refine ⟨fun m' H' ah' e r c => ?_, fun m' H' ah' i v e r c hv => ?_, fun m' H' ah' i v x H'' e r c hv y => ?_⟩
  · obtain ⟨vs, h1, h2⟩ := h m' H' ah' e r c
    exact ⟨vs, h1, by rw [h2.length]; exact Nat.le_refl _⟩
  · obtain ⟨vs, h1, h2⟩ := h m' H' ah' e r c
    obtain ⟨x, hx, _⟩ := h2.get hv
    exact ⟨vs, x, h1, hx⟩
  · obtain ⟨vs, h1, h2⟩ := h m' H' ah' e r c
    obtain ⟨rfl, y⟩ := y
    have hx := y vs h1
    obtain ⟨x', hx', r'⟩ := h2.get hv
    rw [hx] at hx'; cases hx'
    exact ⟨fun _ _ h => h, .inl r'⟩
/-- e is a dict; it is closed for good -/
def tShut (t : TE) : TE := fun σ H Q => t σ H fun x H1 => ∃ d kvs, x = .ref d ∧ ((∃ od, H1 d = some (.frz od (.dK kvs)) ∧ Q x H1) ∨ (H1 d = some (.dK kvs) ∧ ∀ od, Q x (upd H1 d (.frz od (.dK kvs)))))
theorem PE.shut {e : Expr} {t : TE} (h : PE X e t) : PE X e (tShut t) := by
  refine ⟨fun pins s σ H Q I q => ?_⟩
  refine thn (h.run pins s σ H _ I q) fun u s1 ⟨x, H1, I1, rx, d, kvs, ex, q1⟩ => ?_
  rcases q1 with ⟨od, _, q1⟩ | ⟨hd, q1⟩
  · exact ⟨x, H1, I1, rx, q1⟩
  · obtain ⟨od, I2⟩ := I1.lock hd trivial
    exact ⟨x, _, I2, rx, q1 od⟩
theorem shut_read {σ : L2.St} {H : Hp} {Q : VK} {fa : GE} {m : MM} {env : Env} {ah ah1 : AH} {l : List (AK × AV)} (hE : EnvR X.K m H env σ) (hR : Rel X.K m ah H) (e : fa env ah = .ok (.dk l) ah1)
    (q : ∀ m1 H1 d od kvs, Ext m H m1 H1 → Rel X.K m1 ah1 H1 → H1 d = some (.frz od (.dK kvs)) → d ∉ m1 → VRk X.K m1 H1 l kvs → Q (.ref d) H1) : tShut (tG X W fa) σ H Q := by
  refine ⟨m, env, ah, hE, hR, ?_⟩
  rw [e]
  intro m1 H1 x e1 r1 v1
  cases v1 with
  | dk h1 h2 h3 =>
    rename_i d kvs
    refine ⟨d, kvs, rfl, ?_⟩
    rcases h1 with h1 | ⟨od, h1⟩
    · exact .inr ⟨h1, fun od => q m1 _ d od kvs (e1.trans (Ext.shut h1 h2)) (r1.shut h1 h2) upd_same h2 (h3.mono (Ext.shut h1 h2))⟩
    · exact .inl ⟨od, h1, q m1 H1 d od kvs e1 r1 h1 h2 h3⟩
theorem jg_keys {K : PySem.W.Frag} {m : MM} {H : Hp} {d : Addr} {od : Obj} {kvs : List (Key × V)} {l : List (AK × AV)} (h : H d = some (.frz od (.dK kvs))) (hv : VRk K m H l kvs) : JG false K (Itk d od kvs) m H (none, l.map fun p => keyV p.1) := by
  refine ⟨fun m' H' ah' e r c => ?_, fun m' H' ah' i v e r c hi => ?_, fun m' H' ah' i v x H'' e r c hi y => ?_⟩
  · exact ⟨e.still _ _ h rfl, by rw [List.length_map, hv.length]; exact Nat.le_refl _⟩
  · have := (List.getElem?_eq_some_iff.mp hi).1
    exact ⟨e.still _ _ h rfl, by simpa [hv.length] using this⟩
  · obtain ⟨rfl, k, w, hk, rfl⟩ := y
    have hk2 := (hv.mono e).keys
    obtain ⟨x', hx', rx⟩ := hk2.get hi
    rw [List.getElem?_map, hk] at hx'
    cases hx'
    exact ⟨fun _ _ h => h, .inl rx⟩
theorem gi_any (ha : PE X a (tG X W fa)) : PI X tg a (tGI false X W (gIt fa)) :=
  PI.weak (PI.or (pi_list ha) (PI.or (pi_tup ha) (PI.or (pi_str ha) (pi_keys (PE.shut ha))))) fun σ H R h => by
    obtain ⟨m, env, ah, hE, hR, hp⟩ := h
    cases e : fa env ah with
    | bad => unfold gIt at hp; rw [e] at hp; exact hp.elim
    | exc ev ah1 =>
      unfold gIt at hp; rw [e] at hp
      exact .inl ⟨m, env, ah, hE, hR, by rw [e]; exact hp⟩
    | ok v ah1 =>
      unfold gIt at hp; rw [e] at hp
      have hp : (lift1 (itA ah1 v) ah1).post _ _ := hp
      have mk : ∀ {Q : VK}, (∀ m1 H1 x, Ext m H m1 H1 → Rel X.K m1 ah1 H1 → VR X.K m1 H1 v x → Q x H1) → tG X W fa σ H Q := fun {Q} q => ⟨m, env, ah, hE, hR, by rw [e]; exact q⟩
      cases v with
      | tup l =>
        refine .inr (.inl (mk fun m1 H1 x e1 r1 v1 => ?_))
        cases v1 with
        | tup h1 h2 =>
          rename_i a vs
          refine ⟨a, rfl, ⟨vs, h1⟩, hp m1 H1 _ e1 r1 ⟨fun m' H' ah' e r c => ?_, fun m' H' ah' i v e r c hv => ?_, fun m' H' ah' i v x H'' e r c hv y => ?_⟩⟩
          · exact ⟨vs, e.sqT h1, by rw [h2.length]; exact Nat.le_refl _⟩
          · obtain ⟨x, hx, _⟩ := h2.get hv
            exact ⟨vs, x, e.sqT h1, hx⟩
          · obtain ⟨rfl, y⟩ := y
            have hx := y vs (e.sqT h1)
            obtain ⟨x', hx', r'⟩ := h2.get hv
            rw [hx] at hx'; cases hx'
            exact ⟨fun _ _ h => h, .inl (r'.mono e)⟩
      | lst l =>
        refine .inl (mk fun m1 H1 x e1 r1 v1 => ?_)
        cases v1 with
        | lst h1 hm h2 =>
          rename_i a vs
          exact ⟨a, rfl, ⟨vs, SqL.of h1⟩, hp m1 H1 _ e1 r1 (jg_list fun m' H' ah' e r c => ⟨vs, SqL.of (keep_ne (e.keep _ _ h1 hm) fun _ z => nomatch z), h2.mono e⟩)⟩
      | fl l =>
        refine .inl (mk fun m1 H1 x e1 r1 v1 => ?_)
        cases v1 with
        | fl h1 h2 =>
          rename_i a vs
          have q : ∀ m' H', Ext m1 H1 m' H' → SqL X.K H' a vs := fun m' H' e => by
            rcases h1 with ⟨o, h1⟩ | h1
            · exact .inl (.inr ⟨o, e.still _ _ h1 rfl⟩)
            · exact .inr h1
          exact ⟨a, rfl, ⟨vs, q m1 H1 (Ext.refl _ _)⟩, hp m1 H1 _ e1 r1 (jg_list fun m' H' ah' e r c => ⟨vs, q m' H' e, h2.mono e⟩)⟩
      | str s =>
        refine .inr (.inr (.inl (mk fun m1 H1 x e1 r1 v1 => ?_)))
        cases v1
        have hz : (mkS s).cps.size = s.length := by simp [mkS]
        have hg : ∀ (i : Nat) (c : Nat), (mkS s).cps[i]? = some c ↔ s[i]? = some c := fun i c => by simp [mkS]
        refine ⟨_, rfl, hp m1 H1 _ e1 r1 ⟨fun m' H' ah' e r c => ?_, fun m' H' ah' i v e r c hv => ?_, fun m' H' ah' i v x H'' e r c hv y => ?_⟩⟩
        · show (mkS s).cps.size ≤ (s.map fun c => AV.str [c]).length
          rw [hz, List.length_map]; exact Nat.le_refl _
        · show i < (mkS s).cps.size
          have := (List.getElem?_eq_some_iff.mp hv).1
          have this : i < (s.map fun c => AV.str [c]).length := this
          rw [List.length_map] at this
          omega
        · obtain ⟨rfl, c, hc, rfl⟩ := y
          have hv : (s.map fun c => AV.str [c])[i]? = some v := hv
          rw [List.getElem?_map, (hg i c).mp hc] at hv
          cases hv
          exact ⟨fun _ _ h => h, .inl (.str [c])⟩
      | dk l =>
        refine .inr (.inr (.inr (shut_read hE hR e fun m1 H1 d od kvs e1 r1 hd hm hv => ?_)))
        exact ⟨d, od, rfl, .inl ⟨kvs, hd, hp m1 H1 _ e1 r1 (jg_keys hd hv)⟩⟩
      | ref n =>
        have hp : (lift1 (match ah1[n]? with | some (.lst l) => some (some n, l) | _ => none) ah1).post _ _ := hp
        cases q : ah1[n]? with
        | none => rw [q] at hp; exact hp.elim
        | some o =>
          rw [q] at hp
          cases o with
          | dk l => exact hp.elim
          | lst l =>
            refine .inl (mk fun m1 H1 x e1 r1 v1 => ?_)
            cases v1 with
            | ref hm =>
              rename_i a
              have now : ∀ m' H' ah', Ext m1 H1 m' H' → Rel X.K m' ah' H' → ckS (some n, l) ah' → ∃ vs, SqL X.K H' a vs ∧ VRs X.K m' H' l vs := fun m' H' ah' e r c => by
                have c : ah'[n]? = some (.lst l) := c
                obtain ⟨vs, h1, h2⟩ := r.obj n a _ (e.get hm) c
                exact ⟨vs, SqL.of h1, h2⟩
              obtain ⟨vs, h1, _⟩ := now m1 H1 ah1 (Ext.refl _ _) r1 q
              exact ⟨a, rfl, ⟨vs, h1⟩, hp m1 H1 _ e1 r1 (jg_list now)⟩
      | _ => exact hp.elim
def rngA (lo : Int) (n : Nat) : List AV := (List.range n).map fun (i : Nat) => .int (lo + (i : Int))
def gR1 (r : GA) : GI := fun env ah => rb (r env ah) fun l ah1 => match l with
  | [.int j] => if -1000000 ≤ j ∧ j ≤ 1000000 then .ok (none, rngA 0 j.toNat) ah1 else .bad
  | _ => .bad
def gR2 (r : GA) : GI := fun env ah => rb (r env ah) fun l ah1 => match l with
  | [.int i, .int j] => if -1000000 ≤ i ∧ i ≤ 1000000 ∧ -1000000 ≤ j ∧ j ≤ 1000000 then .ok (none, rngA i (j - i).toNat) ah1 else .bad
  | _ => .bad
theorem jg_rng {K : PySem.W.Frag} {m : MM} {H : Hp} {lo : Int} {n : Nat} : JG false K (Itr lo n) m H (none, rngA lo n) := by
  refine ⟨fun m' H' ah' e r c => ?_, fun m' H' ah' i v e r c hv => ?_, fun m' H' ah' i v x H'' e r c hv y => ?_⟩
  · show n ≤ (rngA lo n).length
    simp [rngA]
  · show i < n
    have := (List.getElem?_eq_some_iff.mp hv).1
    simpa [rngA] using this
  · obtain ⟨rfl, rfl⟩ := y
    have hv : (rngA lo n)[i]? = some v := hv
    unfold rngA at hv
    rw [List.getElem?_map] at hv
    obtain ⟨j, hj, rfl⟩ := Option.map_eq_some_iff.mp hv
    have hl := (List.getElem?_eq_some_iff.mp hj)
    obtain ⟨hl, ej⟩ := hl
    simp at ej
    subst ej
    exact ⟨fun _ _ h => h, .inl (.int _)⟩
theorem gi_r1 (hg : Gl X "range") (hm : X.mg "range" = none) (ha : PA X [a] (tGA X W fr)) (hs : starEach [a] X.env = [(false, eval a X.env)] := by rfl) : PI X tg (.Call (.Name "range" p) [a] [] pos) (tGI false X W (gR1 fr)) :=
  PI.weak (pi_range1 hg hm ha hs) fun σ H R h => by
    obtain ⟨m, env, ah, hE, hR, hp⟩ := h
    refine tGA_step hE hR hp (fun _ _ h => h) fun l ah1 m1 H1 xs e1 r1 v1 hp1 => ?_
    cases v1 with
    | nil => exact hp1.elim
    | cons h1 h2 =>
      cases h1 with
      | int j =>
        cases h2 with
        | nil =>
          have hp1 : (if -1000000 ≤ j ∧ j ≤ 1000000 then Res.ok ((none, rngA 0 j.toNat) : Src) ah1 else .bad).post _ _ := hp1
          split at hp1
          · rename_i hj
            exact ⟨j, rfl, by omega, by omega, hp1 m1 H1 _ e1 r1 jg_rng⟩
          · exact hp1.elim
        | cons _ _ => exact hp1.elim
      | _ => exact hp1.elim
theorem gi_r2 (hg : Gl X "range") (hm : X.mg "range" = none) (ha : PA X [a, b] (tGA X W fr)) (hs : starEach [a, b] X.env = [(false, eval a X.env), (false, eval b X.env)] := by rfl) (hs2 : starEach [b] X.env = [(false, eval b X.env)] := by rfl) : PI X tg (.Call (.Name "range" p) [a, b] [] pos) (tGI false X W (gR2 fr)) :=
  PI.weak (pi_range2 hg hm ha hs hs2) fun σ H R h => by
    obtain ⟨m, env, ah, hE, hR, hp⟩ := h
    refine tGA_step hE hR hp (fun _ _ h => h) fun l ah1 m1 H1 xs e1 r1 v1 hp1 => ?_
    have hp1 : (match l with
      | [.int i, .int j] => if -1000000 ≤ i ∧ i ≤ 1000000 ∧ -1000000 ≤ j ∧ j ≤ 1000000 then Res.ok ((none, rngA i (j - i).toNat) : Src) ah1 else .bad
      | _ => .bad).post _ _ := hp1
    split at hp1
    · split at hp1
      · rename_i hj
        obtain ⟨x, y, rfl, hx, hy⟩ := v1.two
        cases hx; cases hy
        exact ⟨_, _, rfl, ⟨by omega, by omega, by omega, by omega⟩, hp1 m1 H1 _ e1 r1 jg_rng⟩
      · exact hp1.elim
    · exact hp1.elim
end

section
variable {X : Cx} {W : WX}
noncomputable def lcL (src : Src) (h : GG) (t : GT) (e : GE) (env : Env) : List AV → AH → Res (List AV)
  | [], ah => @ite _ (ckS src ah) (Classical.propDecidable _) (.ok [] ah) .bad
  | v :: vs, ah => @ite _ (ckS src ah) (Classical.propDecidable _) (match h env v with
    | none => .bad
    | some env1 => rb (t env1 ah) fun b ah1 => if b = true then rb (e env1 ah1) fun x ah2 => rb (lcL src h t e env vs ah2) fun r ah3 => .ok (x :: r) ah3 else lcL src h t e env vs ah1) .bad
/-- errors out of a comprehension aren't carried -/
noncomputable def noX {α : Type} (r : Res α) : Res α := match r with
  | .exc _ _ => .bad
  | r => r
theorem noX_post {α : Type} {r : Res α} {P : α → AH → Prop} {E : EV → AH → Prop} (h : (noX r).post P E) : r.post P (fun _ _ => False) := by
  cases r with
  | ok a b => exact h
  | exc a b => exact h.elim
  | bad => exact h
noncomputable def gLc (it : GI) (h : GG) (t : GT) (e : GE) (vs : List Nat) : Env → AH → Res (List AV) := fun env ah => rb (it env ah) fun src ah1 => if src.2.length ≤ 1000000 then noX (lcL src h t e (wipeE env vs) src.2 ah1) else .bad
noncomputable def gLcV (it : GI) (h : GG) (t : GT) (e : GE) (vs : List Nat) : GE := fun env ah => rb (gLc it h t e vs env ah) fun l ah1 => .ok (.lst l) ah1
noncomputable def gLcH (it : GI) (h : GG) (t : GT) (e : GE) (vs : List Nat) : GE := fun env ah => rb (gLc it h t e vs env ah) fun l ah1 => .ok (.ref ah1.length) (ah1 ++ [.lst l])
def gYes : GT := fun _ ah => .ok true ah
theorem gt_yes : PTs X [] (tGT X W gYes) := ⟨fun pins s σ H Q I ⟨m, env, ah, hE, hR, hp⟩ => pts_nil.run pins s σ H Q I (hp m H (Ext.refl m H) hR)⟩

theorem Ext.memp {m m' : MM} {H H' : Hp} (e : Ext m H m' H') {a : Addr} (h : a ∈ m.p) : a ∈ m'.p := by
  obtain ⟨t, q, rfl⟩ := e.pre
  exact List.mem_append_right _ h
theorem Ext.dwrite {m md : MM} {H1 H : Hp} {D : Addr} {o : HO} (e : Ext m H1 md H) (hD : H1 D = none) : Ext m H1 md (upd H D o) :=
  ⟨e.pre, fun a u h hm => (e.keep a u h hm).imp (fun q => by rw [upd_ne (ne_of_none h hD)]; exact q) fun ⟨k, od, e1, e2⟩ => ⟨k, od, e1, by rw [upd_ne (ne_of_none h hD)]; exact e2⟩, fun a u h s => by rw [upd_ne (ne_of_none h hD)]; exact e.still a u h s, e.fresh, fun a ha u h => by rw [upd_ne (ne_of_none h hD)]; exact e.hold a ha u h⟩
theorem Ext.prot {m : MM} {H1 : Hp} {D : Addr} {o : HO} (hD : H1 D = none) : Ext m H1 ⟨m.l, D :: m.p⟩ (upd H1 D o) :=
  ⟨⟨[], [D], by simp⟩, fun a u h hm => .inl (by rw [upd_ne (ne_of_none h hD)]; exact h), fun a u h s => by rw [upd_ne (ne_of_none h hD)]; exact h, fun a ha => by
    rcases ha with ha | ha
    · exact .inl (.inl ha)
    · rcases List.mem_cons.mp ha with q | q
      · exact .inr (by rw [q]; exact hD)
      · exact .inl (.inr q), fun a ha u h => by rw [upd_ne (ne_of_none h hD)]; exact h⟩
theorem Ext.drop {m md : MM} {H1 H : Hp} (e : Ext m H1 md H) : Ext m H1 ⟨md.l, m.p⟩ H := by
  refine ⟨?_, e.keep, e.still, fun a ha => e.fresh a ?_, e.hold⟩
  · obtain ⟨t, q, rfl⟩ := e.pre
    exact ⟨t, [], by simp⟩
  · rcases ha with ha | ha
    · exact .inl ha
    · exact .inr (e.memp ha)
theorem Mv.dwrite {md : MM} {H : Hp} {D : Addr} {u o : HO} (hD : D ∈ md.p) (hu : H D = some u) (su : stl u = false) : Mv md H md (upd H D o) :=
  ⟨fun _ _ h => h, fun a v h hm => ⟨.inl (by rw [upd_ne (fun z => hm (by rw [z]; exact .inr hD))]; exact h), hm⟩, fun a v h s => by
    rw [upd_ne (fun z => ?_)]
    · exact h
    · subst z; rw [hu] at h; cases h; rw [su] at s; cases s⟩
theorem Mv.drop {md : MM} {H : Hp} {p : List Addr} (hp : ∀ a ∈ p, a ∈ md.p) : Mv md H ⟨md.l, p⟩ H :=
  ⟨fun _ _ h => h, fun a v h hm => ⟨.inl h, fun z => hm (z.elim .inl fun q => .inr (hp a q))⟩, fun a v h s => h⟩
theorem Rel.dwrite {K : PySem.W.Frag} {md : MM} {ah : AH} {H : Hp} {D : Addr} {o : HO} (r : Rel K md ah H) (hD : D ∈ md.p) (so : stl o = false) : Rel K md ah (upd H D o) := by
  obtain ⟨h1, u, h2, h3⟩ := r.prot D hD
  refine ⟨r.len, r.nd, fun n a o' e1 e2 => ?_, fun b hb => ?_⟩
  · rw [upd_ne (fun z => h1 (by rw [← z]; exact List.mem_of_getElem? e1))]
    exact (r.obj n a o' e1 e2).mv (Mv.dwrite hD h2 h3)
  · obtain ⟨g1, w, g2, g3⟩ := r.prot b hb
    refine ⟨g1, ?_⟩
    by_cases z : b = D
    · subst z; exact ⟨o, upd_same, so⟩
    · exact ⟨w, by rw [upd_ne z]; exact g2, g3⟩
theorem Rel.addp {K : PySem.W.Frag} {m : MM} {ah : AH} {H : Hp} {D : Addr} {o : HO} (r : Rel K m ah H) (hD : H D = none) (so : stl o = false) : Rel K ⟨m.l, D :: m.p⟩ ah (upd H D o) := by
  refine ⟨r.len, r.nd, fun n a o' e1 e2 => ?_, fun b hb => ?_⟩
  · have q := r.obj n a o' e1 e2
    obtain ⟨w, hw, _⟩ := q.some
    rw [upd_ne (ne_of_none hw hD)]
    exact q.mv (Ext.prot hD).mv
  · rcases List.mem_cons.mp hb with q | q
    · subst q
      exact ⟨fun z => r.notin hD (.inl z), o, upd_same, so⟩
    · obtain ⟨g1, w, g2, g3⟩ := r.prot b q
      exact ⟨g1, w, by rw [upd_ne (ne_of_none g2 hD)]; exact g2, g3⟩
theorem Rel.drop {K : PySem.W.Frag} {md : MM} {ah : AH} {H : Hp} {p : List Addr} (r : Rel K md ah H) (hp : ∀ a ∈ p, a ∈ md.p) : Rel K ⟨md.l, p⟩ ah H :=
  ⟨r.len, r.nd, fun n a o e1 e2 => (r.obj n a o e1 e2).mv (Mv.drop hp), fun b hb => r.prot b (hp b hb)⟩

/-- the block walks: D is where the list grows -/
theorem lc_read {w : Bool} {J : It} {is vs : List Nat} {m : MM} {H1 : Hp} {env : Env} {σ : L2.St} {src : Src} {h : GG} {t : GT} {e : GE} {Q : Hp → Prop} {W' : WX} (D : Addr) (hD : H1 D = none) {ah1 : AH} (hR : Rel X.K m ah1 H1) (hE : EnvR X.K m H1 env σ) (hJ : JG w X.K J m H1 src) (hl : src.2.length ≤ 1000000) (hi : ∀ i ∈ is, i ∈ vs)
    {P : List AV → AH → Prop} (hp : (lcL src h t e (wipeE env vs) src.2 ah1).post P (fun _ _ => False))
    (hQ : ∀ l ah2 md H2 xs, P l ah2 → Ext m H1 md H2 → D ∈ md.p → Rel X.K md ah2 H2 → VRs X.K md H2 l xs → H2 D = some (.lst xs) → Q H2) :
    ∃ Wv : Nat → Nat → Hp → Prop, (∃ k, Wv 0 k (upd H1 D (.lst []))) ∧ ∀ i k H, Wv i k H →
      (J.stop i H ∧ Q H) ∨ (J.go i H ∧ ∃ Nx : Hp → Prop, (∀ H', Nx H' → ∃ k', k' < k ∧ Wv (i + 1) k' H') ∧ ∀ x H', J.yld i H x H' → tGG w X.K is h x (L2.wipe σ vs) H' fun σ2 H2 => L2.wipe σ2 vs = L2.wipe σ vs ∧ tGT X W' t σ2 H2 fun b H3 =>
        if b = true then tG X W' e σ2 H3 fun y H4 => ∃ acc, H4 D = some (.lst acc) ∧ acc.length < sizeLine ∧ Nx (upd H4 D (.lst (acc ++ [y]))) else Nx H3) := by
  have h16 : sizeLine = 16777216 := sizeLine_eq
  have hEw := hE.wipe vs
  refine ⟨fun i k H => k = src.2.length - i ∧ i ≤ src.2.length ∧ ∃ md ah acc xs, Ext m H1 md H ∧ D ∈ md.p ∧ Rel X.K md ah H ∧ VRs X.K md H acc xs ∧ H D = some (.lst xs) ∧ xs.length ≤ i ∧
    (lcL src h t e (wipeE env vs) (src.2.drop i) ah).post (fun r ah2 => P (acc ++ r) ah2) (fun _ _ => False), ?_, ?_⟩
  · refine ⟨src.2.length, by simp, Nat.zero_le _, ⟨m.l, D :: m.p⟩, ah1, [], [], Ext.prot hD, by simp, hR.addp hD rfl, .nil, upd_same, Nat.zero_le _, ?_⟩
    simpa using hp
  · rintro i k H ⟨rfl, hile, md, ah, acc, xs, E1, dp, rel, hacc, hDx, hxl, hpost⟩
    by_cases hlt : i < src.2.length
    · right
      have hv : src.2[i]? = some src.2[i] := List.getElem?_eq_getElem hlt
      generalize src.2[i] = v at hv
      have hdrop : src.2.drop i = v :: src.2.drop (i + 1) := by
        rw [List.drop_eq_getElem_cons hlt]
        congr 1
        have := List.getElem?_eq_getElem hlt
        rw [hv] at this; exact (Option.some.inj this).symm
      rw [hdrop] at hpost
      unfold lcL at hpost
      by_cases hck : ckS src ah
      · rw [if_pos hck] at hpost
        refine ⟨hJ.go md H ah i v E1 rel hck hv, fun H' => (fun i k H => k = src.2.length - i ∧ i ≤ src.2.length ∧ ∃ md ah acc xs, Ext m H1 md H ∧ D ∈ md.p ∧ Rel X.K md ah H ∧ VRs X.K md H acc xs ∧ H D = some (.lst xs) ∧ xs.length ≤ i ∧
          (lcL src h t e (wipeE env vs) (src.2.drop i) ah).post (fun r ah2 => P (acc ++ r) ah2) (fun _ _ => False)) (i + 1) (src.2.length - (i + 1)) H', fun H' hn => ⟨_, by omega, hn⟩, fun x H' y => ?_⟩
        obtain ⟨hg, hvx⟩ := hJ.yld md H ah i v x H' E1 rel hck hv y
        have eg : Ext md H md H' := Ext.grow hg
        have rel' := rel.grow hg
        cases q : h (wipeE env vs) v with
        | none => rw [q] at hpost; exact hpost.elim
        | some env1 =>
          rw [q] at hpost
          have hpost : (rb (t env1 ah) fun b ah1 => if b = true then rb (e env1 ah1) fun x ah2 => rb (lcL src h t e (wipeE env vs) (src.2.drop (i + 1)) ah2) fun r ah3 => .ok (x :: r) ah3 else lcL src h t e (wipeE env vs) (src.2.drop (i + 1)) ah1).post _ _ := hpost
          refine ⟨md, wipeE env vs, v, env1, hEw.mono (E1.trans eg), hvx, q, fun σ2 hE2 hw => ⟨by rw [hw vs hi, wipe_wipe], ?_⟩⟩
          refine tGT_step hE2 rel' hpost (fun _ _ z => z.elim) fun b ah2 m3 H3 e3 r3 hp3 => ?_
          cases b with
          | true =>
            refine iteT (tG_step (hE2.mono e3) r3 hp3 (fun _ _ z => z.elim) fun w ah4 m4 H4 y e4 r4 v4 hp4 => ?_)
            have dp4 : D ∈ m4.p := e4.memp (e3.memp dp)
            have hD4 : H4 D = some (.lst xs) := e4.hold D (e3.memp dp) _ (e3.hold D dp _ (hg D _ hDx))
            refine ⟨xs, hD4, by omega, rfl, by omega, m4, ah4, acc ++ [w], xs ++ [y], ((E1.trans eg).trans (e3.trans e4)).dwrite hD, dp4, r4.dwrite dp4 rfl, ?_, upd_same, by simp; omega, ?_⟩
            · exact (((hacc.mono eg).mono (e3.trans e4)).append (.cons v4 .nil)).mv (Mv.dwrite dp4 hD4 rfl)
            · cases q2 : lcL src h t e (wipeE env vs) (src.2.drop (i + 1)) ah4 with
              | ok r ah5 =>
                rw [q2] at hp4
                have hp4 : P (acc ++ w :: r) ah5 := hp4
                show P (acc ++ [w] ++ r) ah5
                rw [List.append_assoc]; exact hp4
              | exc ev ah5 => rw [q2] at hp4; exact hp4.elim
              | bad => rw [q2] at hp4; exact hp4.elim
          | false =>
            refine iteF ⟨rfl, by omega, m3, ah2, acc, xs, (E1.trans eg).trans e3, e3.memp dp, r3, (hacc.mono eg).mono e3, e3.hold D dp _ (hg D _ hDx), by omega, hp3⟩
      · rw [if_neg hck] at hpost; exact hpost.elim
    · left
      have ei : i = src.2.length := by omega
      subst ei
      rw [List.drop_length] at hpost
      unfold lcL at hpost
      by_cases hck : ckS src ah
      · rw [if_pos hck] at hpost
        have hpost : P (acc ++ []) ah := hpost
        rw [List.append_nil] at hpost
        exact ⟨hJ.stop md H ah E1 rel hck, hQ acc ah md H xs hpost E1 dp rel hacc hDx⟩
      · rw [if_neg hck] at hpost; exact hpost.elim

variable {w : Bool} {it : GI} {h : GG} {t : GT} {e : GE} {is : List Nat} {tg iter elt : Expr} {ifs : List Expr} {scope : Scope} {own : List (Str × Nat)} {pos : Pos}
theorem wipeL_eq {own : List (Str × Nat)} {is : List Nat} (h : is = own.map (·.2)) : ∀ i ∈ is, i ∈ own.map (·.2) := fun i hi => by rw [← h]; exact hi
theorem Ext.addl {m m2 : MM} {H1 H2 : Hp} {D : Addr} (e : Ext m H1 m2 H2) (hD : H1 D = none) : Ext m H1 ⟨m2.l ++ [D], m.p⟩ H2 := by
  refine ⟨?_, e.keep, e.still, fun a ha => ?_, e.hold⟩
  · obtain ⟨t, q, rfl⟩ := e.pre
    exact ⟨t ++ [D], [], by simp⟩
  · rcases ha with ha | ha
    · rcases List.mem_append.mp ha with z | z
      · exact e.fresh a (.inl z)
      · simp at z; subst z; exact .inr hD
    · exact .inl (.inr ha)
theorem Rel.addl {K : PySem.W.Frag} {md : MM} {ah : AH} {H : Hp} {D : Addr} {l : List AV} {xs : List V} {p : List Addr} (r : Rel K md ah H) (dp : D ∈ md.p) (hp : ∀ a ∈ p, a ∈ md.p) (hn : D ∉ p) (hD : H D = some (.lst xs)) (hv : VRs K md H l xs) : Rel K ⟨md.l ++ [D], p⟩ (ah ++ [.lst l]) H := by
  have mv : Mv md H ⟨md.l ++ [D], p⟩ H := ⟨fun n a h => by
      show (md.l ++ [D])[n]? = some a
      rw [List.getElem?_append_left (List.getElem?_eq_some_iff.mp h).1]; exact h,
    fun a v h hm => ⟨.inl h, fun z => by
      rcases z with z | z
      · rcases List.mem_append.mp z with z | z
        · exact hm (.inl z)
        · simp at z; subst z; exact hm (.inr dp)
      · exact hm (.inr (hp a z))⟩, fun a v h _ => h⟩
  have dl := (r.prot D dp).1
  refine ⟨by simp [r.len], ?_, fun n a o h1 h2 => ?_, fun b hb => ?_⟩
  · show (md.l ++ [D]).Nodup
    rw [List.nodup_append]
    exact ⟨r.nd, by simp, fun a ha b hb => by simp at hb; subst hb; intro z; subst z; exact dl ha⟩
  · have h1 : (md.l ++ [D])[n]? = some a := h1
    by_cases hl : n < md.l.length
    · rw [List.getElem?_append_left hl] at h1
      rw [List.getElem?_append_left (by rw [← r.len]; exact hl)] at h2
      exact (r.obj n a o h1 h2).mv mv
    · have e : n = md.l.length := by
        have := (List.getElem?_eq_some_iff.mp h1).1
        simp at this; omega
      subst e
      rw [List.getElem?_append_right (Nat.le_refl _)] at h1
      rw [r.len, List.getElem?_append_right (Nat.le_refl _)] at h2
      simp at h1 h2
      subst h1; subst h2
      exact ⟨xs, hD, hv.mv mv⟩
  · obtain ⟨h1, u, h2, h3⟩ := r.prot b (hp b hb)
    refine ⟨fun z => ?_, u, h2, h3⟩
    rcases List.mem_append.mp z with z | z
    · exact h1 z
    · simp at z; subst z; exact hn hb
theorem lcV_read (hsub : ∀ i ∈ is, i ∈ own.map (·.2)) {σ : L2.St} {H : Hp} {Q : VK} (hh : tG X W (gLcV it h t e (own.map (·.2))) σ H Q) : tLc (tGI w X W it) (tGG w X.K is h) (tGT X (fun _ _ _ _ => False) t) (tG X (fun _ _ _ _ => False) e) (own.map (·.2)) σ H Q := by
  obtain ⟨m, env, ah, hE, hR, hp⟩ := hh
  unfold gLcV gLc at hp
  rw [rb_rb] at hp
  refine ⟨m, env, ah, hE, hR, ?_⟩
  cases q : it env ah with
  | bad => rw [q] at hp; exact hp
  | exc ev ah1 => rw [q] at hp; exact hp
  | ok src ah1 =>
    rw [q] at hp
    intro m1 H1 J e1 r1 jg D hD
    have hp : (rb (if src.2.length ≤ 1000000 then noX (lcL src h t e (wipeE env (own.map (·.2))) src.2 ah1) else .bad) fun l ah1 => Res.ok (AV.lst l) ah1).post _ _ := hp
    split at hp
    · rename_i hl
      refine lc_read D hD r1 (hE.mono e1) jg hl hsub (P := fun l ah2 => PQ X.K m H Q (.lst l) ah2) (noX_post (E := fun _ _ => False) ?_) fun l ah2 md H2 xs hP e2 dp r2 hv hDx => hP ⟨md.l, m1.p⟩ H2 _ (e1.trans e2.drop) (r2.drop fun a ha => e2.memp ha) (.lst hDx (fun z => z.elim (r2.prot D dp).1 fun z => r1.notin hD (.inr z)) (hv.mv (Mv.drop fun a ha => e2.memp ha)))
      cases q2 : lcL src h t e (wipeE env (own.map (·.2))) src.2 ah1 with
      | ok l ah2 => rw [q2] at hp; exact hp
      | exc a b => rw [q2] at hp; exact hp.elim
      | bad => rw [q2] at hp; exact hp.elim
    · exact hp.elim
theorem lcH_read (hsub : ∀ i ∈ is, i ∈ own.map (·.2)) {σ : L2.St} {H : Hp} {Q : VK} (hh : tG X W (gLcH it h t e (own.map (·.2))) σ H Q) : tLc (tGI w X W it) (tGG w X.K is h) (tGT X (fun _ _ _ _ => False) t) (tG X (fun _ _ _ _ => False) e) (own.map (·.2)) σ H Q := by
  obtain ⟨m, env, ah, hE, hR, hp⟩ := hh
  unfold gLcH gLc at hp
  rw [rb_rb] at hp
  refine ⟨m, env, ah, hE, hR, ?_⟩
  cases q : it env ah with
  | bad => rw [q] at hp; exact hp
  | exc ev ah1 => rw [q] at hp; exact hp
  | ok src ah1 =>
    rw [q] at hp
    intro m1 H1 J e1 r1 jg D hD
    have hp : (rb (if src.2.length ≤ 1000000 then noX (lcL src h t e (wipeE env (own.map (·.2))) src.2 ah1) else .bad) fun l ah1 => Res.ok (AV.ref ah1.length) (ah1 ++ [.lst l])).post _ _ := hp
    split at hp
    · rename_i hl
      refine lc_read D hD r1 (hE.mono e1) jg hl hsub (P := fun l ah2 => PQ X.K m H Q (.ref ah2.length) (ah2 ++ [.lst l])) (noX_post (E := fun _ _ => False) ?_) fun l ah2 md H2 xs hP e2 dp r2 hv hDx => hP ⟨md.l ++ [D], m1.p⟩ H2 _ (e1.trans (e2.addl hD)) (r2.addl dp (fun a ha => e2.memp ha) (fun z => r1.notin hD (.inr z)) hDx hv) (.ref (by show (md.l ++ [D])[ah2.length]? = some D; rw [← r2.len, List.getElem?_append_right (Nat.le_refl _)]; simp))
      cases q2 : lcL src h t e (wipeE env (own.map (·.2))) src.2 ah1 with
      | ok l ah2 => rw [q2] at hp; exact hp
      | exc a b => rw [q2] at hp; exact hp.elim
      | bad => rw [q2] at hp; exact hp.elim
    · exact hp.elim
theorem ge_lc (hc : X.calm = true) (hN : X.N.Nodup) (hi : PI X tg iter (tGI w X W it)) (ok : BlkOk X.N X.env.scope scope own) (hsub : ∀ i ∈ is, i ∈ own.map (·.2))
    (hg : ∀ (s : Shared) (H : Hp) (C : Addr) (cl : List (Str × Addr)) (fp : List Addr), PG (X.blk s H scope (compEnvC scope cl C X.env) fp) tg (tGG w X.K is h)) (ht : ∀ (s : Shared) (H : Hp) (C : Addr) (cl : List (Str × Addr)) (fp : List Addr), PTs (X.blk s H scope (compEnvC scope cl C X.env) fp) ifs (tGT (X.blk s H scope (compEnvC scope cl C X.env) fp) (fun _ _ _ _ => False) t))
    (he : ∀ (s : Shared) (H : Hp) (C : Addr) (cl : List (Str × Addr)) (fp : List Addr), PE (X.blk s H scope (compEnvC scope cl C X.env) fp) elt (tG (X.blk s H scope (compEnvC scope cl C X.env) fp) (fun _ _ _ _ => False) e)) (hs : ∀ x, foldedSetIterable iter X.env x = pure x := by intro _; rfl) :
    PE X (.ListComp elt [⟨tg, iter, ifs, 0⟩] scope pos) (tG X W (gLcV it h t e (own.map (·.2)))) :=
  PE.weak (pe_lc (wi := tGI w X W it) (g := tGG w X.K is h) (tt := tGT X (fun _ _ _ _ => False) t) (te := tG X (fun _ _ _ _ => False) e) hc hN hi ok hg ht he hs) fun σ H Q hh => lcV_read hsub hh
theorem ge_lcH (hc : X.calm = true) (hN : X.N.Nodup) (hi : PI X tg iter (tGI w X W it)) (ok : BlkOk X.N X.env.scope scope own) (hsub : ∀ i ∈ is, i ∈ own.map (·.2))
    (hg : ∀ (s : Shared) (H : Hp) (C : Addr) (cl : List (Str × Addr)) (fp : List Addr), PG (X.blk s H scope (compEnvC scope cl C X.env) fp) tg (tGG w X.K is h)) (ht : ∀ (s : Shared) (H : Hp) (C : Addr) (cl : List (Str × Addr)) (fp : List Addr), PTs (X.blk s H scope (compEnvC scope cl C X.env) fp) ifs (tGT (X.blk s H scope (compEnvC scope cl C X.env) fp) (fun _ _ _ _ => False) t))
    (he : ∀ (s : Shared) (H : Hp) (C : Addr) (cl : List (Str × Addr)) (fp : List Addr), PE (X.blk s H scope (compEnvC scope cl C X.env) fp) elt (tG (X.blk s H scope (compEnvC scope cl C X.env) fp) (fun _ _ _ _ => False) e)) (hs : ∀ x, foldedSetIterable iter X.env x = pure x := by intro _; rfl) :
    PE X (.ListComp elt [⟨tg, iter, ifs, 0⟩] scope pos) (tG X W (gLcH it h t e (own.map (·.2)))) :=
  PE.weak (pe_lc (wi := tGI w X W it) (g := tGG w X.K is h) (tt := tGT X (fun _ _ _ _ => False) t) (te := tG X (fun _ _ _ _ => False) e) hc hN hi ok hg ht he hs) fun σ H Q hh => lcH_read hsub hh
theorem ge_setLc {i : Nat} {y : Str} {py spos : Pos} (hc : X.calm = true) (hN : X.N.Nodup) (hy : X.N[i]? = some y) (hyl : X.env.scope.names.lookup y = some .local)
    (hsw : swapsWith (.ListComp elt [⟨tg, iter, ifs, 0⟩] scope pos) (some (.Name y py)) spos.line X.env = pure true) (hi : PI X tg iter (tGI w X W it)) (ok : BlkOk X.N X.env.scope scope own)
    (hg : ∀ (s : Shared) (H : Hp) (C : Addr) (cl : List (Str × Addr)) (fp : List Addr), PG (X.blk s H scope (compEnvC scope cl C X.env) fp) tg (tGG w X.K is h)) (ht : ∀ (s : Shared) (H : Hp) (C : Addr) (cl : List (Str × Addr)) (fp : List Addr), PTs (X.blk s H scope (compEnvC scope cl C X.env) fp) ifs (tGT (X.blk s H scope (compEnvC scope cl C X.env) fp) (fun _ _ _ _ => False) t))
    (he : ∀ (s : Shared) (H : Hp) (C : Addr) (cl : List (Str × Addr)) (fp : List Addr), PE (X.blk s H scope (compEnvC scope cl C X.env) fp) elt (tG (X.blk s H scope (compEnvC scope cl C X.env) fp) (fun _ _ _ _ => False) e)) {te : TE} (hr : ∀ σ H Q, te σ H Q → tLc (tGI w X W it) (tGG w X.K is h) (tGT X (fun _ _ _ _ => False) t) (tG X (fun _ _ _ _ => False) e) (own.map (·.2)) σ H Q) (hs : ∀ x, foldedSetIterable iter X.env x = pure x := by intro _; rfl) :
    PS X (.Assign [.Name y py] (.ListComp elt [⟨tg, iter, ifs, 0⟩] scope pos) spos) (tAsg te (gName i)) :=
  PS.weak (ps_setLc (wi := tGI w X W it) (g := tGG w X.K is h) (tt := tGT X (fun _ _ _ _ => False) t) (te := tG X (fun _ _ _ _ => False) e) hc hN hy hyl hsw hi ok hg ht he hs) fun D σ H hh => hr σ H _ hh
end
end G
namespace G
open PySem PySem.Spec PyProof.Rows L2
set_option autoImplicit false

inductive SRes where
  | nx (env : Env) (ah : AH)
  | rt (v : AV) (ah : AH)
  | bk (env : Env) (ah : AH)
  | ct (env : Env) (ah : AH)
  | exc (e : EV) (env : Env) (ah : AH)
  | bad
abbrev GS := Env → AH → SRes
def sb {α : Type} (r : Res α) (env : Env) (k : α → AH → SRes) : SRes := match r with
  | .ok a h => k a h
  | .exc e h => .exc e env h
  | .bad => .bad
@[simp] theorem sb_ok {α : Type} {a : α} {h : AH} {env : Env} {k : α → AH → SRes} : sb (.ok a h) env k = k a h := rfl
@[simp] theorem sb_exc {α : Type} {e : EV} {h : AH} {env : Env} {k : α → AH → SRes} : sb (.exc e h : Res α) env k = .exc e env h := rfl
@[simp] theorem sb_bad {α : Type} {env : Env} {k : α → AH → SRes} : sb (.bad : Res α) env k = .bad := rfl
def PN (K : PySem.W.Frag) (m : MM) (H : Hp) (Q : L2.St → Hp → Prop) (env : Env) (ah : AH) : Prop := ∀ m' H' σ', Ext m H m' H' → Rel K m' ah H' → EnvR K m' H' env σ' → Q σ' H'
def sPost (X : Cx) (W : WX) (m : MM) (H : Hp) (D : Ends) : SRes → Prop
  | .nx env ah => PN X.K m H D.nx env ah
  | .rt v ah => PQ X.K m H D.rt v ah
  | .bk env ah => PN X.K m H D.bk env ah
  | .ct env ah => PN X.K m H D.ct env ah
  | .exc e env ah => ∀ m' H' σ' cls d, Ext m H m' H' → Rel X.K m' ah H' → EnvR X.K m' H' env σ' → XR X.K X.mg m' H' e cls d → W cls d σ' H'
  | .bad => False
def tGS (X : Cx) (W : WX) (f : GS) : TS := fun D σ H => ∃ m env ah, EnvR X.K m H env σ ∧ Rel X.K m ah H ∧ sPost X W m H D (f env ah)
section
variable {X : Cx} {W : WX} {m m1 : MM} {H H1 : Hp} {env : Env} {ah : AH} {σ : L2.St} {D : Ends}
theorem PN.mono {K : PySem.W.Frag} {Q : L2.St → Hp → Prop} (e : Ext m H m1 H1) (h : PN K m H Q env ah) : PN K m1 H1 Q env ah := fun m' H' σ' e' => h m' H' σ' (e.trans e')
theorem sPost.mono {r : SRes} (e : Ext m H m1 H1) (h : sPost X W m H D r) : sPost X W m1 H1 D r := by
  cases r with
  | nx env ah => exact PN.mono e h
  | rt v ah => exact PQ.mono e h
  | bk env ah => exact PN.mono e h
  | ct env ah => exact PN.mono e h
  | exc ev env ah => exact fun m' H' σ' cls d e' => h m' H' σ' cls d (e.trans e')
  | bad => exact h
theorem sG_step {f : GE} {k : AV → AH → SRes} {Q : VK} (hE : EnvR X.K m H env σ) (hR : Rel X.K m ah H) (h : sPost X W m H D (sb (f env ah) env k))
    (hk : ∀ v ah1 m1 H1 x, Ext m H m1 H1 → Rel X.K m1 ah1 H1 → VR X.K m1 H1 v x → sPost X W m1 H1 D (k v ah1) → Q x H1) : tG X W f σ H Q := by
  refine ⟨m, env, ah, hE, hR, ?_⟩
  cases e : f env ah with
  | ok v ah1 =>
    rw [e] at h
    exact fun m1 H1 x e1 r1 v1 => hk v ah1 m1 H1 x e1 r1 v1 (sPost.mono e1 h)
  | exc x ah1 =>
    rw [e] at h
    exact fun m1 H1 c d e1 r1 xr => h m1 H1 σ c d e1 r1 (hE.mono e1) xr
  | bad => rw [e] at h; exact h
theorem sGT_step {f : GT} {k : Bool → AH → SRes} {Q : Bool → Hp → Prop} (hE : EnvR X.K m H env σ) (hR : Rel X.K m ah H) (h : sPost X W m H D (sb (f env ah) env k))
    (hk : ∀ v ah1 m1 H1, Ext m H m1 H1 → Rel X.K m1 ah1 H1 → sPost X W m1 H1 D (k v ah1) → Q v H1) : tGT X W f σ H Q := by
  refine ⟨m, env, ah, hE, hR, ?_⟩
  cases e : f env ah with
  | ok v ah1 =>
    rw [e] at h
    exact fun m1 H1 e1 r1 => hk v ah1 m1 H1 e1 r1 (sPost.mono e1 h)
  | exc x ah1 =>
    rw [e] at h
    exact fun m1 H1 c d e1 r1 xr => h m1 H1 σ c d e1 r1 (hE.mono e1) xr
  | bad => rw [e] at h; exact h
end

def gSkip : GS := fun env ah => .nx env ah
def SRes.andThen (r : SRes) (k : GS) : SRes := match r with
  | .nx env ah => k env ah
  | r => r
def gSeq (f g : GS) : GS := fun env ah => (f env ah).andThen g
def gIf (t : GT) (f g : GS) : GS := fun env ah => sb (t env ah) env fun b ah1 => if b = true then f env ah1 else g env ah1
def gRet (a : GE) : GS := fun env ah => sb (a env ah) env fun v ah1 => .rt v ah1
def gRetN : GS := fun env ah => .rt .non ah
def gDrop (a : GE) : GS := fun env ah => sb (a env ah) env fun _ ah1 => .nx env ah1
def gSet (i : Nat) (a : GE) : GS := fun env ah => sb (a env ah) env fun v ah1 => .nx (env.set i (some v)) ah1
def gAsg (a : GE) (h : GG) : GS := fun env ah => sb (a env ah) env fun v ah1 => match h env v with
  | some env1 => .nx env1 ah1
  | none => .bad
def gBreak : GS := fun env ah => .bk env ah
def gCont : GS := fun env ah => .ct env ah
@[simp] theorem andThen_nx {env : Env} {ah : AH} {k : GS} : (SRes.nx env ah).andThen k = k env ah := rfl
@[simp] theorem andThen_rt {v : AV} {ah : AH} {k : GS} : (SRes.rt v ah).andThen k = .rt v ah := rfl
@[simp] theorem andThen_bad {k : GS} : SRes.bad.andThen k = .bad := rfl
@[simp] theorem andThen_exc {e : EV} {env : Env} {ah : AH} {k : GS} : (SRes.exc e env ah).andThen k = .exc e env ah := rfl
@[simp] theorem andThen_bk {env : Env} {ah : AH} {k : GS} : (SRes.bk env ah).andThen k = .bk env ah := rfl
@[simp] theorem andThen_ct {env : Env} {ah : AH} {k : GS} : (SRes.ct env ah).andThen k = .ct env ah := rfl
section
variable {w : Bool} {X : Cx} {W : WX} {a b c : Expr} {st : Stmt} {sts sts' : List Stmt} {fa fb fc : GE} {f g : GS} {t : GT} {pos : Pos}
theorem gs_nil : PSs X [] (tGS X W gSkip) := PSs.weak pss_nil fun D σ H ⟨m, env, ah, hE, hR, hp⟩ => hp m H σ (Ext.refl m H) hR hE
theorem gs_pass : PS X (.Pass pos) (tGS X W gSkip) := PS.weak ps_pass fun D σ H ⟨m, env, ah, hE, hR, hp⟩ => hp m H σ (Ext.refl m H) hR hE
theorem gs_doc {x j pos pos'} : PS X (.Expr (.Constant (.str x) j pos) pos') (tGS X W gSkip) := PS.weak ps_doc fun D σ H ⟨m, env, ah, hE, hR, hp⟩ => hp m H σ (Ext.refl m H) hR hE
theorem gs_break : PS X (.Break pos) (tGS X W gBreak) := PS.weak ps_break fun D σ H ⟨m, env, ah, hE, hR, hp⟩ => hp m H σ (Ext.refl m H) hR hE
theorem gs_cont : PS X (.Continue pos) (tGS X W gCont) := PS.weak ps_continue fun D σ H ⟨m, env, ah, hE, hR, hp⟩ => hp m H σ (Ext.refl m H) hR hE
theorem gs_one (h : PS X st (tGS X W f)) : PSs X [st] (tGS X W f) := pss_one h
theorem gs_cons (h1 : PS X st (tGS X W f)) (h2 : PSs X sts (tGS X W g)) : PSs X (st :: sts) (tGS X W (gSeq f g)) :=
  PSs.weak (pss_cons h1 h2) fun D σ H hh => by
    obtain ⟨m, env, ah, hE, hR, hp⟩ := hh
    refine ⟨m, env, ah, hE, hR, ?_⟩
    unfold gSeq at hp
    cases e : f env ah with
    | nx env1 ah1 =>
      rw [e] at hp
      exact fun m' H' σ' e1 r1 E1 => ⟨m', env1, ah1, E1, r1, sPost.mono e1 hp⟩
    | rt v ah1 => rw [e] at hp; exact hp
    | bk env1 ah1 => rw [e] at hp; exact hp
    | ct env1 ah1 => rw [e] at hp; exact hp
    | exc ev env1 ah1 => rw [e] at hp; exact hp
    | bad => rw [e] at hp; exact hp
theorem gs_if (hc : PT X c (tGT X W t)) (ha : PSs X sts (tGS X W f)) (hb : PSs X sts' (tGS X W g)) : PS X (.If c sts sts' pos) (tGS X W (gIf t f g)) :=
  PS.weak (ps_if hc ha hb) fun D σ H hh => by
    obtain ⟨m, env, ah, hE, hR, hp⟩ := hh
    refine sGT_step hE hR hp fun v ah1 m1 H1 e1 r1 hp1 => ?_
    cases v with
    | true => exact iteT ⟨m1, env, ah1, hE.mono e1, r1, hp1⟩
    | false => exact iteF ⟨m1, env, ah1, hE.mono e1, r1, hp1⟩
theorem gs_ret (ha : PE X a (tG X W fa)) : PS X (.Return (some a) pos) (tGS X W (gRet fa)) :=
  PS.weak (ps_ret ha) fun D σ H hh => by
    obtain ⟨m, env, ah, hE, hR, hp⟩ := hh
    exact sG_step hE hR hp fun v ah1 m1 H1 x e1 r1 v1 hp1 => PQ.here hp1 r1 v1
theorem gs_retN : PS X (.Return none pos) (tGS X W gRetN) :=
  PS.weak ps_retN fun D σ H hh => by
    obtain ⟨m, env, ah, hE, hR, hp⟩ := hh
    exact PQ.here hp hR .non
theorem gs_drop (ha : PE X a (tG X W fa)) (hs : swapsWith a none pos.line X.env = pure false := by rfl) : PS X (.Expr a pos) (tGS X W (gDrop fa)) :=
  PS.weak (ps_expr ha hs) fun D σ H hh => by
    obtain ⟨m, env, ah, hE, hR, hp⟩ := hh
    exact sG_step hE hR hp fun v ah1 m1 H1 x e1 r1 v1 hp1 => hp1 m1 H1 σ (Ext.refl _ _) r1 (hE.mono e1)
theorem set_read {te : TE} {i : Nat} (hr : ∀ σ H Q, tG X W fa σ H Q → te σ H Q) {D : Ends} {σ : L2.St} {H : Hp} (hh : tGS X W (gSet i fa) D σ H) : tAsg te (gName i) D σ H := by
  obtain ⟨m, env, ah, hE, hR, hp⟩ := hh
  exact hr _ _ _ (sG_step hE hR hp fun v ah1 m1 H1 x e1 r1 v1 hp1 => hp1 m1 H1 _ (Ext.refl _ _) r1 ((hE.mono e1).set i v1))
theorem gs_set {i : Nat} {x : Str} {pos' : Pos} (hN : X.N.Nodup) (hi : X.N[i]? = some x) (hx : Loc X.env.scope x) (ha : PE X a (tG X W fa)) (hs : swapsWith a (some (.Name x pos')) pos.line X.env = pure false := by rfl) (hf : X.fn x = true ∨ X.env.scope.names.lookup x = some .local := by first | exact .inl rfl | exact .inr rfl) :
    PS X (.Assign [.Name x pos'] a pos) (tGS X W (gSet i fa)) :=
  PS.weak (ps_set hN hi hx ha hs hf) fun D σ H hh => set_read (fun _ _ _ q => q) hh
/-- name = a comprehension -/
theorem gs_setLc {it : GI} {h : GG} {tt : GT} {e : GE} {is : List Nat} {tg iter elt : Expr} {ifs : List Expr} {scope : Scope} {own : List (Str × Nat)} {i : Nat} {y : Str} {py spos : Pos} (hc : X.calm = true) (hN : X.N.Nodup) (hy : X.N[i]? = some y) (hyl : X.env.scope.names.lookup y = some .local)
    (hsw : swapsWith (.ListComp elt [⟨tg, iter, ifs, 0⟩] scope pos) (some (.Name y py)) spos.line X.env = pure true) (hi : PI X tg iter (tGI w X W it)) (ok : BlkOk X.N X.env.scope scope own) (hsub : ∀ i ∈ is, i ∈ own.map (·.2))
    (hg : ∀ (s : Shared) (H : Hp) (C : Addr) (cl : List (Str × Addr)) (fp : List Addr), PG (X.blk s H scope (compEnvC scope cl C X.env) fp) tg (tGG w X.K is h)) (ht : ∀ (s : Shared) (H : Hp) (C : Addr) (cl : List (Str × Addr)) (fp : List Addr), PTs (X.blk s H scope (compEnvC scope cl C X.env) fp) ifs (tGT (X.blk s H scope (compEnvC scope cl C X.env) fp) (fun _ _ _ _ => False) tt))
    (he : ∀ (s : Shared) (H : Hp) (C : Addr) (cl : List (Str × Addr)) (fp : List Addr), PE (X.blk s H scope (compEnvC scope cl C X.env) fp) elt (tG (X.blk s H scope (compEnvC scope cl C X.env) fp) (fun _ _ _ _ => False) e)) (hs : ∀ x, foldedSetIterable iter X.env x = pure x := by intro _; rfl) :
    PS X (.Assign [.Name y py] (.ListComp elt [⟨tg, iter, ifs, 0⟩] scope pos) spos) (tGS X W (gSet i (gLcV it h tt e (own.map (·.2))))) :=
  PS.weak (ge_setLc hc hN hy hyl hsw hi ok hg ht he (fun _ _ _ q => q) hs) fun D σ H hh => set_read (fun _ _ _ q => lcV_read hsub q) hh
theorem gs_setLcH {it : GI} {h : GG} {tt : GT} {e : GE} {is : List Nat} {tg iter elt : Expr} {ifs : List Expr} {scope : Scope} {own : List (Str × Nat)} {i : Nat} {y : Str} {py spos : Pos} (hc : X.calm = true) (hN : X.N.Nodup) (hy : X.N[i]? = some y) (hyl : X.env.scope.names.lookup y = some .local)
    (hsw : swapsWith (.ListComp elt [⟨tg, iter, ifs, 0⟩] scope pos) (some (.Name y py)) spos.line X.env = pure true) (hi : PI X tg iter (tGI w X W it)) (ok : BlkOk X.N X.env.scope scope own) (hsub : ∀ i ∈ is, i ∈ own.map (·.2))
    (hg : ∀ (s : Shared) (H : Hp) (C : Addr) (cl : List (Str × Addr)) (fp : List Addr), PG (X.blk s H scope (compEnvC scope cl C X.env) fp) tg (tGG w X.K is h)) (ht : ∀ (s : Shared) (H : Hp) (C : Addr) (cl : List (Str × Addr)) (fp : List Addr), PTs (X.blk s H scope (compEnvC scope cl C X.env) fp) ifs (tGT (X.blk s H scope (compEnvC scope cl C X.env) fp) (fun _ _ _ _ => False) tt))
    (he : ∀ (s : Shared) (H : Hp) (C : Addr) (cl : List (Str × Addr)) (fp : List Addr), PE (X.blk s H scope (compEnvC scope cl C X.env) fp) elt (tG (X.blk s H scope (compEnvC scope cl C X.env) fp) (fun _ _ _ _ => False) e)) (hs : ∀ x, foldedSetIterable iter X.env x = pure x := by intro _; rfl) :
    PS X (.Assign [.Name y py] (.ListComp elt [⟨tg, iter, ifs, 0⟩] scope pos) spos) (tGS X W (gSet i (gLcH it h tt e (own.map (·.2))))) :=
  PS.weak (ge_setLc hc hN hy hyl hsw hi ok hg ht he (fun _ _ _ q => q) hs) fun D σ H hh => set_read (fun _ _ _ q => lcH_read hsub q) hh
theorem gs_asg {is : List Nat} {h : GG} {tg : Expr} (ha : PE X a (tG X W fa)) (hg : PG X tg (tGG false X.K is h)) (hs : swapsWithSole [tg] a pos.line X.env = pure false := by rfl) (hw : swappedStores [tg] a X.env = pure none := by rfl)
    (h1 : (assignEach [tg] X.env).map (·.2) = [assign tg X.env] := by rfl) : PS X (.Assign [tg] a pos) (tGS X W (gAsg fa h)) :=
  PS.weak (ps_asg ha hg hs hw h1) fun D σ H hh => by
    obtain ⟨m, env, ah, hE, hR, hp⟩ := hh
    refine sG_step hE hR hp fun v ah1 m1 H1 x e1 r1 v1 hp1 => ?_
    cases q : h env v with
    | none => rw [q] at hp1; exact hp1.elim
    | some env1 =>
      rw [q] at hp1
      exact ⟨m1, env, v, env1, hE.mono e1, .inl v1, q, fun σ' E' _ => hp1 m1 H1 σ' (Ext.refl _ _) r1 E'⟩

def putA (l : List (AK × AV)) (k : AK) (v : AV) : List (AK × AV) := if l.any (fun p => decide (p.1 = k)) then l.map (fun p => if p.1 = k then (p.1, v) else p) else l ++ [(k, v)]
theorem VRk.any {K : PySem.W.Frag} {m : MM} {H : Hp} (k : AK) : ∀ {l : List (AK × AV)} {kvs : List (Key × V)}, VRk K m H l kvs → (l.any fun p => decide (p.1 = k)) = kvs.any fun p => decide (p.1 = akey k)
  | _, _, .nil => rfl
  | _, _, .cons (k := j) h r => by
    rw [List.any_cons, List.any_cons, VRk.any k r]
    congr 1
    by_cases e : j = k
    · subst e; simp
    · rw [decide_eq_false e, decide_eq_false fun z => e (akey_inj z)]
theorem VRk.repl {K : PySem.W.Frag} {m : MM} {H : Hp} (k : AK) {v : AV} {x : V} (hv : VR K m H v x) : ∀ {l : List (AK × AV)} {kvs : List (Key × V)}, VRk K m H l kvs → VRk K m H (l.map fun p => if p.1 = k then (p.1, v) else p) (kvs.map fun p => if p.1 = akey k then (p.1, x) else p)
  | _, _, .nil => .nil
  | _, _, .cons (k := j) h r => by
    rw [List.map_cons, List.map_cons]
    by_cases e : j = k
    · subst e
      rw [if_pos rfl, if_pos rfl]
      exact .cons hv (VRk.repl _ hv r)
    · rw [if_neg e, if_neg fun z => e (akey_inj z)]
      exact .cons h (VRk.repl _ hv r)
theorem VRk.append {K : PySem.W.Frag} {m : MM} {H : Hp} : ∀ {l l' : List (AK × AV)} {xs ys : List (Key × V)}, VRk K m H l xs → VRk K m H l' ys → VRk K m H (l ++ l') (xs ++ ys)
  | _, _, _, _, .nil, s => s
  | _, _, _, _, .cons h r, s => .cons h (VRk.append r s)
theorem VRk.put {K : PySem.W.Frag} {m : MM} {H : Hp} (k : AK) {v : AV} {x : V} {l : List (AK × AV)} {kvs : List (Key × V)} (hv : VR K m H v x) (h : VRk K m H l kvs) : VRk K m H (putA l k v) (putK kvs (akey k) x) := by
  unfold putA putK
  rw [h.any k]
  split
  · exact h.repl k hv
  · exact h.append (.cons hv .nil)
def stL (l : List AV) (k v : AV) : Option (List AV) := match k with
  | .int i => (ixN l.length i).map fun j => l.set j v
  | _ => none
def stD (l : List (AK × AV)) (k v : AV) : Option (List (AK × AV)) := match keyA k with
  | some q => if l.length < 1000000 then some (putA l q v) else none
  | none => none
def stA (ah : AH) (w k v : AV) : Option AH := match w with
  | .ref n => match ah[n]? with
    | some (.lst l) => (stL l k v).map fun l' => ah.set n (.lst l')
    | some (.dk l) => (stD l k v).map fun l' => ah.set n (.dk l')
    | none => none
  | _ => none
def rSetD : TSet := fun o i v H Q => ∃ a kvs k, o = .ref a ∧ i = kV k ∧ H a = some (.dK kvs) ∧ kvs.length < sizeLine ∧ Q (upd H a (.dK (putK kvs k v)))
theorem set_dict (hu : X.A.units + 1 < cLine) : PSet X rSetD := by
  intro pins s σ H o i v ov iv u Q I r1 r2 r3 h
  obtain ⟨a, kvs, k, rfl, rfl, hd, hl, q⟩ := h
  cases r1
  exact d_setItem hu I (DPut.k hd hl) r2 r3 fun s' I' => ⟨_, I', q⟩
theorem PSet.or {t t' : TSet} (h : PSet X t) (h' : PSet X t') : PSet X (fun o i v H Q => t o i v H Q ∨ t' o i v H Q) := by
  intro pins s σ H o i v ov iv u Q I r1 r2 r3 q
  rcases q with q | q
  · exact h pins s σ H o i v ov iv u Q I r1 r2 r3 q
  · exact h' pins s σ H o i v ov iv u Q I r1 r2 r3 q
theorem st_read {m : MM} {H : Hp} {ah ah' : AH} {w k v : AV} {o i x : V} {Q : Hp → Prop} (r : Rel X.K m ah H) (hw : VR X.K m H w o) (hk : VR X.K m H k i) (hv : VR X.K m H v x) (hf : stA ah w k v = some ah')
    (q : ∀ m' H', Ext m H m' H' → Rel X.K m' ah' H' → Q H') : rSetL o i x H Q ∨ rSetD o i x H Q := by
  unfold stA at hf
  split at hf
  · cases hw with
    | ref hm =>
      rename_i n a
      obtain ⟨ob, ho, qo⟩ := r.at hm
      rw [ho] at hf
      cases ob with
      | lst l =>
        obtain ⟨vs, h1, h2⟩ := qo
        obtain ⟨l', hf2, rfl⟩ := Option.map_eq_some_iff.mp hf
        clear hf
        unfold stL at hf2
        split at hf2
        · cases hk
          obtain ⟨j, hj, rfl⟩ := Option.map_eq_some_iff.mp hf2
          have ex : Ext m H m (upd H a (.lst (vs.set j x))) := Ext.write r (List.mem_of_getElem? hm)
          exact .inl ⟨a, vs, _, j, rfl, rfl, h1, by rw [← h2.length]; exact hj, q m _ ex (r.write hm rfl ⟨_, rfl, (h2.set hv j).mono ex⟩)⟩
        · cases hf2
      | dk l =>
        obtain ⟨kvs, h1, h2⟩ := qo
        obtain ⟨l', hf2, rfl⟩ := Option.map_eq_some_iff.mp hf
        clear hf
        unfold stD at hf2
        split at hf2
        · rename_i kq hkq
          split at hf2
          · rename_i hl
            cases hf2
            have ex : Ext m H m (upd H a (.dK (putK kvs (akey kq) x))) := Ext.write r (List.mem_of_getElem? hm)
            have h16 : sizeLine = 16777216 := sizeLine_eq
            exact .inr ⟨a, kvs, akey kq, rfl, keyA_kV hkq hk, h1, by rw [← h2.length]; omega, q m _ ex (r.write hm rfl ⟨_, rfl, (h2.put kq hv).mono ex⟩)⟩
          · cases hf2
        · cases hf2
  · cases hf
def gStore (e o i : GE) : GS := fun env ah => sb (e env ah) env fun v ah1 => sb (o env ah1) env fun w ah2 => sb (i env ah2) env fun k ah3 => match stA ah3 w k v with
  | some ah4 => .nx env ah4
  | none => .bad
theorem gs_store {tpos : Pos} {k : Nat} (hr : Room k X.A) (ha : PE X a (tG X W fa)) (hb : PE X b (tG X W fb)) (hc : PE X c (tG X W fc))
    (has : ∀ v, assign (.Subscript b c tpos) X.env v = (do
      let ov ← holding [v] (eval b X.env)
      let iv ← holding [v, ov] (eval c X.env)
      standAt tpos
      holding [v, ov, iv] (setItem ov iv v)
      release [v, ov, iv] []) := by intro _; rfl)
    (hs : swapsWithSole [.Subscript b c tpos] a pos.line X.env = pure false := by rfl) (hw : swappedStores [.Subscript b c tpos] a X.env = pure none := by rfl)
    (h1 : (assignEach [.Subscript b c tpos] X.env).map (·.2) = [assign (.Subscript b c tpos) X.env] := by rfl) : PS X (.Assign [.Subscript b c tpos] a pos) (tGS X W (gStore fa fb fc)) :=
  PS.weak (ps_asg ha (pg_sub hb hc (PSet.or set_list (set_dict (hu_of hr))) has) hs hw h1) fun D σ H hh => by
    obtain ⟨m, env, ah, hE, hR, hp⟩ := hh
    refine sG_step hE hR hp fun v ah1 m1 H1 x e1 r1 v1 hp1 => ?_
    refine sG_step (hE.mono e1) r1 hp1 fun w ah2 m2 H2 o e2 r2 v2 hp2 => ?_
    refine sG_step ((hE.mono e1).mono e2) r2 hp2 fun k ah3 m3 H3 i e3 r3 v3 hp3 => ?_
    cases q : stA ah3 w k v with
    | none => rw [q] at hp3; exact hp3.elim
    | some ah4 =>
      rw [q] at hp3
      exact st_read r3 (v2.mono e3) v3 ((v1.mono e2).mono e3) q fun m' H' ex r' => hp3 m' H' σ ex r' (((hE.mono e1).mono e2).mono (e3.trans ex))

def lref (ah : AH) (w : AV) : Option Nat := match w with
  | .ref n => match ah[n]? with
    | some (.lst _) => some n
    | _ => none
  | _ => none
theorem lref_eq {ah : AH} {n : Nat} {l : List AV} (h : ah[n]? = some (.lst l)) : lref ah (.ref n) = some n := by
  show (match ah[n]? with | some (.lst _) => some n | _ => none) = some n
  rw [h]
def apA (ah : AH) (n : Nat) (v : AV) : Res AV := match ah[n]? with
  | some (.lst l) => if l.length < 1000000 then .ok .non (ah.set n (.lst (l ++ [v]))) else .bad
  | _ => .bad
theorem apA_eq {ah : AH} {n : Nat} {l : List AV} {v : AV} (h : ah[n]? = some (.lst l)) (hl : l.length < 1000000) : apA ah n v = .ok .non (ah.set n (.lst (l ++ [v]))) := by
  unfold apA
  rw [h]
  exact if_pos hl
def gApp (o e : GE) : GE := fun env ah => rb (o env ah) fun w ah1 => match lref ah1 w with
  | some n => rb (e env ah1) fun v ah2 => apA ah2 n v
  | none => .bad
/-- o.pop() -/
def ppA (ah : AH) (n : Nat) : Res AV := match ah[n]? with
  | some (.lst l) => match l[l.length - 1]? with
    | some v => .ok v (ah.set n (.lst l.dropLast))
    | none => .bad
  | _ => .bad
def gPop (o : GE) : GE := fun env ah => rb (o env ah) fun w ah1 => match lref ah1 w with
  | some n => ppA ah1 n
  | none => .bad
/-- o.extend(e) -/
def exA (ah : AH) (n : Nat) (v : AV) : Res AV := match ah[n]?, dr ah v with
  | some (.lst l), .lst l' => if l.length + l'.length < 1000000 then .ok .non (ah.set n (.lst (l ++ l'))) else .bad
  | _, _ => .bad
def gExt (o e : GE) : GE := fun env ah => rb (o env ah) fun w ah1 => match lref ah1 w with
  | some n => rb (e env ah1) fun v ah2 => exA ah2 n v
  | none => .bad
/-- o.clear() -/
def clA (ah : AH) (n : Nat) : Res AV := match ah[n]? with
  | some (.lst l) => .ok .non (ah.set n (.lst []))
  | _ => .bad
theorem lref_of {m : MM} {H : Hp} {ah : AH} {w : AV} {n : Nat} {x : V} (r : Rel X.K m ah H) (h : VR X.K m H w x) (e : lref ah w = some n) : w = .ref n ∧ ∃ a, x = .ref a ∧ m.l[n]? = some a ∧ tyV X.K "list" x H := by
  cases h with
  | ref hm =>
    rename_i k a
    obtain ⟨ob, ho, q⟩ := r.at hm
    have e : (match ah[k]? with | some (.lst _) => some k | _ => none) = some n := e
    rw [ho] at e
    cases ob with
    | lst l =>
      cases e
      obtain ⟨vs, h1, _⟩ := q
      exact ⟨rfl, a, rfl, hm, .inl ⟨rfl, vs, SqL.of h1⟩⟩
    | dk l => cases e
  | _ => cases e
variable {o : Expr} {apos cpos : Pos}
/-- o.append(e) -/
theorem ge_app (ha : PE X o (tG X W fa)) (hb : PE X b (tG X W fb)) (hbase : attributeBase o "append" X.env (eval o X.env) = eval o X.env := by rfl)
    (hfew : ((backTo cpos (starEach [b] X.env)).all (fun x => !x.1) && (backToKw cpos (keywordEach [] X.env)).all (fun x => x.1.isSome)
      && decide ([b].length + ([] : List Keyword).length + (if ([] : List Keyword).isEmpty then 0 else 1) < 30)) = true := by rfl)
    (hline : (apos.endLine == cpos.line) = true := by rfl) (hs : starEach [b] X.env = (false, eval b X.env) :: starEach [] X.env := by rfl) (hplain : (backTo cpos (starEach [] X.env)).any (·.1) = false := by rfl) :
    PE X (.Call (.Attribute o "append" apos) [b] [] cpos) (tG X W (gApp fa fb)) :=
  PE.weak (pe_bm PySem.F.plainAttrs_list PySem.F.slot_list_append PySem.F.type_list_append mt_append ha (pa_cons hb pa_nil hs) hbase hfew hline hs hplain) fun σ H Q hh => by
    obtain ⟨m, env, ah, hE, hR, hp⟩ := hh
    refine tG_step hE hR hp (fun _ _ h => h) fun w ah1 m1 H1 x e1 r1 v1 hp1 => ?_
    cases q : lref ah1 w with
    | none => rw [q] at hp1; exact hp1.elim
    | some n =>
      rw [q] at hp1
      obtain ⟨rfl, a, rfl, hm, ty⟩ := lref_of r1 v1 q
      refine ⟨ty, tG_step (hE.mono e1) r1 (Res.post_imp hp1 (fun _ _ _ h => PQ.mono e1 h) (fun _ _ h => PX.mono e1 h)) (fun _ _ h => h) fun v ah2 m2 H2 y e2 r2 v2 hp2 => ?_⟩
      obtain ⟨ob, ho, qo⟩ := r2.at (e2.get hm)
      have hp2 : (apA ah2 n v).post _ _ := hp2
      unfold apA at hp2
      rw [ho] at hp2
      cases ob with
      | dk l => exact hp2.elim
      | lst l =>
        obtain ⟨vs, h1, h2⟩ := qo
        have hp2 : (if l.length < 1000000 then Res.ok AV.non (ah2.set n (.lst (l ++ [v]))) else .bad).post _ _ := hp2
        split at hp2
        · rename_i hl
          have h16 : sizeLine = 16777216 := sizeLine_eq
          have ex : Ext m2 H2 m2 (upd H2 a (.lst (vs ++ [y]))) := Ext.write r2 (List.mem_of_getElem? (e2.get hm))
          exact ⟨a, vs, y, rfl, rfl, h1, by rw [← h2.length]; omega, hp2 m2 _ _ (e2.trans ex) (r2.write (e2.get hm) rfl ⟨_, rfl, (h2.append (.cons v2 .nil)).mono ex⟩) .non⟩
        · exact hp2.elim
theorem ge_pop (ha : PE X o (tG X W fa)) (hbase : attributeBase o "pop" X.env (eval o X.env) = eval o X.env := by rfl) (hline : (apos.endLine == cpos.line) = true := by rfl) :
    PE X (.Call (.Attribute o "pop" apos) [] [] cpos) (tG X W (gPop fa)) :=
  PE.weak (pe_bm0 PySem.F.plainAttrs_list PySem.F.slot_list_pop PySem.F.type_list_pop mt_pop ha hbase hline) fun σ H Q hh => by
    obtain ⟨m, env, ah, hE, hR, hp⟩ := hh
    refine tG_step hE hR hp (fun _ _ h => h) fun w ah1 m1 H1 x e1 r1 v1 hp1 => ?_
    cases q : lref ah1 w with
    | none => rw [q] at hp1; exact hp1.elim
    | some n =>
      rw [q] at hp1
      obtain ⟨rfl, a, rfl, hm, ty⟩ := lref_of r1 v1 q
      refine ⟨ty, ?_⟩
      obtain ⟨ob, ho, qo⟩ := r1.at hm
      have hp1 : (ppA ah1 n).post _ _ := hp1
      unfold ppA at hp1
      rw [ho] at hp1
      cases ob with
      | dk l => exact hp1.elim
      | lst l =>
        obtain ⟨vs, h1, h2⟩ := qo
        have hp1 : (match l[l.length - 1]? with | some v => Res.ok v (ah1.set n (.lst l.dropLast)) | none => .bad).post _ _ := hp1
        cases q2 : l[l.length - 1]? with
        | none => rw [q2] at hp1; exact hp1.elim
        | some v =>
          rw [q2] at hp1
          obtain ⟨y, hy, ry⟩ := h2.get q2
          have ex : Ext m1 H1 m1 (upd H1 a (.lst vs.dropLast)) := Ext.write r1 (List.mem_of_getElem? hm)
          exact ⟨a, vs, y, rfl, rfl, h1, by rw [← h2.length]; exact hy, hp1 m1 _ _ (e1.trans ex) (r1.write hm rfl ⟨_, rfl, h2.dropLast.mono ex⟩) (ry.mono ex)⟩
end

def SRes.loop (r : SRes) (k : GS) : SRes := match r with
  | .nx env ah => k env ah
  | .ct env ah => k env ah
  | .bk env ah => .nx env ah
  | .rt v ah => .rt v ah
  | .exc e env ah => .exc e env ah
  | .bad => .bad
@[simp] theorem loop_nx {env : Env} {ah : AH} {k : GS} : (SRes.nx env ah).loop k = k env ah := rfl
@[simp] theorem loop_ct {env : Env} {ah : AH} {k : GS} : (SRes.ct env ah).loop k = k env ah := rfl
@[simp] theorem loop_bk {env : Env} {ah : AH} {k : GS} : (SRes.bk env ah).loop k = .nx env ah := rfl
@[simp] theorem loop_rt {v : AV} {ah : AH} {k : GS} : (SRes.rt v ah).loop k = .rt v ah := rfl
@[simp] theorem loop_exc {e : EV} {env : Env} {ah : AH} {k : GS} : (SRes.exc e env ah).loop k = .exc e env ah := rfl
@[simp] theorem loop_bad {k : GS} : SRes.bad.loop k = .bad := rfl
noncomputable def forL (src : Src) (h : GG) (body : GS) : List AV → GS
  | [] => fun env ah => @ite _ (ckS src ah) (Classical.propDecidable _) (.nx env ah) .bad
  | v :: vs => fun env ah => @ite _ (ckS src ah) (Classical.propDecidable _) (match h env v with
    | none => .bad
    | some env1 => (body env1 ah).loop (forL src h body vs)) .bad
noncomputable def gFor (it : GI) (h : GG) (body : GS) : GS := fun env ah => sb (it env ah) env fun src ah1 => forL src h body src.2 env ah1
section
variable {w : Bool} {X : Cx} {W : WX} {a b c tg iter : Expr} {sts : List Stmt} {f : GS} {t : GT} {it : GI} {h : GG} {is : List Nat} {pos : Pos}
theorem gs_for {k : Nat} (hx : XG X W k) (hi : PI X tg iter (tGI w X W it)) (hg : PG X tg (tGG w X.K is h)) (hb : PSs X sts (tGS X W f)) (hs : ∀ x, foldedSetIterable iter X.env x = pure x := by intro _; rfl) : PS X (.For tg iter sts [] pos) (tGS X W (gFor it h f)) :=
  PS.weak (ps_for hx.po hx.calm hi hg hb hs) fun D σ H hh => by
    obtain ⟨m, env, ah, hE, hR, hp⟩ := hh
    refine ⟨m, env, ah, hE, hR, ?_⟩
    unfold gFor at hp
    cases q : it env ah with
    | bad => rw [q] at hp; exact hp.elim
    | exc ev ah1 =>
      rw [q] at hp
      exact fun m1 H1 cl d e1 r1 xr => hp m1 H1 σ cl d e1 r1 (hE.mono e1) xr
    | ok src ah1 =>
      rw [q] at hp
      intro m1 H1 J e1 r1 jg
      have hp : sPost X W m H D (forL src h f src.2 env ah1) := hp
      refine ⟨fun i k σ H => k = src.2.length - i ∧ i ≤ src.2.length ∧ ∃ m2 env ah, Ext m1 H1 m2 H ∧ EnvR X.K m2 H env σ ∧ Rel X.K m2 ah H ∧ sPost X W m2 H D (forL src h f (src.2.drop i) env ah), ⟨src.2.length, by simp, Nat.zero_le _, m1, env, ah1, Ext.refl _ _, hE.mono e1, r1, sPost.mono e1 hp⟩, ?_⟩
      rintro i k σ2 H2 ⟨rfl, hile, m2, env2, ah2, e2, E2, r2, hp2⟩
      by_cases hlt : i < src.2.length
      · right
        have hv : src.2[i]? = some src.2[i] := List.getElem?_eq_getElem hlt
        generalize src.2[i] = v at hv
        have hdrop : src.2.drop i = v :: src.2.drop (i + 1) := by
          rw [List.drop_eq_getElem_cons hlt]
          congr 1
          have := List.getElem?_eq_getElem hlt
          rw [hv] at this; exact (Option.some.inj this).symm
        rw [hdrop] at hp2
        unfold forL at hp2
        by_cases hck : ckS src ah2
        · rw [if_pos hck] at hp2
          refine ⟨jg.go m2 H2 ah2 i v e2 r2 hck hv, fun σ' H' => ∃ m2 env ah, Ext m1 H1 m2 H' ∧ EnvR X.K m2 H' env σ' ∧ Rel X.K m2 ah H' ∧ sPost X W m2 H' D (forL src h f (src.2.drop (i + 1)) env ah), fun σ' H' hn => ⟨src.2.length - (i + 1), by omega, rfl, by omega, hn⟩, fun x H' y => ?_⟩
          obtain ⟨hgr, hvx⟩ := jg.yld m2 H2 ah2 i v x H' e2 r2 hck hv y
          have eg : Ext m2 H2 m2 H' := Ext.grow hgr
          cases q2 : h env2 v with
          | none => rw [q2] at hp2; exact hp2.elim
          | some env3 =>
            rw [q2] at hp2
            have hp2 : sPost X W m2 H2 D ((f env3 ah2).loop (forL src h f (src.2.drop (i + 1)))) := hp2
            refine ⟨m2, env2, v, env3, E2.mono eg, hvx, q2, fun σ' E' _ => ⟨m2, env3, ah2, E', r2.grow hgr, ?_⟩⟩
            have hp3 := sPost.mono eg hp2
            cases q3 : f env3 ah2 with
            | nx env4 ah4 => rw [q3] at hp3; exact fun m' H'' σ'' ex rl er => ⟨m', env4, ah4, (e2.trans eg).trans ex, er, rl, sPost.mono ex hp3⟩
            | ct env4 ah4 => rw [q3] at hp3; exact fun m' H'' σ'' ex rl er => ⟨m', env4, ah4, (e2.trans eg).trans ex, er, rl, sPost.mono ex hp3⟩
            | bk env4 ah4 => rw [q3] at hp3; exact hp3
            | rt v ah4 => rw [q3] at hp3; exact hp3
            | exc ev env4 ah4 => rw [q3] at hp3; exact hp3
            | bad => rw [q3] at hp3; exact hp3
        · rw [if_neg hck] at hp2; exact hp2.elim
      · left
        have ei : i = src.2.length := by omega
        subst ei
        rw [List.drop_length] at hp2
        unfold forL at hp2
        by_cases hck : ckS src ah2
        · rw [if_pos hck] at hp2
          exact ⟨jg.stop m2 H2 ah2 e2 r2 hck, hp2 m2 H2 σ2 (Ext.refl _ _) r2 E2⟩
        · rw [if_neg hck] at hp2; exact hp2.elim
def whN (t : GT) (f : GS) : Nat → GS
  | 0 => fun _ _ => .bad
  | n + 1 => fun env ah => sb (t env ah) env fun b ah1 => if b = true then (f env ah1).loop (whN t f n) else .nx env ah1
theorem whN_mono (t : GT) (f : GS) : ∀ (n k : Nat) (env : Env) (ah : AH), n ≤ k → whN t f n env ah ≠ .bad → whN t f k env ah = whN t f n env ah
  | 0, k, env, ah, _, h => absurd rfl h
  | n + 1, k, env, ah, hk, h => by
    obtain ⟨k, rfl⟩ : ∃ j, k = j + 1 := ⟨k - 1, by omega⟩
    unfold whN at h ⊢
    cases q : t env ah with
    | bad => rfl
    | exc ev ah1 => rfl
    | ok b ah1 =>
      rw [q] at h
      cases b with
      | false => rfl
      | true =>
        have h : (f env ah1).loop (whN t f n) ≠ .bad := h
        show (f env ah1).loop (whN t f k) = (f env ah1).loop (whN t f n)
        cases q2 : f env ah1 with
        | nx env2 ah2 => rw [q2] at h; exact whN_mono t f n k env2 ah2 (by omega) h
        | ct env2 ah2 => rw [q2] at h; exact whN_mono t f n k env2 ah2 (by omega) h
        | _ => rfl
open Classical in
noncomputable def gWhile (t : GT) (f : GS) : GS := fun env ah => if h : ∃ n, whN t f n env ah ≠ .bad then whN t f (Classical.choose h) env ah else .bad
theorem gWhile_of {t : GT} {f : GS} {n : Nat} {env : Env} {ah : AH} (h : whN t f n env ah ≠ .bad) : gWhile t f env ah = whN t f n env ah := by
  have he : ∃ n, whN t f n env ah ≠ .bad := ⟨n, h⟩
  unfold gWhile
  rw [dif_pos he]
  have hc := Classical.choose_spec he
  by_cases hn : n ≤ Classical.choose he
  · exact whN_mono t f _ _ env ah hn h
  · exact (whN_mono t f _ _ env ah (by omega) hc).symm
theorem gWhile_eq (t : GT) (f : GS) (env : Env) (ah : AH) : gWhile t f env ah = sb (t env ah) env fun b ah1 => if b = true then (f env ah1).loop (gWhile t f) else .nx env ah1 := by
  by_cases he : ∃ n, whN t f n env ah ≠ .bad
  · obtain ⟨n, hn⟩ := he
    rw [gWhile_of hn]
    obtain ⟨n, rfl⟩ : ∃ j, n = j + 1 := ⟨n - 1, by cases n with | zero => exact absurd rfl hn | succ n => rfl⟩
    unfold whN at hn ⊢
    cases q : t env ah with
    | bad => rfl
    | exc ev ah1 => rfl
    | ok b ah1 =>
      rw [q] at hn
      cases b with
      | false => rfl
      | true =>
        have hn : (f env ah1).loop (whN t f n) ≠ .bad := hn
        show (f env ah1).loop (whN t f n) = (f env ah1).loop (gWhile t f)
        cases q2 : f env ah1 with
        | nx env2 ah2 => rw [q2] at hn; exact (gWhile_of hn).symm
        | ct env2 ah2 => rw [q2] at hn; exact (gWhile_of hn).symm
        | _ => rfl
  · have e : gWhile t f env ah = .bad := by unfold gWhile; rw [dif_neg he]
    rw [e]
    have hb : ∀ n, whN t f n env ah = .bad := fun n => Classical.byContradiction fun h => he ⟨n, h⟩
    cases q : t env ah with
    | bad => rfl
    | exc ev ah1 => have := hb 1; unfold whN at this; rw [q] at this; cases this
    | ok b ah1 =>
      cases b with
      | false => have := hb 1; unfold whN at this; rw [q] at this; cases this
      | true =>
        have hb2 : ∀ n, (f env ah1).loop (whN t f n) = .bad := fun n => by
          have := hb (n + 1); unfold whN at this; rw [q] at this; exact this
        show SRes.bad = (f env ah1).loop (gWhile t f)
        cases q2 : f env ah1 with
        | nx env2 ah2 =>
          show SRes.bad = gWhile t f env2 ah2
          unfold gWhile
          rw [dif_neg]
          intro ⟨n, hn⟩
          have := hb2 n; rw [q2] at this; exact hn this
        | ct env2 ah2 =>
          show SRes.bad = gWhile t f env2 ah2
          unfold gWhile
          rw [dif_neg]
          intro ⟨n, hn⟩
          have := hb2 n; rw [q2] at this; exact hn this
        | bad => rfl
        | _ => have := hb2 0; rw [q2] at this; cases this
theorem gs_while {k : Nat} (hx : XG X W k) (hc : PT X c (tGT X W t)) (hb : PSs X sts (tGS X W f)) : PS X (.While c sts [] pos) (tGS X W (gWhile t f)) :=
  PS.weak (ps_while hx.po hc hb) fun D σ H hh => by
    obtain ⟨m, env, ah, hE, hR, hp⟩ := hh
    have he : ∃ n, whN t f n env ah ≠ .bad := Classical.byContradiction fun he => by
      unfold gWhile at hp
      rw [dif_neg he] at hp
      exact hp
    obtain ⟨n, hn⟩ := he
    rw [gWhile_of hn] at hp
    refine ⟨fun k σ H => ∃ m env ah, EnvR X.K m H env σ ∧ Rel X.K m ah H ∧ sPost X W m H D (whN t f k env ah), ⟨n, m, env, ah, hE, hR, hp⟩, ?_⟩
    rintro k σ2 H2 ⟨m2, env2, ah2, E2, r2, hp2⟩
    cases k with
    | zero => exact hp2.elim
    | succ k =>
      unfold whN at hp2
      refine sGT_step E2 r2 hp2 fun b ah3 m3 H3 e3 r3 hp3 => ?_
      cases b with
      | false => exact iteF (hp3 m3 H3 σ2 (Ext.refl _ _) r3 (E2.mono e3))
      | true =>
        refine iteT ⟨fun σ' H' => ∃ m env ah, EnvR X.K m H' env σ' ∧ Rel X.K m ah H' ∧ sPost X W m H' D (whN t f k env ah), fun σ' H' hn => ⟨k, Nat.lt_succ_self _, hn⟩, m3, env2, ah3, E2.mono e3, r3, ?_⟩
        have hp3 : sPost X W m3 H3 D ((f env2 ah3).loop (whN t f k)) := hp3
        cases q3 : f env2 ah3 with
        | nx env4 ah4 => rw [q3] at hp3; exact fun m' H'' σ'' ex rl er => ⟨m', env4, ah4, er, rl, sPost.mono ex hp3⟩
        | ct env4 ah4 => rw [q3] at hp3; exact fun m' H'' σ'' ex rl er => ⟨m', env4, ah4, er, rl, sPost.mono ex hp3⟩
        | bk env4 ah4 => rw [q3] at hp3; exact hp3
        | rt v ah4 => rw [q3] at hp3; exact hp3
        | exc ev env4 ah4 => rw [q3] at hp3; exact hp3
        | bad => rw [q3] at hp3; exact hp3
end
end G
namespace G
open PySem PySem.Spec PyProof.Rows L2
set_option autoImplicit false

/-- what a def means -/
abbrev Den := List AV → AH → Res AV
structure FnG (P : Program) (w : World) (K : PySem.W.Frag) (mg : Str → Option Value) (base : Heap) (k : Nat) (f : Addr) (fd : FuncData) (ps : List Str) (den : Den) : Prop where
  len : ∀ l ah, den l ah ≠ .bad → l.length = ps.length
  run : ∀ (A : Around) (outer : List PySem.Env) (s : Shared) (H : Hp) (args : Args) (us : List Value) (vs : List V) (m : MM) (ah : AH) (l : List AV) (Q : VK) (E : XK), Room k A → A.guards = some [] → Env0 P w K mg base A outer s H → BindsTo s fd args (ps.zip us) → Vals vs us →
    Rel K m ah H → VRs K m H l vs → (den l ah).post (PQ K m H Q) (PX K mg m H E) → codeAny (model P w) A (.call (.ref f) args) (CR (L2.CX P w) outer P w H s Q E) s
theorem FnG.mono {P : Program} {w : World} {K : PySem.W.Frag} {mg : Str → Option Value} {base : Heap} {j k : Nat} {f : Addr} {fd : FuncData} {ps : List Str} {den : Den} (F : FnG P w K mg base j f fd ps den) (h : j ≤ k) : FnG P w K mg base k f fd ps den :=
  ⟨F.len, fun A outer s H args us vs m ah l Q E hr => F.run A outer s H args us vs m ah l Q E (hr.mono h)⟩
/-- a name of the module that is a def with that meaning -/
def FnD (P : Program) (w : World) (K : PySem.W.Frag) (mg : Str → Option Value) (base : Heap) (x : Str) (k : Nat) (den : Den) : Prop :=
  ∃ (f : Addr) (fd : FuncData) (ps : List Str), mg x = some (.ref f) ∧ PySem.W.keepIn K (.ref f) = true ∧ Binds K fd ps [] ∧ FnG P w K mg base k f fd ps den
theorem FnD.mono {P : Program} {w : World} {K : PySem.W.Frag} {mg : Str → Option Value} {base : Heap} {x : Str} {j k : Nat} {den : Den} (F : FnD P w K mg base x j den) (h : j ≤ k) : FnD P w K mg base x k den := by
  obtain ⟨f, fd, ps, h1, h2, h3, h4⟩ := F
  exact ⟨f, fd, ps, h1, h2, h3, h4.mono h⟩
def gCall (den : Den) (r : GA) : GE := fun env ah => rb (r env ah) fun l ah1 => den l ah1
section
variable {X : Cx} {W : WX} {e : Expr} {es : List Expr} {fr : GA} {pos p : Pos} {x : Str} {k j : Nat} {den : Den}
theorem call_run {pins : List (Addr × Obj)} {σ : L2.St} {H : Hp} {s : Shared} {Q : VK} {us : List Value} {vs : List V} {m : MM} {ah : AH} {l : List AV} {f : Addr} {fd : FuncData} {ps : List Str} (F : FnG X.prog X.w X.K X.mg X.base k f fd ps den) (hx : XG X W k) (hb : Binds X.K fd ps [])
    (I : Inv X pins σ H s) (r : Vals vs us) (hR : Rel X.K m ah H) (hv : VRs X.K m H l vs) (h : (den l ah).post (PQ X.K m H Q) (PX X.K X.mg m H fun c d H' => W c d σ H')) : wpAny (model X.prog X.w) X.A (call (.ref f) us) (EP X pins σ Q) X.xe s := by
  have hl : us.length = ps.length := by
    rw [← r.length, ← hv.length]
    refine F.len l ah fun z => ?_
    rw [z] at h; exact h
  have hbd := hb s us I.kIn (by rw [List.append_nil]; exact hl)
  rw [List.append_nil] at hbd
  have go := F.run X.A X.stack s H ⟨us, []⟩ us vs m ah l Q (fun c d H' => W c d σ H') hx.room hx.gd I.env0 hbd r hR hv h
  refine wpAny_call (codeAny_mono go fun res s' hq => ?_)
  match res, hq with
  | .error ev, hq => exact passAt hx.tk σ pins H s ev s' I hq
  | .ok (.ret u), hq => exact I.after hq
theorem ge_call (F : FnD X.prog X.w X.K X.mg X.base x k den) (hx : XG X W k) (hg : Gl X x) (ha : PA X (e :: es) (tGA X W fr)) (hdb : (x == ("__debug__" : Str)) = false := by decide) (he : starEach (e :: es) X.env = (false, eval e X.env) :: starEach es X.env := by rfl) (hpl : (backTo pos (starEach es X.env)).any (·.1) = false := by rfl) :
    PE X (.Call (.Name x p) (e :: es) [] pos) (tG X W (gCall den fr)) := by
  obtain ⟨f, fd, ps, hm, hk, hb, F⟩ := F
  refine ⟨fun pins s σ H Q I h => ?_⟩
  refine wpAny_Call_Name_kw (ld_glob I hg hm ?_ hdb)
  obtain ⟨m, env, ah, hE, hR, hp⟩ := h
  have go : tGA X W fr σ H fun vs H1 => ∃ m1 ah1 l, Rel X.K m1 ah1 H1 ∧ VRs X.K m1 H1 l vs ∧ (den l ah1).post (PQ X.K m1 H1 Q) (PX X.K X.mg m1 H1 fun c d H' => W c d σ H') :=
    tGA_step hE hR hp (fun _ _ h => h) fun l ah1 m1 H1 xs e1 r1 v1 hp1 => ⟨m1, ah1, l, r1, v1, Res.post_imp hp1 (fun _ _ _ h => PQ.mono e1 h) (fun _ _ h => PX.mono e1 h)⟩
  refine PySem.W.callWith_K (h₀ := X.base) I.ok.mod.kin hk (thn (ha.run pos pins s σ H _ I go) fun us s1 hq => ?_) he hpl
  obtain ⟨vs, H1, I1, r, m1, ah1, l, hR1, hv1, hp1⟩ := hq
  exact ⟨I1.kIn, call_run F hx hb I1 r hR1 hv1 hp1⟩
theorem ge_call0 (F : FnD X.prog X.w X.K X.mg X.base x k den) (hx : XG X W k) (hg : Gl X x) (hdb : (x == ("__debug__" : Str)) = false := by decide) :
    PE X (.Call (.Name x p) [] [] pos) (tG X W (gCall den gNil)) := by
  obtain ⟨f, fd, ps, hm, hk, hb, F⟩ := F
  refine ⟨fun pins s σ H Q I h => ?_⟩
  obtain ⟨m, env, ah, hE, hR, hp⟩ := h
  refine wpAny_Call_Name_kw (ld_glob I hg hm ?_ hdb)
  exact PySem.W.callWith_K0 I.kIn hk (call_run (us := []) F hx hb I .nil hR .nil hp)
end
/-- a body as a def: np parameters, n names -/
def gFun (np n : Nat) (body : GS) : Den := fun l ah => if l.length = np then (match body (l.map some ++ List.replicate (n - l.length) none) ah with
  | .rt v ah1 => .ok v ah1
  | .nx _ ah1 => .ok .non ah1
  | .exc e _ ah1 => .exc e ah1
  | _ => .bad) else .bad
theorem env_start {K : PySem.W.Frag} {m : MM} {H : Hp} {l : List AV} {vs : List V} {N : List Str} (h : VRs K m H l vs) : EnvR K m H (l.map some ++ List.replicate (N.length - l.length) none) (L2.start N vs) := by
  unfold L2.start
  have hl := h.length
  refine ⟨by simp [hl], fun i v q => ?_⟩
  by_cases hi : i < l.length
  · rw [List.getElem?_append_left (by simpa using hi), List.getElem?_map] at q
    obtain ⟨v', e1, e2⟩ := Option.map_eq_some_iff.mp q
    cases e2
    obtain ⟨x, hx, r⟩ := h.get e1
    refine ⟨x, ?_, r⟩
    rw [List.getElem?_append_left (by rw [List.length_map, ← hl]; exact hi), List.getElem?_map, hx]
    rfl
  · rw [List.getElem?_append_right (by simpa using Nat.le_of_not_lt hi), List.getElem?_replicate] at q
    split at q <;> cases q
section
variable {P : Program} {w : World} {K : PySem.W.Frag} {mg : Str → Option Value} {base : Heap}
theorem fnG_of {x qual : Str} {st : Stmt} {f : Addr} {fd : FuncData} {N ps : List Str} {k : Nat} {body : GS} (F : Fun K x qual st f fd) (S : FnScope N ps (defScope st))
    (hbody : ∀ (cdv : Value) (A : Around) (outer : List PySem.Env) (s : Shared) (H : Hp) (E : XK) (W : WX), XG (cxOf (L2.CX P w) P w K mg base N qual (defScope st) f cdv A outer s H E) W k →
      PSs (cxOf (L2.CX P w) P w K mg base N qual (defScope st) f cdv A outer s H E) (defBody st) (tGS (cxOf (L2.CX P w) P w K mg base N qual (defScope st) f cdv A outer s H E) W body)) :
    FnG P w K mg base (k + 1) f fd ps (gFun ps.length N.length body) := by
  obtain ⟨oc, od, kV, doc, pm, an, cdv, ct, osl, rfl, lk, hcd⟩ := F.ex
  refine ⟨fun l ah h => ?_, fun A outer s H args us vs m ah l Q E hr hgd e0 hb r hR hv hp => ?_⟩
  · unfold gFun at h
    split at h
    · assumption
    · exact absurd rfl h
  · have hl : l.length = ps.length := by
      unfold gFun at hp
      split at hp
      · assumption
      · exact hp.elim
    have hlv : vs.length = ps.length := by rw [← hv.length]; exact hl
    have same : ∀ b o, base.get? b = some o → s.heap.get? b = some o := fun b o z => (e0.bs b o z).1
    have KX : K.In s.heap := e0.mod.kin.keeps same
    have lim : s.heap.NoLimit := e0.mod.nolimit.keeps same
    refine codeAny_call_function hr.depth (KX _ _ lk) rfl S.co S.gen rfl (PySem.W.codeRec_of KX hcd) (hb _ _ _ _ ?_)
    refine wpAny_newFunctionEnv_cells S.kind (fun ⟨n, v⟩ hy => ?_) fun env he s1 ic => ?_
    · rcases S.par n (List.of_mem_zip hy).1 with q | q
      · exact .inl q
      · exact .inr ⟨q, PySem.W.cellsFrom_some _ _ _ (.inl q)⟩
    · subst he
      refine ⟨lim.keeps ic.toInCall.keep, codeAny_func ?_⟩
      have xg : XG (cxOf (L2.CX P w) P w K mg base N qual (defScope st) f cdv A outer s H E) (fun c d _ H' => E c d H') k := ⟨hr.deeper _, hgd, rfl, takes_of rfl rfl rfl rfl, passes_of rfl⟩
      have ht := hbody cdv A outer s H E _ xg
      have I := inv_start (CX := L2.CX P w) (E := E) S hr.hd e0 hlv r ic
      let D : Ends := { nx := fun _ H' => Q .non H', rt := Q }
      have hq : tGS (cxOf (L2.CX P w) P w K mg base N qual (defScope st) f cdv A outer s H E) (fun c d _ H' => E c d H') body D (L2.start N vs) H := by
        refine ⟨m, _, ah, env_start hv, hR, ?_⟩
        unfold gFun at hp
        rw [if_pos hl] at hp
        cases q : body (l.map some ++ List.replicate (N.length - l.length) none) ah with
        | rt v ah1 => rw [q] at hp; exact hp
        | nx env1 ah1 => rw [q] at hp; exact fun m' H' σ' e1 r1 _ => hp m' H' .non e1 r1 .non
        | exc ev env1 ah1 => rw [q] at hp; exact fun m' H' σ' c d e1 r1 _ xr => hp m' H' c d e1 r1 xr
        | bk _ _ => rw [q] at hp; exact hp.elim
        | ct _ _ => rw [q] at hp; exact hp.elim
        | bad => rw [q] at hp; exact hp.elim
      refine wpAny_mono (ht.run [] s1 (L2.start N vs) H _ I hq) (fun fl s' hs => ?_) fun ev s' hs => hs
      match fl, hs with
      | .ret u, ⟨v, σ', H', J, rv, q⟩ => exact ⟨v, H', J.os, J.bare, J.base, J.hok, rv, q⟩
      | .next, ⟨σ', H', J, q⟩ => exact ⟨V.non, H', J.os, J.bare, J.base, J.hok, rfl, q⟩
      | .brk, ⟨_, _, _, q⟩ => exact False.elim q
      | .cont, ⟨_, _, _, q⟩ => exact False.elim q
theorem fnD_of {x qual y : Str} {st : Stmt} {f : Addr} {fd : FuncData} {N ps : List Str} {k : Nat} {body : GS} (F : Fun K x qual st f fd) (hm : mg y = some (.ref f)) (hb : Binds K fd ps []) (G : FnG P w K mg base k f fd ps (gFun ps.length N.length body)) : FnD P w K mg base y k (gFun ps.length N.length body) := ⟨f, fd, ps, hm, F.kp, hb, G⟩
end

mutual
def frzV (res : Nat → Option AV) : AV → Option AV
  | .tup l => (frzVs res l).map .tup
  | .lst l => (frzVs res l).map .lst
  | .dk l => (frzVk res l).map .dk
  | .fl l => (frzVs res l).map .fl
  | .ref n => res n
  | v => some v
def frzVs (res : Nat → Option AV) : List AV → Option (List AV)
  | [] => some []
  | v :: l => match frzV res v, frzVs res l with
    | some v', some l' => some (v' :: l')
    | _, _ => none
def frzVk (res : Nat → Option AV) : List (AK × AV) → Option (List (AK × AV))
  | [] => some []
  | (k, v) :: l => match frzV res v, frzVk res l with
    | some v', some l' => some ((k, v') :: l')
    | _, _ => none
end
def resF (L : Nat) (ah : AH) : Nat → Nat → Option AV
  | 0, _ => none
  | f + 1, n => if n < L then some (.ref n) else match ah[n]? with
    | some (.lst l) => (frzVs (resF L ah f) l).map .lst
    | some (.dk l) => (frzVk (resF L ah f) l).map .dk
    | none => none
mutual
/-- its refs lie below -/
def blw (L : Nat) : AV → Bool
  | .tup l => blws L l
  | .lst l => blws L l
  | .dk l => blwk L l
  | .fl l => blws L l
  | .ref n => decide (n < L)
  | _ => true
def blws (L : Nat) : List AV → Bool
  | [] => true
  | v :: l => blw L v && blws L l
def blwk (L : Nat) : List (AK × AV) → Bool
  | [] => true
  | (_, v) :: l => blw L v && blwk L l
end
def blwO (L : Nat) : HObj → Bool
  | .lst l => blws L l
  | .dk l => blwk L l
section
variable {K : PySem.W.Frag} {m m' : MM} {H : Hp}
mutual
theorem VR.cutm (L : Nat) (hm : ∀ n, n < L → m.l[n]? = m'.l[n]?) (hs : ∀ a, a ∈ m → a ∈ m') : ∀ (v : AV) (x : V), VR K m' H v x → blw L v = true → VR K m H v x
  | .non, x, h, _ => by cases h; exact .non
  | .bl b, x, h, _ => by cases h; exact .bl b
  | .int b, x, h, _ => by cases h; exact .int b
  | .str b, x, h, _ => by cases h; exact .str b
  | .tup l, x, h, b => by
    cases h with
    | tup h1 h2 => exact .tup h1 (VRs.cutm L hm hs l _ h2 b)
  | .lst l, x, h, b => by
    cases h with
    | lst h1 h3 h2 => exact .lst h1 (fun z => h3 (hs _ z)) (VRs.cutm L hm hs l _ h2 b)
  | .dk l, x, h, b => by
    cases h with
    | dk h1 h3 h2 => exact .dk h1 (fun z => h3 (hs _ z)) (VRk.cutm L hm hs l _ h2 b)
  | .fl l, x, h, b => by
    cases h with
    | fl h1 h2 => exact .fl h1 (VRs.cutm L hm hs l _ h2 b)
  | .ref n, x, h, b => by
    cases h with
    | ref h1 => exact .ref (by rw [hm n (of_decide_eq_true b)]; exact h1)
  | .fn n, x, h, b => by cases h with | fn h1 => exact .fn h1
theorem VRs.cutm (L : Nat) (hm : ∀ n, n < L → m.l[n]? = m'.l[n]?) (hs : ∀ a, a ∈ m → a ∈ m') : ∀ (l : List AV) (x : List V), VRs K m' H l x → blws L l = true → VRs K m H l x
  | [], x, h, _ => by cases h; exact .nil
  | v :: l, x, h, b => by
    have b : (blw L v && blws L l) = true := b
    rw [Bool.and_eq_true] at b
    cases h with
    | cons h1 h2 => exact .cons (VR.cutm L hm hs v _ h1 b.1) (VRs.cutm L hm hs l _ h2 b.2)
theorem VRk.cutm (L : Nat) (hm : ∀ n, n < L → m.l[n]? = m'.l[n]?) (hs : ∀ a, a ∈ m → a ∈ m') : ∀ (l : List (AK × AV)) (x : List (Key × V)), VRk K m' H l x → blwk L l = true → VRk K m H l x
  | [], x, h, _ => by cases h; exact .nil
  | (k, v) :: l, x, h, b => by
    have b : (blw L v && blwk L l) = true := b
    rw [Bool.and_eq_true] at b
    cases h with
    | cons h1 h2 => exact .cons (VR.cutm L hm hs v _ h1 b.1) (VRk.cutm L hm hs l _ h2 b.2)
end
mutual
theorem VR.blw : ∀ (v : AV) (x : V), VR K m H v x → blw m.l.length v = true
  | .non, x, h => rfl
  | .bl b, x, h => rfl
  | .int b, x, h => rfl
  | .str b, x, h => rfl
  | .tup l, x, h => by cases h with | tup h1 h2 => exact VRs.blw l _ h2
  | .lst l, x, h => by cases h with | lst h1 h3 h2 => exact VRs.blw l _ h2
  | .dk l, x, h => by cases h with | dk h1 h3 h2 => exact VRk.blw l _ h2
  | .fl l, x, h => by cases h with | fl h1 h2 => exact VRs.blw l _ h2
  | .ref n, x, h => by cases h with | ref h1 => exact decide_eq_true (List.getElem?_eq_some_iff.mp h1).1
  | .fn n, x, h => rfl
theorem VRs.blw : ∀ (l : List AV) (x : List V), VRs K m H l x → blws m.l.length l = true
  | [], x, h => rfl
  | v :: l, x, h => by
    cases h with
    | cons h1 h2 => show (_ && _) = true; rw [VR.blw v _ h1, VRs.blw l _ h2]; rfl
theorem VRk.blw : ∀ (l : List (AK × AV)) (x : List (Key × V)), VRk K m H l x → blwk m.l.length l = true
  | [], x, h => rfl
  | (k, v) :: l, x, h => by
    cases h with
    | cons h1 h2 => show (_ && _) = true; rw [VR.blw v _ h1, VRk.blw l _ h2]; rfl
end
mutual
theorem VR.frz {res : Nat → Option AV} (hs : ∀ a, a ∈ m → a ∈ m') (hres : ∀ n v' x, VR K m' H (.ref n) x → res n = some v' → VR K m H v' x) : ∀ (v : AV) (x : V) (v' : AV), VR K m' H v x → frzV res v = some v' → VR K m H v' x
  | .non, x, v', h, e => by cases h; cases e; exact .non
  | .bl b, x, v', h, e => by cases h; cases e; exact .bl b
  | .int b, x, v', h, e => by cases h; cases e; exact .int b
  | .str b, x, v', h, e => by cases h; cases e; exact .str b
  | .tup l, x, v', h, e => by
    obtain ⟨l', e1, rfl⟩ := Option.map_eq_some_iff.mp e
    cases h with
    | tup h1 h2 => exact .tup h1 (VRs.frz hs hres l _ l' h2 e1)
  | .lst l, x, v', h, e => by
    obtain ⟨l', e1, rfl⟩ := Option.map_eq_some_iff.mp e
    cases h with
    | lst h1 h3 h2 => exact .lst h1 (fun z => h3 (hs _ z)) (VRs.frz hs hres l _ l' h2 e1)
  | .dk l, x, v', h, e => by
    obtain ⟨l', e1, rfl⟩ := Option.map_eq_some_iff.mp e
    cases h with
    | dk h1 h3 h2 => exact .dk h1 (fun z => h3 (hs _ z)) (VRk.frz hs hres l _ l' h2 e1)
  | .fl l, x, v', h, e => by
    obtain ⟨l', e1, rfl⟩ := Option.map_eq_some_iff.mp e
    cases h with
    | fl h1 h2 => exact .fl h1 (VRs.frz hs hres l _ l' h2 e1)
  | .ref n, x, v', h, e => hres n v' x h e
  | .fn n, x, v', h, e => by cases h with | fn h1 => cases e; exact .fn h1
theorem VRs.frz {res : Nat → Option AV} (hs : ∀ a, a ∈ m → a ∈ m') (hres : ∀ n v' x, VR K m' H (.ref n) x → res n = some v' → VR K m H v' x) : ∀ (v : List AV) (x : List V) (v' : List AV), VRs K m' H v x → frzVs res v = some v' → VRs K m H v' x
  | [], x, v', h, e => by cases h; cases e; exact .nil
  | v :: l, x, v', h, e => by
    cases h with
    | cons h1 h2 =>
      have e : (match frzV res v, frzVs res l with | some v', some l' => some (v' :: l') | _, _ => none) = some v' := e
      cases q1 : frzV res v with
      | none => rw [q1] at e; cases e
      | some w =>
        cases q2 : frzVs res l with
        | none => rw [q1, q2] at e; cases e
        | some l' => rw [q1, q2] at e; cases e; exact .cons (VR.frz hs hres v _ w h1 q1) (VRs.frz hs hres l _ l' h2 q2)
theorem VRk.frz {res : Nat → Option AV} (hs : ∀ a, a ∈ m → a ∈ m') (hres : ∀ n v' x, VR K m' H (.ref n) x → res n = some v' → VR K m H v' x) : ∀ (v : List (AK × AV)) (x : List (Key × V)) (v' : List (AK × AV)), VRk K m' H v x → frzVk res v = some v' → VRk K m H v' x
  | [], x, v', h, e => by cases h; cases e; exact .nil
  | (k, v) :: l, x, v', h, e => by
    cases h with
    | cons h1 h2 =>
      have e : (match frzV res v, frzVk res l with | some v', some l' => some ((k, v') :: l') | _, _ => none) = some v' := e
      cases q1 : frzV res v with
      | none => rw [q1] at e; cases e
      | some w =>
        cases q2 : frzVk res l with
        | none => rw [q1, q2] at e; cases e
        | some l' => rw [q1, q2] at e; cases e; exact .cons (VR.frz hs hres v _ w h1 q1) (VRk.frz hs hres l _ l' h2 q2)
end
end
def keepsUp (ah ah' : AH) : Prop := ah.length ≤ ah'.length ∧ ∀ i, i < ah.length → ah'[i]? = ah[i]? ∨ ∃ o, ah'[i]? = some o ∧ blwO ah.length o = true
noncomputable def own1 (den : Den) : Den := fun l ah => match den l ah with
  | .ok v ah' => @ite _ (keepsUp ah ah') (Classical.propDecidable _) (match frzV (resF ah.length ah' (ah'.length + 1)) v with
    | some v' => .ok v' (ah'.take ah.length)
    | none => .bad) .bad
  | .exc e ah' => @ite _ (keepsUp ah ah' ∧ e.fs.all (fun p => blw 0 p.2) = true) (Classical.propDecidable _) (.exc e (ah'.take ah.length)) .bad
  | .bad => .bad
theorem scope_back {K : PySem.W.Frag} {m m' : MM} {H H' : Hp} {ah ah' : AH} (hR : Rel K m ah H) (e : Ext m H m' H') (r : Rel K m' ah' H') (k : keepsUp ah ah') :
    Ext m H m H' ∧ Rel K m (ah'.take ah.length) H' ∧ (∀ n, n < ah.length → m.l[n]? = m'.l[n]?) ∧ (∀ a, a ∈ m → a ∈ m') := by
  have hml : m.l.length = ah.length := hR.len
  obtain ⟨t, q, hpre⟩ := e.pre
  have hget : ∀ n, n < ah.length → m.l[n]? = m'.l[n]? := fun n hn => by
    rw [hpre]
    show m.l[n]? = (m.l ++ t)[n]?
    rw [List.getElem?_append_left (by omega)]
  have hsub : ∀ a, a ∈ m → a ∈ m' := fun a ha => by
    rw [hpre]
    rcases ha with ha | ha
    · exact .inl (List.mem_append_left _ ha)
    · exact .inr (List.mem_append_right _ ha)
  refine ⟨⟨⟨[], [], by simp⟩, e.keep, e.still, fun a ha => .inl ha, e.hold⟩, ⟨?_, hR.nd, fun n a o h1 h2 => ?_, fun a ha => ?_⟩, hget, hsub⟩
  · rw [List.length_take, hml]; have := k.1; omega
  · have hn : n < ah.length := by rw [← hml]; exact (List.getElem?_eq_some_iff.mp h1).1
    rw [List.getElem?_take_of_lt hn] at h2
    have h1' : m'.l[n]? = some a := by rw [← hget n hn]; exact h1
    have q := r.obj n a o h1' h2
    have hb : blwO ah.length o = true := by
      rcases k.2 n hn with z | ⟨o', z1, z2⟩
      · have h3 : ah[n]? = some o := by rw [← z]; exact h2
        have q2 := hR.obj n a o h1 h3
        cases o with
        | lst l => obtain ⟨vs, _, h⟩ := q2; have := VRs.blw l _ h; rw [hml] at this; exact this
        | dk l => obtain ⟨vs, _, h⟩ := q2; have := VRk.blw l _ h; rw [hml] at this; exact this
      · rw [h2] at z1; cases z1; exact z2
    cases o with
    | lst l => obtain ⟨vs, g, h⟩ := q; exact ⟨vs, g, VRs.cutm _ hget hsub l _ h hb⟩
    | dk l => obtain ⟨vs, g, h⟩ := q; exact ⟨vs, g, VRk.cutm _ hget hsub l _ h hb⟩
  · have ha' : a ∈ m'.p := by rw [hpre]; exact List.mem_append_right _ ha
    exact ⟨(hR.prot a ha).1, (r.prot a ha').2⟩
theorem resF_ok {K : PySem.W.Frag} {m m' : MM} {H : Hp} {L : Nat} {ah : AH} (hm : ∀ n, n < L → m.l[n]? = m'.l[n]?) (hL : m.l.length = L) (hnd : m'.l.Nodup) (hp : ∀ a, a ∈ m.p → a ∉ m'.l) (hs : ∀ a, a ∈ m → a ∈ m') (r : Rel K m' ah H) : ∀ (f n : Nat) (v' : AV) (x : V), VR K m' H (.ref n) x → resF L ah f n = some v' → VR K m H v' x
  | 0, n, v', x, h, e => by cases e
  | f + 1, n, v', x, h, e => by
    unfold resF at e
    split at e
    · rename_i hn
      cases e
      exact VR.cutm L hm hs _ _ h (decide_eq_true hn)
    · rename_i hn
      cases h with
      | ref h1 =>
        rename_i a
        obtain ⟨o, ho, q⟩ := r.at h1
        rw [ho] at e
        have hna : a ∉ m := fun z => by
          rcases z with z | z
          · obtain ⟨j, hj⟩ := List.getElem?_of_mem z
            have hjl : j < L := by rw [← hL]; exact (List.getElem?_eq_some_iff.mp hj).1
            rw [hm j hjl] at hj
            obtain ⟨l1, e1⟩ := List.getElem?_eq_some_iff.mp hj
            obtain ⟨l2, e2⟩ := List.getElem?_eq_some_iff.mp h1
            have := (List.getElem_inj hnd).mp (e1.trans e2.symm)
            omega
          · exact hp a z (List.mem_of_getElem? h1)
        cases o with
        | lst l =>
          obtain ⟨l', e1, rfl⟩ := Option.map_eq_some_iff.mp e
          obtain ⟨vs, g1, g2⟩ := q
          exact .lst g1 hna (VRs.frz hs (fun n v' x h e => resF_ok hm hL hnd hp hs r f n v' x h e) l _ l' g2 e1)
        | dk l =>
          obtain ⟨l', e1, rfl⟩ := Option.map_eq_some_iff.mp e
          obtain ⟨vs, g1, g2⟩ := q
          exact .dk (.inl g1) hna (VRk.frz hs (fun n v' x h e => resF_ok hm hL hnd hp hs r f n v' x h e) l _ l' g2 e1)
theorem FnG.own1 {P : Program} {w : World} {K : PySem.W.Frag} {mg : Str → Option Value} {base : Heap} {k : Nat} {f : Addr} {fd : FuncData} {ps : List Str} {den : Den} (F : FnG P w K mg base k f fd ps den) : FnG P w K mg base k f fd ps (G.own1 den) := by
  refine ⟨fun l ah h => F.len l ah fun z => h ?_, fun A outer s H args us vs m ah l Q E hr hg e0 hb r hR hv hp => F.run A outer s H args us vs m ah l Q E hr hg e0 hb r hR hv ?_⟩
  · unfold G.own1; rw [z]
  · unfold G.own1 at hp
    cases q : den l ah with
    | bad => rw [q] at hp; exact hp
    | exc ev ah' =>
      rw [q] at hp
      have hp : (@ite (Res AV) (keepsUp ah ah' ∧ ev.fs.all (fun p => blw 0 p.2) = true) (Classical.propDecidable _) (.exc ev (ah'.take ah.length)) .bad).post _ _ := hp
      by_cases hk : keepsUp ah ah' ∧ ev.fs.all (fun p => blw 0 p.2) = true
      · rw [if_pos hk] at hp
        intro m' H' c d e1 r1 xr
        obtain ⟨h1, h2, h3, h4⟩ := scope_back hR e1 r1 hk.1
        refine hp m H' c d h1 h2 ⟨xr.1, xr.2.imp id fun ⟨dd, fs, gn, g1, g2, g0, g3⟩ => ⟨dd, fs, gn, g1, g2, fun z => g0 (h4 _ z), fun f v hf => ?_⟩⟩
        obtain ⟨x, hx, hvx⟩ := g3 f v hf
        refine ⟨x, hx, VR.cutm 0 (fun n hn => absurd hn (Nat.not_lt_zero n)) h4 v x hvx ?_⟩
        have : (f, v) ∈ ev.fs := PySem.mem_of_lookup hf
        exact List.all_eq_true.mp hk.2 _ this
      · rw [if_neg hk] at hp; exact hp.elim
    | ok v ah' =>
      rw [q] at hp
      have hp : (@ite (Res AV) (keepsUp ah ah') (Classical.propDecidable _) (match frzV (resF ah.length ah' (ah'.length + 1)) v with | some v' => .ok v' (ah'.take ah.length) | none => .bad) .bad).post _ _ := hp
      by_cases hk : keepsUp ah ah'
      · rw [if_pos hk] at hp
        cases q2 : frzV (resF ah.length ah' (ah'.length + 1)) v with
        | none => rw [q2] at hp; exact hp.elim
        | some v' =>
          rw [q2] at hp
          intro m' H' x e1 r1 vr
          obtain ⟨h1, h2, h3, h4⟩ := scope_back hR e1 r1 hk
          refine hp m H' x h1 h2 (VR.frz h4 (fun n v' x h e => resF_ok h3 hR.len r1.nd (fun a ha => (r1.prot a (e1.memp ha)).1) h4 r1 _ n v' x h e) v x v' vr q2)
      · rw [if_neg hk] at hp; exact hp.elim
theorem FnD.own1 {P : Program} {w : World} {K : PySem.W.Frag} {mg : Str → Option Value} {base : Heap} {x : Str} {k : Nat} {den : Den} (F : FnD P w K mg base x k den) : FnD P w K mg base x k (G.own1 den) := by
  obtain ⟨f, fd, ps, h1, h2, h3, h4⟩ := F
  exact ⟨f, fd, ps, h1, h2, h3, h4.own1⟩
end G
namespace G
open PySem PySem.Spec PyProof.Rows L2
set_option autoImplicit false
theorem frag_fl {K : PySem.W.Frag} {m : MM} {H : Hp} {a : Addr} {ns : List Int} (h : (∃ o, H a = some (.frz o (.lst (ns.map V.int)))) ∨ WL K a (ns.map V.int)) : VR K m H (.fl (ns.map AV.int)) (.ref a) := .fl h VRs.ints
/-- the law's def is called by what stands outside: nothing is ours, the script is read only -/
theorem law_end {P : Program} {w : World} {K : PySem.W.Frag} {mg mb : Str → Option Value} {k : Nat} {fa a : Addr} {fd : FuncData} {x : Str} {den : Den} {s1 : Shared} {vs : List Value} {ns : List Int}
    (KX : K.In s1.heap) (hns : s1.heap.Ns mainGlobals mg) (hb : s1.heap.Ns builtinsNs mb) (hbb : ∀ x : Str, x ≠ "__name__" → mb x = bootBuiltins x) (hlim : s1.heap.NoLimit) (hg : s1.gens = #[])
    (ha : s1.heap.get? a = some { cls := .type "list", data := .seq vs.toArray }) (hi : IntsAre vs ns) (hl : ns.length ≤ sizeLine) (hr : Room k callerA)
    (F : ∀ base : Heap, K.In base → base.Ns mainGlobals mg → FnG P w K mg base k fa fd [x] den) (hbind : ∀ (s : Shared) (u : Value), BindsTo s fd ⟨[u], []⟩ [(x, u)])
    (hden : ∃ ah, den [.fl (ns.map AV.int)] [] = .ok (.bl true) ah) :
    codeAny (model P w) callerA (.call (.ref fa) ⟨[.ref a], []⟩) (fun r s' => r = .ok (.ret (.bool true)) ∧ OldK s1.heap s'.heap ∧ s'.os = s1.os ∧ AllBare s'.gens) s1 := by
  obtain ⟨ah2, hden⟩ := hden
  have rv := vals_ints hi
  have nlen := hi.length
  -- the script is known to the object, where it is no object of the module's
  let ob : Obj := { cls := .type "list", data := .seq vs.toArray }
  let H : Hp := fun b => if b = a ∧ K.lookup a = none then some (.frz ob (.lst (ns.map V.int))) else none
  have hH : ∀ b u, H b = some u → b = a ∧ K.lookup a = none ∧ u = .frz ob (.lst (ns.map V.int)) := fun b u z => by
    by_cases q : b = a ∧ K.lookup a = none
    · have z' := (if_pos q).symm.trans z
      exact ⟨q.1, q.2, (Option.some.inj z').symm⟩
    · have z' := (if_neg q).symm.trans z
      cases z'
  have hnone : ∀ b, b ≠ a → H b = none := fun b hb => if_neg fun q => hb q.1
  have ok : HOk P w H s1.heap := fun b u z => by
    obtain ⟨rfl, _, rfl⟩ := hH b u z
    exact ⟨ha, by rw [List.length_map]; exact hl, vs, _, rv, ha⟩
  have apart : ∀ {b : Addr} {o : Obj} {es : Array DictEntry} {ep : Nat}, s1.heap.get? b = some o → o.data = .dict es ep → H b = none := fun {b o es ep} e d => hnone b fun z => by
    subst z
    rw [ha] at e
    have e' := Option.some.inj e
    rw [← e'] at d
    cases d
  have nsB : ∀ {b : Addr} {f : Str → Option Value}, s1.heap.Ns b f → (hidT s1.heap H).Ns b f := fun {b f} ⟨o, es, ep, e, d, r⟩ => ⟨o, es, ep, hidT_get e (apart e d), d, r⟩
  have kinB : K.In (hidT s1.heap H) := fun b o e => hidT_get (KX b o e) (by
    cases q : H b with
    | none => rfl
    | some u =>
      obtain ⟨rfl, q2, _⟩ := hH b u q
      rw [q2] at e; cases e)
  have md : Mod K mg (hidT s1.heap H) := by
    obtain ⟨mc, l1, l2⟩ := hlim
    exact ⟨kinB, nsB hns, ⟨mb, nsB hb, hbb⟩, mc, nsB l1, l2⟩
  have noF : ∀ b : Addr, b ∉ frs ([] : List PySem.Env) := fun b z => (nomatch z)
  have e0 : Env0 P w K mg (hidT s1.heap H) callerA [] s1 H := ⟨rfl, md, fun b o e => of_hidT e, Nat.le_of_eq (hidT_size _ _), trivial, fun b z => absurd z (noF b), ok, .of_eq hg⟩
  have rel0 : Rel K ⟨[], []⟩ [] H := ⟨rfl, List.nodup_nil, fun n a o z => (nomatch z), fun a z => (nomatch z)⟩
  have hv : VRs K ⟨[], []⟩ H [.fl (ns.map AV.int)] [.ref a] := .cons (frag_fl (by
    cases q : K.lookup a with
    | none => exact .inl ⟨ob, if_pos ⟨rfl, q⟩⟩
    | some o =>
      have z := KX a o q
      rw [ha] at z
      cases z
      exact .inr ⟨_, vs.toArray, _, q, rfl, rfl, rfl, by rw [List.size_toArray, nlen]; exact hl, by simpa using rv⟩)) .nil
  have go := (F _ kinB (nsB hns)).run callerA [] s1 H ⟨[.ref a], []⟩ [.ref a] [.ref a] ⟨[], []⟩ [] [.fl (ns.map AV.int)] (fun v _ => v = .bl true) (fun _ _ _ => False) hr rfl e0 (hbind s1 (.ref a)) (.cons rfl .nil) rel0 hv
    (by rw [hden]; exact fun m' H' y _ _ vr => by cases vr; rfl)
  refine codeAny_mono go fun res s' hq => ?_
  match res, hq with
  | .error ev, ⟨_, _, _, _, _, _, _, _, _, _, _, _, z⟩ => exact z.elim
  | .ok (.ret u), ⟨v, H', os, bare, un, hok', r', q⟩ =>
    have q' : v = .bl true := q
    subst q'
    have r2 : u = Value.bool true := r'
    subst r2
    refine ⟨rfl, OldK.of_keep fun b o e => ?_, os, bare⟩
    cases z : H b with
    | none => exact un.keep b o e z (noF b) (fun z => (nomatch z))
    | some hb =>
      obtain ⟨rfl, _, rfl⟩ := hH b hb z
      have z2 := un.frzs b ob _ z
      have e2 := (hok' b _ z2).1
      rw [ha] at e
      rw [← Option.some.inj e]
      exact e2
theorem walk {l : PySem.W.OpenLaw} {n k : Nat} {q : Program} {loose : List Str} {XP : (Str → Option Value) → Heap → Prop} {YP : World → Heap → Prop} {d : DefRec} {K : Params → PySem.W.Frag} {den : Den} {x : Str}
    (hn : l.most = some n) (hn2 : n ≤ sizeLine) (hdf : d.params.defaults = []) (hr : Room k callerA) (hY : ∀ (w : World) (h : Heap), YP w h → (K w.params).In h)
    (F : ∀ (w : World) (mg : Str → Option Value) (fa : Addr) (h : Heap), (K w.params).In h → h.Ns mainGlobals mg → mg d.name = some (.ref fa) →
      ∃ fd : FuncData, (∀ (s : Shared) (u : Value), BindsTo s fd ⟨[u], []⟩ [(x, u)]) ∧ ∀ base : Heap, (K w.params).In base → base.Ns mainGlobals mg → FnG l.prog w (K w.params) mg base k fa fd [x] den)
    (hden : ∀ ns : List Int, ns.length ≤ n → ∃ ah, den [.fl (ns.map AV.int)] [] = .ok (.bl true) ah) :
    PySem.W.WalkO q loose XP YP l.row.toRowW d [] (fun f vs => PySem.call f vs) := by
  refine Att.attach_call hn hdf fun w s0 s1 mg mb fa o pm cd doc a vs ns T Y ho hd hcd hmg hobj hints hlen hg => ?_
  have KX := hY w _ Y
  obtain ⟨fd, hb, hF⟩ := F w mg fa _ KX T.T.g hmg
  exact law_end KX T.T.g T.T.b T.T.builtins T.T.nolimit hg hobj hints (Nat.le_trans hlen hn2) hr hF hb (hden ns hlen)
end G
namespace G
open PySem PySem.Spec PyProof.Rows L2
set_option autoImplicit false
/-- a constant of the module -/
def GC (K : PySem.W.Frag) (mg : Str → Option Value) (x : Str) (v : AV) : Prop := ∃ (u : Value) (y : V), mg x = some u ∧ RelV y u ∧ ∀ m H, VR K m H v y
theorem GC.int {K : PySem.W.Frag} {mg : Str → Option Value} {x : Str} {i : Int} {t : Tok} (h : mg x = some (.int i t)) : GC K mg x (.int i) := ⟨_, .int i, h, ⟨t, rfl⟩, fun _ _ => .int i⟩
theorem GC.str {K : PySem.W.Frag} {mg : Str → Option Value} {x : Str} {s : List Nat} {y : Str} {t : Tok} (h : mg x = some (.str y t)) (e : y = mkS s) : GC K mg x (.str s) := ⟨_, .str (mkS s), h, ⟨t, by rw [e]⟩, fun _ _ => .str s⟩
/-- flat data as values of the model -/
inductive FV : AV → Value → Prop where
  | non : FV .non .none
  | bl (b : Bool) : FV (.bl b) (.bool b)
  | int (i : Int) (t : Tok) : FV (.int i) (.int i t)
  | str (s : List Nat) (y : Str) (t : Tok) (e : y = mkS s) : FV (.str s) (.str y t)
theorem FV.rel {K : PySem.W.Frag} {v : AV} {u : Value} (h : FV v u) : ∃ x : V, RelV x u ∧ ∀ m H, VR K m H v x := by
  cases h with
  | non => exact ⟨.non, rfl, fun _ _ => .non⟩
  | bl b => exact ⟨.bl b, rfl, fun _ _ => .bl b⟩
  | int i t => exact ⟨.int i, ⟨t, rfl⟩, fun _ _ => .int i⟩
  | str s y t e => exact ⟨.str (mkS s), ⟨t, by rw [e]⟩, fun _ _ => .str s⟩
theorem FV.all {K : PySem.W.Frag} : ∀ {l : List AV} {us : List Value}, Paired FV l us → ∃ xs : List V, Vals xs us ∧ ∀ m H, VRs K m H l xs
  | _, _, .nil => ⟨[], .nil, fun _ _ => .nil⟩
  | _, _, .cons h r => by
    obtain ⟨x, h1, h2⟩ := h.rel (K := K)
    obtain ⟨xs, h3, h4⟩ := FV.all (K := K) r
    exact ⟨x :: xs, .cons h1 h3, fun m H => .cons (h2 m H) (h4 m H)⟩
theorem GC.tup {K : PySem.W.Frag} {mg : Str → Option Value} {x : Str} {a : Addr} {l : List AV} {us : List Value} {n : Nat} {sl : Array (Option Value)} (h : mg x = some (.ref a)) (lk : K.lookup a = some ⟨.type "tuple", none, .seq us.toArray n, sl⟩) (hl : us.length ≤ sizeLine) (r : Paired FV l us) : GC K mg x (.tup l) := by
  obtain ⟨xs, h1, h2⟩ := FV.all (K := K) r
  exact ⟨_, .ref a, h, rfl, fun m H => .tup (.inr ⟨_, us.toArray, n, lk, rfl, rfl, rfl, by simpa using hl, by simpa using h1⟩) (h2 m H)⟩
section
variable {X : Cx} {W : WX} {a b c e : Expr} {es : List Expr} {fa fb fc : GE} {fr : GA} {pos p : Pos} {x : Str} {k : Nat} {f g : O2}
theorem ge_glob {v : AV} (hg : Gl X x) (h : GC X.K X.mg x v) (hd : (x == ("__debug__" : Str)) = false := by decide) : PE X (.Name x pos) (tG X W (gC v)) := by
  obtain ⟨u, y, h1, h2, h3⟩ := h
  exact ge_const v (pe_glob hg h1 h2 hd) h3
theorem ge_bin {op : Operator} (h : ∃ r, OpR X (binaryOp op) r ∧ OpG X r f) (ha : PE X a (tG X W fa)) (hb : PE X b (tG X W fb)) : PE X (.BinOp a op b pos) (tG X W (gOp f fa fb)) := by
  obtain ⟨r, h1, h2⟩ := h
  exact ge_op h1 h2 ha hb
theorem ge_cm {op : CmpOp} (h : ∃ r, OpR X (compareOp op) r ∧ OpG X r f) (ha : PE X a (tG X W fa)) (hb : PE X b (tG X W fb)) (hm : behindInMarks op b = false := by first | exact nomark _ | rfl) : PE X (.Compare a [op] [b] pos) (tG X W (gOp f fa fb)) := by
  obtain ⟨r, h1, h2⟩ := h
  exact ge_cmp h1 h2 ha hb hm
theorem gt_cm {op : CmpOp} (h : ∃ r, OpR X (compareOp op) r ∧ OpG X r f) (ha : PE X a (tG X W fa)) (hb : PE X b (tG X W fb)) (hm : behindInMarks op b = false := by first | exact nomark _ | rfl) : PT X (.Compare a [op] [b] pos) (tGT X W (gTB (gOp f fa fb))) := by
  obtain ⟨r, h1, h2⟩ := h
  exact gt_cmp h1 h2 ha hb hm
theorem ge_chn {op op' : CmpOp} (h : ∃ r, OpR X (compareOp op) r ∧ OpG X r f) (h' : ∃ r, OpR X (compareOp op') r ∧ OpG X r g) (ha : PE X a (tG X W fa)) (hb : PE X b (tG X W fb)) (hc : PE X c (tG X W fc))
    (hm : lastMarks [op, op'] [b, c] = false := by with_unfolding_all rfl) : PE X (.Compare a [op, op'] [b, c] pos) (tG X W (gChain f g fa fb fc)) := by
  obtain ⟨r, h1, h2⟩ := h
  obtain ⟨r', h3, h4⟩ := h'
  exact ge_chain h1 h2 h3 h4 ha hb hc hm
theorem gt_chn {op op' : CmpOp} (h : ∃ r, OpR X (compareOp op) r ∧ OpG X r f) (h' : ∃ r, OpR X (compareOp op') r ∧ OpG X r g) (ha : PE X a (tG X W fa)) (hb : PE X b (tG X W fb)) (hc : PE X c (tG X W fc))
    (hm : lastMarks [op, op'] [b, c] = false := by with_unfolding_all rfl) : PT X (.Compare a [op, op'] [b, c] pos) (tGT X W (gTB (gChain f g fa fb fc))) := by
  obtain ⟨r, h1, h2⟩ := h
  obtain ⟨r', h3, h4⟩ := h'
  exact gt_chain h1 h2 h3 h4 ha hb hc hm
theorem ge_bi {id : String} {f : OL} (h : ∃ r, CallR X (.builtin id) r ∧ CallG X r f) (hg : Gl X x) (hm : X.mg x = none) (hv : bootBuiltins x = some (.builtin id)) (ha : PA X (e :: es) (tGA X W fr)) (hn : x ≠ "__name__" := by decide) (hdb : (x == ("__debug__" : Str)) = false := by decide)
    (he : starEach (e :: es) X.env = (false, eval e X.env) :: starEach es X.env := by rfl) (hpl : (backTo pos (starEach es X.env)).any (·.1) = false := by rfl) : PE X (.Call (.Name x p) (e :: es) [] pos) (tG X W (gB f fr)) := by
  obtain ⟨r, h1, h2⟩ := h
  exact ge_callB h1 h2 hg hm hv ha hn hdb he hpl
theorem ge_ti {T : String} {f : OL} (h : ∃ r, CallR X (.type T) r ∧ CallG X r f) (hg : Gl X x) (hm : X.mg x = none) (hv : bootBuiltins x = some (.type T)) (ha : PA X (e :: es) (tGA X W fr)) (hn : x ≠ "__name__" := by decide) (hdb : (x == ("__debug__" : Str)) = false := by decide)
    (he : starEach (e :: es) X.env = (false, eval e X.env) :: starEach es X.env := by rfl) (hpl : (backTo pos (starEach es X.env)).any (·.1) = false := by rfl) : PE X (.Call (.Name x p) (e :: es) [] pos) (tG X W (gB f fr)) := by
  obtain ⟨r, h1, h2⟩ := h
  exact ge_callT h1 h2 hg hm hv ha hn hdb he hpl
theorem ge_tl {T : String} {f : AH → List AV → Option (List AV)} (h : ∃ r, CallR X (.type T) r ∧ CallGL X r f) (hg : Gl X x) (hm : X.mg x = none) (hv : bootBuiltins x = some (.type T)) (ha : PA X (e :: es) (tGA X W fr)) (hn : x ≠ "__name__" := by decide) (hdb : (x == ("__debug__" : Str)) = false := by decide)
    (he : starEach (e :: es) X.env = (false, eval e X.env) :: starEach es X.env := by rfl) (hpl : (backTo pos (starEach es X.env)).any (·.1) = false := by rfl) : PE X (.Call (.Name x p) (e :: es) [] pos) (tG X W (gBL f fr)) := by
  obtain ⟨r, h1, h2⟩ := h
  exact ge_callT h1 h2.v hg hm hv ha hn hdb he hpl
theorem ge_tlH {T : String} {f : AH → List AV → Option (List AV)} (h : ∃ r, CallR X (.type T) r ∧ CallGL X r f) (hg : Gl X x) (hm : X.mg x = none) (hv : bootBuiltins x = some (.type T)) (ha : PA X (e :: es) (tGA X W fr)) (hn : x ≠ "__name__" := by decide) (hdb : (x == ("__debug__" : Str)) = false := by decide)
    (he : starEach (e :: es) X.env = (false, eval e X.env) :: starEach es X.env := by rfl) (hpl : (backTo pos (starEach es X.env)).any (·.1) = false := by rfl) : PE X (.Call (.Name x p) (e :: es) [] pos) (tG X W (gBLH f fr)) := by
  obtain ⟨r, h1, h2⟩ := h
  exact ge_callTH h1 h2 hg hm hv ha hn hdb he hpl
theorem XG.u64 (h : XG X W k) : X.A.units + 64 < cLine := h.room.units
theorem XG.u65 (h : XG X W k) : X.A.units + 65 < cLine := by have := h.room.un; omega
theorem XG.blk (h : XG X W k) {s : Shared} {H : Hp} {scope : Scope} {cl : List (Str × Addr)} {C : Addr} {fp : List Addr} : XG (X.blk s H scope (compEnvC scope cl C X.env) fp) (fun _ _ _ _ => False) k := ⟨h.room, h.gd, h.calm, takes0, PassesOwn.never⟩
theorem gts_one {t : GT} (h : PT X c (tGT X W t)) : PTs X [c] (tGT X W t) := pts_one h
def gAug (i : Nat) (fa : GE) : GS := fun env ah => match env[i]? with
  | some (some (.int v)) => sb (fa env ah) env fun w ah1 => match w with
    | .int z => .nx (env.set i (some (.int (v + z)))) ah1
    | _ => .bad
  | _ => .bad
theorem gs_aug {i : Nat} {y : Str} {pos' : Pos} (hN : X.N.Nodup) (hi : X.N[i]? = some y) (hx : Loc X.env.scope y) (ha : PE X a (tG X W fa)) (hf : X.fn y = true ∨ X.env.scope.names.lookup y = some .local := by first | exact .inl rfl | exact .inr rfl) :
    PS X (.AugAssign (.Name y pos') .Add a pos) (tGS X W (gAug i fa)) :=
  PS.weak (ps_aug hN hi hx ha ip_add hf) fun D σ H hh => by
    obtain ⟨m, env, ah, hE, hR, hp⟩ := hh
    unfold gAug at hp
    cases q : env[i]? with
    | none => rw [q] at hp; exact hp.elim
    | some o =>
      rw [q] at hp
      cases o with
      | none => exact hp.elim
      | some u =>
        cases u with
        | int v =>
          obtain ⟨y, hy, ry⟩ := hE.2 i _ q
          cases ry
          refine ⟨_, hy, sG_step hE hR hp fun w ah1 m1 H1 x e1 r1 v1 hp1 => ?_⟩
          cases v1 with
          | int z => exact ⟨v, z, rfl, rfl, hp1 m1 H1 _ (Ext.refl _ _) r1 ((hE.mono e1).set i (.int _))⟩
          | _ => exact hp1.elim
        | _ => exact hp.elim
end
/-- nothing is said -/
theorem fnG_bad {P : Program} {w : World} {K : PySem.W.Frag} {mg : Str → Option Value} {base : Heap} {k : Nat} {f : Addr} {fd : FuncData} {ps : List Str} : FnG P w K mg base k f fd ps (fun _ _ => .bad) :=
  ⟨fun l ah h => absurd rfl h, fun A outer s H args us vs m ah l Q E _ _ _ _ _ _ _ h => h.elim⟩
end G
namespace G
open PySem PySem.Spec PyProof.Rows L2
set_option autoImplicit false
section
variable {X : Cx} {W : WX} {a b : Expr} {fa fb : GE} {apos pos : Pos}
def upA (s : List Nat) : List Nat := (Txt.upper (mkS s)).cps.toList
theorem mkS_up (s : List Nat) : mkS (upA s) = Txt.upper (mkS s) := by
  show (⟨(Txt.upper (mkS s)).cps.toList.toArray⟩ : Str) = _
  rw [Array.toArray_toList]
def upO : O1 := fun _ v => match v with
  | .str s => if s.length ≤ 1000000 then some (.str (upA s)) else none
  | _ => none
def gUp (a : GE) : GE := fun env ah => rb (a env ah) fun v ah1 => lift1 (upO ah1 v) ah1
theorem ge_up (ha : PE X a (tG X W fa)) (hbase : attributeBase a "upper" X.env (eval a X.env) = eval a X.env := by rfl) (hline : (apos.endLine == pos.line) = true := by rfl) :
    PE X (.Call (.Attribute a "upper" apos) [] [] pos) (tG X W (gUp fa)) :=
  PE.weak (pe_upper ha hbase hline) fun σ H Q h => by
    obtain ⟨m, env, ah, hE, hR, hp⟩ := h
    refine tG_step hE hR hp (fun _ _ h => h) fun v ah1 m1 H1 x e1 r1 v1 hp1 => ?_
    cases v1 with
    | str s =>
      have hp1 : (lift1 (if s.length ≤ 1000000 then some (AV.str (upA s)) else none) ah1).post _ _ := hp1
      split at hp1
      · rename_i hl
        refine ⟨⟨_, rfl⟩, mkS s, rfl, rfl, by rw [mkS_length]; omega, ?_⟩
        rw [← mkS_up]
        exact hp1 m1 H1 _ e1 r1 (.str _)
      · exact hp1.elim
    | _ => exact hp1.elim
def gAddH (a b : GE) : GE := fun env ah => rb (a env ah) fun v ah1 => rb (b env ah1) fun w ah2 => match v, w with
  | .lst s, .lst t => if s.length + t.length ≤ 1000000 then .ok (.ref ah2.length) (ah2 ++ [.lst (s ++ t)]) else .bad
  | _, _ => .bad
theorem ge_addH (ha : PE X a (tG X W fa)) (hb : PE X b (tG X W fb)) : PE X (.BinOp a .Add b pos) (tG X W (gAddH fa fb)) :=
  PE.weak (pe_op op_cat ha hb) fun σ H Q h => by
    obtain ⟨m, env, ah, hE, hR, hp⟩ := h
    refine tG_step hE hR hp (fun _ _ h => h) fun v ah1 m1 H1 x e1 r1 v1 hp1 => ?_
    refine tG_step (hE.mono e1) r1 (Res.post_imp hp1 (fun _ _ _ h => PQ.mono e1 h) (fun _ _ h => PX.mono e1 h)) (fun _ _ h => h) fun w ah2 m2 H2 y e2 r2 v2 hp2 => ?_
    cases v with
    | lst s =>
      cases w with
      | lst t =>
        have hp2 : (if s.length + t.length ≤ 1000000 then Res.ok (AV.ref ah2.length) (ah2 ++ [.lst (s ++ t)]) else .bad).post _ _ := hp2
        split at hp2
        · rename_i hl
          cases v1.mono e2 with
          | lst h1 n1 h2 =>
            cases v2 with
            | lst h3 n3 h4 => exact ⟨_, _, _, _, rfl, rfl, h1, h3, lim2 h2 h4 hl, fun p hp => PQ.newH (PQ.mono e2 hp2) r2 (h2.append h4) hp⟩
        · exact hp2.elim
      | _ => exact hp2.elim
    | _ => exact hp2.elim
end
end G
namespace G
open PySem PySem.Spec PyProof.Rows L2
set_option autoImplicit false
/-- a dict of the module: texts to flat data -/
abbrev Tb := List (List Nat × AV)
def tget (t : Tb) (s : List Nat) : Option AV := (t.find? fun p => decide (p.1 = s)).map (·.2)
/-- what a value of the module is, wherever -/
def GVv (K : PySem.W.Frag) (v : AV) (u : Value) : Prop := ∃ x : V, RelV x u ∧ ∀ m H, VR K m H v x
theorem FV.gv {K : PySem.W.Frag} {v : AV} {u : Value} (h : FV v u) : GVv K v u := h.rel
theorem GVv.tup {K : PySem.W.Frag} {a : Addr} {l : List AV} {us : List Value} {n : Nat} {sl : Array (Option Value)} (lk : K.lookup a = some ⟨.type "tuple", none, .seq us.toArray n, sl⟩) (hl : us.length ≤ sizeLine) (r : Paired FV l us) : GVv K (.tup l) (.ref a) := by
  obtain ⟨xs, h1, h2⟩ := FV.all (K := K) r
  exact ⟨.ref a, rfl, fun m H => .tup (.inr ⟨_, us.toArray, n, lk, rfl, rfl, rfl, by simpa using hl, by simpa using h1⟩) (h2 m H)⟩
inductive DE (K : PySem.W.Frag) (P : Params) : List Nat × AV → DictEntry → Prop
  | mk (s : List Nat) (v : AV) (x : Str) (k : Tok) (u : Value) (e : x = mkS s) (h : GVv K v u) : DE K P (s, v) ⟨PyData.keyHash P x, .str x k, u⟩
structure GD (K : PySem.W.Frag) (w : World) (mg : Str → Option Value) (x : Str) (t : Tb) : Prop where
  ex : ∃ (d : Addr) (es : Array DictEntry) (n : Nat), mg x = some (.ref d) ∧ KDict K w d es n ∧ Paired (DE K w.params) t es.toList
theorem DE.lits {K : PySem.W.Frag} {P : Params} : ∀ {t : Tb} {es : List DictEntry}, Paired (DE K P) t es → PySem.W.KeysLit P es
  | _, _, .nil => trivial
  | _, _, .cons (.mk s v x k u e h) r => ⟨⟨x, k, rfl, rfl⟩, DE.lits r⟩
theorem DE.find {K : PySem.W.Frag} {P : Params} (s : List Nat) : ∀ {t : Tb} {es : List DictEntry}, Paired (DE K P) t es → (∀ v, tget t s = some v → ∃ e, es.find? (·.key.isStr (mkS s)) = some e ∧ GVv K v e.val) ∧ (tget t s = none → es.find? (·.key.isStr (mkS s)) = none) ∧ es.any (·.refKey) = false
  | _, _, .nil => ⟨fun v h => by simp [tget] at h, fun _ => rfl, rfl⟩
  | _, _, .cons (l₁ := t) (l₂ := es) (.mk s' v' x k u e h) r => by
    obtain ⟨h1, h2, h3⟩ := DE.find s r
    have hx : (mkS s' == mkS s) = decide (s' = s) := by
      by_cases q : s' = s
      · subst q; simp
      · rw [decide_eq_false q, beq_eq_false_iff_ne]; exact fun z => q (mkS_inj z)
    subst e
    have hh : Value.isStr (.str (mkS s') k) (mkS s) = decide (s' = s) := hx
    by_cases q : s' = s
    · have e1 : tget ((s', v') :: t) s = some v' := by unfold tget; rw [List.find?_cons_of_pos (by simp [q])]; rfl
      refine ⟨fun v hv => ?_, fun hn => ?_, ?_⟩
      · rw [e1] at hv; cases hv
        exact ⟨_, List.find?_cons_of_pos (by rw [hh, decide_eq_true q]), h⟩
      · rw [e1] at hn; cases hn
      · rw [List.any_cons, h3]; rfl
    · have e1 : tget ((s', v') :: t) s = tget t s := by unfold tget; rw [List.find?_cons_of_neg (by simp [q])]
      have e2 : ((⟨PyData.keyHash P (mkS s'), .str (mkS s') k, u⟩ : DictEntry) :: es).find? (·.key.isStr (mkS s)) = es.find? (·.key.isStr (mkS s)) := List.find?_cons_of_neg (by rw [hh, decide_eq_false q]; simp)
      rw [e1, e2]
      exact ⟨h1, h2, by rw [List.any_cons, h3]; rfl⟩
theorem DE.ns {P : Params} {K : PySem.W.Frag} {w : World} {d : Addr} {es : Array DictEntry} {n : Nat} (D : KDict K w d es n) {t : Tb} (r : Paired (DE K P) t es.toList) (s : List Nat) :
    (∀ v, tget t s = some v → ∃ u, PySem.W.nsIn K d (mkS s) = some (some u) ∧ GVv K v u) ∧ (tget t s = none → PySem.W.nsIn K d (mkS s) = some none) := by
  obtain ⟨h1, h2, h3⟩ := DE.find s r
  have e : PySem.W.nsIn K d (mkS s) = (match es.toList.find? (·.key.isStr (mkS s)) with | some e => some (some e.val) | none => if es.toList.any (·.refKey) then none else some none) := by
    unfold PySem.W.nsIn
    rw [D.at_]
    rfl
  refine ⟨fun v hv => ?_, fun hn => ?_⟩
  · obtain ⟨en, q, f⟩ := h1 v hv
    rw [e, q]
    exact ⟨_, rfl, f⟩
  · rw [e, h2 hn, h3]; rfl
section
variable {X : Cx} {W : WX} {a b : Expr} {fa fb : GE} {pos p : Pos} {x : Str} {t : Tb}
def gM1 (f : O1) (a : GE) : GE := fun env ah => rb (a env ah) fun v ah1 => lift1 (f ah1 v) ah1
def tInO (t : Tb) : O1 := fun _ v => match v with
  | .str s => some (.bl (tget t s).isSome)
  | _ => none
def tIxO (t : Tb) : O1 := fun _ v => match v with
  | .str s => tget t s
  | _ => none
theorem ge_tin (hg : Gl X x) (D : GD X.K X.w X.mg x t) (ha : PE X a (tG X W fa)) (hd : (x == ("__debug__" : Str)) = false := by decide) : PE X (.Compare a [.In] [.Name x p] pos) (tG X W (gM1 (tInO t) fa)) := by
  obtain ⟨d, es, n, h1, h2, h3⟩ := D.ex
  refine PE.weak (pe_cmpR (op_in_kd h2) ha (pe_glob hg h1 (show RelV (.ref d) (.ref d) from rfl) hd) (by first | exact nomark _ | rfl)) fun σ H Q h => ?_
  obtain ⟨m, env, ah, hE, hR, hp⟩ := h
  refine tG_step hE hR hp (fun _ _ h => h) fun v ah1 m1 H1 y e1 r1 v1 hp1 => ?_
  cases v1 with
  | str s =>
    cases q : tget t s with
    | none =>
      have hp1 : (lift1 (some (AV.bl (tget t s).isSome)) ah1).post _ _ := hp1
      rw [q] at hp1
      exact ⟨_, none, rfl, rfl, (DE.ns h2 h3 s).2 q, hp1 m1 H1 _ e1 r1 (.bl _)⟩
    | some z =>
      have hp1 : (lift1 (some (AV.bl (tget t s).isSome)) ah1).post _ _ := hp1
      rw [q] at hp1
      obtain ⟨u, hu, _⟩ := (DE.ns h2 h3 s).1 z q
      exact ⟨_, some u, rfl, rfl, hu, hp1 m1 H1 _ e1 r1 (.bl _)⟩
  | _ => exact hp1.elim
theorem gt_tin (hg : Gl X x) (D : GD X.K X.w X.mg x t) (ha : PE X a (tG X W fa)) (hd : (x == ("__debug__" : Str)) = false := by decide) : PT X (.Compare a [.In] [.Name x p] pos) (tGT X W (gTB (gM1 (tInO t) fa))) := by
  obtain ⟨d, es, n, h1, h2, h3⟩ := D.ex
  refine PT.weak (pt_cmpR (op_in_kd h2) ha (pe_glob hg h1 (show RelV (.ref d) (.ref d) from rfl) hd) (by first | exact nomark _ | rfl)) fun σ H Q h => ?_
  obtain ⟨m, env, ah, hE, hR, hp⟩ := h
  have hp : (rb (gM1 (tInO t) fa env ah) _).post _ _ := hp
  unfold gM1 at hp
  rw [rb_rb] at hp
  refine tG_step hE hR hp (fun _ _ h => h) fun v ah1 m1 H1 y e1 r1 v1 hp1 => ?_
  cases v1 with
  | str s =>
    have hp1 : (rb (lift1 (some (AV.bl (tget t s).isSome)) ah1) fun v ah1 => match v with | .bl b => Res.ok b ah1 | _ => .bad).post _ _ := hp1
    cases q : tget t s with
    | none =>
      rw [q] at hp1
      exact ⟨_, none, rfl, rfl, (DE.ns h2 h3 s).2 q, _, rfl, hp1 m1 H1 e1 r1⟩
    | some z =>
      rw [q] at hp1
      obtain ⟨u, hu, _⟩ := (DE.ns h2 h3 s).1 z q
      exact ⟨_, some u, rfl, rfl, hu, _, rfl, hp1 m1 H1 e1 r1⟩
  | _ => exact hp1.elim
theorem ge_tix (hg : Gl X x) (D : GD X.K X.w X.mg x t) (hb : PE X b (tG X W fb)) (hs : PlainIx b := by exact fun _ _ => rfl) (hd : (x == ("__debug__" : Str)) = false := by decide) : PE X (.Subscript (.Name x p) b pos) (tG X W (gM1 (tIxO t) fb)) := by
  obtain ⟨d, es, n, h1, h2, h3⟩ := D.ex
  refine PE.weak (pe_ix (ix_kdict (X := X)) (pe_glob hg h1 (show RelV (.ref d) (.ref d) from rfl) hd) hb hs) fun σ H Q h => ?_
  obtain ⟨m, env, ah, hE, hR, hp⟩ := h
  refine tG_step hE hR hp (fun _ _ h => h) fun v ah1 m1 H1 y e1 r1 v1 hp1 => ?_
  cases v1 with
  | str s =>
    have hp1 : (lift1 (tget t s) ah1).post _ _ := hp1
    cases q : tget t s with
    | none => rw [q] at hp1; exact hp1.elim
    | some z =>
      rw [q] at hp1
      obtain ⟨u, hu, f⟩ := (DE.ns h2 h3 s).1 z q
      obtain ⟨y, ry, vy⟩ := f
      exact ⟨d, mkS s, y, rfl, rfl, ⟨es, n, u, h2.at_, h2.lit, hu, ry⟩, hp1 m1 H1 _ e1 r1 (vy _ _)⟩
  | _ => exact hp1.elim
end
end G
namespace G
open PySem PySem.Spec PyProof.Rows L2
set_option autoImplicit false
section
variable {X : Cx} {W : WX} {o e f : Expr} {apos cpos : Pos} {td ty tx : TE} {fo fe ff : GE}
def tGetK (K : PySem.W.Frag) (td ty tx : TE) : TE := fun σ H Q => td σ H fun x H1 => ∃ a, x = .ref a ∧ (∃ kvs, DKR K H1 a kvs) ∧ ty σ H1 fun y H2 => tx σ H2 fun z H3 => ∃ k kvs, y = kV k ∧ DKR K H3 a kvs ∧ Q ((valV kvs k).getD z) H3
theorem pe_getK (ho : PE X o td) (he : PE X e ty) (hf : PE X f tx) (m : M2 X o "get" apos e f cpos) : PE X (.Call (.Attribute o "get" apos) [e, f] [] cpos) (tGetK X.K td ty tx) := by
  refine ⟨fun pins s σ H Q I h => ?_⟩
  refine wpAny_Call_method m.base m.few m.line PySem.F.plainAttrs_dict PySem.F.slot_dict_get PySem.F.type_dict_get (thn (ho.run pins s σ H _ I h) fun u s1 ⟨x, H1, I1, rx, a, ex, ⟨kvs, d⟩, q1⟩ => ?_)
  subst ex
  obtain rfl : u = Value.ref a := rx
  obtain ⟨_, hd, vs, _, dd⟩ := d.at I1
  refine ⟨dd.typeIs, fun b q => ?_, ?_⟩
  · cases q
    obtain ⟨ob, _, _, h1, h2, _⟩ := dd
    exact ⟨ob, h1, h2.2.1⟩
  rw [m.trees]
  refine Calls.callWith_builtin rfl (Calls.evalArgs_plain (Calls.spliced_cons (thn (he.run pins s1 σ H1 _ I1 q1) fun iv s2 ⟨y, H2, I2, ry, q2⟩ =>
    Calls.spliced_cons (thn (hf.run pins s2 σ H2 _ I2 q2) fun fv s3 ⟨z, H3, I3, rz, k, kvs3, ek, d3, q3⟩ => Calls.spliced_nil ?_))))
  subst ek
  obtain ⟨_, hd3, vs3, rel3, dd3⟩ := d3.at I3
  refine call_meetsIn PySem.F.slot_dict_get dd3.typeIs PySem.F.entry_dict_get (PySem.F.args_dict_get_3 _ _ _) (meets_dict_get_default (mixKind X.prog X.w) a (kV_is ry) hd3 fv) ⟨_, dd3.mapOf, ⟨_, H3, I3.tok _, ?_, q3⟩⟩
  exact (rel3.val k).getD rz
def gGet2 (o k d : GE) : GE := fun env ah => rb (o env ah) fun w ah1 => match w with
  | .dk l => rb (k env ah1) fun kv ah2 => rb (d env ah2) fun dv ah3 => match keyA kv with
    | some q => .ok ((lookK l q).getD dv) ah3
    | none => .bad
  | _ => .bad
theorem ge_get2 (ho : PE X o (tG X W fo)) (he : PE X e (tG X W fe)) (hf : PE X f (tG X W ff)) (m : M2 X o "get" apos e f cpos := by exact ⟨rfl, rfl, rfl, rfl⟩) : PE X (.Call (.Attribute o "get" apos) [e, f] [] cpos) (tG X W (gGet2 fo fe ff)) :=
  PE.weak (pe_getK ho he hf m) fun σ H Q h => by
    obtain ⟨m, env, ah, hE, hR, hp⟩ := h
    refine tG_step hE hR hp (fun _ _ h => h) fun v ah1 m1 H1 x e1 r1 v1 hp1 => ?_
    cases v with
    | dk l =>
      obtain ⟨a, kvs, rfl, h1, h2⟩ := VR.dict r1 v1 (show dr ah1 (.dk l) = .dk l from rfl)
      refine ⟨a, rfl, ⟨kvs, h1⟩, ?_⟩
      refine tG_step (hE.mono e1) r1 (Res.post_imp hp1 (fun _ _ _ h => PQ.mono e1 h) (fun _ _ h => PX.mono e1 h)) (fun _ _ h => h) fun kv ah2 m2 H2 y e2 r2 v2 hp2 => ?_
      refine tG_step ((hE.mono e1).mono e2) r2 (Res.post_imp hp2 (fun _ _ _ h => PQ.mono e2 h) (fun _ _ h => PX.mono e2 h)) (fun _ _ h => h) fun dv ah3 m3 H3 z e3 r3 v3 hp3 => ?_
      have v1' := (v1.mono e2).mono e3
      obtain ⟨a', kvs', ea, h1', h2'⟩ := VR.dict r3 v1' (show dr ah3 (.dk l) = .dk l from rfl)
      cases ea
      cases hk : keyA kv with
      | none => rw [hk] at hp3; exact hp3.elim
      | some q =>
        rw [hk] at hp3
        refine ⟨akey q, kvs', keyA_kV hk v2, h1', ?_⟩
        rcases h2'.look q with ⟨g1, g2⟩ | ⟨v', x', g1, g2, hx⟩
        · have hp3 : PQ X.K m2 H2 Q ((lookK l q).getD dv) ah3 := hp3
          rw [g1] at hp3
          rw [g2]
          exact hp3 m3 H3 z e3 r3 v3
        · have hp3 : PQ X.K m2 H2 Q ((lookK l q).getD dv) ah3 := hp3
          rw [g1] at hp3
          rw [g2]
          exact hp3 m3 H3 x' e3 r3 hx
    | _ => exact hp1.elim
end
end G
namespace G
open PySem PySem.Spec PyProof.Rows L2
set_option autoImplicit false
def sortA (l : List (List Nat)) : List (List Nat) := l.mergeSort fun a b => decide (a ≤ b)
theorem sortA_perm (l : List (List Nat)) : (sortA l).Perm l := List.mergeSort_perm l _
theorem sortA_pw (l : List (List Nat)) : (sortA l).Pairwise (· ≤ ·) := by
  have := List.pairwise_mergeSort (le := fun a b : List Nat => decide (a ≤ b)) (fun a b c h1 h2 => decide_eq_true (List.le_trans (of_decide_eq_true h1) (of_decide_eq_true h2))) (fun a b => by
    rcases List.le_total a b with h | h <;> simp [h]) l
  exact this.imp fun h => of_decide_eq_true h
theorem rising_pw : ∀ (p : Str) (l : List Str), risingS p l = true → (p :: l).Pairwise fun a b => a.cps.toList ≤ b.cps.toList
  | p, [], _ => List.pairwise_singleton _ _
  | p, x :: r, h => by
    have h : (!ltCps x.cps.toList p.cps.toList && risingS x r) = true := h
    rw [Bool.and_eq_true, ltCps_eq] at h
    have ih := rising_pw x r h.2
    have hx : p.cps.toList ≤ x.cps.toList := by
      have := h.1
      simpa using this
    refine List.pairwise_cons.mpr ⟨fun y hy => ?_, ih⟩
    rcases List.mem_cons.mp hy with rfl | hy
    · exact hx
    · exact List.le_trans hx ((List.pairwise_cons.mp ih).1 y hy)
theorem sortedS_pw {l : List Str} (h : sortedS l = true) : l.Pairwise fun a b => a.cps.toList ≤ b.cps.toList := by
  cases l with
  | nil => exact .nil
  | cons x r => exact rising_pw x r h
theorem sort_only {ys : List Str} {ks : List (List Nat)} (hp : ys.Perm (ks.map mkS)) (hs : sortedS ys = true) : ys = (sortA ks).map mkS := by
  refine List.Perm.eq_of_pairwise (le := fun a b : Str => a.cps.toList ≤ b.cps.toList) (fun a b _ _ h1 h2 => ?_) (sortedS_pw hs) ?_ (hp.trans ((sortA_perm ks).symm.map mkS))
  · have e := List.le_antisymm h1 h2
    cases a; cases b
    simp only [Str.mk.injEq]
    exact Array.toList_inj.mp e
  · rw [List.pairwise_map]
    refine (sortA_pw ks).imp fun h => ?_
    simpa using h
def strsA : List AV → Option (List (List Nat))
  | [] => some []
  | .str s :: l => (strsA l).map (s :: ·)
  | _ :: _ => none
def skeys : List (AK × AV) → Option (List (List Nat))
  | [] => some []
  | (.inr s, _) :: l => (skeys l).map (s :: ·)
  | _ :: _ => none
theorem strs_vs {K : PySem.W.Frag} {m : MM} {H : Hp} : ∀ {l : List AV} {xs : List V} {ss : List (List Nat)}, VRs K m H l xs → strsA l = some ss → xs = (ss.map mkS).map V.str
  | _, _, _, .nil, h => by cases h; rfl
  | _, _, ss, .cons (v := v) (l := l) h r, e => by
    cases v <;> first | cases e | skip
    rename_i b
    have e : (strsA l).map (b :: ·) = some ss := e
    obtain ⟨bs', e1, rfl⟩ := Option.map_eq_some_iff.mp e
    cases h
    rw [strs_vs r e1]; rfl
theorem skeys_vs {K : PySem.W.Frag} {m : MM} {H : Hp} : ∀ {l : List (AK × AV)} {kvs : List (Key × V)} {ss : List (List Nat)}, VRk K m H l kvs → skeys l = some ss → kvs.map (·.1) = (ss.map mkS).map Sum.inr
  | _, _, _, .nil, h => by cases h; rfl
  | _, _, ss, .cons (k := k) (v := v) (l := l) h r, e => by
    cases k with
    | inl i => cases e
    | inr b =>
      have e : (skeys l).map (b :: ·) = some ss := e
      obtain ⟨bs', e1, rfl⟩ := Option.map_eq_some_iff.mp e
      show akey (.inr b) :: _ = _
      rw [skeys_vs r e1]; rfl
theorem strs_vr {K : PySem.W.Frag} {m : MM} {H : Hp} (ss : List (List Nat)) : VRs K m H (ss.map AV.str) ((ss.map mkS).map V.str) := by
  induction ss with
  | nil => exact .nil
  | cons s ss ih => exact .cons (.str s) ih
/-- texts of a list, keys of a dict: fewer than 64 -/
def sorS : AH → List AV → Option (List AV) := fun ah l => match l with
  | [v] => match dr ah v with
    | .lst l => match strsA l with
      | some ss => if ss.length < 64 then some ((sortA ss).map .str) else none
      | none => none
    | .dk l => match skeys l with
      | some ss => if ss.length < 64 then some ((sortA ss).map .str) else none
      | none => none
    | _ => none
  | _ => none
def sorO : OL := fun ah l => (sorS ah l).map AV.lst
section
variable {X : Cx}
theorem sor_gl (hc : X.calm = true) : ∃ r, CallR X (.builtin "sorted") r ∧ CallGL X r sorS := by
  refine ⟨_, cr_sortedS.or (call_sortedD hc), ?_⟩
  intro m H ah l xs z Q r hv hf q
  unfold sorS at hf
  split at hf
  · obtain ⟨x, rfl, hx⟩ := hv.one
    split at hf
    · obtain ⟨a, vs, rfl, h1, h2⟩ := VR.list r hx (by assumption)
      split at hf
      · rename_i ss hss
        split at hf
        · rename_i h64
          cases hf
          have e := strs_vs h2 hss
          subst e
          refine .inl ⟨a, ss.map mkS, rfl, SqL.of h1, by simpa using h64, fun ys p hp hs hn => ?_⟩
          rw [sort_only hp hs]
          exact q p _ hn (strs_vr _)
        · cases hf
      · cases hf
    · obtain ⟨a, kvs, rfl, h1, h2⟩ := VR.dict r hx (by assumption)
      split at hf
      · rename_i ss hss
        split at hf
        · rename_i h64
          cases hf
          refine .inr ⟨a, kvs, ss.map mkS, rfl, h1, skeys_vs h2 hss, by simpa using h64, fun ys p hp hs hn => ?_⟩
          rw [sort_only hp hs]
          exact q p _ hn (strs_vr _)
        · cases hf
      · cases hf
    · cases hf
  · cases hf
theorem sor_g (hc : X.calm = true) : ∃ r, CallR X (.builtin "sorted") r ∧ CallG X r sorO := by
  obtain ⟨r, h1, h2⟩ := sor_gl (X := X) hc
  exact ⟨r, h1, h2.v⟩
end
end G
namespace G
open PySem PySem.Spec PyProof.Rows L2 RZ
set_option autoImplicit false
def zipA (l l' : List AV) : List AV := List.zipWith (fun x y => .tup [x, y]) l l'
theorem zipA_get {l l' : List AV} {i : Nat} {v : AV} (h : (zipA l l')[i]? = some v) : ∃ p q, l[i]? = some p ∧ l'[i]? = some q ∧ v = .tup [p, q] := by
  unfold zipA at h
  rw [List.getElem?_zipWith] at h
  cases e1 : l[i]? with
  | none => rw [e1] at h; simp at h
  | some p =>
    cases e2 : l'[i]? with
    | none => rw [e1, e2] at h; simp at h
    | some q =>
      rw [e1, e2] at h
      exact ⟨p, q, rfl, rfl, by simpa using h.symm⟩
section
variable {K : PySem.W.Frag} {m : MM} {H : Hp}
theorem jg_zipL {a b : Addr} {l l' : List AV} (h : ∀ m' H' ah', Ext m H m' H' → Rel K m' ah' H' → ∃ vs ws, SqL K H' a vs ∧ VRs K m' H' l vs ∧ SqL K H' b ws ∧ VRs K m' H' l' ws) : JG true K (Itz K a b) m H (none, zipA l l') := by
  refine ⟨fun m' H' ah' e r c => ?_, fun m' H' ah' i v e r c hv => ?_, fun m' H' ah' i v x H'' e r c hv y => ?_⟩
  · obtain ⟨vs, ws, h1, h2, h3, h4⟩ := h m' H' ah' e r
    refine ⟨vs, ws, h1, h3, ?_⟩
    have : (zipA l l').length = min l.length l'.length := by simp [zipA]
    show vs.length ≤ (zipA l l').length ∨ ws.length ≤ (zipA l l').length
    rw [this, h2.length, h4.length]
    omega
  · obtain ⟨vs, ws, h1, h2, h3, h4⟩ := h m' H' ah' e r
    obtain ⟨p, q, e1, e2, rfl⟩ := zipA_get hv
    obtain ⟨x, hx, _⟩ := h2.get e1
    obtain ⟨z, hz, _⟩ := h4.get e2
    exact ⟨vs, ws, x, z, h1, h3, hx, hz⟩
  · obtain ⟨vs, ws, h1, h2, h3, h4⟩ := h m' H' ah' e r
    obtain ⟨p, q, e1, e2, rfl⟩ := zipA_get hv
    obtain ⟨T, x', y', rfl, hT, rfl, g1, g2⟩ := y
    obtain ⟨x2, hx, rx⟩ := h2.get e1
    obtain ⟨z2, hz, rz⟩ := h4.get e2
    have ex : x2 = x' := Option.some.inj (hx.symm.trans (g1 vs h1))
    have ez : z2 = y' := Option.some.inj (hz.symm.trans (g2 ws h3))
    subst ex; subst ez
    refine ⟨fun c o hc => ?_, .inr ⟨rfl, _, _, _, _, _, rfl, rfl, SqT.of upd_same, rx.mono (Ext.new hT), rz.mono (Ext.new hT)⟩⟩
    by_cases z : c = T
    · subst z; rw [hT] at hc; cases hc
    · rw [upd_ne z]; exact hc
theorem jg_zipT {a b : Addr} {l l' : List AV} (h : ∀ m' H' ah', Ext m H m' H' → Rel K m' ah' H' → ∃ vs ws, SqT K H' a vs ∧ VRs K m' H' l vs ∧ SqT K H' b ws ∧ VRs K m' H' l' ws) : JG true K (ItzT K a b) m H (none, zipA l l') := by
  refine ⟨fun m' H' ah' e r c => ?_, fun m' H' ah' i v e r c hv => ?_, fun m' H' ah' i v x H'' e r c hv y => ?_⟩
  · obtain ⟨vs, ws, h1, h2, h3, h4⟩ := h m' H' ah' e r
    refine ⟨vs, ws, h1, h3, ?_⟩
    have : (zipA l l').length = min l.length l'.length := by simp [zipA]
    show vs.length ≤ (zipA l l').length ∨ ws.length ≤ (zipA l l').length
    rw [this, h2.length, h4.length]
    omega
  · obtain ⟨vs, ws, h1, h2, h3, h4⟩ := h m' H' ah' e r
    obtain ⟨p, q, e1, e2, rfl⟩ := zipA_get hv
    obtain ⟨x, hx, _⟩ := h2.get e1
    obtain ⟨z, hz, _⟩ := h4.get e2
    exact ⟨vs, ws, x, z, h1, h3, hx, hz⟩
  · obtain ⟨vs, ws, h1, h2, h3, h4⟩ := h m' H' ah' e r
    obtain ⟨p, q, e1, e2, rfl⟩ := zipA_get hv
    obtain ⟨T, x', y', rfl, hT, rfl, g1, g2⟩ := y
    obtain ⟨x2, hx, rx⟩ := h2.get e1
    obtain ⟨z2, hz, rz⟩ := h4.get e2
    have ex : x2 = x' := Option.some.inj (hx.symm.trans (g1 vs h1))
    have ez : z2 = y' := Option.some.inj (hz.symm.trans (g2 ws h3))
    subst ex; subst ez
    refine ⟨fun c o hc => ?_, .inr ⟨rfl, _, _, _, _, _, rfl, rfl, SqT.of upd_same, rx.mono (Ext.new hT), rz.mono (Ext.new hT)⟩⟩
    by_cases z : c = T
    · subst z; rw [hT] at hc; cases hc
    · rw [upd_ne z]; exact hc
end
section
variable {X : Cx} {W : WX} {e e2 : Expr} {fr : GA} {p pos tpos : Pos} {elts : List Expr} {kk : Nat}
def zipR (l : List AV) (ah : AH) : Res Src := match l with
  | [.lst p, .lst q] => .ok (none, zipA p q) ah
  | [.tup p, .tup q] => .ok (none, zipA p q) ah
  | _ => .bad
def gZip (r : GA) : GI := fun env ah => rb (r env ah) fun l ah1 => zipR l ah1
theorem gi_zip (hg : Gl X "zip") (hm : X.mg "zip" = none) (ha : PA X [e, e2] (tGA X W fr))
    (hs : starEach [e, e2] X.env = (false, eval e X.env) :: starEach [e2] X.env := by rfl) (hpl : (backTo pos (starEach [e2] X.env)).any (·.1) = false := by rfl) :
    PI X (.Tuple elts kk tpos) (.Call (.Name "zip" p) [e, e2] [] pos) (tGI true X W (gZip fr)) :=
  PI.weak (pi_zipA hg hm ha hs hpl) fun σ H R h => by
    obtain ⟨m, env, ah, hE, hR, hp⟩ := h
    refine tGA_step hE hR hp (fun _ _ h => h) fun l ah1 m1 H1 xs e1 r1 v1 hp1 => ?_
    unfold zipR at hp1
    split at hp1
    · obtain ⟨x, y, rfl, hx, hy⟩ := v1.two
      cases hx with
      | lst a1 a2 a3 =>
        cases hy with
        | lst b1 b2 b3 =>
          refine ⟨_, _, _, _, rfl, .inl ⟨SqL.of a1, SqL.of b1, hp1 m1 H1 _ e1 r1 (jg_zipL fun m' H' ah' ex r' => ?_)⟩⟩
          exact ⟨_, _, SqL.of (keep_ne (ex.keep _ _ a1 a2) fun _ z => nomatch z), a3.mono ex, SqL.of (keep_ne (ex.keep _ _ b1 b2) fun _ z => nomatch z), b3.mono ex⟩
    · obtain ⟨x, y, rfl, hx, hy⟩ := v1.two
      cases hx with
      | tup a1 a2 =>
        cases hy with
        | tup b1 b2 =>
          refine ⟨_, _, _, _, rfl, .inr ⟨a1.sqT, b1.sqT, hp1 m1 H1 _ e1 r1 (jg_zipT fun m' H' ah' ex r' => ?_)⟩⟩
          exact ⟨_, _, (ex.sqN a1).sqT, a2.mono ex, (ex.sqN b1).sqT, b2.mono ex⟩
    · exact hp1.elim
end
end G
namespace G
open PySem PySem.Spec PyProof.Rows L2 L2H
set_option autoImplicit false

/-- x is an own class of exceptions; instances are asked by isinstance -/
structure ExA (K : PySem.W.Frag) (mg : Str → Option Value) (x : Str) (C : Addr) : Prop where
  at_ : mg x = some (.ref C)
  keep : PySem.W.keepIn K (.ref C) = true
  asks : ExcC K C
  ty : PySem.W.typeIn K (.ref C) = some (.type "type")
/-- one that is made by a text alone -/
structure ExN (K : PySem.W.Frag) (mg : Str → Option Value) (x : Str) (C : Addr) : Prop extends ExA K mg x C where
  ex : PySem.W.excIn K C [.type "ValueError", .type "Exception", .type "BaseException", .type "object"] "ValueError.__new__" = true
/-- how classes stand to one another -/
abbrev RelTab := List ((Str × Str) × Bool)
structure RelAt (K : PySem.W.Frag) (mg : Str → Option Value) (p : (Str × Str) × Bool) : Prop where
  ex : ∃ C, ExA K mg p.1.1 C ∧ ((∃ D, mg p.1.2 = some (.ref D) ∧ PySem.W.kitOne K (.ref C) (.ref D) = some p.2 ∧ PySem.W.exmOne K (.ref C) (.ref D) = some p.2) ∨ (∃ T : String, mg p.1.2 = none ∧ bootBuiltins p.1.2 = some (.type T) ∧ PySem.W.kitOne K (.ref C) (.type T) = some p.2))
def RelT (K : PySem.W.Frag) (mg : Str → Option Value) (t : RelTab) : Prop := ∀ p ∈ t, RelAt K mg p
theorem RelT.nil {K : PySem.W.Frag} {mg : Str → Option Value} : RelT K mg [] := fun p h => nomatch h
theorem RelT.cons {K : PySem.W.Frag} {mg : Str → Option Value} {p : (Str × Str) × Bool} {t : RelTab} (h : RelAt K mg p) (r : RelT K mg t) : RelT K mg (p :: t) := fun q hq => by
  rcases List.mem_cons.mp hq with rfl | hq
  · exact h
  · exact r q hq
theorem rel_own {K : PySem.W.Frag} {mg : Str → Option Value} {x y : Str} {C D : Addr} {b : Bool} (A : ExA K mg x C) (hy : mg y = some (.ref D)) (hs : PySem.W.subIn K (.ref D) (.type "BaseException") = some true) (hd : PySem.W.hasDictIn K D = true) (ht : PySem.W.typeIn K (.ref D) = some (.type "type")) (hp : PySem.W.subIn K (.ref C) (.ref D) = some b) (hn : (Value.ref C == Value.ref D) = false ∨ b = true) : RelAt K mg ((x, y), b) := by
  refine ⟨C, A, .inl ⟨D, hy, ?_, PySem.W.exm_ref hs hd ht hp⟩⟩
  obtain ⟨cd, hc, _⟩ := PySem.W.any_some hd
  have e2 : ((PySem.W.clsIn K D).isSome && PySem.W.typeIn K (.ref D) == some (.type "type")) = true := by
    rw [hc, ht] <;> rfl
  unfold PySem.W.kitOne
  split
  · rename_i q
    rcases hn with hn | rfl
    · rw [hn] at q; cases q
    · rfl
  · show (if _ = true then PySem.W.subIn K (.ref C) (.ref D) else none) = _
    rw [if_pos e2]; exact hp
theorem rel_blt {K : PySem.W.Frag} {mg : Str → Option Value} {x y : Str} {C : Addr} {T : String} {b : Bool} (A : ExA K mg x C) (hy : mg y = none) (hb : bootBuiltins y = some (.type T)) (hm : PySem.W.kitMeta T = true) (hp : PySem.W.subIn K (.ref C) (.type T) = some b) : RelAt K mg ((x, y), b) := by
  refine ⟨C, A, .inr ⟨T, hy, hb, ?_⟩⟩
  show (if _ = true then PySem.W.subIn K (.ref C) (.type T) else none) = _
  rw [if_pos hm]; exact hp
def relO (t : RelTab) (x y : Str) : Option Bool := t.lookup (x, y)
theorem mem_look {x : Str × Str} {b : Bool} : ∀ {t : RelTab}, t.lookup x = some b → (x, b) ∈ t
  | [], h => nomatch h
  | (y, c) :: t, h => by
    rw [List.lookup_cons] at h
    split at h
    · rename_i q
      cases h
      rw [eq_of_beq q]; exact List.mem_cons_self
    · exact List.mem_cons_of_mem _ (mem_look h)
theorem relO_at {K : PySem.W.Frag} {mg : Str → Option Value} {t : RelTab} (h : RelT K mg t) {x y : Str} {b : Bool} (e : relO t x y = some b) : RelAt K mg ((x, y), b) := h _ (mem_look e)
/-- does an error belong to one of these classes -/
def isX (t : RelTab) (ev : EV) : List Str → Option Bool
  | [] => some false
  | y :: ys => match relO t ev.cls y with
    | some true => some true
    | some false => isX t ev ys
    | none => none

def gRaise (x : Str) : GS := fun env ah => .exc ⟨x, []⟩ env ah
section
variable {X : Cx} {W : WX} {k : Nat}
theorem gs_raise {C : Addr} {x m : Str} {j : Nat} {p p2 pos pos2 : Pos} (hx : XG X W k) (N : ExN X.K X.mg x C) (hg : Gl X x) (hdb : (x == ("__debug__" : Str)) = false := by decide) :
    PS X (.Raise (some (.Call (.Name x p) [.Constant (.str m) j p2] [] pos)) none pos2) (tGS X W (gRaise x)) :=
  PS.weak (ps_raise hx.calm hx.tk (pmk_own PySem.F.excBase_ValueError N.ex N.at_ N.keep (raises_own N.asks.hs N.ty) hg hdb)) fun D σ H h => by
    obtain ⟨m, env, ah, hE, hR, hp⟩ := h
    exact hp m H σ (.ref C) none (Ext.refl m H) hR hE ⟨N.at_, .inl ⟨rfl, rfl⟩⟩
end

structure ErrIn (X : Cx) (a : Addr) (cls : Value) (d : Option Addr) : Prop where
  ex : ∃ oe, (a, oe) ∈ X.pn ∧ Zc cls d oe ∧ ∃ vs, oe.data = .fields vs
section
variable (X : Cx) (W : WX) (i : Nat) (a : Addr) (cls : Value) (d : Option Addr)
def hSt (m : MM) (H : Hp) (σ : L2.St) (env : Env) (ah : AH) (ev : EV) : Prop := EnvR X.K m H env σ ∧ Rel X.K m ah H ∧ XR X.K X.mg m H ev cls d ∧ σ[i]? = some (some (.ref a))
def tGe (f : EV → GE) : TE := fun σ H Q => ∃ m env ah ev, hSt X i a cls d m H σ env ah ev ∧ (f ev env ah).post (PQ X.K m H Q) (PX X.K X.mg m H fun c d H' => W c d σ H')
def tGTe (f : EV → GT) : TT := fun σ H Q => ∃ m env ah ev, hSt X i a cls d m H σ env ah ev ∧ (f ev env ah).post (PB X.K m H Q) (PX X.K X.mg m H fun c d H' => W c d σ H')
def sPostE (m : MM) (H : Hp) (D : Ends) : SRes → Prop
  | .nx env ah => ∀ m' H' σ', Ext m H m' H' → Rel X.K m' ah H' → EnvR X.K m' H' env σ' → σ'[i]? = some (some (.ref a)) → D.nx σ' H'
  | r => sPost X W m H D r
def tGSe (f : EV → GS) : TS := fun D σ H => ∃ m env ah ev, hSt X i a cls d m H σ env ah ev ∧ sPostE X W i a m H D (f ev env ah)
end
section
variable {X : Cx} {W : WX} {i : Nat} {a : Addr} {cls : Value} {d : Option Addr}
/-- what doesn't look at it -/
theorem te_of {e : Expr} {f : GE} (h : PE X e (tG X W f)) : PE X e (tGe X W i a cls d fun _ => f) := PE.weak h fun σ H Q ⟨m, env, ah, ev, h, q⟩ => ⟨m, env, ah, h.1, h.2.1, q⟩
theorem tt_of {e : Expr} {f : GT} (h : PT X e (tGT X W f)) : PT X e (tGTe X W i a cls d fun _ => f) := PT.weak h fun σ H Q ⟨m, env, ah, ev, h, q⟩ => ⟨m, env, ah, h.1, h.2.1, q⟩
theorem hSt.mono {m m' : MM} {H H' : Hp} {σ : L2.St} {env : Env} {ah ah' : AH} {ev : EV} (h : hSt X i a cls d m H σ env ah ev) (e : Ext m H m' H') (r : Rel X.K m' ah' H') : hSt X i a cls d m' H' σ env ah' ev := ⟨h.1.mono e, r, h.2.2.1.mono e, h.2.2.2⟩
/-- isinstance(e, C), isinstance(e, (C, ..)) -/
def gIsX (t : RelTab) (ys : List Str) : EV → GE := fun ev _ ah => if ys ≠ [] ∧ ys.all (fun y => (relO t ev.cls y).isSome) = true then lift1 ((isX t ev ys).map AV.bl) ah else .bad
theorem kit_at {K : PySem.W.Frag} {mg : Str → Option Value} {p : (Str × Str) × Bool} {C : Addr} (h : RelAt K mg p) (e : mg p.1.1 = some (.ref C)) : ExcC K C ∧ ∃ (u : Value) (v : V), (mg p.1.2 = some u ∨ (mg p.1.2 = none ∧ bootBuiltins p.1.2 = some u)) ∧ RelV v u ∧ ClsV v u ∧ PySem.W.kitOne K (.ref C) u = some p.2 := by
  obtain ⟨C', hA, h⟩ := h.ex
  have q := hA.at_
  rw [e] at q; cases q
  refine ⟨hA.asks, ?_⟩
  rcases h with ⟨D, h1, h2, _⟩ | ⟨T, h1, h2, h3⟩
  · exact ⟨.ref D, .ref D, .inl h1, rfl, .own D, h2⟩
  · exact ⟨.type T, .ty T, .inr ⟨h1, h2⟩, rfl, .ty T, h3⟩
/-- the dict of the error in hand, if it has one -/
def XD (H : Hp) (d : Option Addr) : Prop := d = none ∨ ∃ (dd : Addr) (fs : List (Str × V)), d = some dd ∧ H dd = some (.xd fs)
theorem XR.xd {K : PySem.W.Frag} {mg : Str → Option Value} {m : MM} {H : Hp} {ev : EV} (h : XR K mg m H ev cls d) : XD H d := by
  rcases h.2 with ⟨_, h⟩ | ⟨dd, fs, _, h1, h2, _⟩
  · exact .inl h
  · exact .inr ⟨dd, fs, h1, h2⟩
/-- the object asked about -/
theorem inst_at {pins : List (Addr × Obj)} {σ : L2.St} {H : Hp} {s : Shared} {C : Addr} {oe : Obj} (I : Inv X pins σ H s) (hp : (a, oe) ∈ X.pn) (hz : Zc (.ref C) d oe) (hf : ∃ vs, oe.data = .fields vs) (hd : XD H d) : ∃ od, PySem.W.InstAt s.heap a oe C od := by
  obtain ⟨g, _⟩ := I.pin (a, oe) (List.mem_append_left _ hp)
  obtain ⟨vs, hv⟩ := hf
  rcases hd with rfl | ⟨dd, fs, rfl, hdd⟩
  · exact ⟨none, g, hz.1, by unfold PySem.W.notCls; rw [hv] <;> rfl, by rw [hz.2]; trivial⟩
  · obtain ⟨mA, hns, _⟩ := (show ObjOk X.prog X.w H s.heap dd (.xd fs) from I.hok dd _ hdd)
    obtain ⟨od, ho, _⟩ := lookIn_ns hns
    exact ⟨some od, g, hz.1, by unfold PySem.W.notCls; rw [hv] <;> rfl, by rw [hz.2]; exact ho⟩
def rIsX (K : PySem.W.Frag) (C a : Addr) (d : Option Addr) : List V → Hp → VK → Prop := fun xs H Q => XD H d ∧ ((∃ (c : V) (u : Value) (b : Bool), xs = [.ref a, c] ∧ ClsV c u ∧ PySem.W.kitOne K (.ref C) u = some b ∧ Q (.bl b) H) ∨
  ∃ (tp : Addr) (cs : List V) (us : List Value) (b : Bool), xs = [.ref a, .ref tp] ∧ H tp = some (.tup cs) ∧ Paired ClsV cs us ∧ PySem.W.kitAny K (.ref C) us = some b ∧ Q (.bl b) H)
theorem call_isX {C : Addr} (E : ErrIn X a (.ref C) d) (A : ExcC X.K C) : CallR X (.builtin "isinstance") (rIsX X.K C a d) := by
  intro pins s σ H xs us Q I r h
  obtain ⟨hxd, h⟩ := h
  obtain ⟨oe, hp, hz, hf⟩ := E.ex
  obtain ⟨od, J⟩ := inst_at I hp hz hf hxd
  have hcl : (PySem.W.clsIn X.K C).isSome = true := by
    obtain ⟨cd, hc, _⟩ := PySem.W.any_some A.hd
    rw [hc]; rfl
  have Z := PySem.W.kitx_exc (x := a) (ox := oe) (od := od) hcl A.hg A.hk A.hs A.ha A.hn A.ht A.hm
  rcases h with ⟨c, u, b, rfl, hc, hk, q⟩ | ⟨tp, cs, ws, b, rfl, hT, hc, hk, q⟩
  · obtain ⟨u1, u2, rfl, r1, r2⟩ := vals2 r
    cases (show u1 = Value.ref a from r1)
    have e2 := hc.eq r2
    subst e2
    exact PySem.W.kia_one Z I.kIn J hk (fun z => nomatch z) fun tk => ⟨.bl b, H, I.tok tk, rfl, q⟩
  · obtain ⟨u1, u2, rfl, r1, r2⟩ := vals2 r
    cases (show u1 = Value.ref a from r1)
    cases (show u2 = Value.ref tp from r2)
    obtain ⟨_, its, rv, o, h1, h2, n, h3⟩ := (show ObjOk X.prog X.w H s.heap tp (.tup cs) from I.hok tp _ hT)
    have e3 := ClsV.all hc rv
    subst e3
    obtain ⟨oc, od, dt, sl⟩ := o
    simp only at h2 h3
    subst h2; subst h3
    exact PySem.W.kia_tup Z I.kIn J h1 hk (fun z => nomatch z) fun tk => ⟨.bl b, H, I.tok tk, rfl, q⟩
/-- a class by its name -/
theorem pe_cls {y : Str} {u : Value} {v : V} {p : Pos} (hg : Gl X y) (h : X.mg y = some u ∨ (X.mg y = none ∧ bootBuiltins y = some u)) (r : RelV v u) (hn : y ≠ "__name__") (hd : (y == ("__debug__" : Str)) = false) : PE X (.Name y p) (tC v) := by
  rcases h with h | ⟨h1, h2⟩
  · exact pe_glob hg h r hd
  · exact pe_bltn hg h1 h2 r hn hd

/-- classes by their names, as arguments -/
inductive ClsNs (X : Cx) : List Expr → List Str → Prop
  | nil : ClsNs X [] []
  | cons {y : Str} {p : Pos} {es : List Expr} {ys : List Str} (hg : Gl X y) (hn : y ≠ "__name__") (hd : (y == ("__debug__" : Str)) = false) (hs : starEach (.Name y p :: es) X.env = (false, eval (.Name y p) X.env) :: starEach es X.env) (r : ClsNs X es ys) : ClsNs X (.Name y p :: es) (y :: ys)
theorem isX_cons {t : RelTab} {ev : EV} {y : Str} {ys : List Str} {b : Bool} (h : isX t ev (y :: ys) = some b) : (relO t ev.cls y = some true ∧ b = true) ∨ (relO t ev.cls y = some false ∧ isX t ev ys = some b) := by
  unfold isX at h
  split at h
  · cases h; exact .inl ⟨by assumption, rfl⟩
  · exact .inr ⟨by assumption, h⟩
  · cases h
/-- the classes that are named, and the answer -/
theorem cls_all {t : RelTab} (T : RelT X.K X.mg t) {ev : EV} {C : Addr} (hC : X.mg ev.cls = some (.ref C)) {es : List Expr} {ys : List Str} (N : ClsNs X es ys) :
    ∀ b, isX t ev ys = some b → (∀ y ∈ ys, ∃ c, relO t ev.cls y = some c) → ∃ cs us, PA X es (fun σ H Q => Q cs H) ∧ Paired ClsV cs us ∧ PySem.W.kitAny X.K (.ref C) us = some b ∧ cs.length = ys.length := by
  induction N with
  | nil =>
    intro b h _
    unfold isX at h
    cases h
    exact ⟨[], [], pa_nil, .nil, rfl, rfl⟩
  | @cons y p es ys hg hn hd hs r ih =>
    intro b h hall
    obtain ⟨c, hc⟩ := hall y (by simp)
    obtain ⟨_, u, v, hm, rv, cv, hk⟩ := kit_at (relO_at T hc) hC
    have hpe := pe_cls (p := p) hg hm rv hn hd
    rcases isX_cons h with ⟨h1, rfl⟩ | ⟨h1, h2⟩
    · rw [hc] at h1; cases h1
      -- what is behind is only read
      have tot : ∃ b', isX t ev ys = some b' := by
        clear ih h hs r
        have : ∀ ys, (∀ y ∈ ys, ∃ c, relO t ev.cls y = some c) → ∃ b', isX t ev ys = some b' := by
          intro ys
          induction ys with
          | nil => intro _; exact ⟨false, rfl⟩
          | cons z zs ih =>
            intro hz
            obtain ⟨c, hc⟩ := hz z (by simp)
            obtain ⟨b', hb'⟩ := ih fun w hw => hz w (by simp [hw])
            unfold isX
            rw [hc]
            cases c
            · exact ⟨b', hb'⟩
            · exact ⟨true, rfl⟩
        exact this ys fun z hz => hall z (by simp [hz])
      obtain ⟨b', hb'⟩ := tot
      obtain ⟨cs, us, h3, h4, h5, h6⟩ := ih b' hb' fun z hz => hall z (by simp [hz])
      refine ⟨v :: cs, u :: us, PA.weak (pa_cons hpe h3 hs) fun σ H Q q => q, .cons cv h4, kitAny_cons hk (fun z => nomatch z) (fun _ => rfl), by simp [h6]⟩
    · rw [hc] at h1; cases h1
      obtain ⟨cs, us, h3, h4, h5, h6⟩ := ih b h2 fun z hz => hall z (by simp [hz])
      refine ⟨v :: cs, u :: us, PA.weak (pa_cons hpe h3 hs) fun σ H Q q => q, .cons cv h4, kitAny_cons hk (fun _ => h5) (fun z => nomatch z), by simp [h6]⟩
theorem isX_read {t : RelTab} (T : RelT X.K X.mg t) {ev : EV} {cls : Value} {d : Option Addr} {m : MM} {H : Hp} {ys : List Str} (xr : XR X.K X.mg m H ev cls d) (hne : ys ≠ []) (hall : ys.all (fun y => (relO t ev.cls y).isSome) = true) {b : Bool} (h : isX t ev ys = some b) :
    ∃ C, cls = .ref C ∧ XD H d ∧ ExcC X.K C ∧ X.mg ev.cls = some (.ref C) ∧ ∀ y ∈ ys, ∃ c, relO t ev.cls y = some c := by
  have all : ∀ y ∈ ys, ∃ c, relO t ev.cls y = some c := fun y hy => Option.isSome_iff_exists.mp (List.all_eq_true.mp hall y hy)
  obtain ⟨y, ys', rfl⟩ : ∃ y ys', ys = y :: ys' := by cases ys with | nil => exact absurd rfl hne | cons y ys' => exact ⟨y, ys', rfl⟩
  obtain ⟨c, hc⟩ := all y (by simp)
  obtain ⟨C, hA, _⟩ := (relO_at T hc).ex
  have hC := hA.at_
  have e1 := xr.1
  have hC' : X.mg ev.cls = some (.ref C) := hC
  rw [hC'] at e1; cases e1
  exact ⟨C, rfl, xr.xd, hA.asks, hC', all⟩
theorem gIsX_post {t : RelTab} {ys : List Str} {ev : EV} {env : Env} {ah : AH} {P : AV → AH → Prop} {E : EV → AH → Prop} (h : (gIsX t ys ev env ah).post P E) : ys ≠ [] ∧ ys.all (fun y => (relO t ev.cls y).isSome) = true ∧ ∃ b, isX t ev ys = some b ∧ P (.bl b) ah := by
  unfold gIsX at h
  split at h
  · rename_i q
    cases e : isX t ev ys with
    | none => rw [e] at h; exact h.elim
    | some b => rw [e] at h; exact ⟨q.1, q.2, b, rfl, h⟩
  · exact h.elim
theorem te_is1 {t : RelTab} {e y : Str} {p pe py pos : Pos} (T : RelT X.K X.mg t) (E : ErrIn X a cls d) (hN : X.N[i]? = some e) (hv : Vis X.env.scope e) (hed : (e == ("__debug__" : Str)) = false) (hec : (e == ("__classdict__" : Str)) = false) (hg : Gl X "isinstance") (hm : X.mg "isinstance" = none)
    (hgy : Gl X y) (hn : y ≠ "__name__") (hd : (y == ("__debug__" : Str)) = false) (hs : starEach [.Name e pe, .Name y py] X.env = (false, eval (.Name e pe) X.env) :: starEach [.Name y py] X.env := by rfl) (hs2 : starEach [.Name y py] X.env = (false, eval (.Name y py) X.env) :: starEach [] X.env := by rfl)
    (hpl : (backTo pos (starEach [.Name y py] X.env)).any (·.1) = false := by rfl) : PE X (.Call (.Name "isinstance" p) [.Name e pe, .Name y py] [] pos) (tGe X W i a cls d (gIsX t [y])) := by
  refine ⟨fun pins s σ H Q I h => ?_⟩
  obtain ⟨m, env, ah, ev, ⟨hE, hR, xr, hσ⟩, q⟩ := h
  obtain ⟨h1, h2, b, h3, q⟩ := gIsX_post q
  obtain ⟨C, rfl, hxd, hA, hC, hall⟩ := isX_read T xr h1 h2 h3
  obtain ⟨c, hc⟩ := hall y (by simp)
  obtain ⟨_, u, v, hmy, rv, cv, hk⟩ := kit_at (relO_at T hc) hC
  have hb : c = b := by
    rcases isX_cons h3 with ⟨e1, rfl⟩ | ⟨e1, e2⟩
    · rw [hc] at e1; cases e1; rfl
    · rw [hc] at e1; cases e1
      unfold isX at e2
      cases e2; rfl
  subst hb
  have P := pe_callB (pos := pos) (p := p) (call_isX E hA) hg hm (by decide +kernel) (pa_cons (pe_var (pos := pe) hN hv hed hec) (pa_cons (pe_cls (p := py) hgy hmy rv hn hd) pa_nil hs2) hs) (by decide) (by decide) hs hpl
  exact P.run pins s σ H Q I ⟨_, hσ, hxd, .inl ⟨v, u, c, rfl, cv, hk, q m H _ (Ext.refl m H) hR (.bl c)⟩⟩
theorem te_isT {t : RelTab} {e : Str} {es : List Expr} {ys : List Str} {kk : Nat} {p pe pt pos : Pos} (T : RelT X.K X.mg t) (E : ErrIn X a cls d) (hN : X.N[i]? = some e) (hv : Vis X.env.scope e) (hed : (e == ("__debug__" : Str)) = false) (hec : (e == ("__classdict__" : Str)) = false) (hg : Gl X "isinstance") (hm : X.mg "isinstance" = none)
    (N : ClsNs X es ys) (hl : ys.length ≤ 1000) (hs : starEach [.Name e pe, .Tuple es kk pt] X.env = (false, eval (.Name e pe) X.env) :: starEach [.Tuple es kk pt] X.env := by rfl) (hs2 : starEach [.Tuple es kk pt] X.env = (false, eval (.Tuple es kk pt) X.env) :: starEach [] X.env := by rfl)
    (hpl : (backTo pos (starEach [.Tuple es kk pt] X.env)).any (·.1) = false := by rfl) : PE X (.Call (.Name "isinstance" p) [.Name e pe, .Tuple es kk pt] [] pos) (tGe X W i a cls d (gIsX t ys)) := by
  refine ⟨fun pins s σ H Q I h => ?_⟩
  obtain ⟨m, env, ah, ev, ⟨hE, hR, xr, hσ⟩, q⟩ := h
  obtain ⟨h1, h2, b, h3, q⟩ := gIsX_post q
  obtain ⟨C, rfl, hxd, hA, hC, hall⟩ := isX_read T xr h1 h2 h3
  obtain ⟨cs, us, hpa, hcs, hk, hlen⟩ := cls_all T hC N b h3 hall
  have P := pe_callB (pos := pos) (p := p) (call_isX E hA) hg hm (by decide +kernel) (pa_cons (pe_var (pos := pe) hN hv hed hec) (pa_cons (pe_tup (x1 := kk) (pos := pt) hpa) pa_nil hs2) hs) (by decide) (by decide) hs hpl
  refine P.run pins s σ H Q I ⟨_, hσ, by rw [hlen]; exact lim_line (by omega), fun tp htp => ⟨hxd.imp id fun ⟨dd, fs, q1, q2⟩ => ⟨dd, fs, q1, by rw [upd_ne (ne_of_none q2 htp)]; exact q2⟩, .inr ⟨tp, cs, us, b, rfl, upd_same, hcs, hk, ?_⟩⟩⟩
  exact q m _ _ (Ext.new htp) (hR.new htp) (.bl b)

variable {e e2 : Expr} {rest : List Expr} {f g : EV → GE} {t u : EV → GT} {pos : Pos}
theorem hE_step {β : Type} {m : MM} {H : Hp} {σ : L2.St} {env : Env} {ah : AH} {ev : EV} {k : AV → AH → Res β} {P : β → AH → Prop} {E : EV → AH → Prop} {Q : VK} (hS : hSt X i a cls d m H σ env ah ev) (h : (rb (f ev env ah) k).post P E)
    (hx : ∀ e ah1, E e ah1 → PX X.K X.mg m H (fun c d H' => W c d σ H') e ah1)
    (hk : ∀ v ah1 m1 H1 x, Ext m H m1 H1 → hSt X i a cls d m1 H1 σ env ah1 ev → VR X.K m1 H1 v x → (k v ah1).post P E → Q x H1) : tGe X W i a cls d f σ H Q := by
  refine ⟨m, env, ah, ev, hS, ?_⟩
  cases q : f ev env ah with
  | ok v ah1 =>
    rw [q] at h
    exact fun m1 H1 x e1 r1 v1 => hk v ah1 m1 H1 x e1 (hS.mono e1 r1) v1 h
  | exc x ah1 => rw [q] at h; exact hx x ah1 h
  | bad => rw [q] at h; exact h
theorem hT_step {β : Type} {m : MM} {H : Hp} {σ : L2.St} {env : Env} {ah : AH} {ev : EV} {k : Bool → AH → Res β} {P : β → AH → Prop} {E : EV → AH → Prop} {Q : Bool → Hp → Prop} (hS : hSt X i a cls d m H σ env ah ev) (h : (rb (t ev env ah) k).post P E)
    (hx : ∀ e ah1, E e ah1 → PX X.K X.mg m H (fun c d H' => W c d σ H') e ah1)
    (hk : ∀ v ah1 m1 H1, Ext m H m1 H1 → hSt X i a cls d m1 H1 σ env ah1 ev → (k v ah1).post P E → Q v H1) : tGTe X W i a cls d t σ H Q := by
  refine ⟨m, env, ah, ev, hS, ?_⟩
  cases q : t ev env ah with
  | ok v ah1 =>
    rw [q] at h
    exact fun m1 H1 e1 r1 => hk v ah1 m1 H1 e1 (hS.mono e1 r1) h
  | exc x ah1 => rw [q] at h; exact hx x ah1 h
  | bad => rw [q] at h; exact h
theorem tt_val (ha : PE X e (tGe X W i a cls d f)) (he : ∀ whole, isTrue e X.env whole = (do let v ← whole; standAt e.pos; holding [v] (truthy v)) := by intro _; rfl) : PT X e (tGTe X W i a cls d fun ev => gTB (f ev)) :=
  PT.weak (pt_val ha he) fun σ H Q h => by
    obtain ⟨m, env, ah, ev, hS, hp⟩ := h
    refine hE_step hS hp (fun _ _ h => h) fun v ah1 m1 H1 x e1 hS1 v1 hp1 => ?_
    cases v1 with
    | bl k => exact ⟨k, rfl, hp1 m1 H1 e1 hS1.2.1⟩
    | _ => exact hp1.elim
theorem tt_not (ha : PT X e (tGTe X W i a cls d t)) : PT X (.UnaryOp .Not e pos) (tGTe X W i a cls d fun ev => gNotT (t ev)) :=
  PT.weak (pt_not ha) fun σ H Q h => by
    obtain ⟨m, env, ah, ev, hS, hp⟩ := h
    exact hT_step hS hp (fun _ _ h => h) fun v ah1 m1 H1 e1 hS1 hp1 => hp1 m1 H1 e1 hS1.2.1
theorem tt_and1 (ha : PT X e (tGTe X W i a cls d t)) : PW X (.BoolOp .And [e] pos) (tGTe X W i a cls d t) := pw_and1 ha
theorem tt_or1 (ha : PT X e (tGTe X W i a cls d t)) : PW X (.BoolOp .Or [e] pos) (tGTe X W i a cls d t) := pw_or1 ha
theorem tt_and (ha : PT X e (tGTe X W i a cls d t)) (hb : PW X (.BoolOp .And (e2 :: rest) pos) (tGTe X W i a cls d u)) : PW X (.BoolOp .And (e :: e2 :: rest) pos) (tGTe X W i a cls d fun ev => gAndT (t ev) (u ev)) :=
  PW.weak (pw_and ha hb) fun σ H Q h => by
    obtain ⟨m, env, ah, ev, hS, hp⟩ := h
    refine hT_step hS hp (fun _ _ h => h) fun v ah1 m1 H1 e1 hS1 hp1 => ?_
    cases v with
    | true => exact iteT ⟨m1, env, ah1, ev, hS1, Res.post_imp hp1 (fun _ _ _ h => PB.mono e1 h) fun _ _ h => PX.mono e1 h⟩
    | false => exact iteF (hp1 m1 H1 e1 hS1.2.1)
theorem tt_or (ha : PT X e (tGTe X W i a cls d t)) (hb : PW X (.BoolOp .Or (e2 :: rest) pos) (tGTe X W i a cls d u)) : PW X (.BoolOp .Or (e :: e2 :: rest) pos) (tGTe X W i a cls d fun ev => gOrT (t ev) (u ev)) :=
  PW.weak (pw_or ha hb) fun σ H Q h => by
    obtain ⟨m, env, ah, ev, hS, hp⟩ := h
    refine hT_step hS hp (fun _ _ h => h) fun v ah1 m1 H1 e1 hS1 hp1 => ?_
    cases v with
    | true => exact iteT (hp1 m1 H1 e1 hS1.2.1)
    | false => exact iteF ⟨m1, env, ah1, ev, hS1, Res.post_imp hp1 (fun _ _ _ h => PB.mono e1 h) fun _ _ h => PX.mono e1 h⟩
variable {st : Stmt} {sts sts' : List Stmt} {fs gs : EV → GS}
theorem sPostE.mono {m m1 : MM} {H H1 : Hp} {D : Ends} {r : SRes} (e : Ext m H m1 H1) (h : sPostE X W i a m H D r) : sPostE X W i a m1 H1 D r := by
  cases r with
  | nx env ah => exact fun m' H' σ' e' => h m' H' σ' (e.trans e')
  | rt v ah => exact sPost.mono (X := X) (W := W) (r := .rt v ah) e h
  | bk v ah => exact sPost.mono (X := X) (W := W) (r := .bk v ah) e h
  | ct v ah => exact sPost.mono (X := X) (W := W) (r := .ct v ah) e h
  | exc ev env ah => exact sPost.mono (X := X) (W := W) (D := D) (r := .exc ev env ah) e h
  | bad => exact h
theorem hSE {m : MM} {H : Hp} {σ : L2.St} {env : Env} {ah : AH} {ev : EV} {k : AV → AH → SRes} {D : Ends} {Q : VK} (hS : hSt X i a cls d m H σ env ah ev) (h : sPostE X W i a m H D (sb (f ev env ah) env k))
    (hk : ∀ v ah1 m1 H1 x, Ext m H m1 H1 → hSt X i a cls d m1 H1 σ env ah1 ev → VR X.K m1 H1 v x → sPostE X W i a m1 H1 D (k v ah1) → Q x H1) : tGe X W i a cls d f σ H Q := by
  refine ⟨m, env, ah, ev, hS, ?_⟩
  cases q : f ev env ah with
  | ok v ah1 =>
    rw [q] at h
    exact fun m1 H1 x e1 r1 v1 => hk v ah1 m1 H1 x e1 (hS.mono e1 r1) v1 (sPostE.mono e1 h)
  | exc x ah1 =>
    rw [q] at h
    exact fun m1 H1 c d e1 r1 xr => h m1 H1 σ c d e1 r1 (hS.1.mono e1) xr
  | bad => rw [q] at h; exact h
theorem hST {m : MM} {H : Hp} {σ : L2.St} {env : Env} {ah : AH} {ev : EV} {k : Bool → AH → SRes} {D : Ends} {Q : Bool → Hp → Prop} (hS : hSt X i a cls d m H σ env ah ev) (h : sPostE X W i a m H D (sb (t ev env ah) env k))
    (hk : ∀ v ah1 m1 H1, Ext m H m1 H1 → hSt X i a cls d m1 H1 σ env ah1 ev → sPostE X W i a m1 H1 D (k v ah1) → Q v H1) : tGTe X W i a cls d t σ H Q := by
  refine ⟨m, env, ah, ev, hS, ?_⟩
  cases q : t ev env ah with
  | ok v ah1 =>
    rw [q] at h
    exact fun m1 H1 e1 r1 => hk v ah1 m1 H1 e1 (hS.mono e1 r1) (sPostE.mono e1 h)
  | exc x ah1 =>
    rw [q] at h
    exact fun m1 H1 c d e1 r1 xr => h m1 H1 σ c d e1 r1 (hS.1.mono e1) xr
  | bad => rw [q] at h; exact h
theorem tss_nil : PSs X [] (tGSe X W i a cls d fun _ => gSkip) := PSs.weak pss_nil fun D σ H ⟨m, env, ah, ev, hS, hp⟩ => hp m H σ (Ext.refl m H) hS.2.1 hS.1 hS.2.2.2
theorem tss_one (h : PS X st (tGSe X W i a cls d fs)) : PSs X [st] (tGSe X W i a cls d fs) := pss_one h
theorem tss_cons {sts : List Stmt} (h1 : PS X st (tGSe X W i a cls d fs)) (h2 : PSs X sts (tGSe X W i a cls d gs)) : PSs X (st :: sts) (tGSe X W i a cls d fun ev => gSeq (fs ev) (gs ev)) :=
  PSs.weak (pss_cons h1 h2) fun D σ H hh => by
    obtain ⟨m, env, ah, ev, hS, hp⟩ := hh
    refine ⟨m, env, ah, ev, hS, ?_⟩
    have hp : sPostE X W i a m H D ((fs ev env ah).andThen (gs ev)) := hp
    cases q : fs ev env ah with
    | nx env1 ah1 =>
      rw [q] at hp
      intro m' H' σ' e1 r1 E1 hs
      exact ⟨m', env1, ah1, ev, ⟨E1, r1, hS.2.2.1.mono e1, hs⟩, sPostE.mono e1 hp⟩
    | rt v ah1 => rw [q] at hp; exact hp
    | bk env1 ah1 => rw [q] at hp; exact hp
    | ct env1 ah1 => rw [q] at hp; exact hp
    | exc ev env1 ah1 => rw [q] at hp; exact hp
    | bad => rw [q] at hp; exact hp
theorem ts_if (hc : PT X e (tGTe X W i a cls d t)) (ha : PSs X sts (tGSe X W i a cls d fs)) (hb : PSs X sts' (tGSe X W i a cls d gs)) : PS X (.If e sts sts' pos) (tGSe X W i a cls d fun ev => gIf (t ev) (fs ev) (gs ev)) :=
  PS.weak (ps_if hc ha hb) fun D σ H hh => by
    obtain ⟨m, env, ah, ev, hS, hp⟩ := hh
    refine hST hS hp fun v ah1 m1 H1 e1 hS1 hp1 => ?_
    cases v with
    | true => exact iteT ⟨m1, env, ah1, ev, hS1, hp1⟩
    | false => exact iteF ⟨m1, env, ah1, ev, hS1, hp1⟩
theorem ts_ret (ha : PE X e (tGe X W i a cls d f)) : PS X (.Return (some e) pos) (tGSe X W i a cls d fun ev => gRet (f ev)) :=
  PS.weak (ps_ret ha) fun D σ H hh => by
    obtain ⟨m, env, ah, ev, hS, hp⟩ := hh
    exact hSE hS hp fun v ah1 m1 H1 x e1 hS1 v1 hp1 => PQ.here hp1 hS1.2.1 v1
theorem ts_drop (ha : PE X e (tGe X W i a cls d f)) (hs : swapsWith e none pos.line X.env = pure false := by rfl) : PS X (.Expr e pos) (tGSe X W i a cls d fun ev => gDrop (f ev)) :=
  PS.weak (ps_expr ha hs) fun D σ H hh => by
    obtain ⟨m, env, ah, ev, hS, hp⟩ := hh
    exact hSE hS hp fun v ah1 m1 H1 x e1 hS1 v1 hp1 => hp1 m1 H1 σ (Ext.refl _ _) hS1.2.1 hS1.1 hS1.2.2.2
theorem ts_set {j : Nat} {x : Str} {pos' : Pos} (hj : i ≠ j) (hN : X.N.Nodup) (hi : X.N[j]? = some x) (hx : Loc X.env.scope x) (ha : PE X e (tGe X W i a cls d f)) (hs : swapsWith e (some (.Name x pos')) pos.line X.env = pure false := by rfl) (hf : X.fn x = true ∨ X.env.scope.names.lookup x = some .local := by first | exact .inl rfl | exact .inr rfl) :
    PS X (.Assign [.Name x pos'] e pos) (tGSe X W i a cls d fun ev => gSet j (f ev)) :=
  PS.weak (ps_set hN hi hx ha hs hf) fun D σ H hh => by
    obtain ⟨m, env, ah, ev, hS, hp⟩ := hh
    exact hSE hS hp fun v ah1 m1 H1 x e1 hS1 v1 hp1 => hp1 m1 H1 _ (Ext.refl _ _) hS1.2.1 (hS1.1.set j v1) (by rw [List.getElem?_set_ne (Ne.symm hj)]; exact hS1.2.2.2)
end

abbrev DenE := EV → AH → Res AV
/-- without an error of its own -/
structure FnE (P : Program) (w : World) (K : PySem.W.Frag) (mg : Str → Option Value) (base : Heap) (k : Nat) (f : Addr) (fd : FuncData) (x : Str) (den : DenE) : Prop where
  run : ∀ (A : Around) (outer : List PySem.Env) (s : Shared) (H : Hp) (us : List Value) (m : MM) (ah : AH) (ev : EV) (p : Addr × Obj) (cls : Value) (d : Option Addr) (Q : VK) (E : XK), RoomH k A → PinOk outer H s p → Zc cls d p.2 → (∃ vs, p.2.data = .fields vs) → Env0 P w K mg base A outer s H → BindsTo s fd ⟨us, []⟩ ([x].zip us) → us = [.ref p.1] →
    Rel K m ah H → XR K mg m H ev cls d → (den ev ah).post (PQ K m H Q) (fun _ _ => False) → codeAny (model P w) A (.call (.ref f) ⟨us, []⟩) (CR (L2.CX P w) outer P w H s Q E) s
def FnDE (P : Program) (w : World) (K : PySem.W.Frag) (mg : Str → Option Value) (base : Heap) (y : Str) (k : Nat) (den : DenE) : Prop :=
  ∃ (f : Addr) (fd : FuncData) (x : Str), mg y = some (.ref f) ∧ PySem.W.keepIn K (.ref f) = true ∧ Binds K fd [x] [] ∧ FnE P w K mg base k f fd x den
def gFunE (n : Nat) (body : EV → GS) : DenE := fun ev ah => match body ev (List.replicate n none) ah with
  | .rt v ah1 => .ok v ah1
  | .nx _ ah1 => .ok .non ah1
  | _ => .bad
section
variable {P : Program} {w : World} {K : PySem.W.Frag} {mg : Str → Option Value} {base : Heap}
theorem fnE_of {x qual : Str} {st : Stmt} {f : Addr} {fd : FuncData} {N : List Str} {y : Str} {k : Nat} {body : EV → GS} (F : Fun K x qual st f fd) (S : FnScope N [y] (defScope st))
    (hbody : ∀ (cdv : Value) (A : Around) (outer : List PySem.Env) (s : Shared) (H : Hp) (E : XK) (p : Addr × Obj) (cls : Value) (d : Option Addr), ErrIn (cxH (L2.CX P w) P w K mg base N qual (defScope st) f cdv A outer s H E p) p.1 cls d →
      PSs (cxH (L2.CX P w) P w K mg base N qual (defScope st) f cdv A outer s H E p) (defBody st) (tGSe (cxH (L2.CX P w) P w K mg base N qual (defScope st) f cdv A outer s H E p) (fun _ _ _ _ => False) 0 p.1 cls d body)) :
    FnE P w K mg base (k + 1) f fd y (gFunE N.length body) := by
  obtain ⟨oc, od, kV, doc, pm, an, cdv, ct, osl, rfl, lk, hcd⟩ := F.ex
  refine ⟨fun A outer s H us m ah ev p cls d Q E hr hpin hz hf e0 hb hu hR xr hp => ?_⟩
  subst hu
  have same : ∀ b o, base.get? b = some o → s.heap.get? b = some o := fun b o z => (e0.bs b o z).1
  have KX : K.In s.heap := e0.mod.kin.keeps same
  have lim : s.heap.NoLimit := e0.mod.nolimit.keeps same
  have r : Vals [V.ref p.1] [Value.ref p.1] := .cons rfl .nil
  refine codeAny_call_function hr.depth (KX _ _ lk) rfl S.co S.gen rfl (PySem.W.codeRec_of KX hcd) (hb _ _ _ _ ?_)
  refine wpAny_newFunctionEnv_cells S.kind (fun ⟨n, v⟩ hy => ?_) fun env he s1 ic => ?_
  · rcases S.par n (List.of_mem_zip hy).1 with q | q
    · exact .inl q
    · exact .inr ⟨q, PySem.W.cellsFrom_some _ _ _ (.inl q)⟩
  · subst he
    refine ⟨lim.keeps ic.toInCall.keep, codeAny_func ?_⟩
    have ht := hbody cdv A outer s H E p cls d ⟨⟨p.2, List.mem_singleton.mpr rfl, hz, hf⟩⟩
    have I := inv_startH (CX := L2.CX P w) (E := E) S hpin e0 (vs := [V.ref p.1]) rfl r ic
    let D : Ends := { nx := fun _ H' => Q .non H', rt := Q }
    have hN : 0 < N.length := by
      have := congrArg List.length S.pre
      rw [List.length_take] at this
      have h1 : ([y] : List Str).length = 1 := rfl
      omega
    have hq : tGSe (cxH (L2.CX P w) P w K mg base N qual (defScope st) f cdv A outer s H E p) (fun _ _ _ _ => False) 0 p.1 cls d body D (L2.start N [V.ref p.1]) H := by
      refine ⟨m, List.replicate N.length none, ah, ev, ⟨⟨?_, fun i v q => ?_⟩, hR, xr, ?_⟩, ?_⟩
      · unfold L2.start; simp; omega
      · rw [List.getElem?_replicate] at q
        split at q <;> cases q
      · unfold L2.start; rfl
      · unfold gFunE at hp
        cases q : body ev (List.replicate N.length none) ah with
        | rt v ah1 => rw [q] at hp; exact hp
        | nx env1 ah1 => rw [q] at hp; exact fun m' H' σ' e1 r1 _ _ => hp m' H' .non e1 r1 .non
        | exc ev env1 ah1 => rw [q] at hp; exact hp.elim
        | bk _ _ => rw [q] at hp; exact hp.elim
        | ct _ _ => rw [q] at hp; exact hp.elim
        | bad => rw [q] at hp; exact hp.elim
    refine wpAny_mono (ht.run [] s1 (L2.start N [V.ref p.1]) H _ I hq) (fun fl s' hs => ?_) fun ev s' hs => hs
    match fl, hs with
    | .ret u, ⟨v, σ', H', J, rv, q⟩ => exact ⟨v, H', J.os, J.bare, J.base, J.hok, rv, q⟩
    | .next, ⟨σ', H', J, q⟩ => exact ⟨V.non, H', J.os, J.bare, J.base, J.hok, rfl, q⟩
    | .brk, ⟨_, _, _, q⟩ => exact False.elim q
    | .cont, ⟨_, _, _, q⟩ => exact False.elim q
theorem FnDE.mono {y : Str} {k j : Nat} {den : DenE} (F : FnDE P w K mg base y k den) (h : k ≤ j) : FnDE P w K mg base y j den := by
  obtain ⟨f, fd, x, h1, h2, h3, h4⟩ := F
  exact ⟨f, fd, x, h1, h2, h3, ⟨fun A outer s H us m ah ev p cls d Q E hr => h4.run A outer s H us m ah ev p cls d Q E (hr.mono h)⟩⟩
end
section
variable {X : Cx} {i : Nat} {a : Addr} {cls : Value} {d : Option Addr}
noncomputable def gCallE (den : DenE) : EV → GE := fun ev _ ah => noX (den ev ah)
theorem te_call {y e : Str} {p pe pos : Pos} {k : Nat} {den : DenE} (F : FnDE X.prog X.w X.K X.mg X.base y k den) (hr : RoomH k X.A) (E : ErrIn X a cls d) (hg : Gl X y) (hN : X.N[i]? = some e) (hv : Vis X.env.scope e) (hed : (e == ("__debug__" : Str)) = false) (hec : (e == ("__classdict__" : Str)) = false)
    (hdb : (y == ("__debug__" : Str)) = false := by decide) (hs : starEach [.Name e pe] X.env = (false, eval (.Name e pe) X.env) :: starEach [] X.env := by rfl) (hpl : (backTo pos (starEach [] X.env)).any (·.1) = false := by rfl) :
    PE X (.Call (.Name y p) [.Name e pe] [] pos) (tGe X (fun _ _ _ _ => False) i a cls d (gCallE den)) := by
  obtain ⟨f, fd, x, hm, hk, hb, F⟩ := F
  obtain ⟨oe, hp, hz, hf⟩ := E.ex
  refine ⟨fun pins s σ H Q I h => ?_⟩
  obtain ⟨m, env, ah, ev, ⟨hE, hR, xr, hσ⟩, q⟩ := h
  refine wpAny_Call_Name_kw (ld_glob I hg hm ?_ hdb)
  have ha := pa_cons (pe_var (X := X) (pos := pe) hN hv hed hec) pa_nil hs
  refine PySem.W.callWith_K (h₀ := X.base) I.ok.mod.kin hk (thn (ha.run pos pins s σ H (fun vs H1 => vs = [.ref a] ∧ H1 = H) I ⟨_, hσ, rfl, rfl⟩) fun us s1 hq => ?_) hs hpl
  obtain ⟨vs, H1, I1, r, rfl, rfl⟩ := hq
  refine ⟨I1.kIn, ?_⟩
  cases r with
  | cons r1 r2 =>
    cases r2
    cases r1
    have P1 := I1.pin (a, oe) (List.mem_append_left _ hp)
    have hpin : PinOk X.stack H1 s1 (a, oe) := ⟨P1.1, P1.2.1, fun hm => (List.mem_cons.mp (I1.stkSub a hm)).elim P1.2.2.1 P1.2.2.2.1, P1.2.2.2.2⟩
    have b := hb s1 [.ref a] I1.kIn rfl
    rw [List.append_nil] at b
    have go := F.run X.A X.stack s1 H1 [.ref a] m ah ev (a, oe) cls d Q (fun _ _ _ => False) hr hpin hz hf I1.env0 b rfl hR xr (by
      exact noX_post q)
    refine wpAny_call (codeAny_mono go fun res s' hq => ?_)
    match res, hq with
    | .error ev, hq => obtain ⟨_, _, _, _, _, _, _, _, _, _, _, _, z⟩ := hq; exact z.elim
    | .ok (.ret u), hq => exact I1.after hq
end

def SRes.clr (i : Nat) : SRes → SRes
  | .nx env ah => .nx (env.set i none) ah
  | .rt v ah => .rt v ah
  | .bk env ah => .bk (env.set i none) ah
  | .ct env ah => .ct (env.set i none) ah
  | _ => .bad
def gTry (f : GS) (t : RelTab) (c : Str) (i : Nat) (fs : EV → GS) : GS := fun env ah => match f env ah with
  | .exc ev env1 ah1 => match relO t ev.cls c with
    | some true => if i < env1.length then (fs ev (env1.set i none) ah1).clr i else .bad
    | some false => .exc ev env1 ah1
    | none => .bad
  | r => r
theorem EnvR.unsetAny {K : PySem.W.Frag} {m : MM} {H : Hp} {env : Env} {σ : L2.St} (h : EnvR K m H env σ) (i : Nat) (x : Option V) : EnvR K m H (env.set i none) (σ.set i x) := by
  refine ⟨by rw [List.length_set, List.length_set]; exact h.1, fun j w q => ?_⟩
  by_cases hj : i = j
  · subst hj
    by_cases hl : i < env.length
    · rw [List.getElem?_set_self hl] at q; cases q
    · rw [List.getElem?_eq_none (by rw [List.length_set]; omega)] at q; cases q
  · rw [List.getElem?_set_ne hj] at q
    rw [List.getElem?_set_ne hj]
    exact h.2 j w q
section
variable {X : Cx} {W : WX}
theorem gs_try {t : RelTab} {c n : Str} {i k : Nat} {C : Addr} {body suite : List Stmt} {b₀ : Stmt} {np pos pos' : Pos} {f : GS} {fs : EV → GS} (hx : XG X W k) (hs : X.stack = X.env :: X.outer) (hf : X.env.frame = some X.env.locals) (hN : X.N.Nodup) (hi : X.N[i]? = some n) (hln : X.env.kindOf n = some .local) (hcg : Gl X c) (hcd : (c == ("__debug__" : Str)) = false) (T : RelT X.K X.mg t) (hC : X.mg c = some (.ref C))
    (hb : ∀ (W' : WX) (pn : List (Addr × Obj)) (xe : Value → Shared → Prop), XG (X.tr pn xe) W' k → PSs (X.tr pn xe) body (tGS X W' f))
    (hsu : ∀ (a : Addr) (oe : Obj) (cls : Value) (d : Option Addr) (pn : List (Addr × Obj)), ErrIn (X.suite a ((a, oe) :: pn)) a cls d → RoomH k (X.suite a ((a, oe) :: pn)).A → PSs (X.suite a ((a, oe) :: pn)) (b₀ :: suite) (tGSe X (fun _ _ _ _ => False) i a cls d fs)) :
    PS X (.Try body [.ExceptHandler (some (.Name c np)) (some n) (b₀ :: suite) pos'] [] [] pos) (tGS X W (gTry f t c i fs)) := by
  refine PS.weak (ps_try_as (c := .ref C) (tb := fun W' => tGS X W' f) (ts := fun a cls d => tGSe X (fun _ _ _ _ => False) i a cls d fs) (Wout := W) hs hf hN hi hln ⟨hcg, hcd, .inl hC⟩ hx.tk (fun W' pn xe tk po => hb W' pn xe ⟨hx.room, hx.gd, hx.calm, tk, po⟩)
    (fun a oe cls d pn hz hf => hsu a oe cls d pn ⟨oe, List.mem_cons_self, hz, hf⟩ ⟨hx.room.dp, hx.room.un⟩)) fun D σ H h => ?_
  obtain ⟨m, env, ah, hE, hR, hp⟩ := h
  refine ⟨m, env, ah, hE, hR, ?_⟩
  unfold gTry at hp
  cases q : f env ah with
  | nx env1 ah1 => rw [q] at hp; exact hp
  | rt v ah1 => rw [q] at hp; exact hp
  | bk env1 ah1 => rw [q] at hp; exact hp
  | ct env1 ah1 => rw [q] at hp; exact hp
  | bad => rw [q] at hp; exact hp
  | exc ev env1 ah1 =>
    rw [q] at hp
    intro m' H' σ' cls d e1 r1 E1 xr
    have hp : sPost X W m H D (match relO t ev.cls c with
      | some true => if i < env1.length then (fs ev (env1.set i none) ah1).clr i else .bad
      | some false => .exc ev env1 ah1
      | none => .bad) := hp
    cases qr : relO t ev.cls c with
    | none => rw [qr] at hp; exact hp.elim
    | some b =>
      rw [qr] at hp
      obtain ⟨C', hA, hD⟩ := (relO_at T qr).ex
      have hA1 : X.mg ev.cls = some (.ref C') := hA.at_
      have e2 := xr.1
      rw [hA1] at e2; cases e2
      have exm : PySem.W.exmOne X.K (.ref C') (.ref C) = some b := by
        rcases hD with ⟨D', h1, _, h2⟩ | ⟨T', h1, _⟩
        · have h1 : X.mg c = some (.ref D') := h1
          rw [hC] at h1; cases h1; exact h2
        · have h1 : X.mg c = none := h1
          rw [hC] at h1; cases h1
      refine ⟨b, exm, fun hbt a na => ?_, fun hbf => ?_⟩
      · subst hbt
        have hp : sPost X W m H D (if i < env1.length then (fs ev (env1.set i none) ah1).clr i else .bad) := hp
        split at hp
        · rename_i hil
          refine ⟨m', env1.set i none, ah1, ev, ⟨E1.unsetAny i _, r1, xr, List.getElem?_set_self (by rw [← E1.1]; exact hil)⟩, ?_⟩
          cases q2 : fs ev (env1.set i none) ah1 with
          | nx env2 ah2 =>
            rw [q2] at hp
            exact fun m2 H2 σ2 e2 r2 E2 _ => hp m2 H2 _ (e1.trans e2) r2 (E2.unsetAny i none)
          | rt v ah2 =>
            rw [q2] at hp
            exact PQ.mono e1 hp
          | bk env2 ah2 =>
            rw [q2] at hp
            exact fun m2 H2 σ2 e2 r2 E2 => hp m2 H2 _ (e1.trans e2) r2 (E2.unsetAny i none)
          | ct env2 ah2 =>
            rw [q2] at hp
            exact fun m2 H2 σ2 e2 r2 E2 => hp m2 H2 _ (e1.trans e2) r2 (E2.unsetAny i none)
          | exc _ _ _ => rw [q2] at hp; exact hp.elim
          | bad => rw [q2] at hp; exact hp.elim
        · exact hp.elim
      · subst hbf
        exact hp m' H' σ' _ d e1 r1 E1 xr
end
end G
namespace G
open PySem PySem.Spec PyProof.Rows L2
set_option autoImplicit false
def joinA (s : List Nat) : List (List Nat) → List Nat
  | [] => []
  | [t] => t
  | t :: ts => t ++ s ++ joinA s ts
theorem join_mk (s : List Nat) : ∀ ts : List (List Nat), Str.join (mkS s) (ts.map mkS) = mkS (joinA s ts)
  | [] => rfl
  | [t] => rfl
  | t :: u :: ts => by
    have ih := join_mk s (u :: ts)
    show mkS t ++ mkS s ++ Str.join (mkS s) ((u :: ts).map mkS) = mkS (t ++ s ++ joinA s (u :: ts))
    rw [ih, mkS_app, mkS_app]
def seqA : AV → Option (List AV)
  | .lst l => some l
  | .tup l => some l
  | _ => none
def joinO (s : List Nat) : O1 := fun ah w => match (seqA (dr ah w)).bind strsA with
  | some ss => if (ss.map List.length).sum + ss.length * s.length ≤ 1000000 then some (.str (joinA s ss)) else none
  | none => none
def gJoin (a b : GE) : GE := fun env ah => rb (a env ah) fun v ah1 => match v with
  | .str s => rb (b env ah1) fun w ah2 => lift1 (joinO s ah2 w) ah2
  | _ => .bad
theorem join_len (ss : List (List Nat)) : ((ss.map mkS).map (·.length)).sum = (ss.map List.length).sum := by
  rw [List.map_map]; rfl
theorem seq_of {X : Cx} {m : MM} {H : Hp} {ah : AH} {w : AV} {y : V} {l : List AV} (r : Rel X.K m ah H) (h : VR X.K m H w y) (e : seqA (dr ah w) = some l) : ∃ p vs, y = .ref p ∧ (SqL X.K H p vs ∨ SqT X.K H p vs) ∧ VRs X.K m H l vs := by
  cases q : dr ah w <;> rw [q] at e <;> cases e
  · obtain ⟨p, vs, e1, h1, h2⟩ := VR.tupl r h q
    exact ⟨p, vs, e1, .inr h1, h2⟩
  · obtain ⟨p, vs, e1, h1, h2⟩ := VR.list r h q
    exact ⟨p, vs, e1, .inl (SqL.of h1), h2⟩
section
variable {X : Cx} {W : WX} {a b : Expr} {fa fb : GE} {apos pos : Pos}
theorem ge_join (ha : PE X a (tG X W fa)) (hb : PE X b (tG X W fb)) (hs : starEach [b] X.env = [(false, eval b X.env)] := by rfl) (hbase : attributeBase a "join" X.env (eval a X.env) = eval a X.env := by rfl) (hline : (apos.endLine == pos.line) = true := by rfl) :
    PE X (.Call (.Attribute a "join" apos) [b] [] pos) (tG X W (gJoin fa fb)) :=
  PE.weak (pe_join ha hb hs hbase hline) fun σ H Q h => by
    obtain ⟨m, env, ah, hE, hR, hp⟩ := h
    refine tG_step hE hR hp (fun _ _ h => h) fun v ah1 m1 H1 x e1 r1 v1 hp1 => ?_
    cases v1 with
    | str s =>
      refine ⟨⟨_, rfl⟩, ?_⟩
      refine tG_step (hE.mono e1) r1 (Res.post_imp hp1 (fun _ _ _ h => PQ.mono e1 h) (fun _ _ h => PX.mono e1 h)) (fun _ _ h => h) fun w ah2 m2 H2 y e2 r2 v2 hp2 => ?_
      have hp2 : (lift1 (joinO s ah2 w) ah2).post _ _ := hp2
      unfold joinO at hp2
      cases hb : (seqA (dr ah2 w)).bind strsA with
      | none => rw [hb] at hp2; exact hp2.elim
      | some ss =>
        rw [hb] at hp2
        obtain ⟨l, hl, hss⟩ := Option.bind_eq_some_iff.mp hb
        obtain ⟨p, vs, rfl, h1, h2⟩ := seq_of r2 v2 hl
        have hp2 : (lift1 (if (ss.map List.length).sum + ss.length * s.length ≤ 1000000 then some (AV.str (joinA s ss)) else none) ah2).post _ _ := hp2
        split at hp2
        · rename_i hz
          have e := strs_vs h2 hss
          subst e
          refine ⟨_, p, _, rfl, rfl, h1, ?_, ?_⟩
          · rw [join_len, List.length_map, mkS_length]; omega
          · rw [show Txt.join (mkS s) (ss.map mkS) = Str.join (mkS s) (ss.map mkS) from StrLaws.glued_eq_join _ _, join_mk]
            exact hp2 m2 H2 _ e2 r2 (.str _)
        · exact hp2.elim
    | _ => exact hp1.elim
end
end G
namespace SG
open PySem PySem.Spec PyProof.Rows L2
set_option autoImplicit false
/-- a kind of keys that can be read off the values, of those that C is true of -/
structure RdK (P : Program) (w : World) (K : Type) [DecidableEq K] where
  knd : PySem.KeyKind P w K
  kf : Value → K
  C : Value → Prop
  isC : ∀ v, C v → knd.is (kf v) v = true
  scan : ∀ v, C v → v.scannable = true
section
variable {P : Program} {w : World} {K : Type} [DecidableEq K] (R : RdK P w K)
abbrev RdK.ks (es : List (Int × Value)) : List K := es.map fun e => R.kf e.2
def RdK.good (e : Int × Value) : Prop := R.C e.2 ∧ e.1 = R.knd.hash (R.kf e.2)
/-- a set of keys that can be walked -/
structure SetG' (o : Obj) (es : Array (Int × Value)) (ep : Nat) (t : SetTable) (S : K → Bool) (n : Nat) : Prop where
  ex : o.ExactSet
  dat : o.data = .set es ep t
  gd : ∀ e ∈ es.toList, R.good e
  nd : (R.ks es.toList).Nodup
  mem : ∀ k, S k = true ↔ k ∈ R.ks es.toList
  lt : es.size < scanBound
  fit : t.fits es.size = true
  sz : es.size = n
  ris : Ris t.place.toList
  led : w.params.followText "set-order" = true ∨ t.led = true
def SetG (h : Heap) (a : Addr) (S : K → Bool) (n : Nat) : Prop := ∃ o es ep t, h.get? a = some o ∧ SetG' R o es ep t S n
variable {R}
theorem SetG.at {h h' : Heap} {a : Addr} {S : K → Bool} {n : Nat} (g : SetG R h a S n) (k : ∀ o, h.get? a = some o → h'.get? a = some o) : SetG R h' a S n := by
  obtain ⟨o, es, ep, t, ho, r⟩ := g
  exact ⟨o, es, ep, t, k o ho, r⟩
theorem SetG.congr {h : Heap} {a : Addr} {S S' : K → Bool} {n : Nat} (g : SetG R h a S n) (e : ∀ k, S' k = S k) : SetG R h a S' n := by
  have q : S' = S := funext e
  rw [q]; exact g
theorem is_iff {v : Value} (c : R.C v) (k : K) : R.knd.is k v = true ↔ R.kf v = k :=
  ⟨fun h => R.knd.inj v _ _ (R.isC v c) h, fun h => by rw [← h]; exact R.isC v c⟩
theorem elems {l : List (Int × Value)} (g : ∀ e ∈ l, R.good e) : ElemsOf R.knd l := fun e he => ⟨⟨R.kf e.2, R.isC _ (g e he).1, (g e he).2⟩, R.scan _ (g e he).1⟩
theorem mem_iff' {l : List (Int × Value)} (g : ∀ e ∈ l, R.good e) (k : K) : k ∈ R.ks l ↔ ∃ e ∈ l, R.knd.is k e.2 = true := by
  rw [RdK.ks, List.mem_map]
  exact ⟨fun ⟨e, he, q⟩ => ⟨e, he, (is_iff (g e he).1 k).2 q⟩, fun ⟨e, he, q⟩ => ⟨e, he, (is_iff (g e he).1 k).1 q⟩⟩
variable {A : Around} {E : Value → Shared → Prop} {s : Shared} {a : Addr} {S : K → Bool} {n : Nat}
/-- what is stored behind an entry more, and the table's growing -/
theorem tail {g : Bool → Sem Unit} (hg : ∀ (b : Bool) (s₁ : Shared) (Q' : Unit → Shared → Prop), Q' () s₁ → wpAny (model P w) A (g b) Q' E s₁)
    {o : Obj} {es : Array (Int × Value)} {ep : Nat} {t : SetTable} (ho : s.heap.get? a = some o) (hex : o.ExactSet) (hd : o.data = .set es ep t)
    {es1 : Array (Int × Value)} {t2 : SetTable} {S' : K → Bool} (g1 : ∀ e ∈ es1.toList, R.good e) (nd1 : (R.ks es1.toList).Nodup) (m1 : ∀ k, S' k = true ↔ k ∈ R.ks es1.toList)
    (hb1 : es1.size < scanBound) (hf2 : t2.fits es1.size = true) (hr : Ris t2.place.toList) (hl : w.params.followText "set-order" = true ∨ t2.led = true) {wasDummy : Bool} {Q : Option Bool → Shared → Prop}
    (hQ : ∀ h', Heap.SameBut a s.heap h' → SetG R h' a S' es1.size → Q (some true) { s with heap := h' }) :
    wpAny (model P w) A (do
        storeSet a es1 t2
        if (!wasDummy && t2.tooFull) = true then do
            g (relayAll t2 es1 (SetTable.grown es1.size)).2.2
            storeSet a (relayAll t2 es1 (SetTable.grown es1.size)).1 (relayAll t2 es1 (SetTable.grown es1.size)).2.1
            pure (some true)
          else pure (some true)) Q E s := by
  refine wpAny_bind (wpAny_storeSet_of ho hd ?_ (fits_of_scanBound hb1))
  have ho1 := L2.store_at (es' := es1) (t' := t2) ho hd
  have sb1 := Heap.SameBut.update s.heap a (Obj.putSet es1 t2)
  split
  · have pm := relayAll_perm t2 es1 (SetTable.grown es1.size)
    have hf3 := relayAll_fits t2 es1 (SetTable.grown es1.size)
    have hr3 := relayAll_ris t2 es1 (SetTable.grown es1.size)
    have hl3 := relayAll_led t2 es1 (SetTable.grown es1.size)
    generalize relayAll t2 es1 (SetTable.grown es1.size) = Z at pm hf3 hr3 hl3 ⊢
    obtain ⟨es2, t3, gave⟩ := Z
    dsimp only at pm hf3 hr3 hl3 ⊢
    have hsz : es2.size = es1.size := by rw [← Array.length_toList, pm.length_eq, Array.length_toList]
    refine wpAny_bind (hg _ _ _ ?_)
    refine wpAny_bind (wpAny_storeSet_of ho1 rfl ?_ (fits_of_scanBound (by rw [hsz]; exact hb1)))
    have pk := pm.map fun e => R.kf e.2
    exact wpAny_pure (hQ _ (sb1.trans (Heap.SameBut.update _ a _)) ⟨_, es2, _, t3, L2.store_at (es' := es2) (t' := t3) ho1 rfl,
      ⟨hex, rfl, fun e he => g1 e (pm.mem_iff.mp he), pk.nodup_iff.mpr nd1, fun k => (m1 k).trans pk.mem_iff.symm, by rw [hsz]; exact hb1, hf3, hsz, hr3, hl.imp id fun z => by rw [hl3]; exact z⟩⟩)
  · exact wpAny_pure (hQ _ sb1 ⟨_, es1, _, t2, ho1, ⟨hex, rfl, g1, nd1, m1, hb1, hf2, rfl, hr, hl⟩⟩)
theorem add {v : Value} (c : R.C v) {Q : Bool → Shared → Prop} (r : SetG R s.heap a S n) (room : n + 1 < scanBound)
    (hQ : ∀ h', Heap.SameBut a s.heap h' → SetG R h' a (fun j => S j || decide (j = R.kf v)) (if S (R.kf v) = true then n else n + 1) → Q (!S (R.kf v)) { s with heap := h' }) :
    wpAny (model P w) A (setAddHashed a v (R.knd.hash (R.kf v))) Q E s := by
  obtain ⟨o, es, ep, t, ho, r⟩ := r
  have hsc := R.scan v c
  have hkey := R.isC v c
  have hel := elems r.gd
  generalize hk : R.kf v = k at hkey hQ ⊢
  unfold setAddHashed setAddHashedIn
  refine wpAny_holding (wpAny_bind (wpAny_setState_of ho r.dat r.fit ?_))
  dsimp only
  rw [byScan_of hsc r.lt hel]
  simp only [↓reduceIte]
  unfold setAddByScan
  refine wpAny_bind ?_
  refine wpAny_bind (wpAny_rule ?_)
  refine wpAny_bind (wpAny_setScan_of hkey ho r.dat r.fit hel ?_)
  cases hfi : List.findIdx? (fun e => R.knd.is k e.2) es.toList with
  | some j =>
    dsimp only
    obtain ⟨hj, pj, _⟩ := List.findIdx?_eq_some_iff_getElem.mp hfi
    have hSk : S k = true := (r.mem k).2 ((mem_iff' r.gd k).2 ⟨es.toList[j], List.getElem_mem hj, pj⟩)
    refine wpAny_pure (wpAny_pure ?_)
    have q := hQ s.heap (Heap.SameBut.refl a s.heap) ⟨o, es, ep, t, ho, ⟨r.ex, r.dat, r.gd, r.nd, fun i => by
      rw [Bool.or_eq_true, decide_eq_true_eq, ← r.mem i]
      exact ⟨fun z => z.elim id (fun e => e ▸ hSk), .inl⟩, r.lt, r.fit, by rw [if_pos hSk]; exact r.sz, r.ris, r.led⟩⟩
    rw [hSk] at q
    exact q
  | none =>
    dsimp only
    have hnk : k ∉ R.ks es.toList := fun z => by
      obtain ⟨e, he, q⟩ := (mem_iff' r.gd k).1 z
      have c := List.findIdx?_eq_none_iff.mp hfi e he
      rw [q] at c
      cases c
    have hSk : S k = false := by
      cases q : S k with
      | false => rfl
      | true => exact absurd ((r.mem k).1 q) hnk
    have hgw : ∀ (b : Bool) {s₁ : Shared} {Q' : Unit → Shared → Prop}, Q' () s₁ → wpAny (model P w) A (match b with | true => rule "set.scan.the-table-gave-way" | false => pure ()) Q' E s₁ :=
      fun b s₁ Q' q => by cases b <;> first | exact wpAny_pure q | exact wpAny_rule q
    have pm := layNew_perm t es (R.knd.hash k) v
    have hf1 := layNew_fits t es (R.knd.hash k) v
    have hr1 := layNew_ris t es (R.knd.hash k) v r.ris
    have hl1 := layNew_led t es (R.knd.hash k) v
    generalize layNew t es (R.knd.hash k) v = Z at pm hf1 hr1 hl1 ⊢
    obtain ⟨es1, t1, wasDummy, gave⟩ := Z
    dsimp only at pm hf1 hr1 hl1 ⊢
    rw [Array.toList_push] at pm
    have pc : es1.toList.Perm ((R.knd.hash k, v) :: es.toList) := pm.trans (List.perm_append_singleton _ _)
    have pk : (R.ks es1.toList).Perm (k :: R.ks es.toList) := by
      have := pc.map fun e => R.kf e.2
      rw [List.map_cons, hk] at this
      exact this
    have g1 : ∀ e ∈ es1.toList, R.good e := fun e he => by
      rcases List.mem_cons.mp (pc.mem_iff.mp he) with z | z
      · rw [z]; exact ⟨c, by rw [← hk]⟩
      · exact r.gd e z
    have nd1 : (R.ks es1.toList).Nodup := pk.nodup_iff.mpr (List.nodup_cons.mpr ⟨hnk, r.nd⟩)
    have m1 : ∀ i, (S i || decide (i = k)) = true ↔ i ∈ R.ks es1.toList := fun i => by
      rw [Bool.or_eq_true, decide_eq_true_eq, r.mem i, pk.mem_iff, List.mem_cons]
      exact Or.comm
    have hsz : es1.size = n + 1 := by rw [← Array.length_toList, pc.length_eq, List.length_cons, Array.length_toList, r.sz]
    have hb1 : es1.size < scanBound := by rw [hsz]; exact room
    have hled : w.params.followText "set-order" = true ∨ t1.led = true := r.led.imp id fun z => by rw [hl1]; exact z
    have fin : ∀ h', Heap.SameBut a s.heap h' → SetG R h' a (fun j => S j || decide (j = k)) es1.size → Q true { s with heap := h' } := fun h' sb z => by
      have q := hQ h' sb
      rw [hSk] at q
      rw [hsz] at z
      exact q z
    refine wpAny_bind (hgw _ ?_)
    split
    · refine wpAny_bind ?_
      rw [hashByValue_scannable 8 hsc]
      refine wpAny_pure ?_
      refine tail ?_ ho r.ex r.dat g1 nd1 m1 hb1 ?_ ?_ ?_ ?_
      · intro b s₁ Q' q; cases b <;> first | exact wpAny_pure q | exact wpAny_rule q
      · first | (split <;> first | exact hf1 | exact SetTable.fits_plain_off hf1) | exact hf1
      · first | (split <;> exact hr1) | exact hr1
      · first | (split <;> exact hled) | exact hled
      · intro h' sb z; dsimp only; exact wpAny_pure (fin h' sb z)
    · refine wpAny_bind (wpAny_pure ?_)
      simp only [↓reduceIte]
      refine tail ?_ ho r.ex r.dat g1 nd1 m1 hb1 hf1 hr1 hled ?_
      · intro b s₁ Q' q; cases b <;> first | exact wpAny_pure q | exact wpAny_rule q
      · intro h' sb z; dsimp only; exact wpAny_pure (fin h' sb z)
theorem fresh_at {h : Heap} {ks : List K} (ho : h.get? a = some { cls := .type "set", dict := none, data := .set #[] 0 (.fresh 0 0 (!w.params.followText "set-order")) }) : SetG R h a (fun j => decide (j ∈ ks.take 0)) 0 :=
  ⟨_, #[], 0, _, ho, ⟨⟨rfl, rfl, rfl⟩, rfl, (fun e he => by simp at he), (by simp), (fun k => by simp), (by decide), (by rfl), rfl, List.Pairwise.nil, by
    show _ ∨ (!w.params.followText "set-order") = true
    cases w.params.followText "set-order"
    · exact .inr rfl
    · exact .inl rfl⟩⟩
theorem loop {I : Addr} {fp wr : List Addr} {G : Array GenState → Array GenState → Prop} {Pv : Nat → Value → Prop} {St : Nat → Shared → Prop} {Q : Result → Shared → Prop} {us : List Value}
    (W : WalksS P w A.in1 I fp wr G us.length Pv St) (B : Addr) (hB : B ∉ fp) (hb : us.length + 1 < scanBound) (hC : ∀ u ∈ us, R.C u) (hval : ∀ i v, Pv i v → us[i]? = some v) :
    ∀ (k i : Nat) (s : Shared), us.length - i = k → i ≤ us.length → St i s → (∃ c, c ≤ i ∧ SetG R s.heap B (fun j => decide (j ∈ (us.map R.kf).take i)) c) →
      (∀ s' c, Moved (B :: wr) G s s' → c ≤ us.length → SetG R s'.heap B (fun j => decide (j ∈ us.map R.kf)) c → Q (.ok (.ret .none)) s') →
      codeAny (model P w) A (.builtin "set.update.loop" ⟨[.ref B, .ref I], []⟩) Q s := by
  have hBw : B ∉ wr := fun h => hB (W.sub _ h)
  have hsub : ∀ b ∈ wr, b ∈ B :: wr := fun b hb => List.mem_cons_of_mem _ hb
  intro k
  induction k with
  | zero =>
    intro i s hk hi hst ⟨c, hc, hS⟩ hQ
    have hin : i = us.length := by omega
    subst hin
    refine codeAny_builtin F.entry_set_update_loop ?_
    rw [Around.under_plainId F.plain_set_update_loop _]
    show wpAny _ A.in1 (pyNext (.ref I) >>= _) _ _ s
    refine wpAny_bind (W.done s _ _ hst fun s' hm => ?_)
    show wpAny _ A.in1 (ret Value.none) _ _ s'
    rw [List.take_of_length_le (by simp)] at hS
    exact wpAny_pure (hQ s' c (hm.mono hsub) hc (hS.at fun o e => hm.heap B o hBw e))
  | succ k ih =>
    intro i s hk hi hst ⟨c, hc, hS⟩ hQ
    have hlt : i < us.length := by omega
    refine codeAny_builtin F.entry_set_update_loop ?_
    rw [Around.under_plainId F.plain_set_update_loop _]
    show wpAny _ A.in1 (pyNext (.ref I) >>= _) _ _ s
    refine wpAny_bind (W.item i s _ _ hlt hst fun v s' hP hst' hm => ?_)
    have hv := hval i v hP
    have cv := hC v (List.mem_of_getElem? hv)
    have hS' : SetG R s'.heap B (fun j => decide (j ∈ (us.map R.kf).take i)) c := hS.at fun o e => hm.heap B o hBw e
    show wpAny _ A.in1 (holding [v] (setAdd B v) >>= _) _ _ s'
    refine wpAny_bind (wpAny_holding ?_)
    unfold setAdd
    refine wpAny_holding ?_
    refine wpAny_bind (R.knd.pyHash (R.isC v cv) ?_)
    refine add (s := { s' with toks := s'.toks + 1 }) cv hS' (by omega) fun h' hsb hS2 => ?_
    have hS3 : SetG R h' B (fun j => decide (j ∈ (us.map R.kf).take (i + 1))) (if decide (R.kf v ∈ (us.map R.kf).take i) = true then c else c + 1) := hS2.congr fun j => by
      rw [List.take_add_one, List.getElem?_map, hv]
      simp [List.mem_append]
    have hc3 : (if decide (R.kf v ∈ (us.map R.kf).take i) = true then c else c + 1) ≤ i + 1 := by
      split <;> omega
    refine wpAny_pure ⟨plainId_quiet F.plain_set_update_loop _, ih (i + 1) _ (by omega) hlt (W.frame _ s' _ _ hst' (Nat.le_succ _) fun b hb o e => ?_) ⟨_, hc3, hS3⟩ fun s'' c2 hm'' hc'' hS'' => ?_⟩
    · rw [hsb.2 b (fun h : b = B => hB (by rw [← h]; exact hb))]; exact e
    · refine hQ s'' c2 (Moved.trans W.gtrans ((hm.mono hsub).then_heap (Nat.le_succ _) fun b o hb e => ?_) hm'') hc'' hS''
      rw [hsb.2 b (fun h : b = B => hb (by rw [h]; exact List.mem_cons_self))]; exact e
set_option maxHeartbeats 6400000 in
theorem of_list {l : Addr} {us : List Value} {Q : Value → Shared → Prop} (hh : A.handled = none) (hl : s.heap.IsList l us.toArray) (hC : ∀ u ∈ us, R.C u) (hb : us.length + 1 < scanBound)
    (h : ∀ (h' : Heap) (tk c : Nat), SetG R h' s.heap.objs.size (fun j => decide (j ∈ us.map R.kf)) c → c ≤ us.length → (∀ b o, s.heap.get? b = some o → h'.get? b = some o) → Q (.ref s.heap.objs.size) { s with heap := h', toks := tk }) :
    wpAny (model P w) A (call (.type "set") [.ref l]) Q E s := by
  obtain ⟨c, tl, hmro⟩ := F.called_set.mro
  have hmade := F.called_set.made
  have hsub := F.called_set.sub
  refine wpAny_call (codeAny_of_tree ?_)
  show wpAny _ _ (callAny (.type "set") _) _ _ _
  refine wpAny_pure ⟨Code.quiet_builtin _ (by decide +kernel), codeAny_builtin F.entry_type_call ?_⟩
  rw [Around.under_plain (weight_type_call_type "set" [.ref l] []) rfl]
  have h1 := F.called_set.notType
  have h2 := F.called_set.canCreate
  have hct := F.typeCall_set_1 (.ref l)
  repeat (any_goals (first | assumption | wp_step))

  refine codeAny_mono (code_set_led1 (.ref l) (E := E) (Q₁ := fun obj s₁ => obj = .ref s.heap.objs.size ∧ s₁ = { s with heap := s.heap.push { cls := .type "set", dict := none, data := .set #[] 0 (.fresh 0 0 (!w.params.followText "set-order")) } }) ⟨rfl, rfl⟩) fun r s₁ hr => ?_
  cases r with
  | error e => exact hr
  | ok fl =>
    cases fl with
    | ret obj =>
      obtain ⟨rfl, rfl⟩ := hr
      have hS : (s.heap.push { cls := .type "set", dict := none, data := .set #[] 0 (.fresh 0 0 (!w.params.followText "set-order")) }).get? s.heap.objs.size = some { cls := .type "set", dict := none, data := .set #[] 0 (.fresh 0 0 (!w.params.followText "set-order")) } := Heap.get?_push_size _ rfl
      have hT : Shared.TypeIs { s with heap := s.heap.push { cls := .type "set", dict := none, data := .set #[] 0 (.fresh 0 0 (!w.params.followText "set-order")) } } (.ref s.heap.objs.size) "set" := ⟨_, hS, rfl⟩
      have hli := F.called_set.init.lookup
      have hbi := F.called_set.init.bind (.ref s.heap.objs.size)
      repeat (any_goals (first | assumption | wp_step))

      refine codeAny_mono (codeAny_call_builtin (R := wants (fun r s₂ => r = .none ∧ ∃ h' tk c, s₂ = { s with heap := h', toks := tk } ∧ SetG R h' s.heap.objs.size (fun j => decide (j ∈ us.map R.kf)) c ∧ c ≤ us.length ∧
          (∀ b o, s.heap.get? b = some o → h'.get? b = some o)) E) F.called_set.init.plain F.entry_set_init (check_set_init_1 hT ?_)) fun r₂ s₂ hr₂ => ?_
      · obtain ⟨ol, hol, hcl, nl, hdl⟩ := hl
        obtain ⟨ocls, odict, odata, oslots⟩ := ol
        simp only at hcl hdl
        subst hcl; subst hdl
        have hol' : (s.heap.push { cls := .type "set", dict := none, data := .set #[] 0 (.fresh 0 0 (!w.params.followText "set-order")) }).get? l = some { cls := .type "list", dict := odict, data := .seq us.toArray nl, slots := oslots } := Heap.get?_push_of_some _ hol
        have hsls := F.sub_list_set
        have hslf := F.sub_list_frozenset
        have hne : (Value.type "list" == Value.type "dict") = false := by decide
        have hl1 : (s.heap.push { cls := .type "set", dict := none, data := .set #[] 0 (.fresh 0 0 (!w.params.followText "set-order")) }).IsList l us.toArray := ⟨_, hol', rfl, nl, rfl⟩
        unfold Builtin.«set.__init__» noKeywords Builtin.Frozenset.updateFrom
        generalize hPI : pyIter = PI
        wp_walk
        subst hPI

        refine wpAny_pyIter_list hl1 ?_
        refine wpAny_bind (wpAny_runValue ?_)
        have hlS : l < s.heap.objs.size := Heap.lt_size hol
        have hh3 : A.in1.in1.in1.handled = none := by simp [hh]
        have hneI : l ≠ (s.heap.push { cls := .type "set", dict := none, data := .set #[] 0 (.fresh 0 0 (!w.params.followText "set-order")) }).objs.size := by
          rw [Heap.size_push]; exact Nat.ne_of_lt (Nat.lt_succ_of_lt hlS)
        have hSf : s.heap.objs.size ∉ [(s.heap.push { cls := .type "set", dict := none, data := .set #[] 0 (.fresh 0 0 (!w.params.followText "set-order")) }).objs.size, l] := by
          rw [Heap.size_push]; simp only [List.mem_cons, List.mem_singleton, List.not_mem_nil, or_false, not_or]
          exact ⟨Nat.ne_of_lt (Nat.lt_succ_self _), Nat.ne_of_gt hlS⟩
        refine loop (us := us) ((Walks.list hh3 _ l hneI us.toArray).toS) s.heap.objs.size
          hSf hb hC (fun i v hv => by simpa using hv) (us.length - 0) 0 _ (by omega) (Nat.zero_le _)
          ⟨⟨_, Heap.get?_push_size _ rfl, rfl, rfl⟩, (hl1.push _)⟩ ?hS0 ?hR
        case hS0 =>
          exact ⟨0, Nat.le_refl 0, fresh_at (Heap.get?_push_of_some _ hS)⟩
        case hR =>
          intro s' c' hm hc' hS'
          obtain ⟨h', g2, d', tk', os'⟩ := s'
          have eg : g2 = s.gens := hm.gens
          have ed : d' = s.drawn := hm.drawn
          have eo : os' = s.os := hm.os
          subst eg; subst ed; subst eo
          show wpAny _ _ _ _ _ _
          refine wpAny_pure ?_
          show wpAny _ _ (ret Value.none) _ _ _
          refine wpAny_pure ⟨rfl, h', tk', c', rfl, hS', hc', fun b o e => ?_⟩
          have hb0 : b < s.heap.objs.size := Heap.lt_size e
          have hb1 : b ≠ s.heap.objs.size := Nat.ne_of_lt hb0
          have hb2 : b ≠ (s.heap.push { cls := .type "set", dict := none, data := .set #[] 0 (.fresh 0 0 (!w.params.followText "set-order")) }).objs.size := by
            rw [Heap.size_push]; exact Nat.ne_of_lt (Nat.lt_succ_of_lt hb0)
          exact hm.heap b o (by simp only [List.mem_cons, List.mem_singleton, List.not_mem_nil, or_false, not_or]; exact ⟨hb1, hb2⟩) (Heap.get?_push_of_some _ (Heap.get?_push_of_some _ e))

      · cases r₂ with
        | error e => exact hr₂
        | ok fl₂ =>
          cases fl₂ with
          | ret r =>
            obtain ⟨rfl, h', tk, c', rfl, hS', hc', hk'⟩ := hr₂
            repeat (any_goals (first | assumption | wp_step))
            exact h _ _ _ hS' hc' hk'
          | _ => exact hr₂.elim
    | _ => exact hr.elim
end
end SG
namespace SG
open PySem PySem.Spec PyProof.Rows L2
set_option autoImplicit false
section
variable {P : Program} {w : World} {K : Type} [DecidableEq K] {R : RdK P w K} {A : Around} {E : Value → Shared → Prop} {s : Shared} {a : Addr} {S : K → Bool} {n : Nat}
/-- a sort of what R is true of: Srt what goes in, what comes out -/
def Sorts (R : RdK P w K) (Srt : List Value → List Value → Prop) : Prop := ∀ (A : Around) (E : Value → Shared → Prop) (s : Shared) (l : Addr) (vs : List Value) (F : Fin → Shared → Prop), (∀ v ∈ vs, R.C v) → s.heap.get? l = some (seqObj "list" vs.toArray 0) → vs.length < 64 →
  (∀ out : Array Value, Srt vs out.toList → F (.done (.ret .none)) { s with heap := sortedHeap s.heap l vs out }) → wpAny (model P w) A (Builtin.«list.sort» ⟨[.ref l], []⟩) F E s
theorem sorted_of {Srt : List Value → List Value → Prop} (hS : Sorts R Srt) {Q : Value → Shared → Prop} (r : SetG R s.heap a S n) (hh : A.handled = none) (h64 : n < 64)
    (hQ : ∀ s' p (vs : List Value) (out : Array Value) (c : Nat), (∀ b o, s.heap.get? b = some o → s'.heap.get? b = some o) → s'.gens = s.gens → s'.os = s.os → s.heap.objs.size ≤ p →
      s'.heap.get? p = some (seqObj "list" out c) → Srt vs out.toList → (∀ v ∈ vs, R.C v) → (vs.map R.kf).Nodup → (∀ k, k ∈ vs.map R.kf ↔ S k = true) → vs.length = n → Q (.ref p) s') :
    wpAny (model P w) A (call (.builtin "sorted") [.ref a]) Q E s := by
  obtain ⟨o, es, ep, t, ho, r⟩ := r
  refine Calls.call_function_entry kind_sorted plain_sorted entry_sorted (args_sorted1 _) ?_
  unfold Builtin.«sorted»
  refine wpAny_bind (m := checkCount "sorted" 1 1 _) (wpAny_pure ?_)
  refine wpAny_bind (collect_set (A := A.in1) hh ⟨o, ho, r.ex.1, r.dat⟩ r.fit r.lt r.ris r.led fun s1 vs k1 hz g1 o1 pm => ?_)
  have hvl : vs.length = n := by rw [pm.length_eq, List.length_map, Array.length_toList]; exact r.sz
  have hC : ∀ v ∈ vs, R.C v := fun v hv => by
    obtain ⟨e, he, q⟩ := List.mem_map.mp (pm.mem_iff.mp hv)
    rw [← q]; exact (r.gd e he).1
  have pk : (vs.map R.kf).Perm (R.ks es.toList) := by
    have q := pm.map R.kf
    rw [List.map_map] at q
    exact q
  refine wpAny_bind (wpAny_newList ?_ (by rw [hvl, sizeLine_eq]; omega))
  have hoL : (s1.heap.push (seqObj "list" vs.toArray 0)).get? s1.heap.objs.size = some (seqObj "list" vs.toArray 0) := Heap.get?_push_size _ rfl
  refine wpAny_bind (wpAny_holding (wpAny_call_entry slot_list_sort ⟨_, hoL, rfl⟩ entry_list_sort (hS _ _ _ _ vs _ hC hoL (by rw [hvl]; exact h64) fun out a1 => ⟨_, rfl, ?_⟩) (args_list_sort _)))
  obtain ⟨c, hc⟩ := sortedHeap_at (vs := vs) (out := out) hoL
  refine wpAny_pure ⟨_, rfl, hQ _ s1.heap.objs.size vs out c (fun b u e => ?_) g1 o1 hz hc a1 hC (pk.nodup_iff.mpr r.nd) (fun k => by rw [pk.mem_iff, ← r.mem k]) hvl⟩
  have q := k1 b u e
  have hlt := Heap.lt_size q
  show (sortedHeap (s1.heap.push (seqObj "list" vs.toArray 0)) s1.heap.objs.size vs out).get? b = some u
  rw [sortedHeap_old (Nat.ne_of_lt hlt) (by rw [Heap.size_push]; exact Nat.lt_succ_of_lt hlt)]
  exact Heap.get?_push_of_some _ q
end
section
variable (P : Program) (w : World)
def sf (v : Value) : Str := match v with | .str x _ => x | _ => Str.empty
def nf (v : Value) : Int := match v with | .int i _ => i | _ => 0
def strR : RdK P w Str where
  knd := PySem.strKind P w
  kf := sf
  C := fun v => ∃ x t, v = .str x t
  isC := by rintro v ⟨x, t, rfl⟩; exact strKind_is _ _ _ _
  scan := by rintro v ⟨x, t, rfl⟩; rfl
def intR : RdK P w Int where
  knd := PySem.intKind P w
  kf := nf
  C := fun v => ∃ i t, v = .int i t
  isC := by rintro v ⟨i, t, rfl⟩; exact intKind_is _ _ _ _
  scan := by rintro v ⟨i, t, rfl⟩; rfl
theorem strs_all : ∀ (vs : List Value), (∀ v ∈ vs, ∃ x t, v = Value.str x t) → StrsAre vs (vs.map sf)
  | [], _ => .nil
  | v :: vs, h => by
    obtain ⟨x, t, rfl⟩ := h v (by simp)
    exact .cons x t (strs_all vs fun u hu => h u (by simp [hu]))
theorem ints_all : ∀ (vs : List Value), (∀ v ∈ vs, ∃ x t, v = Value.int x t) → IntsAre vs (vs.map nf)
  | [], _ => .nil
  | v :: vs, h => by
    obtain ⟨x, t, rfl⟩ := h v (by simp)
    exact .cons x t (ints_all vs fun u hu => h u (by simp [hu]))
theorem str_sorts : Sorts (strR P w) fun vs out => ∃ ss', StrsAre out ss' ∧ ss'.Perm (vs.map sf) ∧ sortedS ss' = true := by
  intro A E s l vs F hC ho h64 h
  have hS := strs_all vs hC
  refine list_sort_treeK strKind_oneLt ho hS.keysOf (fun v₁ v₂ rest e => keyKind_strs (by rw [← e]; exact hS)) h64 fun st' hp hs => ?_
  exact h _ (sorted_out_str hS hp hs)
theorem int_sorts : Sorts (intR P w) fun vs out => ∃ ss', IntsAre out ss' ∧ ss'.Perm (vs.map nf) ∧ ss'.Pairwise (· ≤ ·) := by
  intro A E s l vs F hC ho h64 h
  exact list_sort_tree ho (ints_all vs hC) h64 fun out ns' h1 h2 h3 => h _ ⟨ns', h1, h2, h3⟩
end
section
variable {X : Cx}
/-- sorted(set(a list of texts, of numbers)) -/
def tSoSet (K : PySem.W.Frag) (ta : TE) : TE := fun σ H Q => ta σ H fun x H1 =>
  (∃ (l : Addr) (ss : List Str), x = .ref l ∧ SqL K H1 l (ss.map V.str) ∧ ss.length < 63 ∧ ∀ (ys : List Str) (p : Addr), ys.Nodup → (∀ y, y ∈ ys ↔ y ∈ ss) → sortedS ys = true → H1 p = none → Q (.ref p) (upd H1 p (.lst (ys.map V.str)))) ∨
  (∃ (l : Addr) (ns : List Int), x = .ref l ∧ SqL K H1 l (ns.map V.int) ∧ ns.length < 63 ∧ ∀ (ys : List Int) (p : Addr), ys.Nodup → (∀ y, y ∈ ys ↔ y ∈ ns) → ys.Pairwise (· ≤ ·) → H1 p = none → Q (.ref p) (upd H1 p (.lst (ys.map V.int))))
theorem laid_list {pins : List (Addr × Obj)} {σ : L2.St} {H : Hp} {s s' : Shared} {p : Addr} {xs : List V} {out : Array Value} {c : Nat} (I : Inv X pins σ H s) (k : ∀ b o, s.heap.get? b = some o → s'.heap.get? b = some o) (g : s'.gens = s.gens) (o : s'.os = s.os)
    (hp : s.heap.objs.size ≤ p) (hg : s'.heap.get? p = some (seqObj "list" out c)) (hl : xs.length ≤ sizeLine) (hv : Vals xs out.toList) : H p = none ∧ Inv X pins σ (upd H p (.lst xs)) s' := by
  have hn : H p = none := I.hok.fresh hp
  have J : Inv X pins σ (upd H p (.lst xs)) { s with heap := s'.heap, gens := s'.gens, drawn := s'.drawn, toks := s'.toks } :=
    I.call (ch := []) (Un.laid k hp hn) (I.hok.laid k hp ⟨hl, out.toList, c, hv, hg⟩) (by rw [g]; exact I.bare) (fun _ z => nomatch z)
  have e : s' = { s with heap := s'.heap, gens := s'.gens, drawn := s'.drawn, toks := s'.toks } := by
    cases s'
    cases s
    cases o
    rfl
  rw [e]
  exact ⟨hn, J⟩
theorem pe_soSet {a : Expr} {ta : TE} {p p2 q pos : Pos} (hc : X.calm = true) (hg : Gl X "sorted") (hm : X.mg "sorted" = none) (hg2 : Gl X "set") (hm2 : X.mg "set" = none) (ha : PE X a ta)
    (na : starEach [a] X.env = (false, eval a X.env) :: starEach [] X.env := by rfl) : PE X (.Call (.Name "sorted" p) [.Call (.Name "set" p2) [a] [] q] [] pos) (tSoSet X.K ta) := by
  refine ⟨fun pins s σ H Q I h => ?_⟩
  refine Call_ (ld_blt I hg hm (show bootBuiltins "sorted" = some (.builtin "sorted") by decide +kernel) ?_)
  refine PyProof.Rows.callWith_builtin1 (PyProof.Rows.args_cons ?_ rfl) rfl rfl
  refine Call_ (ld_blt I hg2 hm2 boot_set ?_)
  refine PyProof.Rows.callWith_type1 (PyProof.Rows.args_cons (thn (ha.run pins s σ H _ I h) fun v s1 ⟨x, H1, I1, r1, q1⟩ => PyProof.Rows.args_nil ?_) na) na rfl
  rcases q1 with ⟨l, ss, rfl, hq, h63, q1⟩ | ⟨l, ns, rfl, hq, h63, q1⟩
  · cases r1
    obtain ⟨its, r, pl, hz⟩ := I1.list hq
    have hS := strsAre_of r
    have hlen : its.length = ss.length := by rw [← r.length, List.length_map]
    have e1 : ∀ {vs : List Value} {ss : List Str}, StrsAre vs ss → vs.map sf = ss ∧ ∀ v ∈ vs, ∃ x t, v = Value.str x t := by
      intro vs ss h
      induction h with
      | nil => exact ⟨rfl, by simp⟩
      | cons x t _ ih => exact ⟨by rw [List.map_cons, ih.1]; rfl, fun v hv => by rcases List.mem_cons.mp hv with rfl | hv; exact ⟨_, _, rfl⟩; exact ih.2 v hv⟩
    obtain ⟨ek, eC⟩ := e1 hS
    refine of_list (R := strR X.prog X.w) (I1.ok.hd hc) pl.isList eC (by unfold scanBound; omega) fun h' tk c hS' hcn k => ?_
    refine PyProof.Rows.args_nil ?_
    have I2 : Inv X pins σ H1 { s1 with heap := h', toks := tk } := I1.kept k
    refine sorted_of (str_sorts X.prog X.w) (s := { s1 with heap := h', toks := tk }) hS' (I2.ok.hd hc) (by omega) fun s' p vs out c' k' g o hp hgt ⟨ys, y1, y2, y3⟩ hC nd mem hl => ?_
    obtain ⟨hn, J⟩ := laid_list (xs := ys.map V.str) I2 k' g o hp hgt (by rw [List.length_map, y2.length_eq, List.length_map, hl, sizeLine_eq]; omega) (vals_of_strs y1)
    exact ⟨.ref p, _, J, rfl, q1 ys p (y2.nodup_iff.mpr nd) (fun y => by rw [y2.mem_iff]; exact (mem y).trans (by rw [show its.map (strR X.prog X.w).kf = ss from ek]; simp)) y3 hn⟩
  · cases r1
    obtain ⟨its, r, pl, hz⟩ := I1.list hq
    have hS := r.ints
    have hlen : its.length = ns.length := by rw [← r.length, List.length_map]
    have e1 : ∀ {vs : List Value} {ss : List Int}, IntsAre vs ss → vs.map nf = ss ∧ ∀ v ∈ vs, ∃ x t, v = Value.int x t := by
      intro vs ss h
      induction h with
      | nil => exact ⟨rfl, by simp⟩
      | cons x t _ ih => exact ⟨by rw [List.map_cons, ih.1]; rfl, fun v hv => by rcases List.mem_cons.mp hv with rfl | hv; exact ⟨_, _, rfl⟩; exact ih.2 v hv⟩
    obtain ⟨ek, eC⟩ := e1 hS
    refine of_list (R := intR X.prog X.w) (I1.ok.hd hc) pl.isList eC (by unfold scanBound; omega) fun h' tk c hS' hcn k => ?_
    refine PyProof.Rows.args_nil ?_
    have I2 : Inv X pins σ H1 { s1 with heap := h', toks := tk } := I1.kept k
    refine sorted_of (int_sorts X.prog X.w) (s := { s1 with heap := h', toks := tk }) hS' (I2.ok.hd hc) (by omega) fun s' p vs out c' k' g o hp hgt ⟨ys, y1, y2, y3⟩ hC nd mem hl => ?_
    obtain ⟨hn, J⟩ := laid_list (xs := ys.map V.int) I2 k' g o hp hgt (by rw [List.length_map, y2.length_eq, List.length_map, hl, sizeLine_eq]; omega) (vals_of_ints y1)
    exact ⟨.ref p, _, J, rfl, q1 ys p (y2.nodup_iff.mpr nd) (fun y => by rw [y2.mem_iff]; exact (mem y).trans (by rw [show its.map (intR X.prog X.w).kf = ns from ek]; simp)) y3 hn⟩
end
end SG
namespace G
open PySem PySem.Spec PyProof.Rows L2
set_option autoImplicit false
def uniqA {α : Type} [DecidableEq α] : List α → List α
  | [] => []
  | a :: l => if a ∈ l then uniqA l else a :: uniqA l
theorem mem_uniq {α : Type} [DecidableEq α] {x : α} : ∀ {l : List α}, x ∈ uniqA l ↔ x ∈ l
  | [] => Iff.rfl
  | a :: l => by
    rw [uniqA]
    split
    · rename_i h
      rw [mem_uniq, List.mem_cons]
      exact ⟨.inr, fun z => z.elim (fun e => e ▸ h) id⟩
    · rw [List.mem_cons, List.mem_cons, mem_uniq]
theorem nodup_uniq {α : Type} [DecidableEq α] : ∀ (l : List α), (uniqA l).Nodup
  | [] => List.nodup_nil
  | a :: l => by
    rw [uniqA]
    split
    · exact nodup_uniq l
    · rename_i h
      exact List.nodup_cons.mpr ⟨fun z => h (mem_uniq.mp z), nodup_uniq l⟩
theorem uniq_len {α : Type} [DecidableEq α] : ∀ (l : List α), (uniqA l).length ≤ l.length
  | [] => Nat.le_refl _
  | a :: l => by
    rw [uniqA]
    have := uniq_len l
    split <;> simp <;> omega
def sortI (l : List Int) : List Int := l.mergeSort fun a b => decide (a ≤ b)
theorem sortI_perm (l : List Int) : (sortI l).Perm l := List.mergeSort_perm l _
theorem sortI_pw (l : List Int) : (sortI l).Pairwise (· ≤ ·) := by
  have := List.pairwise_mergeSort (le := fun a b : Int => decide (a ≤ b)) (fun a b c h1 h2 => decide_eq_true (Int.le_trans (of_decide_eq_true h1) (of_decide_eq_true h2))) (fun a b => by
    rcases Int.le_total a b with h | h <;> simp [h]) l
  exact this.imp fun h => of_decide_eq_true h
def intsA : List AV → Option (List Int)
  | [] => some []
  | .int i :: l => (intsA l).map (i :: ·)
  | _ :: _ => none
theorem ints_vs {K : PySem.W.Frag} {m : MM} {H : Hp} : ∀ {l : List AV} {xs : List V} {ss : List Int}, VRs K m H l xs → intsA l = some ss → xs = ss.map V.int
  | _, _, _, .nil, h => by cases h; rfl
  | _, _, ss, .cons (v := v) (l := l) h r, e => by
    cases v <;> first | cases e | skip
    rename_i b
    have e : (intsA l).map (b :: ·) = some ss := e
    obtain ⟨bs', e1, rfl⟩ := Option.map_eq_some_iff.mp e
    cases h
    rw [ints_vs r e1]; rfl
theorem ints_vr {K : PySem.W.Frag} {m : MM} {H : Hp} (ss : List Int) : VRs K m H (ss.map AV.int) (ss.map V.int) := VRs.ints
def soSO : AH → AV → Option (List AV) := fun ah v => match dr ah v with
  | .lst l => match strsA l with
    | some ss => if ss.length < 63 then some ((sortA (uniqA ss)).map .str) else none
    | none => match intsA l with
      | some ns => if ns.length < 63 then some ((sortI (uniqA ns)).map .int) else none
      | none => none
  | _ => none
def gSoS (a : GE) : GE := fun env ah => rb (a env ah) fun v ah1 => match soSO ah1 v with
  | some l => .ok (.lst l) ah1
  | none => .bad
def gSoSH (a : GE) : GE := fun env ah => rb (a env ah) fun v ah1 => match soSO ah1 v with
  | some l => .ok (.ref ah1.length) (ah1 ++ [.lst l])
  | none => .bad
theorem mkS_nodup {l : List (List Nat)} (h : l.Nodup) : (l.map mkS).Nodup := by
  induction l with
  | nil => exact List.nodup_nil
  | cons a l ih =>
    rw [List.nodup_cons] at h
    rw [List.map_cons, List.nodup_cons]
    refine ⟨fun z => ?_, ih h.2⟩
    obtain ⟨b, hb, e⟩ := List.mem_map.mp z
    rw [mkS_inj e] at hb
    exact h.1 hb
section
variable {X : Cx} {W : WX} {a : Expr} {fa : GE} {p p2 q pos : Pos}
theorem so_read {m : MM} {H : Hp} {ah : AH} {v : AV} {x : V} {l : List AV} {Q : VK} (r : Rel X.K m ah H) (hv : VR X.K m H v x) (hf : soSO ah v = some l) (hq : ∀ p vs, H p = none → (∀ m H, VRs X.K m H l vs) → Q (.ref p) (upd H p (.lst vs))) :
    (∃ (l : Addr) (ss : List Str), x = .ref l ∧ SqL X.K H l (ss.map V.str) ∧ ss.length < 63 ∧ ∀ (ys : List Str) (p : Addr), ys.Nodup → (∀ y, y ∈ ys ↔ y ∈ ss) → sortedS ys = true → H p = none → Q (.ref p) (upd H p (.lst (ys.map V.str)))) ∨
    (∃ (l : Addr) (ns : List Int), x = .ref l ∧ SqL X.K H l (ns.map V.int) ∧ ns.length < 63 ∧ ∀ (ys : List Int) (p : Addr), ys.Nodup → (∀ y, y ∈ ys ↔ y ∈ ns) → ys.Pairwise (· ≤ ·) → H p = none → Q (.ref p) (upd H p (.lst (ys.map V.int)))) := by
  unfold soSO at hf
  split at hf
  · obtain ⟨a, vs, rfl, h1, h2⟩ := VR.list r hv (by assumption)
    split at hf
    · rename_i ss hss
      split at hf
      · rename_i h63
        cases hf
        have e := strs_vs h2 hss
        subst e
        refine .inl ⟨a, ss.map mkS, rfl, SqL.of h1, by simpa using h63, fun ys p nd mem hs hn => ?_⟩
        have pm : ys.Perm ((uniqA ss).map mkS) := (List.perm_ext_iff_of_nodup nd (mkS_nodup (nodup_uniq ss))).mpr fun y => by
          rw [mem, List.mem_map, List.mem_map]
          exact ⟨fun ⟨z, hz, e⟩ => ⟨z, mem_uniq.mpr hz, e⟩, fun ⟨z, hz, e⟩ => ⟨z, mem_uniq.mp hz, e⟩⟩
        rw [sort_only pm hs]
        exact hq p _ hn fun _ _ => strs_vr _
      · cases hf
    · split at hf
      · rename_i ns hns
        split at hf
        · rename_i h63
          cases hf
          have e := ints_vs h2 hns
          subst e
          refine .inr ⟨a, ns, rfl, SqL.of h1, h63, fun ys p nd mem hs hn => ?_⟩
          have pm : ys.Perm (uniqA ns) := (List.perm_ext_iff_of_nodup nd (nodup_uniq ns)).mpr fun y => by rw [mem, mem_uniq]
          have e : ys = sortI (uniqA ns) := List.Perm.eq_of_pairwise (le := fun a b : Int => a ≤ b) (fun a b _ _ h1 h2 => Int.le_antisymm h1 h2) hs (sortI_pw _) (pm.trans (sortI_perm _).symm)
          rw [e]
          exact hq p _ hn fun _ _ => ints_vr _
        · cases hf
      · cases hf
  · cases hf
theorem ge_soS {k : Nat} (hx : XG X W k) (hg : Gl X "sorted") (hm : X.mg "sorted" = none) (hg2 : Gl X "set") (hm2 : X.mg "set" = none) (ha : PE X a (tG X W fa))
    (na : starEach [a] X.env = (false, eval a X.env) :: starEach [] X.env := by rfl) : PE X (.Call (.Name "sorted" p) [.Call (.Name "set" p2) [a] [] q] [] pos) (tG X W (gSoS fa)) :=
  PE.weak (SG.pe_soSet hx.calm hg hm hg2 hm2 ha na) fun σ H Q h => by
    obtain ⟨m, env, ah, hE, hR, hp⟩ := h
    refine tG_step hE hR hp (fun _ _ h => h) fun v ah1 m1 H1 x e1 r1 v1 hp1 => ?_
    cases e : soSO ah1 v with
    | none => simp only [e] at hp1; exact hp1.elim
    | some l =>
      simp only [e] at hp1
      exact so_read r1 v1 e fun p vs hn hv => PQ.laid (PQ.mono e1 hp1) r1 hn (VR.newL r1 hn (hv _ _))
theorem ge_soSH {k : Nat} (hx : XG X W k) (hg : Gl X "sorted") (hm : X.mg "sorted" = none) (hg2 : Gl X "set") (hm2 : X.mg "set" = none) (ha : PE X a (tG X W fa))
    (na : starEach [a] X.env = (false, eval a X.env) :: starEach [] X.env := by rfl) : PE X (.Call (.Name "sorted" p) [.Call (.Name "set" p2) [a] [] q] [] pos) (tG X W (gSoSH fa)) :=
  PE.weak (SG.pe_soSet hx.calm hg hm hg2 hm2 ha na) fun σ H Q h => by
    obtain ⟨m, env, ah, hE, hR, hp⟩ := h
    refine tG_step hE hR hp (fun _ _ h => h) fun v ah1 m1 H1 x e1 r1 v1 hp1 => ?_
    cases e : soSO ah1 v with
    | none => simp only [e] at hp1; exact hp1.elim
    | some l =>
      simp only [e] at hp1
      exact so_read r1 v1 e fun p vs hn hv => PQ.newH (PQ.mono e1 hp1) r1 (hv _ _) hn
end
end G
namespace G
open PySem PySem.Spec PyProof.Rows L2
set_option autoImplicit false
abbrev GP := Env → AH → Res (List (AK × AV))
def gPs : List (GE × GE) → GP
  | [] => fun _ ah => .ok [] ah
  | (k, v) :: r => fun env ah => rb (k env ah) fun kv ah1 => rb (v env ah1) fun vv ah2 => match keyA kv with
    | some q => rb (gPs r env ah2) fun ps ah3 => .ok ((q, vv) :: ps) ah3
    | none => .bad
def mergeA (acc : List (AK × AV)) (ps : List (AK × AV)) : List (AK × AV) := ps.foldl (fun acc kv => putA acc kv.1 kv.2) acc
def gDisp (gs : List (GE × GE)) : GE := fun env ah => rb (gPs gs env ah) fun ps ah1 => .ok (.dk (mergeA [] ps)) ah1
def gDispH (gs : List (GE × GE)) : GE := fun env ah => rb (gPs gs env ah) fun ps ah1 => .ok (.ref ah1.length) (ah1 ++ [.dk (mergeA [] ps)])
section
variable {K : PySem.W.Frag} {mg : Str → Option Value} {m m' : MM} {H H' : Hp} {p : Addr} {o : HO} {ah : AH}
theorem VRk.merge : ∀ (ps : List (AK × AV)) {kvs : List (Key × V)} {l : List (AK × AV)} {ws : List (Key × V)}, VRk K m H ps kvs → VRk K m H l ws → VRk K m H (mergeA l ps) (mergeK ws kvs) := by
  intro ps
  induction ps with
  | nil => intro kvs l ws h1 h2; cases h1; exact h2
  | cons q ps ih =>
    intro kvs l ws h1 h2
    cases h1 with
    | @cons k _ _ _ _ hv r =>
      have z := ih r (h2.put k hv)
      exact z
theorem XR.mv {e : EV} {cls : Value} {d : Option Addr} (x : Mv m H m' H') (h : XR K mg m H e cls d) : XR K mg m' H' e cls d := by
  refine ⟨h.1, h.2.imp id fun ⟨dd, fs, h0, h1, h2, h3, h4⟩ => ⟨dd, fs, h0, h1, keep_ne (x.keep _ _ h2 h3).1 (fun _ z => nomatch z), (x.keep _ _ h2 h3).2, fun f v hf => ?_⟩⟩
  obtain ⟨y, hy, r⟩ := h4 f v hf
  exact ⟨y, hy, r.mv x⟩
/-- a place of somebody's is laid and stays -/
def MM.own (m : MM) (p : Addr) : MM := ⟨m.l, p :: m.p⟩
theorem own_mv (hp : H p = none) : Mv m H (m.own p) (upd H p o) := by
  refine ⟨fun _ _ h => h, fun a u h hm => ?_, fun a u h _ => ?_⟩
  · have hne := ne_of_none h hp
    refine ⟨.inl (by rw [upd_ne hne]; exact h), fun z => ?_⟩
    rcases z with z | z
    · exact hm (.inl z)
    · rcases List.mem_cons.mp z with z | z
      · exact hne z
      · exact hm (.inr z)
  · rw [upd_ne (ne_of_none h hp)]; exact h
theorem own_rel (r : Rel K m ah H) (hp : H p = none) (ho : stl o = false) : Rel K (m.own p) ah (upd H p o) := by
  have hnm : p ∉ m := r.notin hp
  refine ⟨r.len, r.nd, fun n a ob h1 h2 => ?_, fun a ha => ?_⟩
  · have q := r.obj n a ob h1 h2
    obtain ⟨u, hu, _⟩ := q.some
    have q' := q.mv (own_mv (m := m) (o := o) hp)
    rw [upd_ne (ne_of_none hu hp)]
    exact q'
  · rcases List.mem_cons.mp ha with rfl | ha
    · exact ⟨fun z => hnm (.inl z), o, upd_same, ho⟩
    · obtain ⟨h1, u, h2, h3⟩ := r.prot a ha
      exact ⟨h1, u, by rw [upd_ne (ne_of_none h2 hp)]; exact h2, h3⟩
theorem own_sub {m2 : MM} {H2 : Hp} (e : Ext (m.own p) (upd H p o) m2 H2) : (∃ t, m2.l = m.l ++ t) ∧ p ∈ m2.p ∧ ∀ a, a ∈ m.p → a ∈ m2.p := by
  obtain ⟨t, q, e1⟩ := e.pre
  rw [e1]
  exact ⟨⟨t, rfl⟩, List.mem_append_right _ (List.mem_cons_self ..), fun a ha => List.mem_append_right _ (List.mem_cons_of_mem _ ha)⟩
theorem own_at {m2 : MM} {H2 : Hp} (e : Ext (m.own p) (upd H p o) m2 H2) : H2 p = some o := e.hold p (List.mem_cons_self ..) o upd_same
/-- what holds behind holds without it, whatever it has become -/
theorem own_ext {m2 : MM} {H2 H3 : Hp} (hp : H p = none) (ho : stl o = false) (e : Ext (m.own p) (upd H p o) m2 H2) (h3 : ∀ a, a ≠ p → H3 a = H2 a) : Ext m H ⟨m2.l, m.p⟩ H3 ∧ Mv m2 H2 ⟨m2.l, m.p⟩ H3 := by
  obtain ⟨⟨t, ht⟩, hpm, hsub⟩ := own_sub e
  have mv2 : Mv m2 H2 ⟨m2.l, m.p⟩ H3 := by
    refine ⟨fun _ _ h => h, fun a u h hm => ?_, fun a u h s => ?_⟩
    · have hne : a ≠ p := fun z => hm (.inr (by rw [z]; exact hpm))
      exact ⟨.inl (by rw [h3 a hne]; exact h), fun z => hm (z.imp id fun z => hsub a z)⟩
    · have hne : a ≠ p := fun z => by subst z; rw [own_at e] at h; cases h; rw [ho] at s; cases s
      rw [h3 a hne]; exact h
  have mv1 := own_mv (m := m) (o := o) hp
  refine ⟨⟨⟨t, [], by rw [← ht]; rfl⟩, fun a u h hm => ?_, fun a u h s => ?_, fun a ha => ?_, fun a ha u h => ?_⟩, mv2⟩
  · have hne := ne_of_none h hp
    obtain ⟨k1, k2⟩ := mv1.keep a u h hm
    have k1 := keep_upd hne h
    rcases e.keep a u k1 k2 with z | ⟨kvs, od, e1, e2⟩
    · exact .inl (by rw [h3 a hne]; exact z)
    · exact .inr ⟨kvs, od, e1, by rw [h3 a hne]; exact e2⟩
  · have hne := ne_of_none h hp
    rw [h3 a hne]
    exact e.still a u (keep_upd hne h) s
  · have : a ∈ m2 := ha.imp id fun z => hsub a z
    rcases e.fresh a this with z | z
    · rcases z with z | z
      · exact .inl (.inl z)
      · rcases List.mem_cons.mp z with rfl | z
        · exact .inr hp
        · exact .inl (.inr z)
    · by_cases q : a = p
      · subst q; exact .inr hp
      · rw [upd_ne q] at z; exact .inr z
  · have hne := ne_of_none h hp
    rw [h3 a hne]
    exact e.hold a (List.mem_cons_of_mem _ ha) u (keep_upd hne h)
where keep_upd {a : Addr} {u : HO} (hne : a ≠ p) (h : H a = some u) : upd H p o a = some u := by rw [upd_ne hne]; exact h
theorem own_relB {m2 : MM} {H2 H3 : Hp} (hp : H p = none) (ho : stl o = false) (e : Ext (m.own p) (upd H p o) m2 H2) (h3 : ∀ a, a ≠ p → H3 a = H2 a) (hn : p ∉ m) (r : Rel K m2 ah H2) : Rel K ⟨m2.l, m.p⟩ ah H3 := by
  obtain ⟨_, hpm, hsub⟩ := own_sub e
  obtain ⟨_, mv⟩ := own_ext hp ho e h3
  refine ⟨r.len, r.nd, fun n a ob h1 h2 => ?_, fun a ha => ?_⟩
  · have hne : a ≠ p := fun z => (r.prot p hpm).1 (by rw [← z]; exact List.mem_of_getElem? h1)
    rw [h3 a hne]
    exact (r.obj n a ob h1 h2).mv mv
  · obtain ⟨h1, u, h2, h4⟩ := r.prot a (hsub a ha)
    by_cases q : a = p
    · subst q
      exact absurd (.inr ha) hn
    · exact ⟨h1, u, by rw [h3 a q]; exact h2, h4⟩
/-- it becomes one of ours -/
theorem own_adopt {m2 : MM} {H2 : Hp} {l : List (AK × AV)} {kvs : List (Key × V)} (hp : H p = none) (hn : p ∉ m) (e : Ext (m.own p) (upd H p (.dK [])) m2 H2) (r : Rel K m2 ah H2) (hv : VRk K m2 H2 l kvs) :
    Ext m H ⟨m2.l ++ [p], m.p⟩ (upd H2 p (.dK kvs)) ∧ Rel K ⟨m2.l ++ [p], m.p⟩ (ah ++ [.dk l]) (upd H2 p (.dK kvs)) := by
  obtain ⟨⟨t, ht⟩, hpm, hsub⟩ := own_sub e
  have h3 : ∀ a, a ≠ p → upd H2 p (.dK kvs) a = H2 a := fun a z => upd_ne z
  obtain ⟨ex, _⟩ := own_ext hp rfl e h3
  have hpl := (r.prot p hpm).1
  have mv : Mv m2 H2 ⟨m2.l ++ [p], m.p⟩ (upd H2 p (.dK kvs)) := by
    refine ⟨fun n a h => ?_, fun a u h hm => ?_, fun a u h s => ?_⟩
    · show (m2.l ++ [p])[n]? = some a
      rw [List.getElem?_append_left (List.getElem?_eq_some_iff.mp h).1]; exact h
    · have hne : a ≠ p := fun z => hm (.inr (by rw [z]; exact hpm))
      refine ⟨.inl (by rw [h3 a hne]; exact h), fun z => ?_⟩
      rcases z with z | z
      · rcases List.mem_append.mp z with z | z
        · exact hm (.inl z)
        · simp at z; exact hne z
      · exact hm (.inr (hsub a z))
    · have hne : a ≠ p := fun z => by subst z; rw [own_at e] at h; cases h; cases s
      rw [h3 a hne]; exact h
  refine ⟨⟨⟨t ++ [p], [], by rw [ht]; simp⟩, ex.keep, ex.still, fun a ha => ?_, ex.hold⟩, ⟨by simp [r.len], ?_, fun n a ob h1 h2 => ?_, fun a ha => ?_⟩⟩
  · rcases ha with ha | ha
    · rcases List.mem_append.mp ha with ha | ha
      · exact ex.fresh a (.inl ha)
      · simp at ha; subst ha; exact .inr hp
    · exact ex.fresh a (.inr ha)
  · show (m2.l ++ [p]).Nodup
    rw [List.nodup_append]
    exact ⟨r.nd, by simp, fun a ha b hb => by simp at hb; subst hb; intro z; subst z; exact hpl ha⟩
  · have h1 : (m2.l ++ [p])[n]? = some a := h1
    by_cases q : n < m2.l.length
    · rw [List.getElem?_append_left q] at h1
      rw [List.getElem?_append_left (by rw [← r.len]; exact q)] at h2
      have hne : a ≠ p := fun z => hpl (by rw [← z]; exact List.mem_of_getElem? h1)
      rw [h3 a hne]
      exact (r.obj n a ob h1 h2).mv mv
    · have en : n = m2.l.length := by
        have := (List.getElem?_eq_some_iff.mp h1).1
        simp at this; omega
      subst en
      rw [List.getElem?_append_right (Nat.le_refl _)] at h1
      rw [r.len, List.getElem?_append_right (Nat.le_refl _)] at h2
      simp at h1 h2
      subst h1; subst h2
      rw [upd_same]
      exact ⟨kvs, rfl, hv.mv mv⟩
  · obtain ⟨h1, u, h2, h4⟩ := r.prot a (hsub a ha)
    have hne : a ≠ p := fun z => hn (.inr (z ▸ ha))
    refine ⟨fun z => ?_, u, by rw [h3 a hne]; exact h2, h4⟩
    rcases List.mem_append.mp z with z | z
    · exact h1 z
    · simp at z; exact hne z
end
section
variable {X : Cx} {W : WX} {pos : Pos} {σ : L2.St}
theorem ps_read : ∀ (gs : List (GE × GE)) {m : MM} {H : Hp} {env : Env} {ah : AH} {P : List (AK × AV) → AH → Prop} {E : EV → AH → Prop} {Q : List (V × V) → Hp → Prop}, EnvR X.K m H env σ → Rel X.K m ah H → (gPs gs env ah).post P E →
    (∀ e ah1, E e ah1 → PX X.K X.mg m H (fun c d H' => W c d σ H') e ah1) →
    (∀ ps ah1 m1 H1 kvs, Ext m H m1 H1 → Rel X.K m1 ah1 H1 → VRk X.K m1 H1 ps kvs → P ps ah1 → Q (kvs.map fun kv => (kV kv.1, kv.2)) H1) → tPairs (gs.map fun g => (tG X W g.1, tG X W g.2)) σ H Q
  | [], m, H, env, ah, P, E, Q, hE, hR, h, hx, hq => hq [] ah m H [] (Ext.refl m H) hR .nil h
  | (k, v) :: gs, m, H, env, ah, P, E, Q, hE, hR, h, hx, hq => by
    refine tG_step (P := P) (E := E) hE hR h hx fun kv ah1 m1 H1 x e1 r1 v1 hp1 => ?_
    have hx1 : ∀ e ah', E e ah' → PX X.K X.mg m1 H1 (fun c d H' => W c d σ H') e ah' := fun e ah' z => PX.mono e1 (hx e ah' z)
    refine tG_step (P := P) (E := E) (hE.mono e1) r1 hp1 hx1 fun vv ah2 m2 H2 y e2 r2 v2 hp2 => ?_
    have hx2 : ∀ e ah', E e ah' → PX X.K X.mg m2 H2 (fun c d H' => W c d σ H') e ah' := fun e ah' z => PX.mono e2 (hx1 e ah' z)
    cases hk : keyA kv with
    | none => simp only [hk] at hp2; exact hp2.elim
    | some q =>
      simp only [hk] at hp2
      have e0 := keyA_kV hk v1
      have hp3 : (gPs gs env ah2).post (fun ps ah3 => P ((q, vv) :: ps) ah3) E := by
        cases ez : gPs gs env ah2 <;> rw [ez] at hp2 <;> exact hp2
      refine ps_read gs ((hE.mono e1).mono e2) r2 hp3 hx2 fun ps ah3 m3 H3 kvs e3 r3 v3 hp4 => ?_
      have := hq ((q, vv) :: ps) ah3 m3 H3 ((akey q, y) :: kvs) ((e1.trans e2).trans e3) r3 (.cons (v2.mono e3) v3) hp4
      rw [e0]
      exact this
theorem disp_read {gs : List (GE × GE)} {m : MM} {H : Hp} {env : Env} {ah : AH} {P : AV → AH → Prop} {E : EV → AH → Prop} {Q : VK} {f : List (AK × AV) → AH → Res AV} (h15 : gs.length ≤ 15) (hE : EnvR X.K m H env σ) (hR : Rel X.K m ah H) (h : (rb (gPs gs env ah) f).post P E)
    (hx : ∀ e ah1, E e ah1 → PX X.K X.mg m H (fun c d H' => W c d σ H') e ah1)
    (hq : ∀ p ps ah1 m1 H1 kvs, H p = none → Ext m H m1 (upd H1 p (.dK (mergeK [] kvs))) → Rel X.K m1 ah1 (upd H1 p (.dK (mergeK [] kvs))) → p ∉ m1 → VRk X.K m1 (upd H1 p (.dK (mergeK [] kvs))) ps kvs → (∃ m4, Ext m H m4 (upd H1 p (.dK (mergeK [] kvs))) ∧ Rel X.K m4 (ah1 ++ [.dk (mergeA [] ps)]) (upd H1 p (.dK (mergeK [] kvs))) ∧ m4.l[List.length ah1]? = some p) → (f ps ah1).post P E → Q (.ref p) (upd H1 p (.dK (mergeK [] kvs)))) :
    tDisp (gs.map fun g => (tG X W g.1, tG X W g.2)) σ H Q := by
  intro p hp
  have hn : p ∉ m := hR.notin hp
  have mv := own_mv (m := m) (o := .dK []) hp
  have hr := own_rel hR hp (o := .dK []) rfl
  have len : ∀ (gs : List (GE × GE)) (env : Env) (ah : AH) (ps : List (AK × AV)) (ah1 : AH), gPs gs env ah = .ok ps ah1 → ps.length = gs.length := by
    intro gs
    induction gs with
    | nil => intro env ah ps ah1 e; cases e; rfl
    | cons g gs ih =>
      intro env ah ps ah1 e
      obtain ⟨k, v⟩ := g
      rw [gPs] at e
      dsimp only at e
      cases e1 : k env ah <;> rw [e1] at e <;> first | cases e | skip
      rename_i kv ah2
      simp only [rb_ok] at e
      cases e2 : v env ah2 <;> rw [e2] at e <;> first | cases e | skip
      rename_i vv ah3
      simp only [rb_ok] at e
      cases hk : keyA kv <;> rw [hk] at e <;> first | cases e | skip
      rename_i q
      simp only at e
      cases e3 : gPs gs env ah3 <;> rw [e3] at e <;> first | cases e | skip
      rw [List.length_cons, List.length_cons, ih _ _ _ _ e3]
  have h' : (gPs gs env ah).post (fun ps ah1 => (f ps ah1).post P E ∧ ps.length = gs.length) E := by
    cases e : gPs gs env ah with
    | ok ps ah1 => rw [e] at h; exact ⟨h, len _ _ _ _ _ e⟩
    | exc x ah1 => rw [e] at h; exact h
    | bad => rw [e] at h; exact h
  refine ps_read gs (hE.mv mv) hr h' (fun e ah1 z m2 H2 c d e2 r2 x2 => ?_) fun ps ah1 m2 H2 kvs e2 r2 v2 ⟨hp2, hl2⟩ => ?_
  · obtain ⟨ex, mx⟩ := own_ext hp rfl e2 (H3 := H2) fun _ _ => rfl
    exact hx e ah1 z _ H2 c d ex (own_relB hp rfl e2 (fun _ _ => rfl) hn r2) (x2.mv mx)
  · have hne : ∀ a, a ≠ p → upd H2 p (.dK (mergeK [] kvs)) a = H2 a := fun a z => upd_ne z
    obtain ⟨ex, mx⟩ := own_ext hp rfl e2 hne
    have r3 := own_relB hp rfl e2 hne hn r2
    refine ⟨own_at e2, kvs, rfl, by rw [← v2.length, hl2]; exact h15, hq p ps ah1 ⟨m2.l, m.p⟩ H2 kvs hp ex r3 (fun z => ?_) (v2.mv mx) ?_ hp2⟩
    · obtain ⟨_, hpm, _⟩ := own_sub e2
      rcases z with z | z
      · exact (r2.prot p hpm).1 z
      · exact hn (.inr z)
    · obtain ⟨e5, r5⟩ := own_adopt hp hn e2 r2 (VRk.merge ps v2 .nil)
      refine ⟨_, e5, r5, ?_⟩
      show (m2.l ++ [p])[List.length ah1]? = some p
      rw [← r2.len, List.getElem?_append_right (Nat.le_refl _)]
      simp
theorem ge_disp {keys : List (Option Expr)} {values : List Expr} {gs : List (GE × GE)} (h : PPs X pos keys values (gs.map fun g => (tG X W g.1, tG X W g.2))) (hall : keys.all (·.isSome) = true) (hl : keys.length = values.length) (h0 : keys ≠ []) (h15 : keys.length ≤ 15) (hg : gs.length ≤ 15) : PE X (.Dict keys values pos) (tG X W (gDisp gs)) :=
  PE.weak (pe_disp h hall hl h0 h15) fun σ H Q h => by
    obtain ⟨m, env, ah, hE, hR, hp⟩ := h
    refine disp_read hg hE hR hp (fun _ _ h => h) fun p ps ah1 m1 H1 kvs hn e1 r1 pm v1 _ hp1 => ?_
    exact hp1 m1 _ _ e1 r1 (.dk (.inl upd_same) pm (VRk.merge ps v1 .nil))
theorem ge_dispH {keys : List (Option Expr)} {values : List Expr} {gs : List (GE × GE)} (h : PPs X pos keys values (gs.map fun g => (tG X W g.1, tG X W g.2))) (hall : keys.all (·.isSome) = true) (hl : keys.length = values.length) (h0 : keys ≠ []) (h15 : keys.length ≤ 15) (hg : gs.length ≤ 15) : PE X (.Dict keys values pos) (tG X W (gDispH gs)) :=
  PE.weak (pe_disp h hall hl h0 h15) fun σ H Q h => by
    obtain ⟨m, env, ah, hE, hR, hp⟩ := h
    refine disp_read hg hE hR hp (fun _ _ h => h) fun p ps ah1 m1 H1 kvs hn e1 r1 pm v1 ⟨m4, e4, r4, i4⟩ hp1 => ?_
    exact hp1 m4 _ _ e4 r4 (.ref i4)
theorem gpp_nil : PPs X pos [] [] (([] : List (GE × GE)).map fun g => (tG X W g.1, tG X W g.2)) := pps_nil
theorem gpp_cons {k v : Expr} {ks : List (Option Expr)} {vs : List Expr} {fk fv : GE} {gs : List (GE × GE)} (hk : PE X k (tG X W fk)) (hv : PE X v (tG X W fv)) (hr : PPs X pos ks vs (gs.map fun g => (tG X W g.1, tG X W g.2))) : PPs X pos (some k :: ks) (v :: vs) (((fk, fv) :: gs).map fun g => (tG X W g.1, tG X W g.2)) := pps_cons hk hv hr
def revO : O1 := fun ah v => match dr ah v with
  | .lst l => some (.lst l.reverse)
  | .fl l => some (.lst l.reverse)
  | _ => none
theorem ge_rev {e : Expr} {fe : GE} {k : Nat} {p1 p2 p3 : Pos} (he : PE X e (tG X W fe)) : PE X (.Subscript e (.Slice none none (some (.UnaryOp .USub (.Constant (.int 1) k p1) p2)) p3) pos) (tG X W (gM1 revO fe)) :=
  PE.weak (pe_revL he) fun σ H Q h => by
    obtain ⟨m, env, ah, hE, hR, hp⟩ := h
    refine tG_step hE hR hp (fun _ _ h => h) fun v ah1 m1 H1 x e1 r1 v1 hp1 => ?_
    have hp1 : (lift1 (revO ah1 v) ah1).post _ _ := hp1
    unfold revO at hp1
    split at hp1
    · obtain ⟨a, vs, rfl, h1, h2⟩ := VR.list r1 v1 (by assumption)
      exact ⟨a, vs, rfl, SqL.of h1, fun p hn => PQ.laid (PQ.mono e1 hp1) r1 hn (VR.newL r1 hn h2.reverse)⟩
    · obtain ⟨a, vs, rfl, h1, h2⟩ := VR.flst r1 v1 (by assumption)
      exact ⟨a, vs, rfl, h1, fun p hn => PQ.laid (PQ.mono e1 hp1) r1 hn (VR.newL r1 hn h2.reverse)⟩
    · exact hp1.elim
end
end G
namespace MX
open PySem PySem.Spec PyProof.Rows L2
set_option autoImplicit false
section
variable {prog : Program} {w : World} {A : Around} {R : Result → Shared → Prop} {E : Value → Shared → Prop} {I : Addr} {fp wr : List Addr} {n : Nat} {P : Nat → Value → Prop} {St : Nat → Heap → Prop} {kw : List (Str × Value)}
theorem nm : (toString "max" ++ toString ".loop" : String) = "max.loop" := by decide
/-- behind the first one -/
theorem go (W : Walks prog w A.in1 I fp wr n P St) (bt : Nat → Nat → Bool) (hcmp : CmpOf prog w A.in1 .Gt P bt) (S : Addr) (hSf : S ∉ fp) :
    ∀ (k j : Nat) (s : Shared) (vb : Value) (c : Nat), n - (j + 1) = k → j + 1 ≤ n → St (j + 1) s.heap → P (argBest bt j) vb →
    s.heap.get? S = some { cls := .type "list", dict := none, data := .seq #[vb, vb] c, slots := #[] } →
    (∀ v h' tk, P (argBest bt (n - 1)) v → (∀ b o, b ∉ wr → b ≠ S → s.heap.get? b = some o → h'.get? b = some o) → R (.ok (.ret v)) { s with heap := h', toks := tk }) →
    codeAny (model prog w) A (.builtin "max.loop" ⟨[.ref I, .none, .ref S], kw⟩) R s := by
  have hSw : S ∉ wr := fun h => hSf (W.sub _ h)
  intro k
  induction k with
  | zero =>
    intro j s vb c hk hj hst hPb hS hR
    have hin : j + 1 = n := by omega
    refine codeAny_builtin F.entry_max_loop ?_
    rw [Around.under_plainId F.plain_max_loop _]
    show wpAny _ A.in1 (seqItems? (.ref S) >>= _) _ _ s
    refine wpAny_bind (wpAny_seqItems hS rfl ?_)
    show wpAny _ A.in1 (tryCatch (pyNext (.ref I)) _ >>= _) _ _ s
    refine wpAny_bind (wpAny_tryCatch (W.done s _ _ (hin ▸ hst) fun h' tk hk' => ?_))
    have hS' := hk' S _ hSw hS
    show wpAny _ A.in1 (updateSeq S (fun _ => #[]) >>= _) _ _ _
    refine wpAny_bind ?_
    refine wpAny_updateSeq hS' rfl (wpAny_bind (wpAny_letGo (wpAny_pure ?_)))
    refine hR vb _ tk (by rw [← hin]; exact hPb) fun b o hbw hbS e => (Heap.get?_update_other _ _ (Ne.symm hbS)).trans (hk' b o hbw e)
  | succ k ih =>
    intro j s vb c hk hj hst hPb hS hR
    have hlt : j + 1 < n := by omega
    refine codeAny_builtin F.entry_max_loop ?_
    rw [Around.under_plainId F.plain_max_loop _]
    show wpAny _ A.in1 (seqItems? (.ref S) >>= _) _ _ s
    refine wpAny_bind (wpAny_seqItems hS rfl ?_)
    show wpAny _ A.in1 (tryCatch (pyNext (.ref I)) _ >>= _) _ _ s
    refine wpAny_bind (wpAny_tryCatch (W.item (j + 1) s _ _ hlt hst fun v h' tk hP hst' hk' => ?_))
    have hS' := hk' S _ hSw hS
    show wpAny _ A.in1 (tryCatch (holding [v, v] (richCompare .Gt v vb >>= _)) _ >>= _) _ _ _
    refine wpAny_bind (wpAny_tryCatch (wpAny_holding (wpAny_bind (hcmp (j + 1) (argBest bt j) v vb _ _ _ hP hPb ?_))))
    refine wpAny_bind (wpAny_holding (wpAny_truthy_bool ?_))
    refine wpAny_bind (wpAny_letGo (wpAny_pure ?_))
    cases hb : bt (j + 1) (argBest bt j) with
    | true =>
      simp only [if_true]
      refine wpAny_bind ?_
      refine wpAny_updateSeq hS' rfl (wpAny_bind (wpAny_letGo ?_))
      rw [nm]
      refine wpAny_pure ⟨plainId_quiet F.plain_max_loop _, ih (j + 1) _ v _ (by omega) hlt (W.frame _ _ _ hst' fun b hbf o e => ?_) (by simp only [argBest, hb, if_true]; exact hP) (Heap.get?_update_self _ hS' rfl)
        fun v' h'' tk'' hP' hk'' => ?_⟩
      · exact (Heap.get?_update_other _ _ (fun h : S = b => hSf (by rw [h]; exact hbf))).trans e
      · exact hR v' h'' tk'' hP' fun b o hbw hbS e => hk'' b o hbw hbS ((Heap.get?_update_other _ _ (Ne.symm hbS)).trans (hk' b o hbw e))
    | false =>
      simp only [Bool.false_eq_true, if_false]
      refine wpAny_bind (wpAny_letGo ?_)
      rw [nm]
      refine wpAny_pure ⟨plainId_quiet F.plain_max_loop _, ih (j + 1) _ vb c (by omega) hlt hst' (by simp only [argBest, hb, Bool.false_eq_true, if_false]; exact hPb) hS' fun v' h'' tk'' hP' hk'' => ?_⟩
      exact hR v' h'' tk'' hP' fun b o hbw hbS e => hk'' b o hbw hbS (hk' b o hbw e)
theorem first (W : Walks prog w A.in1 I fp wr n P St) (bt : Nat → Nat → Bool) (hcmp : CmpOf prog w A.in1 .Gt P bt) (S : Addr) (hSf : S ∉ fp) (hn : 0 < n) {s : Shared} {c : Nat} (hst : St 0 s.heap)
    (hS : s.heap.get? S = some { cls := .type "list", dict := none, data := .seq #[] c, slots := #[] })
    (hR : ∀ v h' tk, P (argBest bt (n - 1)) v → (∀ b o, b ∉ wr → b ≠ S → s.heap.get? b = some o → h'.get? b = some o) → R (.ok (.ret v)) { s with heap := h', toks := tk }) :
    codeAny (model prog w) A (.builtin "max.loop" ⟨[.ref I, .none, .ref S], kw⟩) R s := by
  have hSw : S ∉ wr := fun h => hSf (W.sub _ h)
  refine codeAny_builtin F.entry_max_loop ?_
  rw [Around.under_plainId F.plain_max_loop _]
  show wpAny _ A.in1 (seqItems? (.ref S) >>= _) _ _ s
  refine wpAny_bind (wpAny_seqItems hS rfl ?_)
  show wpAny _ A.in1 (tryCatch (pyNext (.ref I)) _ >>= _) _ _ s
  refine wpAny_bind (wpAny_tryCatch (W.item 0 s _ _ hn hst fun v h' tk hP hst' hk' => ?_))
  have hS' := hk' S _ hSw hS
  show wpAny _ A.in1 (updateSeq S (fun _ => #[v, v]) >>= _) _ _ _
  refine wpAny_bind ?_
  refine wpAny_updateSeq hS' rfl ?_
  rw [nm]
  refine wpAny_pure ⟨plainId_quiet F.plain_max_loop _, go W bt hcmp S hSf _ 0 _ v _ rfl hn (W.frame _ _ _ hst' fun b hbf o e => ?_) hP (Heap.get?_update_self _ hS' rfl) fun v' h'' tk'' hP' hk'' => ?_⟩
  · exact (Heap.get?_update_other _ _ (fun h : S = b => hSf (by rw [h]; exact hbf))).trans e
  · exact hR v' h'' tk'' hP' fun b o hbw hbS e => hk'' b o hbw hbS ((Heap.get?_update_other _ _ (Ne.symm hbS)).trans (hk' b o hbw e))
/-- of none -/
theorem none' {d : Value} {x : Str} (W : Walks prog w A.in1 I fp wr 0 P St) (S : Addr) (hSf : S ∉ fp) {s : Shared} {c : Nat} (hst : St 0 s.heap)
    (hS : s.heap.get? S = some { cls := .type "list", dict := none, data := .seq #[] c, slots := #[] })
    (hR : ∀ h' tk, (∀ b o, b ∉ wr → s.heap.get? b = some o → h'.get? b = some o) → R (.ok (.ret d)) { s with heap := h', toks := tk }) :
    codeAny (model prog w) A (.builtin "max.loop" ⟨[.ref I, .none, .ref S], [(x, d)]⟩) R s := by
  refine codeAny_builtin F.entry_max_loop ?_
  rw [Around.under_plainId F.plain_max_loop _]
  show wpAny _ A.in1 (seqItems? (.ref S) >>= _) _ _ s
  refine wpAny_bind (wpAny_seqItems hS rfl ?_)
  show wpAny _ A.in1 (tryCatch (pyNext (.ref I)) _ >>= _) _ _ s
  refine wpAny_bind (wpAny_tryCatch (W.done s _ _ hst fun h' tk hk' => ?_))
  show wpAny _ A.in1 (rule _ >>= _) _ _ _
  refine wpAny_bind (wpAny_rule ?_)
  exact wpAny_pure (hR _ _ hk')
end
section
variable {prog : Program} {w : World} {A : Around} {E : Value → Shared → Prop} {s : Shared}
/-- a built-in called with keywords, that may go on with another -/
theorem call_kw {id : String} {b : Builtin} {args : List Value} {kw : List (Str × Value)} {Q : Value → Shared → Prop} (hk : builtinKind id = none) (hp : plainId id = true)
    (hb : entryFor table id = some b) (ha : argsOk id ⟨args, kw⟩)
    (hc : wpAny (model prog w) A.in1 (b ⟨args, kw⟩) (fun fin s' => match fin with
      | .done f => (match (Except.ok f : Result) with | .ok (.ret v) => Q v s' | .ok _ => False | .error e => E e s')
      | .again c' => c'.quiet = true ∧ codeAny (model prog w) A c' (fun r s' => match r with | .ok (.ret v) => Q v s' | .ok _ => False | .error e => E e s') s') E s) :
    wpAny (model prog w) A (call (.builtin id) args kw) Q E s := by
  refine wpAny_call (codeAny_call_builtin hp hb ?_)
  simp only [checkBuiltinCall, hk]
  cases hsig : Manifest.signature? id with
  | none => exact wpAny_pure hc
  | some sig =>
    have ha' : Bind.checkArgs id sig ⟨args, kw⟩ = pure () := by simpa only [argsOk, hsig] using ha
    simp only [ha']
    exact wpAny_pure hc
theorem args_max_d (a d : Value) : argsOk "max" ⟨[a], [(Str.ofString "default", d)]⟩ := by unfold argsOk; kernel_rfl
theorem max_d {l : Addr} {its : List Value} {ns : List Int} {i : Int} {t : Tok} {Q : Value → Shared → Prop} (hh : A.handled = none) (hl : s.heap.IsList l its.toArray) (hi : IntsAre its ns)
    (h : ∀ h' tk M t', (∀ b o, s.heap.get? b = some o → h'.get? b = some o) → (ns = [] → M = i) → (ns ≠ [] → M ∈ ns ∧ ∀ a, a ∈ ns → a ≤ M) → Q (.int M t') { s with heap := h', toks := tk }) :
    wpAny (model prog w) A (call (.builtin "max") [.ref l] [(Str.ofString "default", .int i t)]) Q E s := by
  refine call_kw F.kind_max F.plain_max F.entry_max (args_max_d _ _) ?_
  show wpAny _ A.in1 (Builtin.Builtins.bindParams "max" ["key", "default"] 0 ⟨[], [(Str.ofString "default", .int i t)]⟩ >>= _) _ _ s
  refine wpAny_bind (wpAny_of_eq (show Builtin.Builtins.bindParams "max" ["key", "default"] 0 ⟨[], [(Str.ofString "default", .int i t)]⟩ = pure [none, some (.int i t)] from by rfl) ?_)
  refine wpAny_bind (wpAny_pure ?_)
  obtain ⟨xs, e⟩ := hi.allInts.items
  have hn : numsOf (intItems xs).toList = ns := by rw [← e]; exact hi.numsOf
  rw [nums_intItems] at hn
  subst hn
  rw [e] at hl
  refine wpAny_bind (iter_intList hl fun s₂ e2 st hfp hlI => ?_)
  subst e2
  refine wpAny_bind (wpAny_newObj_type ?_)
  have W : Walks prog w A.in1 s.heap.objs.size [s.heap.objs.size, l] [s.heap.objs.size] (intItems xs).size (fun i v => (intItems xs)[i]? = some v) (fun i h => h.IsListIter s.heap.objs.size l i ∧ h.IsList l (intItems xs)) := Walks.list (A := A.in1) hh _ l hlI (intItems xs)
  have hz : (s.heap.push { cls := .type "list_iterator", data := .fields #[.ref l, .int 0 0] }).objs.size = s.heap.objs.size + 1 := Heap.size_push ..
  have hSf : (s.heap.push { cls := .type "list_iterator", data := .fields #[.ref l, .int 0 0] }).objs.size ∉ [s.heap.objs.size, l] := fun hm => Nat.lt_irrefl _ (hfp _ hm)
  have keep : ∀ h' : Heap, (∀ b o, b ∉ [s.heap.objs.size] → ((s.heap.push { cls := .type "list_iterator", data := .fields #[.ref l, .int 0 0] }).push { cls := .type "list", dict := none, data := .seq #[], slots := #[] }).get? b = some o → h'.get? b = some o) → ∀ b o, s.heap.get? b = some o → h'.get? b = some o := fun h' hk b o e => by
    refine hk b o (fun hm => ?_) (Heap.get?_push_of_some _ (Heap.get?_push_of_some _ e))
    rw [List.mem_singleton] at hm
    rw [hm] at e
    exact absurd (Heap.lt_size e) (Nat.lt_irrefl _)
  rw [nm]
  refine wpAny_pure ⟨plainId_quiet F.plain_max_loop _, ?_⟩
  by_cases h0 : xs.size = 0
  · have hz0 : (intItems xs).size = 0 := by simpa [intItems] using h0
    rw [hz0] at W
    refine none' W _ hSf (W.frame _ _ _ st fun b _ o e => Heap.get?_push_of_some _ e) (Heap.get?_push_size _ rfl) fun h' tk hk => ?_
    have en : xs.toList.map (·.1) = [] := by
      have : xs = #[] := Array.eq_empty_of_size_eq_zero h0
      rw [this]; rfl
    exact h h' tk i t (keep h' hk) (fun _ => rfl) (fun z => absurd en z)
  · have hz0 : 0 < (intItems xs).size := by have : (intItems xs).size = xs.size := by simp [intItems]
                                            omega
    refine first W (fun i j => decide (numAt xs i > numAt xs j)) (CmpOf.ints_gt (numAt xs) (fun _ _ => intItems_at)) _ hSf hz0 (W.frame _ _ _ st fun b _ o e => Heap.get?_push_of_some _ e) (Heap.get?_push_size _ rfl) fun v h' tk hv hk => ?_
    have hv2 : (intItems xs)[argBest (fun i j => decide (numAt xs i > numAt xs j)) (xs.size - 1)]? = some v := by simpa [intItems] using hv
    obtain ⟨t', rfl⟩ := intItems_at hv2
    obtain ⟨h1, h2⟩ := argBest_gt (numAt xs) (xs.size - 1)
    refine h h' tk _ t' (fun b o e => ?_) (fun z => ?_) (fun _ => ⟨?_, fun a ha => ?_⟩)
    · refine hk b o (fun hm => ?_) (fun hm => ?_) (Heap.get?_push_of_some _ (Heap.get?_push_of_some _ e))
      · rw [List.mem_singleton] at hm
        rw [hm] at e
        exact absurd (Heap.lt_size e) (Nat.lt_irrefl _)
      · rw [hm] at e
        have := Heap.lt_size e
        rw [hz] at this
        exact absurd this (Nat.not_lt.mpr (Nat.le_succ _))
    · have := congrArg List.length z
      simp at this
      exact absurd (by rw [this]; rfl) h0
    · rw [numAt_eq]; exact PySem.getD_mem (by rw [List.length_map, Array.length_toList]; omega)
    · obtain ⟨j, hj, rfl⟩ := mem_getD ha
      rw [List.length_map, Array.length_toList] at hj
      rw [← numAt_eq]; exact h2 j (by omega)
end
section
variable {X : Cx}
def rMaxD (K : PySem.W.Frag) : List V → List V → Hp → VK → Prop := fun vs zs H Q => ∃ (a : Addr) (ns : List Int) (i : Int), vs = [V.ref a] ∧ zs = [V.int i] ∧ SqL K H a (ns.map V.int) ∧ ∀ M, (ns = [] → M = i) → (ns ≠ [] → M ∈ ns ∧ ∀ a, a ∈ ns → a ≤ M) → Q (.int M) H
theorem cr_maxD (hc : X.calm = true) : CallRK X (.builtin "max") [Str.ofString "default"] (rMaxD X.K) := by
  intro pins s σ H vs zs us ws Q I r rz h
  obtain ⟨a, ns, i, rfl, rfl, hs, q⟩ := h
  obtain ⟨its, rv, hl, _⟩ := I.list hs
  obtain rfl := Vals.ref1 r
  obtain ⟨w1, rfl, e1⟩ := vals1 rz
  obtain ⟨t, rfl⟩ := e1
  exact max_d (I.ok.hd hc) hl.isList rv.ints fun h' tk M t' hk h1 h2 => ⟨.int M, H, I.kept hk, ⟨_, rfl⟩, q M h1 h2⟩
end
end MX
namespace G
open PySem PySem.Spec PyProof.Rows L2
set_option autoImplicit false
section
variable {X : Cx} {W : WX} {a b : Expr} {fa fb : GE} {p pos kpos : Pos}
def maxI : List Int → Int
  | [] => 0
  | [a] => a
  | a :: l => if maxI l > a then maxI l else a
theorem maxI_of : ∀ (l : List Int) (M : Int), M ∈ l → (∀ a, a ∈ l → a ≤ M) → M = maxI l
  | [], M, h, _ => by cases h
  | [a], M, h, _ => by simpa [maxI] using h
  | a :: b :: l, M, h, hm => by
    have ih : ∀ N, N ∈ b :: l → (∀ a, a ∈ b :: l → a ≤ N) → N = maxI (b :: l) := maxI_of (b :: l)
    have ex : maxI (b :: l) ∈ b :: l ∧ ∀ a, a ∈ b :: l → a ≤ maxI (b :: l) := by
      clear ih h hm
      induction l generalizing b with
      | nil => simp [maxI]
      | cons c l ih2 =>
        obtain ⟨i1, i2⟩ := ih2 c
        rw [maxI]
        split
        · rename_i hgt
          refine ⟨List.mem_cons_of_mem _ i1, fun x hx => ?_⟩
          rcases List.mem_cons.mp hx with rfl | hx
          · omega
          · exact i2 x hx
        · rename_i hgt
          refine ⟨List.mem_cons_self .., fun x hx => ?_⟩
          rcases List.mem_cons.mp hx with rfl | hx
          · omega
          · have := i2 x hx; omega
        all_goals (intro h; cases h)
    rw [maxI]
    · rcases List.mem_cons.mp h with rfl | h
      · have := hm _ (List.mem_cons_of_mem _ ex.1)
        rw [if_neg (by omega)]
      · have h1 := ex.2 M h
        have h2 := hm _ (List.mem_cons_of_mem _ ex.1)
        have h3 := hm a (List.mem_cons_self ..)
        split <;> omega
    · intro h; cases h
/-- max(xs, default=e) of numbers -/
def maxDO : O2 := fun ah v w => match dr ah v, w with
  | .lst l, .int i => match intsA l with
    | some [] => some (.int i)
    | some ns => some (.int (maxI ns))
    | none => none
  | _, _ => none
theorem ge_maxD {k : Nat} (hx : XG X W k) (hg : Gl X "max") (hm : X.mg "max" = none) (ha : PE X a (tG X W fa)) (hb : PE X b (tG X W fb))
    (he : backTo pos (starEach [a] X.env) = (false, eval a X.env) :: backTo pos (starEach [] X.env) := by rfl) (hpl : (backTo pos (starEach [a] X.env)).any (·.1) = false := by rfl)
    (hall : (backToKw pos (keywordEach [⟨some (Str.ofString "default"), b, kpos⟩] X.env)).all (·.1.isSome) = true := by rfl) (hnone : (backToKw pos (keywordEach [⟨some (Str.ofString "default"), b, kpos⟩] X.env)).any (·.1.isNone) = false := by rfl) (hks : (backToKw pos (keywordEach [⟨some (Str.ofString "default"), b, kpos⟩] X.env)).filterMap (·.1) = [Str.ofString "default"] := by rfl)
    (hst : starEach [a] X.env = (false, eval a X.env) :: starEach [] X.env := by rfl) :
    PE X (.Call (.Name "max" p) [a] [⟨some (Str.ofString "default"), b, kpos⟩] pos) (tG X W (gOp maxDO fa fb)) :=
  PE.weak (pe_callBK (MX.cr_maxD hx.calm) hg hm (by decide +kernel) (pa_cons ha pa_nil hst) (pk_cons hb pk_nil) (by decide) (by decide) he hpl hall hnone hks) fun σ H Q h => by
    obtain ⟨m, env, ah, hE, hR, hp⟩ := h
    refine tG_step hE hR hp (fun _ _ h => h) fun v ah1 m1 H1 x e1 r1 v1 hp1 => ?_
    refine tG_step (hE.mono e1) r1 (Res.post_imp hp1 (fun _ _ _ h => PQ.mono e1 h) (fun _ _ h => PX.mono e1 h)) (fun _ _ h => h) fun w ah2 m2 H2 y e2 r2 v2 hp2 => ?_
    have hp2 : (lift1 (match dr ah2 v, w with
      | .lst l, .int i => match intsA l with
        | some [] => some (AV.int i)
        | some ns => some (.int (maxI ns))
        | none => none
      | _, _ => none) ah2).post _ _ := hp2
    cases hd : dr ah2 v with
    | lst l =>
      rw [hd] at hp2
      cases v2 with
      | int i =>
        obtain ⟨p, vs, rfl, h1, h2⟩ := VR.list r2 (v1.mono e2) hd
        cases hns : intsA l with
        | none => simp only [hns] at hp2; exact hp2.elim
        | some ns =>
          have e := ints_vs h2 hns
          subst e
          refine ⟨p, ns, i, rfl, rfl, SqL.of h1, fun M k1 k2 => ?_⟩
          cases ns with
          | nil =>
            simp only [hns] at hp2
            rw [k1 rfl]
            exact (PQ.mono e2 hp2).here r2 (.int _)
          | cons n ns =>
            simp only [hns] at hp2
            obtain ⟨k3, k4⟩ := k2 (by simp)
            rw [maxI_of _ _ k3 k4]
            exact (PQ.mono e2 hp2).here r2 (.int _)
      | _ => exact hp2.elim
    | _ => rw [hd] at hp2; exact hp2.elim
end
end G
namespace PySem.SeqAt
open AutoSeq1 (wpAny_loadPart')
open MeetsSeq
theorem tuple_eq_declines_dict (l b : Addr) (items : Array Value) (es : Array DictEntry) (n n2 : Nat) (dd dd2 : Option Addr) (sl sl2 : Array (Option Value)) :
    Meets (Builtin.«tuple.__eq__» ⟨[.ref l, .ref b], []⟩) (fun _ R s => s.heap.get? l = some { cls := .type "tuple", dict := dd, data := .seq items n, slots := sl } ∧ s.heap.get? b = some { cls := .type "dict", dict := dd2, data := .dict es n2, slots := sl2 } ∧ R (.ok (.ret .notImplemented)) s) :=
  .of_wp fun prog w A R s h => by obtain ⟨hp, g, d, tk, os⟩ := s; obtain ⟨hl, hb, h⟩ := h; have f1 := F.sub_dict_tuple; wp_walk using wpAny_loadPart' hl, wpAny_loadPart' hb; exact ⟨_, rfl, h⟩
theorem dict_eq_declines_tuple (l b : Addr) (items : Array Value) (es : Array DictEntry) (n n2 : Nat) (dd dd2 : Option Addr) (sl sl2 : Array (Option Value)) :
    Meets (Builtin.«dict.__eq__» ⟨[.ref b, .ref l], []⟩) (fun _ R s => s.heap.get? l = some { cls := .type "tuple", dict := dd, data := .seq items n, slots := sl } ∧ s.heap.get? b = some { cls := .type "dict", dict := dd2, data := .dict es n2, slots := sl2 } ∧ R (.ok (.ret .notImplemented)) s) :=
  .of_wp fun prog w A R s h => by obtain ⟨hp, g, d, tk, os⟩ := s; obtain ⟨hl, hb, h⟩ := h; have f1 := F.sub_tuple_dict; wp_walk using wpAny_loadPart' hl, wpAny_loadPart' hb; exact ⟨_, rfl, h⟩
theorem str_eq_declines_dict (x : Str) (u : Tok) (b : Addr) (es : Array DictEntry) (n2 : Nat) (dd2 : Option Addr) (sl2 : Array (Option Value)) :
    Meets (Builtin.«str.__eq__» ⟨[.str x u, .ref b], []⟩) (fun _ R s => s.heap.get? b = some { cls := .type "dict", dict := dd2, data := .dict es n2, slots := sl2 } ∧ R (.ok (.ret .notImplemented)) s) :=
  .of_wp fun prog w A R s h => by obtain ⟨hp, g, d, tk, os⟩ := s; obtain ⟨hl, h⟩ := h; wp_walk using wpAny_loadPart' hl, wpAny_load hl; exact ⟨_, rfl, h⟩
theorem dict_eq_declines_str (x : Str) (u : Tok) (b : Addr) (es : Array DictEntry) (n2 : Nat) (dd2 : Option Addr) (sl2 : Array (Option Value)) :
    Meets (Builtin.«dict.__eq__» ⟨[.ref b, .str x u], []⟩) (fun _ R s => s.heap.get? b = some { cls := .type "dict", dict := dd2, data := .dict es n2, slots := sl2 } ∧ R (.ok (.ret .notImplemented)) s) :=
  .of_wp fun prog w A R s h => by obtain ⟨hp, g, d, tk, os⟩ := s; obtain ⟨hl, h⟩ := h; have f1 := F.sub_str_dict; wp_walk using wpAny_loadPart' hl; exact ⟨_, rfl, h⟩
section
variable {M : Model} {A : Around} {E : Value → Shared → Prop} {s : Shared}
theorem RcAt.str_dict {b : Addr} {es : Array DictEntry} {n2 : Nat} {dd2 : Option Addr} {sl2 : Array (Option Value)} (x : Str) (u : Tok) (ho : s.heap.get? b = some { cls := .type "dict", dict := dd2, data := .dict es n2, slots := sl2 }) (hu : A.units < cLine) : RcAt A s (.str x u) (.ref b) false := fun prog w E Q h => by
  exact rc_eq_decline_or (k := false) (typeIs_str s x u) ⟨_, ho, rfl⟩ (by decide) F.sub_dict_str F.slot_str_eq F.slot_dict_eq_refl
    (fun _ hq => call_meets F.slot_str_eq (typeIs_str s x u) F.entry_str_eq (F.args_str_eq_2 _ _) (str_eq_declines_dict x u b es n2 dd2 sl2) ⟨ho, hq⟩)
    (fun _ hq => call_meets F.slot_dict_eq_refl ⟨_, ho, rfl⟩ F.entry_dict_eq (F.args_dict_eq_2 _ _) (dict_eq_declines_str x u b es n2 dd2 sl2) ⟨ho, hq⟩)
    (fun _ hq => wpAny_of_eq (rfl : isSame (.str x u) (.ref b) = pure false) hq) (.inr hu) h
theorem EqAt.str_dict {b : Addr} {es : Array DictEntry} {n2 : Nat} {dd2 : Option Addr} {sl2 : Array (Option Value)} (x : Str) (u : Tok) (ho : s.heap.get? b = some { cls := .type "dict", dict := dd2, data := .dict es n2, slots := sl2 }) (hu : A.units < cLine) : EqAt A s (.str x u) (.ref b) false := fun prog w E Q h => by
  unfold eqBool
  refine wpAny_holding ?_
  refine wpAny_ite_split (fun hab => absurd (eq_of_beq hab) nofun) (fun _ => ?_)
  exact wpAny_bind (RcAt.str_dict x u ho hu prog w E _ (wpAny_truthy_bool h))
theorem RcAt.tuple_dict {l b : Addr} {items : Array Value} {es : Array DictEntry} {n2 : Nat} {dd2 : Option Addr} {sl2 : Array (Option Value)} (hl : s.heap.IsTuple l items) (ho2 : s.heap.get? b = some { cls := .type "dict", dict := dd2, data := .dict es n2, slots := sl2 }) (hu : A.units < cLine) : l ≠ b ∧ RcAt A s (.ref l) (.ref b) false := by
  obtain ⟨⟨cls, dd, data, sl⟩, ho, hc, n, hd⟩ := id hl
  simp only at hc hd
  subst hc hd
  have hne : l ≠ b := fun z => by rw [z, ho2] at ho; simp at ho
  exact ⟨hne, fun prog w E Q h => (rc_eq_decline_or (k := false) ⟨_, ho, rfl⟩ ⟨_, ho2, rfl⟩ (by decide) F.sub_dict_tuple F.slot_tuple_eq F.slot_dict_eq_refl
    (fun _ hq => call_meets F.slot_tuple_eq ⟨_, ho, rfl⟩ F.entry_tuple_eq (F.args_tuple_eq_2 _ _) (tuple_eq_declines_dict l b items es n n2 dd dd2 sl sl2) ⟨ho, ho2, hq⟩)
    (fun _ hq => call_meets F.slot_dict_eq_refl ⟨_, ho2, rfl⟩ F.entry_dict_eq (F.args_dict_eq_2 _ _) (dict_eq_declines_tuple l b items es n n2 dd dd2 sl sl2) ⟨ho, ho2, hq⟩)
    (fun _ hq => wpAny_isSame_ref_other' hne ho ho2 (by simp) hq) (.inr hu) h)⟩
theorem EqAt.tuple_dict {l b : Addr} {items : Array Value} {es : Array DictEntry} {n2 : Nat} {dd2 : Option Addr} {sl2 : Array (Option Value)} (hl : s.heap.IsTuple l items) (ho2 : s.heap.get? b = some { cls := .type "dict", dict := dd2, data := .dict es n2, slots := sl2 }) (hu : A.units < cLine) : EqAt A s (.ref l) (.ref b) false :=
  let ⟨h1, h2⟩ := RcAt.tuple_dict hl ho2 hu
  .of_refs h1 h2
theorem RcAt.dict_str {b : Addr} {es : Array DictEntry} {n2 : Nat} {dd2 : Option Addr} {sl2 : Array (Option Value)} (x : Str) (u : Tok) (ho : s.heap.get? b = some { cls := .type "dict", dict := dd2, data := .dict es n2, slots := sl2 }) (hu : A.units < cLine) : RcAt A s (.ref b) (.str x u) false := fun prog w E Q h => by
  exact rc_eq_decline_or (k := false) ⟨_, ho, rfl⟩ (typeIs_str s x u) (by decide) F.sub_str_dict F.slot_dict_eq F.slot_str_eq_refl
    (fun _ hq => call_meets F.slot_dict_eq ⟨_, ho, rfl⟩ F.entry_dict_eq (F.args_dict_eq_2 _ _) (dict_eq_declines_str x u b es n2 dd2 sl2) ⟨ho, hq⟩)
    (fun _ hq => call_meets F.slot_str_eq_refl (typeIs_str s x u) F.entry_str_eq (F.args_str_eq_2 _ _) (str_eq_declines_dict x u b es n2 dd2 sl2) ⟨ho, hq⟩)
    (fun _ hq => wpAny_of_eq (rfl : isSame (.ref b) (.str x u) = pure false) hq) (.inr hu) h
end
end PySem.SeqAt

namespace G
open PySem PySem.Spec PyProof.Rows L2 PySem.SeqAt
set_option autoImplicit false
/-- the texts of [(s,), ..] -/
def s1s : List AV → Option (List (List Nat))
  | [] => some []
  | .tup [.str a] :: l => if a.all (· < 0x110000) then (s1s l).map (a :: ·) else none
  | _ :: _ => none
/-- the text of (s,) -/
def hd1 : AV → Option (Option (List Nat))
  | .fl _ => none
  | .ref _ => none
  | .fn _ => none
  | .tup [.str t] => some (some t)
  | .tup (.fl _ :: _) => none
  | .tup (.ref _ :: _) => none
  | .tup (.fn _ :: _) => none
  | _ => some none
def in1B (ss : List (List Nat)) (o : Option (List Nat)) : Bool := match o with
  | some t => decide (t ∈ ss)
  | none => false
def in1O : O2 := fun _ v w => match w with
  | .lst l => (s1s l).bind fun ss => (hd1 v).map fun o => .bl (in1B ss o)
  | _ => none
section
variable {X : Cx}
def rIn1 (K : PySem.W.Frag) : R2 := fun x y H Q => ∃ m v l ss o, VR K m H v x ∧ VR K m H (.lst l) y ∧ s1s l = some ss ∧ hd1 v = some o ∧ Q (.bl (in1B ss o)) H
def e1 (o : Option (List Nat)) : PyData → Bool
  | .tuple [.str a] => match o with
    | some t => a == mkS t
    | none => false
  | _ => false
theorem s1s_ok : ∀ {l : List AV} {ss : List (List Nat)}, s1s l = some ss → okAs l = true ∧ toDs l = ss.map (fun a => PyData.tuple [.str (mkS a)])
  | [], ss, h => by cases h; exact ⟨rfl, rfl⟩
  | v :: l, ss, h => by
    unfold s1s at h
    split at h
    · cases ‹v :: l = []›
    · rename_i a l' e
      cases e
      split at h
      · rename_i ha
        cases hs : s1s l with
        | none => rw [hs] at h; cases h
        | some ss' =>
          rw [hs] at h; cases h
          obtain ⟨h1, h2⟩ := s1s_ok hs
          refine ⟨?_, ?_⟩
          · show (okAs [AV.str a] && okAs l) = true
            rw [h1]
            show ((a.all (· < 0x110000) && true) && true) = true
            rw [ha]; rfl
          · show PyData.tuple [.str (mkS a)] :: toDs l = _
            rw [h2]; rfl
      · cases h
    · cases h
theorem reads_one {h : Heap} {us : List Value} {z : Str} {as : List Addr} (r : ReadsAll h us [.str z] as) : ∃ tk, us = [.str z tk] := by
  cases r with
  | cons c1 c2 => cases c1; cases c2; exact ⟨_, rfl⟩
theorem head_eqAt {pins : List (Addr × Obj)} {σ : L2.St} {H : Hp} {s : Shared} (I : Inv X pins σ H s) {A : Around} (h1 : A.units < cLine) {m : MM} {v : AV} {x : V} {u : Value} (a : Str) (tk : Tok)
    (hv : VR X.K m H v x) (rx : RelV x u) (hk : (∀ l, v ≠ .fl l) ∧ (∀ n, v ≠ .ref n) ∧ ∀ n, v ≠ .fn n) : ∃ b, EqAt A s (.str a tk) u b ∧ (∀ t, v = .str t → b = (a == mkS t)) ∧ ((∀ t, v ≠ .str t) → b = false) := by
  cases hv with
  | non => cases rx; exact ⟨_, EqAt.str_none a tk, (fun t e => nomatch e), (fun _ => rfl)⟩
  | bl b => cases rx; exact ⟨_, EqAt.str_bool a tk b, (fun t e => nomatch e), (fun _ => rfl)⟩
  | int i => obtain ⟨t, rfl⟩ := rx; exact ⟨_, EqAt.str_int a tk i t, (fun t e => nomatch e), (fun _ => rfl)⟩
  | str z => obtain ⟨t, rfl⟩ := rx; exact ⟨_, EqAt.str_str a tk _ t, fun t e => (by cases e; rfl), fun e => absurd rfl (e z)⟩
  | fl _ _ => exact absurd rfl (hk.1 _)
  | ref _ => exact absurd rfl (hk.2.1 _)
  | fn _ => exact absurd rfl (hk.2.2 _)
  | lst q _ _ =>
    cases rx
    obtain ⟨us, r1, p1, _⟩ := I.list (SqL.of q)
    exact ⟨_, EqAt.str_list a tk p1.isList h1, (fun t e => nomatch e), (fun _ => rfl)⟩
  | dk q _ _ =>
    cases rx
    obtain ⟨_, _, _, _, ob2, es, ep, k1, k2, k3, _⟩ := DKR.at I q
    obtain ⟨cls2, dd2, data2, sl2⟩ := ob2
    have k21 : cls2 = .type "dict" := k2.1
    simp only at k3
    subst k21 k3
    exact ⟨_, EqAt.str_dict a tk k1 h1, (fun t e => nomatch e), (fun _ => rfl)⟩
  | tup q r =>
    cases rx
    obtain ⟨us, r1, p1, _⟩ := I.tuple q.sqT
    exact ⟨_, EqAt.str_tuple a tk p1 h1, (fun t e => nomatch e), (fun _ => rfl)⟩
theorem in1_eqAt {pins : List (Addr × Obj)} {σ : L2.St} {H : Hp} {s : Shared} (I : Inv X pins σ H s) {A : Around} (hu : A.units + 2 < cLine) {m : MM} {v : AV} {x : V} {u y : Value} {o : Option (List Nat)} {a : List Nat} {as : List Addr}
    (hv : VR X.K m H v x) (rx : RelV x u) (ho : hd1 v = some o) (ry : Reads s.heap y (.tuple [.str (mkS a)]) as) : EqAt A s y u (e1 o (.tuple [.str (mkS a)])) := by
  cases ry with
  | tuple g1 g2 g3 g4 =>
    rename_i l ob vs n
    have it : s.heap.IsTuple l vs := ⟨_, g1, g2, n, g3⟩
    have h1 : A.units < cLine := by omega
    cases hv with
    | non => cases ho; cases rx; exact EqAt.tuple_none it h1
    | bl b => cases ho; cases rx; exact EqAt.tuple_bool b it h1
    | int i => cases ho; obtain ⟨t, rfl⟩ := rx; exact EqAt.tuple_int i t it h1
    | str z => cases ho; obtain ⟨t, rfl⟩ := rx; exact EqAt.tuple_str _ t it h1
    | fl _ _ => cases ho
    | ref _ => cases ho
    | fn _ => cases ho
    | lst q _ _ =>
      cases ho; cases rx
      obtain ⟨us, r1, p1, _⟩ := I.list (SqL.of q)
      exact EqAt.tuple_list it p1.isList h1
    | dk q _ _ =>
      cases ho; cases rx
      obtain ⟨_, _, _, _, ob2, es, ep, k1, k2, k3, _⟩ := DKR.at I q
      obtain ⟨cls2, dd2, data2, sl2⟩ := ob2
      have k21 : cls2 = .type "dict" := k2.1
      simp only at k3
      subst k21 k3
      exact EqAt.tuple_dict it k1 h1
    | tup q r =>
      cases rx
      rename_i bq lv xs
      obtain ⟨us, r1, p1, _⟩ := I.tuple q.sqT
      obtain ⟨tk, hvs⟩ := reads_one g4
      have hvs : vs = #[.str (mkS a) tk] := by
        apply Array.toList_inj.mp
        rw [hvs]
      subst hvs
      by_cases hne : l = bq
      · subst hne
        have : us = [.str (mkS a) tk] := by
          obtain ⟨o2, q1, q2, n2, q3⟩ := p1
          rw [q1] at g1; cases g1
          rw [q3] at g3
          injection g3 with g3
          have := congrArg Array.toList g3
          simpa using this
        subst this
        have hl : lv = [.str a] := by
          cases r1 with
          | cons z1 z2 =>
            cases z2
            cases r with
            | cons y1 y2 =>
              cases y2
              cases y1 with
              | str t =>
                obtain ⟨tt, e⟩ := z1
                injection e with e
                rw [mkS_inj e]
              | int i => obtain ⟨tt, e⟩ := z1; cases e
              | _ => cases z1
        subst hl
        cases ho
        have : e1 (some a) (.tuple [.str (mkS a)]) = true := by simp [e1]
        rw [this]
        exact EqAt.same _
      · refine EqAt.of_refs hne ?_
        cases lv with
        | nil =>
          cases ho
          cases r
          cases r1
          have z := RcAt.tuples (A := A) (e := fun _ => true) it p1 h1 (fun j _ h2 => by simp at h2)
          exact z
        | cons hd tl =>
          cases r with
          | cons ya yb =>
            cases r1 with
            | cons za zb =>
              rename_i vh vt uh ut
              have hk : (∀ l, hd ≠ .fl l) ∧ (∀ n, hd ≠ .ref n) ∧ ∀ n, hd ≠ .fn n := by
                refine ⟨?_, ?_, ?_⟩ <;> (rintro z rfl; cases tl <;> cases ho)
              obtain ⟨b, q1, q2, q3⟩ := head_eqAt (A := A.in1) I (show A.units + 1 < cLine by omega) (mkS a) tk ya za hk
              have z := RcAt.tuples (A := A) (e := fun _ => b) it p1 h1 (fun j h1 h2 => by
                have : j = 0 := by simp at h1; omega
                subst this
                exact q1)
              have el := zb.length
              have et := yb.length
              have fin : ((List.range (min (#[Value.str (mkS a) tk] : Array Value).size (uh :: ut).toArray.size)).all (fun _ => b) && (#[Value.str (mkS a) tk] : Array Value).size == (uh :: ut).toArray.size) = e1 o (.tuple [.str (mkS a)]) := by
                have hsz : ut.length = tl.length := by omega
                have e0 : (#[Value.str (mkS a) tk] : Array Value).size = 1 := rfl
                rw [e0]
                have e1' : (uh :: ut).toArray.size = tl.length + 1 := by simp [hsz]
                rw [e1', show min 1 (tl.length + 1) = 1 by omega]
                show ((b && true) && (1 == tl.length + 1)) = _
                rw [Bool.and_true]
                cases tl with
                | nil =>
                  show (b && true) = _
                  rw [Bool.and_true]
                  cases hd with
                  | str t => cases ho; rw [q2 t rfl]; simp [e1]
                  | fl l => exact absurd rfl (hk.1 l)
                  | ref n => exact absurd rfl (hk.2.1 n)
                  | fn n => exact absurd rfl (hk.2.2 n)
                  | _ => cases ho; rw [q3 (by simp)]; rfl
                | cons c tl =>
                  have : ((1 : Nat) == (c :: tl).length + 1) = false := by simp
                  rw [this, Bool.and_false]
                  cases hd with
                  | fl l => exact absurd rfl (hk.1 l)
                  | ref n => exact absurd rfl (hk.2.1 n)
                  | fn n => exact absurd rfl (hk.2.2 n)
                  | _ => cases ho; rfl
              rw [fin] at z
              exact z
theorem op_in1 (hu : X.A.units + 65 < cLine) : OpR X (compareOp .In) (rIn1 X.K) := by
  intro pins s σ H x y v u Q I rx ry h
  obtain ⟨m, vv, l, ss, o, h1, h2, h3, h4, q⟩ := h
  obtain ⟨k1, k2⟩ := s1s_ok h3
  cases h2 with
  | lst g1 g2 g3 =>
    cases ry
    obtain ⟨us, r1, p1, _⟩ := I.list (SqL.of g1)
    obtain ⟨as, ra⟩ := Dp.readsAll I _ _ _ (VRs.dp _ _ g3 k1) r1
    have lay : PyData.canLayAll0 (toDs l) = true := okAs_lay _ k1
    have mem := readsAll_mem _ _ _ lay ra
    refine in_listAt (fun y => e1 o (readOf s.heap y)) p1.isList (fun y hy => ?_) ?_
    · obtain ⟨dy, cs, ry, hcy, _⟩ := mem y (by simpa using hy)
      rw [readOf_eq hcy ry]
      have hmem : dy ∈ toDs l := by
        have e := readsAll_map _ _ _ lay ra
        rw [← e, ← readOf_eq hcy ry]
        exact List.mem_map_of_mem (by simpa using hy)
      rw [k2] at hmem
      obtain ⟨a, _, rfl⟩ := List.mem_map.mp hmem
      exact in1_eqAt I (show X.A.units + 1 + 2 < cLine by omega) h1 rx h4 ry
    · have e := readsAll_map _ _ _ lay ra
      have : (us.toArray.any fun y => e1 o (readOf s.heap y)) = in1B ss o := by
        rw [← Array.any_toList]
        show (us.any _) = _
        have e2 : us.any (fun y => e1 o (readOf s.heap y)) = (us.map (readOf s.heap)).any (e1 o) := by rw [List.any_map]; rfl
        rw [e2, e, k2, List.any_map]
        unfold in1B
        cases o with
        | none =>
          show (ss.any fun a => false) = false
          simp
        | some t =>
          have : (e1 (some t) ∘ fun a => PyData.tuple [.str (mkS a)]) = fun a => decide (a = t) := by
            funext a
            show (mkS a == mkS t) = _
            by_cases q : a = t
            · subst q; simp
            · rw [decide_eq_false q, beq_eq_false_iff_ne]; exact fun z => q (mkS_inj z)
          rw [this]
          show _ = decide (t ∈ ss)
          by_cases q : t ∈ ss
          · rw [decide_eq_true q, List.any_eq_true]
            exact ⟨t, q, by simp⟩
          · rw [decide_eq_false q, List.any_eq_false]
            intro a ha
            simp
            rintro rfl
            exact q ha
      rw [this]
      exact ⟨.bl _, H, I, rfl, q⟩
theorem in1_g (hu : X.A.units + 65 < cLine) : ∃ r, OpR X (compareOp .In) r ∧ OpG X r in1O := by
  refine ⟨_, op_in1 hu, ?_⟩
  intro m H ah v w x y z Q r hv hw hf q
  unfold in1O at hf
  split at hf
  · rename_i l
    cases h1 : s1s l with
    | none => rw [h1] at hf; cases hf
    | some ss =>
      cases h2 : hd1 v with
      | none => rw [h1, h2] at hf; cases hf
      | some o =>
        rw [h1, h2] at hf
        cases hf
        exact ⟨m, v, l, ss, o, hv, hw, h1, h2, q.here r (.bl _)⟩
  · cases hf
variable {W : WX} {o e f : Expr} {apos cpos p : Pos} {x : Str} {t : Tb} {fo fe ff : GE}
/-- T.get(k) of a dict of the module -/
def tGet1O (t : Tb) : O1 := fun _ v => match v with
  | .str s => some ((tget t s).getD .non)
  | _ => none
def tKGet (K : PySem.W.Frag) (d : Addr) (ty : TE) : TE := fun σ H Q => ty σ H fun y H2 => ∃ (z : Str) (r : Option Value), y = .str z ∧ PySem.W.nsIn K d z = some r ∧ ((r = none ∧ Q .non H2) ∨ ∃ u0 v0, r = some u0 ∧ RelV v0 u0 ∧ Q v0 H2)
theorem pe_kget {d : Addr} {es : Array DictEntry} {n : Nat} {ty : TE} (D : KDict X.K X.w d es n) (ho : PE X o (fun _ H Q => Q (.ref d) H)) (he : PE X e ty) (m : M1 X o "get" apos e cpos) : PE X (.Call (.Attribute o "get" apos) [e] [] cpos) (tKGet X.K d ty) := by
  refine ⟨fun pins s σ H Q I h => ?_⟩
  refine wpAny_Call_method m.base m.few m.line PySem.F.plainAttrs_dict PySem.F.slot_dict_get PySem.F.type_dict_get (thn (ho.run pins s σ H (fun v H1 => v = .ref d ∧ H1 = H) I ⟨rfl, rfl⟩) fun u s1 ⟨x, H1, I1, rx, e1, e2⟩ => ?_)
  subst e1 e2
  obtain rfl : u = Value.ref d := rx
  have mp := PySem.W.mapOf_K (prog := X.prog) (w := X.w) I1.kIn D.at_ D.lit
  refine ⟨mp.typeIs, fun b q => ?_, ?_⟩
  · cases q
    exact mp.noDict d rfl
  rw [m.trees]
  refine Calls.callWith_builtin rfl (Calls.evalArgs_plain (Calls.spliced_cons (thn (he.run pins s1 σ H1 _ I1 h) fun iv s2 ⟨y, H2, I2, ry, z, r, ey, hr, q2⟩ => Calls.spliced_nil ?_)))
  subst ey
  obtain ⟨t, rfl⟩ := ry
  have mp2 := PySem.W.mapOf_K (prog := X.prog) (w := X.w) I2.kIn D.at_ D.lit
  refine call_meetsIn PySem.F.slot_dict_get mp2.typeIs PySem.F.entry_dict_get (PySem.F.args_dict_get_2 _ _) (meets_dict_get _ d (PySem.strKind_is X.prog X.w z t) D.low) ⟨_, mp2, ?_⟩
  rw [PySem.W.find_K D.at_ hr]
  rcases q2 with ⟨rfl, q2⟩ | ⟨u0, v0, rfl, rv, q2⟩
  · exact ⟨.non, H2, I2.tok _, rfl, q2⟩
  · exact ⟨v0, H2, I2.tok _, rv, q2⟩
theorem ge_tget1 (hg : Gl X x) (D : GD X.K X.w X.mg x t) (he : PE X e (tG X W fe)) (m : M1 X (.Name x p) "get" apos e cpos := by exact ⟨rfl, rfl, rfl, rfl⟩) (hd : (x == ("__debug__" : Str)) = false := by decide) : PE X (.Call (.Attribute (.Name x p) "get" apos) [e] [] cpos) (tG X W (gM1 (tGet1O t) fe)) := by
  obtain ⟨d, es, n, h1, h2, h3⟩ := D.ex
  refine PE.weak (pe_kget h2 (pe_glob hg h1 (show RelV (.ref d) (.ref d) from rfl) hd) he m) fun σ H Q h => ?_
  obtain ⟨m, env, ah, hE, hR, hp⟩ := h
  refine tG_step hE hR hp (fun _ _ h => h) fun v ah1 m1 H1 y e1 r1 v1 hp1 => ?_
  cases v1 with
  | str s =>
    have hp1 : (lift1 (some ((tget t s).getD .non)) ah1).post _ _ := hp1
    cases q : tget t s with
    | none =>
      rw [q] at hp1
      exact ⟨mkS s, none, rfl, (DE.ns h2 h3 s).2 q, .inl ⟨rfl, hp1 m1 H1 _ e1 r1 .non⟩⟩
    | some z =>
      rw [q] at hp1
      obtain ⟨u, hu, y, ry, vy⟩ := (DE.ns h2 h3 s).1 z q
      exact ⟨mkS s, some u, rfl, hu, .inr ⟨u, y, rfl, ry, hp1 m1 H1 _ e1 r1 (vy _ _)⟩⟩
  | _ => exact hp1.elim
/-- d.get(k, x) of a dict that may change -/
def gGetR (o k d : GE) : GE := fun env ah => rb (o env ah) fun w ah1 => match dr ah1 w with
  | .dk _ => rb (k env ah1) fun kv ah2 => rb (d env ah2) fun dv ah3 => match dr ah3 w with
    | .dk l => match keyA kv with
      | some q => .ok ((lookK l q).getD dv) ah3
      | none => .bad
    | _ => .bad
  | _ => .bad
theorem ge_getR (ho : PE X o (tG X W fo)) (he : PE X e (tG X W fe)) (hf : PE X f (tG X W ff)) (m : M2 X o "get" apos e f cpos := by exact ⟨rfl, rfl, rfl, rfl⟩) : PE X (.Call (.Attribute o "get" apos) [e, f] [] cpos) (tG X W (gGetR fo fe ff)) :=
  PE.weak (pe_getK ho he hf m) fun σ H Q h => by
    obtain ⟨m, env, ah, hE, hR, hp⟩ := h
    refine tG_step hE hR hp (fun _ _ h => h) fun v ah1 m1 H1 x e1 r1 v1 hp1 => ?_
    cases hd : dr ah1 v with
    | dk l =>
      rw [hd] at hp1
      obtain ⟨a, kvs, rfl, h1, h2⟩ := VR.dict r1 v1 hd
      refine ⟨a, rfl, ⟨kvs, h1⟩, ?_⟩
      refine tG_step (hE.mono e1) r1 (Res.post_imp hp1 (fun _ _ _ h => PQ.mono e1 h) (fun _ _ h => PX.mono e1 h)) (fun _ _ h => h) fun kv ah2 m2 H2 y e2 r2 v2 hp2 => ?_
      refine tG_step ((hE.mono e1).mono e2) r2 (Res.post_imp hp2 (fun _ _ _ h => PQ.mono e2 h) (fun _ _ h => PX.mono e2 h)) (fun _ _ h => h) fun dv ah3 m3 H3 z e3 r3 v3 hp3 => ?_
      have v1' := (v1.mono e2).mono e3
      cases hd3 : dr ah3 v with
      | dk l3 =>
        simp only [hd3] at hp3
        obtain ⟨a', kvs', ea, h1', h2'⟩ := VR.dict r3 v1' hd3
        cases ea
        cases hk : keyA kv with
        | none => rw [hk] at hp3; exact hp3.elim
        | some q =>
          rw [hk] at hp3
          refine ⟨akey q, kvs', keyA_kV hk (v2.mono e3), h1', ?_⟩
          rcases h2'.look q with ⟨g1, g2⟩ | ⟨v', x', g1, g2, hx⟩
          · have hp3 : PQ X.K m2 H2 Q ((lookK l3 q).getD dv) ah3 := hp3
            rw [g1] at hp3
            rw [g2]
            exact hp3 m3 H3 z e3 r3 v3
          · have hp3 : PQ X.K m2 H2 Q ((lookK l3 q).getD dv) ah3 := hp3
            rw [g1] at hp3
            rw [g2]
            exact hp3 m3 H3 x' e3 r3 hx
      | _ => simp only [hd3] at hp3; exact hp3.elim
    | _ => rw [hd] at hp1; exact hp1.elim
/-- <= of numbers, of texts -/
def leX : O2 := fun _ v w => match v, w with
  | .int i, .int j => some (.bl (decide (i ≤ j)))
  | .str s, .str t => some (.bl (!decide (t < s)))
  | _, _ => none
theorem leX_g : ∃ r, OpR X (compareOp .LtE) r ∧ OpG X r leX := by
  refine ⟨_, op_le.or op_le_str, ?_⟩
  intro m H ah v w x y z Q r hv hw hf q
  unfold leX at hf
  split at hf
  · cases hf; cases hv; cases hw
    exact .inl ⟨_, _, rfl, rfl, q.here r (.bl _)⟩
  · cases hf; cases hv; cases hw
    refine .inr ⟨_, _, rfl, rfl, ?_⟩
    rw [mkS_list, mkS_list]
    exact q.here r (.bl _)
  · cases hf
/-- x == a text, x whatever -/
def eqSB (s : List Nat) : AV → Option Bool
  | .str t => some (decide (t = s))
  | .fl _ => none
  | .ref _ => none
  | .fn _ => none
  | _ => some false
def eqSO : O2 := fun _ v w => match w with
  | .str s => (eqSB s v).map .bl
  | _ => none
def rEqS (K : PySem.W.Frag) : R2 := fun x y H Q => ∃ m v s b, VR K m H v x ∧ y = .str (mkS s) ∧ eqSB s v = some b ∧ Q (.bl b) H
theorem op_eqS (hu : X.A.units < cLine) : OpR X (compareOp .Eq) (rEqS X.K) := by
  intro pins σ0 σ H x y v u Q I rx ry h
  obtain ⟨m, vv, s, b, hv, rfl, hb, q⟩ := h
  obtain ⟨t, rfl⟩ := ry
  have go : RcAt X.A σ0 v (.str (mkS s) t) b → wpAny (model X.prog X.w) X.A (compareOp .Eq v (.str (mkS s) t)) (EP X pins σ Q) X.xe σ0 := fun r => r X.prog X.w X.xe _ ⟨.bl b, H, I, rfl, q⟩
  cases hv with
  | non => cases hb; cases rx; exact go (RcAt.none_str _ t)
  | bl k => cases hb; cases rx; exact go (RcAt.bool_str k _ t)
  | int i => cases hb; obtain ⟨t2, rfl⟩ := rx; exact go (RcAt.int_str i t2 _ t)
  | str z =>
    cases hb
    obtain ⟨t2, rfl⟩ := rx
    have e : (mkS z == mkS s) = decide (z = s) := by
      by_cases q : z = s
      · subst q; simp
      · rw [decide_eq_false q, beq_eq_false_iff_ne]; exact fun k => q (mkS_inj k)
    have := RcAt.str_str (A := X.A) (s := σ0) (mkS z) t2 (mkS s) t
    rw [e] at this
    exact go this
  | fl _ _ => cases hb
  | ref _ => cases hb
  | fn _ => cases hb
  | lst q1 _ _ =>
    cases hb; cases rx
    obtain ⟨us, r1, p1, _⟩ := I.list (SqL.of q1)
    exact go (RcAt.list_str _ t p1.isList hu)
  | tup q1 _ =>
    cases hb; cases rx
    obtain ⟨us, r1, p1, _⟩ := I.tuple q1.sqT
    exact go (RcAt.tuple_str _ t p1 hu)
  | dk q1 _ _ =>
    cases hb; cases rx
    obtain ⟨_, _, _, _, ob2, es, ep, k1, k2, k3, _⟩ := DKR.at I q1
    obtain ⟨cls2, dd2, data2, sl2⟩ := ob2
    have k21 : cls2 = .type "dict" := k2.1
    simp only at k3
    subst k21 k3
    exact go (RcAt.dict_str _ t k1 hu)
theorem eqS_g (hu : X.A.units + 64 < cLine) : ∃ r, OpR X (compareOp .Eq) r ∧ OpG X r eqSO := by
  refine ⟨_, op_eqS (by omega), ?_⟩
  intro m H ah v w x y z Q r hv hw hf q
  unfold eqSO at hf
  split at hf
  · rename_i s
    cases h2 : eqSB s v with
    | none => rw [h2] at hf; cases hf
    | some b =>
      rw [h2] at hf; cases hf; cases hw
      exact ⟨m, v, s, b, hv, rfl, h2, q.here r (.bl _)⟩
  · cases hf
/-- a, b = x, y -/
theorem gs_par {i j : Nat} {x y : Str} {a b : Expr} {fa fb : GE} {px py pt pos : Pos} {kt k2 pt2} (hc : X.calm = true) (hN : X.N.Nodup) (hi : X.N[i]? = some x) (hj : X.N[j]? = some y) (hij : i ≠ j)
    (hx : X.env.scope.names.lookup x = some .local) (hy : X.env.scope.names.lookup y = some .local) (ha : PA X [a, b] (tGA X W (gCons fa (gCons fb gNil))))
    (hw : swappedStores [.Tuple [.Name x px, .Name y py] kt pt] (.Tuple [a, b] k2 pt2) X.env = pure (some [x, y]))
    (hs : swapsWithSole [.Tuple [.Name x px, .Name y py] kt pt] (.Tuple [a, b] k2 pt2) pos.line X.env = pure false := by rfl) :
    PS X (.Assign [.Tuple [.Name x px, .Name y py] kt pt] (.Tuple [a, b] k2 pt2) pos) (tGS X W (gAsg (gTup (gCons fa (gCons fb gNil))) (gTg 2 (gTc (gNm i) (gTc (gNm j) gTn))))) :=
  PS.weak (ps_par hc hN hi hj hij hx hy ha hw hs) fun D σ H hh => by
    obtain ⟨m, env, ah, hE, hR, hp⟩ := hh
    refine ⟨m, env, ah, hE, hR, ?_⟩
    have hp : sPost X W m H D (sb (rb (gCons fa (gCons fb gNil) env ah) fun l ah1 => limL l (.tup l) ah1) env fun v ah1 => match gTg 2 (gTc (gNm i) (gTc (gNm j) gTn)) env v with
      | some env1 => .nx env1 ah1
      | none => .bad) := hp
    cases e : gCons fa (gCons fb gNil) env ah with
    | ok l ah1 =>
      rw [e] at hp
      match l, hp with
      | [], hp => exact hp.elim
      | [v], hp => exact hp.elim
      | [v, w], hp =>
        have hp : PN X.K m H D.nx ((env.set i (some v)).set j (some w)) ah1 := hp
        intro m1 H1 xs e1 r1 v1
        cases v1 with
        | cons a1 a2 =>
          cases a2 with
          | cons b1 b2 =>
            cases b2
            exact ⟨_, _, rfl, hp m1 H1 _ e1 r1 (((hE.mono e1).set i a1).set j b1)⟩
      | u :: v :: w :: z, hp =>
        exfalso
        have hp : sPost X W m H D (sb (limL (u :: v :: w :: z) (.tup (u :: v :: w :: z)) ah1) env fun v ah1 => match gTg 2 (gTc (gNm i) (gTc (gNm j) gTn)) env v with
          | some env1 => .nx env1 ah1
          | none => .bad) := hp
        unfold limL at hp
        split at hp
        · have e3 : gTg 2 (gTc (gNm i) (gTc (gNm j) gTn)) env (.tup (u :: v :: w :: z)) = none := by
            show (if (u :: v :: w :: z).length = 2 then gTc (gNm i) (gTc (gNm j) gTn) env (u :: v :: w :: z) else none) = none
            rw [if_neg (by simp)]
          rw [sb_ok, e3] at hp
          exact hp
        · exact hp
    | exc ev ah1 => rw [e] at hp; exact fun m1 H1 c d e1 r1 xr => hp m1 H1 σ c d e1 r1 (hE.mono e1) xr
    | bad => rw [e] at hp; exact hp.elim
end
end G
namespace HT
open PySem PySem.Spec PyProof.Rows L2
section
variable {prog : Program} {w : World} {A : Around} {E : Value → Shared → Prop} {s : Shared}
theorem places_rev (n : Nat) : Builtin.Slice.slicePlaces ((n : Int) - 1) (-1) (-1) = n := by
  unfold Builtin.Slice.slicePlaces
  have h1 : ¬ ((-1 : Int) > 0) := by omega
  simp only [h1, if_false]
  split <;> simp <;> omega
theorem fm_map {α β : Type} {f : α → Option β} {g : α → β} : ∀ l : List α, (∀ x ∈ l, f x = some (g x)) → l.filterMap f = l.map g
  | [], _ => rfl
  | a :: l, h => by
    rw [List.filterMap_cons, h a (by simp), fm_map l fun x hx => h x (by simp [hx])]; rfl
theorem rev_run (xs : Array Value) : ((List.range xs.size).filterMap fun (m : Nat) => xs[((xs.size : Int) - 1 + (m : Int) * (-1)).toNat]?).toArray = xs.toList.reverse.toArray := by
  congr 1
  refine List.ext_getElem? fun i => ?_
  have e : ∀ m ∈ List.range xs.size, xs[((xs.size : Int) - 1 + (m : Int) * (-1)).toNat]? = some (xs.toList.reverse.getD m .none) := fun m hm => by
    have hm := List.mem_range.mp hm
    have e1 : ((xs.size : Int) - 1 + (m : Int) * (-1)).toNat = xs.size - 1 - m := by omega
    rw [e1]
    have h2 : xs.size - 1 - m < xs.size := by omega
    rw [Array.getElem?_eq_getElem h2]
    congr 1
    rw [List.getD_eq_getElem?_getD, List.getElem?_reverse (by simpa using hm)]
    simp [h2]
  rw [fm_map _ e]
  rw [List.getElem?_map]
  by_cases hi : i < xs.size
  · rw [List.getElem?_range hi]
    simp [hi]
  · rw [List.getElem?_eq_none (by simp; omega), List.getElem?_eq_none (by simp; omega)]; rfl
theorem getItem_tuple_rev {t sl : Addr} {items : Array Value} {vl vu vs : Value} {Q : Value → Shared → Prop} (ht : IsTup s.heap t items) (hs : s.heap.IsSliceOf sl vl vu vs) (pl : IsPart vl none) (pu : IsPart vu none) (ps : IsPart vs (some (-1)))
    (h : Q (.ref s.heap.objs.size) { s with heap := s.heap.push { cls := .type "tuple", data := .seq items.toList.reverse.toArray } })
    (hsz : items.size ≤ sizeLine) : wpAny (model prog w) A (getItem (.ref t) (.ref sl)) Q E s := by
  have htake : sizeOk (.seq items.toList.reverse.toArray) := by
    show items.toList.reverse.toArray.size ≤ sizeLine
    simpa using hsz
  obtain ⟨os, hos, hcs, hds⟩ := id hs
  have hTs : s.TypeIs (.ref sl) "slice" := ⟨os, hos, hcs⟩
  unfold getItem
  try with_reducible refine wpAny_holding ?_
  first | refine wpAny_bind (wpAny_pure ?_) | skip
  refine wpAny_bind (wpAny_sequenceKey ht.typeIs (by decide) ?_)
  refine wpAny_bind (wpAny_callSpecial?_slot (name := Str.ofString "__getitem__") ht.typeIs PyProof.Rows.slot_tuple_getitem
    (wpAny_call_entry PyProof.Rows.slot_tuple_getitem ht.typeIs entry_tuple_getitem ?_ (args_tuple_getitem _ _)))
  show wpAny _ _ (Builtin.Tuple.tupleItemsOf (.ref t) >>= _) _ _ s
  refine wpAny_bind (tupleItemsOf_ ht ?_)
  refine wpAny_bind (wpAny_typeOf hTs ?_)
  rw [if_pos (by decide)]
  have ap : ∀ {A : Around} {E : Value → Shared → Prop} {Q : Int × Int × Nat → Shared → Prop}, Q ((items.size : Int) - 1, -1, items.size) s → wpAny (model prog w) A (Builtin.Slice.sliceApplied (.ref sl) (pure (items.size : Int))) Q E s := fun {A E Q} h => by
    unfold Builtin.Slice.sliceApplied Builtin.Slice.sliceFields
    refine wpAny_bind (wpAny_bind (wpAny_field hos hds (x := vl) rfl (wpAny_bind (wpAny_field hos hds (x := vu) rfl (wpAny_bind (wpAny_field hos hds (x := vs) rfl (wpAny_pure ?_)))))))
    refine wpAny_bind (slicePart_ ps ?_)
    show wpAny _ _ (if ((-1 : Int) == 0) = true then _ else _) _ _ s
    rw [if_neg (by decide)]
    refine wpAny_bind (slicePart_ pl (wpAny_bind (slicePart_ pu (wpAny_bind (wpAny_pure ?_)))))
    show wpAny _ _ (match Builtin.Slice.sliceAdjust none none (-1) (items.size : Int) with | (lo, hi) => pure (lo, (-1 : Int), Builtin.Slice.slicePlaces lo hi (-1))) _ _ s
    show wpAny _ _ (pure ((items.size : Int) - 1, (-1 : Int), Builtin.Slice.slicePlaces ((items.size : Int) - 1) (-1) (-1))) _ _ s
    rw [places_rev]
    exact wpAny_pure h
  refine wpAny_bind (ap ?_)
  have hno : ¬ ((((items.size : Int) - 1) == 0 && (-1 : Int) == 1 && items.size == items.size) = true) := by simp
  show wpAny _ _ (if ((((items.size : Int) - 1) == 0 && (-1 : Int) == 1 && items.size == items.size)) = true then _ else _) _ _ s
  rw [if_neg hno, rev_run]
  first
    | exact wpAny_bind (m := Builtin.Tuple.tupleExact _) (wpAny_newObj_type (wpAny_pure ⟨_, rfl, wpAny_pure h⟩) htake)
    | exact wpAny_bind (m := Builtin.Tuple.tupleExact _) (wpAny_newObj_type (wpAny_bind (wpAny_pure (wpAny_pure ⟨_, rfl, wpAny_pure h⟩))) htake)
    | exact wpAny_bind (wpAny_bind (m := Builtin.Tuple.tupleExact _) (wpAny_newObj_type (wpAny_pure (wpAny_pure ⟨_, rfl, wpAny_pure h⟩)) htake))
    | exact wpAny_bind (wpAny_bind (m := Builtin.Tuple.tupleExact _) (wpAny_newObj_type (wpAny_pure ⟨_, rfl, wpAny_pure h⟩) htake))
end
end HT
namespace G
open PySem PySem.Spec PyProof.Rows L2
set_option autoImplicit false
section
variable {X : Cx} {W : WX} {a : Expr} {fa : GE} {p p2 q pos : Pos}
def luO : O1 := fun ah v => match dr ah v with
  | .lst l => match strsA l with
    | some ss => if ss.length < 2000 then some (.int (uniqA ss).length) else none
    | none => none
  | _ => none
def tLuS (K : PySem.W.Frag) (ta : TE) : TE := fun σ H Q => ta σ H fun x H1 =>
  ∃ (l : Addr) (ss : List Str), x = .ref l ∧ SqL K H1 l (ss.map V.str) ∧ ss.length < 2000 ∧ Q (.int (uniqA ss).length) H1
theorem nd_len {α : Type} [DecidableEq α] {l m : List α} (h1 : l.Nodup) (h2 : ∀ x, x ∈ l ↔ x ∈ m) : l.length = (uniqA m).length :=
  ((List.perm_ext_iff_of_nodup h1 (nodup_uniq m)).mpr fun x => by rw [h2, mem_uniq]).length_eq
theorem pe_lenSetT {ta : TE} (hc : X.calm = true) (hg : Gl X "len") (hm : X.mg "len" = none) (hg2 : Gl X "set") (hm2 : X.mg "set" = none) (ha : PE X a ta)
    (na : starEach [a] X.env = (false, eval a X.env) :: starEach [] X.env := by rfl) : PE X (.Call (.Name "len" p) [.Call (.Name "set" p2) [a] [] q] [] pos) (tLuS X.K ta) := by
  refine ⟨fun pins s σ H Q I h => ?_⟩
  refine Call_ (ld_blt I hg hm boot_len ?_)
  refine PyProof.Rows.callWith_builtin1 (PyProof.Rows.args_cons ?_ rfl) rfl rfl
  refine Call_ (ld_blt I hg2 hm2 boot_set ?_)
  refine PyProof.Rows.callWith_type1 (PyProof.Rows.args_cons (thn (ha.run pins s σ H _ I h) fun v s1 ⟨x, H1, I1, r1, q1⟩ => PyProof.Rows.args_nil ?_) na) na rfl
  obtain ⟨l, ss, rfl, hq, h63, q1⟩ := q1
  cases r1
  obtain ⟨its, r, pl, hz⟩ := I1.list hq
  have hS := strsAre_of r
  have hlen : its.length = ss.length := by rw [← r.length, List.length_map]
  have e1 : ∀ {vs : List Value} {ss : List Str}, StrsAre vs ss → vs.map SG.sf = ss ∧ ∀ v ∈ vs, ∃ x t, v = Value.str x t := by
    intro vs ss h
    induction h with
    | nil => exact ⟨rfl, by simp⟩
    | cons x t _ ih => exact ⟨by rw [List.map_cons, ih.1]; rfl, fun v hv => by rcases List.mem_cons.mp hv with rfl | hv; exact ⟨_, _, rfl⟩; exact ih.2 v hv⟩
  obtain ⟨ek, eC⟩ := e1 hS
  refine SG.of_list (R := SG.strR X.prog X.w) (I1.ok.hd hc) pl.isList eC (by unfold scanBound; omega) fun h' tk c hS' hcn k => ?_
  refine PyProof.Rows.args_nil ?_
  have I2 : Inv X pins σ H1 { s1 with heap := h', toks := tk } := I1.kept k
  obtain ⟨o, es, ep, t, ho, g⟩ := hS'
  have hn : es.size = (uniqA ss).length := by
    have e : (SG.RdK.ks (SG.strR X.prog X.w) es.toList).length = (uniqA ss).length := nd_len g.nd fun x => by
      rw [← g.mem, show its.map (SG.strR X.prog X.w).kf = ss from ek]
      simp
    rw [← e]
    simp [SG.RdK.ks]
  have hlt : es.size < 4096 := g.lt
  refine call_len_set ho g.ex g.dat g.fit (by omega) ⟨.int (uniqA ss).length, H1, I2.tok _, ⟨_, by rw [hn]⟩, q1⟩
theorem uniq_mk : ∀ ss : List (List Nat), (uniqA (ss.map mkS)).length = (uniqA ss).length
  | [] => rfl
  | s :: ss => by
    rw [List.map_cons, uniqA, uniqA]
    have : mkS s ∈ ss.map mkS ↔ s ∈ ss := by
      rw [List.mem_map]
      exact ⟨fun ⟨x, hx, e⟩ => mkS_inj e ▸ hx, fun h => ⟨s, h, rfl⟩⟩
    by_cases h : s ∈ ss
    · rw [if_pos (this.mpr h), if_pos h, uniq_mk ss]
    · rw [if_neg (fun z => h (this.mp z)), if_neg h, List.length_cons, List.length_cons, uniq_mk ss]
theorem ge_lenS {k : Nat} (hx : XG X W k) (hg : Gl X "len") (hm : X.mg "len" = none) (hg2 : Gl X "set") (hm2 : X.mg "set" = none) (ha : PE X a (tG X W fa))
    (na : starEach [a] X.env = (false, eval a X.env) :: starEach [] X.env := by rfl) : PE X (.Call (.Name "len" p) [.Call (.Name "set" p2) [a] [] q] [] pos) (tG X W (gM1 luO fa)) :=
  PE.weak (pe_lenSetT hx.calm hg hm hg2 hm2 ha na) fun σ H Q h => by
    obtain ⟨m, env, ah, hE, hR, hp⟩ := h
    refine tG_step hE hR hp (fun _ _ h => h) fun v ah1 m1 H1 x e1 r1 v1 hp1 => ?_
    have hp1 : (lift1 (luO ah1 v) ah1).post _ _ := hp1
    unfold luO at hp1
    split at hp1
    · obtain ⟨a, vs, rfl, h1, h2⟩ := VR.list r1 v1 (by assumption)
      split at hp1
      · rename_i ss hss
        split at hp1
        · rename_i h63
          have e := strs_vs h2 hss
          subst e
          refine ⟨a, ss.map mkS, rfl, SqL.of h1, by simpa using h63, ?_⟩
          rw [uniq_mk]
          exact hp1 m1 H1 _ e1 r1 (.int _)
        · exact hp1.elim
      · exact hp1.elim
    · exact hp1.elim
/-- max of a list of numbers -/
def max1O : OL := fun ah l => match l with
  | [v] => match dr ah v with
    | .lst l => match intsA l with
      | some (n :: ns) => some (.int (maxI (n :: ns)))
      | _ => none
    | _ => none
  | _ => none
theorem max1_g (hc : X.calm = true) : ∃ r, CallR X (.builtin "max") r ∧ CallG X r max1O := by
  refine ⟨_, cr_max hc, ?_⟩
  intro m H ah l xs z Q r hv hf q
  unfold max1O at hf
  split at hf
  · obtain ⟨x, rfl, hx⟩ := hv.one
    split at hf
    · obtain ⟨a, vs, rfl, h1, h2⟩ := VR.list r hx (by assumption)
      split at hf
      · rename_i n ns hns
        cases hf
        have e := ints_vs h2 hns
        subst e
        refine ⟨a, n :: ns, rfl, SqL.of h1, by simp, fun M k1 k2 => ?_⟩
        rw [maxI_of _ M k1 k2]
        exact q.here r (.int _)
      · cases hf
    · cases hf
  · cases hf
/-- t[::-1] of a tuple -/
def tRevT (K : PySem.W.Frag) (te : TE) : TE := fun σ H Q => te σ H fun x H1 => ∃ a xs, x = .ref a ∧ SqT K H1 a xs ∧ NewT Q H1 xs.reverse
theorem pe_revT {e : Expr} {te : TE} {k : Nat} {p1 p2 p3 pos : Pos} (he : PE X e te) : PE X (.Subscript e (.Slice none none (some (.UnaryOp .USub (.Constant (.int 1) k p1) p2)) p3) pos) (tRevT X.K te) := by
  refine ⟨fun pins s σ H Q I h => ?_⟩
  refine Subscript_ (thn (he.run pins s σ H _ I h) fun v s1 ⟨x, H1, I1, r1, q1⟩ => ?_)
  obtain ⟨a, xs, ex, hx, q⟩ := q1
  subst ex
  cases r1
  have hst : PO X (some (.UnaryOp .USub (.Constant (.int 1) k p1) p2)) (tPart (tUn (rU fun i => .int (-i)) (tC (.int 1)))) := po_some (pe_un un_neg pe_int)
  refine wpAny_Slice (thn (po_none.run pins s1 σ H1 (fun o H2 => o = none ∧ H2 = H1) I1 ⟨rfl, rfl⟩) fun vl s2 ⟨l, H2, I2, pl, el, e2⟩ => ?_)
  subst el e2
  refine thn (po_none.run pins s2 σ H2 (fun o H3 => o = none ∧ H3 = H2) I2 ⟨rfl, rfl⟩) fun vu s3 ⟨u, H3, I3, pu, eu, e3⟩ => ?_
  subst eu e3
  refine thn (hst.run pins s3 σ H3 (fun o H4 => o = some (-1) ∧ H4 = H3) I3 ⟨1, rfl, -1, rfl, rfl, rfl⟩) fun vs s4 ⟨o, H4, I4, ps, eo, e4⟩ => ?_
  subst eo e4
  have I5 : Inv X pins σ H4 { s4 with heap := s4.heap.push { cls := .type "slice", data := .fields #[vl, vu, vs] } } := I4.kept (t' := s4.toks) fun b ob q => Heap.get?_push_of_some _ q
  obtain ⟨its, r, ht, hz⟩ := I5.tuple hx
  have hlen := r.length
  show wpAny (model X.prog X.w) X.A (subscriptTail e (.Slice none none (some (.UnaryOp .USub (.Constant (.int 1) k p1) p2)) p3) (.ref a) (.ref s4.heap.objs.size)) (EP X pins σ Q) X.xe { s4 with heap := s4.heap.push { cls := .type "slice", data := .fields #[vl, vu, vs] } }
  refine tail_any (ops := [.ref a, .ref s4.heap.objs.size]) ht.typeIs (PyProof.Rows.slot_tuple_getitem.lookup) ?_ (by with_unfolding_all rfl)
  refine HT.getItem_tuple_rev ht (Heap.IsSliceOf.new _ vl vu vs) pl pu ps ?_ (by rw [List.size_toArray]; omega)
  have e : its.toArray.toList.reverse.toArray = its.reverse.toArray := by simp
  rw [e]
  exact new_tup I5 r.reverse (by rw [List.length_reverse]; exact hz) q
def revTO : O1 := fun ah v => match dr ah v with
  | .tup l => some (.tup l.reverse)
  | _ => none
theorem ge_revT {e : Expr} {fe : GE} {k : Nat} {p1 p2 p3 : Pos} (he : PE X e (tG X W fe)) : PE X (.Subscript e (.Slice none none (some (.UnaryOp .USub (.Constant (.int 1) k p1) p2)) p3) pos) (tG X W (gM1 revTO fe)) :=
  PE.weak (pe_revT he) fun σ H Q h => by
    obtain ⟨m, env, ah, hE, hR, hp⟩ := h
    refine tG_step hE hR hp (fun _ _ h => h) fun v ah1 m1 H1 x e1 r1 v1 hp1 => ?_
    have hp1 : (lift1 (revTO ah1 v) ah1).post _ _ := hp1
    unfold revTO at hp1
    split at hp1
    · obtain ⟨a, vs, rfl, h1, h2⟩ := VR.tupl r1 v1 (by assumption)
      exact ⟨a, vs, rfl, h1, (PQ.mono e1 hp1).newT r1 h2.reverse⟩
    · exact hp1.elim
end
end G
namespace G
open PySem PySem.Spec PyProof.Rows L2
set_option autoImplicit false
section
variable {K : PySem.W.Frag} {m : MM} {H : Hp}
theorem VRk.vals : ∀ {l : List (AK × AV)} {kvs : List (Key × V)}, VRk K m H l kvs → VRs K m H (l.map (·.2)) (kvs.map (·.2))
  | _, _, .nil => .nil
  | _, _, .cons h r => .cons h (VRk.vals r)
theorem jg_vals {d : Addr} {od : Obj} {kvs : List (Key × V)} {l : List (AK × AV)} (h : H d = some (.frz od (.dK kvs))) (hv : VRk K m H l kvs) : JG false K (Itd d od kvs) m H (none, l.map (·.2)) := by
  refine ⟨fun m' H' ah' e r c => ?_, fun m' H' ah' i v e r c hi => ?_, fun m' H' ah' i v x H'' e r c hi y => ?_⟩
  · exact ⟨e.still _ _ h rfl, by rw [List.length_map, hv.length]; exact Nat.le_refl _⟩
  · have := (List.getElem?_eq_some_iff.mp hi).1
    exact ⟨e.still _ _ h rfl, by simpa [hv.length] using this⟩
  · obtain ⟨rfl, k, hk⟩ := y
    obtain ⟨x', hx', rx⟩ := (VRk.vals (hv.mono e)).get hi
    rw [List.getElem?_map, hk] at hx'
    cases hx'
    exact ⟨fun _ _ h => h, .inl rx⟩
theorem jg_items {d : Addr} {od : Obj} {kvs : List (Key × V)} {l : List (AK × AV)} (h : H d = some (.frz od (.dK kvs))) (hv : VRk K m H l kvs) : JG true K (Iti d od kvs) m H (none, l.map fun p => .tup [keyV p.1, p.2]) := by
  refine ⟨fun m' H' ah' e r c => ?_, fun m' H' ah' i v e r c hi => ?_, fun m' H' ah' i v x H'' e r c hi y => ?_⟩
  · exact ⟨e.still _ _ h rfl, by rw [List.length_map, hv.length]; exact Nat.le_refl _⟩
  · have := (List.getElem?_eq_some_iff.mp hi).1
    exact ⟨e.still _ _ h rfl, by simpa [hv.length] using this⟩
  · obtain ⟨T, k, w, hk, rfl, hT, rfl⟩ := y
    have hi : (l.map fun p => AV.tup [keyV p.1, p.2])[i]? = some v := hi
    rw [List.getElem?_map] at hi
    obtain ⟨p, hp, rfl⟩ := Option.map_eq_some_iff.mp hi
    obtain ⟨x1, h1, r1⟩ := (hv.mono e).keys.get (show (l.map fun p => keyV p.1)[i]? = some (keyV p.1) by rw [List.getElem?_map, hp]; rfl)
    obtain ⟨x2, h2, r2⟩ := (VRk.vals (hv.mono e)).get (show (l.map (·.2))[i]? = some p.2 by rw [List.getElem?_map, hp]; rfl)
    rw [List.getElem?_map, hk] at h1 h2
    cases h1; cases h2
    refine ⟨fun c o hc => ?_, .inr ⟨rfl, _, _, _, _, _, rfl, rfl, SqT.of upd_same, r1.mono (Ext.new hT), r2.mono (Ext.new hT)⟩⟩
    by_cases z : c = T
    · subst z; rw [hT] at hc; cases hc
    · rw [upd_ne z]; exact hc
end
section
variable {X : Cx} {W : WX} {tg e : Expr} {fa : GE} {apos cpos : Pos}
def valA (v : AV) : Option Src := match v with
  | .dk l => some (none, l.map (·.2))
  | _ => none
def itmA (v : AV) : Option Src := match v with
  | .dk l => some (none, l.map fun p => .tup [keyV p.1, p.2])
  | _ => none
def gVals (a : GE) : GI := fun env ah => rb (a env ah) fun v ah1 => lift1 (valA v) ah1
def gItems (a : GE) : GI := fun env ah => rb (a env ah) fun v ah1 => lift1 (itmA v) ah1
theorem gi_vals (ha : PE X e (tG X W fa)) (hbase : attributeBase e "values" X.env (eval e X.env) = eval e X.env := by rfl) (hline : (apos.endLine == cpos.line) = true := by rfl) : PI X tg (.Call (.Attribute e "values" apos) [] [] cpos) (tGI false X W (gVals fa)) :=
  PI.weak (pi_values (PE.shut ha) hbase hline) fun σ H R h => by
    obtain ⟨m, env, ah, hE, hR, hp⟩ := h
    cases e : fa env ah with
    | bad => unfold gVals at hp; rw [e] at hp; exact hp.elim
    | exc ev ah1 =>
      unfold gVals at hp; rw [e] at hp
      exact ⟨m, env, ah, hE, hR, by rw [e]; exact hp⟩
    | ok v ah1 =>
      unfold gVals at hp; rw [e] at hp
      have hp : (lift1 (valA v) ah1).post _ _ := hp
      cases v with
      | dk l =>
        refine shut_read hE hR e fun m1 H1 d od kvs e1 r1 hd hm hv => ?_
        exact ⟨d, od, kvs, rfl, hd, hp m1 H1 _ e1 r1 (jg_vals hd hv)⟩
      | _ => exact hp.elim
theorem gi_items {elts : List Expr} {kk : Nat} {tpos : Pos} (ha : PE X e (tG X W fa)) (hbase : attributeBase e "items" X.env (eval e X.env) = eval e X.env := by rfl) (hline : (apos.endLine == cpos.line) = true := by rfl) : PI X (.Tuple elts kk tpos) (.Call (.Attribute e "items" apos) [] [] cpos) (tGI true X W (gItems fa)) :=
  PI.weak (pi_items (PE.shut ha) hbase hline) fun σ H R h => by
    obtain ⟨m, env, ah, hE, hR, hp⟩ := h
    cases e : fa env ah with
    | bad => unfold gItems at hp; rw [e] at hp; exact hp.elim
    | exc ev ah1 =>
      unfold gItems at hp; rw [e] at hp
      exact ⟨m, env, ah, hE, hR, by rw [e]; exact hp⟩
    | ok v ah1 =>
      unfold gItems at hp; rw [e] at hp
      have hp : (lift1 (itmA v) ah1).post _ _ := hp
      cases v with
      | dk l =>
        refine shut_read hE hR e fun m1 H1 d od kvs e1 r1 hd hm hv => ?_
        exact ⟨d, od, kvs, rfl, hd, hp m1 H1 _ e1 r1 (jg_items hd hv)⟩
      | _ => exact hp.elim
end
theorem meets_enumerate_newB1 {v : Value} {o : Obj} {H : Heap → Prop} (B : Begins v o H) :
    Meets (Builtin.«enumerate.__new__» ⟨[.type "enumerate", v], []⟩) (fun _ R s => H s.heap ∧
      R (.ok (.ret (.ref (s.heap.push o).objs.size))) { s with heap := (s.heap.push o).push { cls := .type "enumerate", data := .fields #[.none, .bool false, .ref s.heap.objs.size, rawInt 0, .none, .none] } }) :=
  .of_wp fun prog w A R s h => by
    obtain ⟨hp, g, d, tk, os⟩ := s; obtain ⟨h1, h⟩ := h
    have hsub := sub_enumerate
    have q1 : ∀ {A' : Around} {E : Value → Shared → Prop} {Q : Value → Shared → Prop}, Q (.ref hp.objs.size) ⟨hp.push o, g, d, tk, os⟩ → wpAny (model prog w) A' (pyIter v) Q E ⟨hp, g, d, tk, os⟩ :=
      fun q => B.iter prog w _ _ ⟨hp, g, d, tk, os⟩ _ h1 q
    wp_walk using q1
    refine wpAny_stack_any fun st => wpAny_pure ?_
    split
    · rename_i c _ _ _ _ _
      cases (c == Value.type "enumerate")
      · wp_walk using q1
        exact ⟨_, rfl, h⟩
      · wp_walk using q1
        exact ⟨_, rfl, h⟩
    · wp_walk using q1
      exact ⟨_, rfl, h⟩
theorem call_enumerate_B {prog : Program} {w : World} {A : Around} {E : Value → Shared → Prop} {s : Shared} {v : Value} {o : Obj} {H : Heap → Prop} {Q : Value → Shared → Prop} (B : Begins v o H) (h1 : H s.heap)
    (h : ∀ h', IsEnum h' (s.heap.objs.size + 1) s.heap.objs.size 0 .none → h'.get? s.heap.objs.size = some o → h'.objs.size = s.heap.objs.size + 2 →
      (∀ b o, s.heap.get? b = some o → h'.get? b = some o) → Q (.ref (s.heap.objs.size + 1)) { s with heap := h' }) :
    wpAny (model prog w) A (call (.type "enumerate") [v]) Q E s := by
  refine callType_new F.called_enumerate (by decide) (F.typeCall_enumerate_1 _) (F.newCall_enumerate_1 _) (fun obj => F.args_object_init_2 obj _) F.entry_enumerate_new
    (meets_enumerate_newB1 B) ⟨h1, ?_⟩
  have hz : (s.heap.push o).objs.size = s.heap.objs.size + 1 := Heap.size_push ..
  show _ ∧ _
  rw [hz]
  have he : IsEnum ((s.heap.push o).push { cls := .type "enumerate", data := .fields #[.none, .bool false, .ref s.heap.objs.size, rawInt 0, .none, .none] }) (s.heap.objs.size + 1) s.heap.objs.size 0 .none := by
    have := Heap.get?_push_size (s.heap.push o) (o := { cls := .type "enumerate", data := .fields #[.none, .bool false, .ref s.heap.objs.size, rawInt 0, .none, .none] }) rfl
    rw [hz] at this; exact this
  refine ⟨⟨_, he, rfl⟩, h _ he (Heap.get?_push_of_some _ (Heap.get?_push_size _ B.free)) (by rw [Heap.size_push, hz]) fun b o x => Heap.get?_push_of_some _ (Heap.get?_push_of_some _ x)⟩
/-- behind the last item -/
theorem draws_end {prog : Program} {w : World} {A : Around} (hh : A.handled = none) (it t : Addr) (hne : t ≠ it) (items : Array Value) {n : Nat} (hn : items[n]? = none) :
    Draws prog w A it [it, t] n (fun i v => items[i]? = some v) (fun i h => i = n ∧ h.IsTupleIter it t i ∧ h.IsTuple t items) where
  live := fun _ _ st => let ⟨o, ho, _⟩ := st.2.1; ⟨o, ho⟩
  frame := fun _ _ _ st hk => ⟨st.1, st.2.1.at fun o e => hk it (by simp) o e, st.2.2.at fun o e => hk t (by simp) o e⟩
  item := fun i s Q E hi st hQ => absurd st.1 (by omega)
  done := fun s Q E st hE => wpAny_nextOf_tuple_end hh st.2.1 st.2.2 hn hE
/-- the tuple at a, each item in a new pair -/
def IteT (K : PySem.W.Frag) (a : Addr) : It :=
  ⟨fun i H => ∃ (xs : List V) (x : V), SqT K H a xs ∧ xs[i]? = some x, fun i H v H' => ∃ T x, v = .ref T ∧ H T = none ∧ H' = upd H T (.tup [.int (i : Nat), x]) ∧ ∀ xs, SqT K H a xs → xs[i]? = some x, fun i H => ∃ xs : List V, SqT K H a xs ∧ xs.length ≤ i⟩
theorem turn_enumT {P : Program} {w : World} {K : PySem.W.Frag} {elts : List Expr} {kk : Nat} {tpos : Pos} (a e it : Addr) :
    Turn P w K (.Tuple elts kk tpos) (IteT K a) [e, it] e (fun i h => (∃ old, IsEnum h e it ((i : Nat) : Int) old) ∧ h.IsTupleIter it a i ∧ e ≠ it) where
  mem := by simp
  obj := fun i h st b hb => by
    obtain ⟨⟨old, he⟩, ⟨o, ho, hc, hd⟩, _⟩ := st
    have e' : b = e ∨ b = it := by simpa using hb
    rcases e' with z | z
    · rw [z]; exact ⟨_, he, fun v q => nomatch q⟩
    · rw [z]; exact ⟨o, ho, fun v q => by rw [hd] at q; cases q⟩
  keep := fun i h h' st k => let ⟨⟨old, he⟩, hi, hne⟩ := st; ⟨⟨old, k e (by simp) _ he⟩, hi.at fun o q => k it (by simp) o q, hne⟩
  item := by
    intro X hP hw hK hc i pins s σ H E I hf st hg
    subst hP hw hK
    obtain ⟨⟨old, he⟩, hit, hne⟩ := st
    obtain ⟨xs, x, hq, hx⟩ := hg
    obtain ⟨its, rv, p, hz⟩ := I.tuple hq
    obtain ⟨u, hu, ru⟩ := rv.get hx
    have hel : e < s.heap.objs.size := Heap.lt_size he
    have hil : it < s.heap.objs.size := by obtain ⟨_, q, _⟩ := hit; exact Heap.lt_size q
    have hT0 : s.heap.IsTuple a its.toArray := p
    have hae : e ≠ a := fun z => by
      subst z
      obtain ⟨o, ho, hcl, _⟩ := hT0
      rw [he] at ho; cases ho; injection hcl with hcl; exact absurd hcl (by decide)
    have hai : a ≠ it := fun z => by
      subst z
      obtain ⟨o, ho, hcl, _⟩ := hT0
      obtain ⟨o', ho', hcl', _⟩ := hit
      rw [ho] at ho'; cases ho'; rw [hcl] at hcl'; injection hcl' with hcl'; exact absurd hcl' (by decide)
    have hsz : i < its.toArray.size := by
      have := (List.getElem?_eq_some_iff.mp hu).1
      simpa using this
    refine wpAny_pyNext_enum_itemD (Draws.tuple (A := X.A.in1) (I.ok.hd hc) it a hai its.toArray) he ⟨hit, hT0⟩ hsz hne (by simp [hne, hae]) fun x' h' tk hx' ho hst' hT hsz' hk => ?_
    have ex : x' = u := by
      have hx' : its.toArray[i]? = some x' := hx'
      have hu' : its.toArray[i]? = some u := by simpa using hu
      rw [hu'] at hx'; exact (Option.some.inj hx').symm
    subst ex
    refine ⟨_, rfl, wpAny_letOwnedTupleGo_enum (s := { s with heap := h', toks := tk + 1 }) ho fun h'' he' sb => ?_⟩
    have hT2 : h''.get? s.heap.objs.size = some { cls := .type "tuple", data := .seq #[.int i tk, x'] } := (sb.2 _ (Nat.ne_of_gt hel)).trans hT
    have new : ObjOk X.prog X.w (upd H s.heap.objs.size (.tup [.int (i : Nat), x])) h'' s.heap.objs.size (.tup [.int (i : Nat), x]) :=
      ⟨by show 2 ≤ sizeLine; decide, [.int i tk, x'], .cons ⟨_, rfl⟩ (.cons ru .nil), ⟨_, hT2, rfl, _, rfl⟩⟩
    have I1 : Inv X pins σ (upd H s.heap.objs.size (.tup [.int (i : Nat), x])) { s with heap := h'', toks := tk + 1 } :=
      I.turnedNew (ch := [e, it]) (fun b ob hb q => (sb.2 b (fun z => hb (by simp [z]))).trans (hk b ob (fun z => hb (by simp [z])) (fun z => hb (by simp [z])) q)) hf (Nat.le_refl _) new
    refine ⟨.ref s.heap.objs.size, _, I1, rfl, ⟨_, x, rfl, I.hok.fresh (Nat.le_refl _), rfl, fun ys hy => by rw [I.tuple_inj hy hq]; exact hx⟩, ⟨⟨x', ?_⟩, hst'.1.at fun o q => (sb.2 it (Ne.symm hne)).trans q, hne⟩, fun b hb => ?_⟩
    · have e1 : ((i + 1 : Nat) : Int) = (i : Int) + 1 := by omega
      rw [e1]; exact he'
    · have hb' : b < s.heap.objs.size := by
        have e' : b = e ∨ b = it := by simpa using hb
        rcases e' with z | z
        · rw [z]; exact hel
        · rw [z]; exact hil
      rw [upd_ne (Nat.ne_of_lt hb')]
      exact (hf b hb).1
  done := by
    intro X hP hw hK hc i pins s σ H E I hf st hg
    subst hP hw hK
    obtain ⟨⟨old, he⟩, hit, hne⟩ := st
    obtain ⟨xs, hq, hx⟩ := hg
    obtain ⟨its, rv, p, hz⟩ := I.tuple hq
    obtain ⟨f0, f1, f2, f3, f4, f5⟩ := hf it (by simp)
    have hl := rv.length
    have hT0 : s.heap.IsTuple a its.toArray := p
    have hai : a ≠ it := fun z => by
      subst z
      obtain ⟨o, ho, hcl, _⟩ := hT0
      obtain ⟨o', ho', hcl', _⟩ := hit
      rw [ho] at ho'; cases ho'; rw [hcl] at hcl'; injection hcl' with hcl'; exact absurd hcl' (by decide)
    exact wpAny_pyNext_enum_endD (draws_end (A := X.A.in1) (I.ok.hd hc) it a hai its.toArray (n := i) (by simp; omega)) he ⟨rfl, hit, hT0⟩ fun h' eb => ⟨rfl, I.turned (t' := s.toks) (fun b o hb q => eb b o hb q) f0 f1 f3 f4 f5⟩
  self := fun A i s Q E st h => let ⟨⟨_, he⟩, _⟩ := st; wpAny_pyIter_enum he h
def iEnumT (K : PySem.W.Frag) (ta : TA) : TI := fun σ H R => ta σ H fun vs H1 => ∃ a xs, vs = [.ref a] ∧ SqT K H1 a xs ∧ R (IteT K a) H1
theorem pi_enumT {X : Cx} {e : Expr} {ta : TA} {p pos tpos : Pos} {elts : List Expr} {kk : Nat} (hg : Gl X "enumerate") (hm : X.mg "enumerate" = none) (ha : PA X [e] ta) (hs : starEach [e] X.env = [(false, eval e X.env)] := by rfl) :
    PI X (.Tuple elts kk tpos) (.Call (.Name "enumerate" p) [e] [] pos) (iEnumT X.K ta) := by
  refine ⟨fun pins s σ H R I h => ?_⟩
  refine Call_ (ld_blt I hg hm boot_enumerate (PyProof.Rows.callWith_type1 (thn (ha.run pos pins s σ H _ I h) fun us s1 ⟨vs, H1, I1, r1, q1⟩ => ?_) hs rfl))
  obtain ⟨a, xs, ex, hq, q⟩ := q1
  subst ex
  cases r1 with
  | cons r rr =>
    cases rr
    cases r
    obtain ⟨its, rv, p', hz⟩ := I1.tuple hq
    refine call_enumerate_B (begins_tuple a its.toArray) p' fun h' he hit hsz hk => wpAny_pyIter_enum he ?_
    have I2 : Inv X pins σ H1 { s1 with heap := h' } := I1.kept (t' := s1.toks) hk
    refine ⟨s1.heap.objs.size + 1, [s1.heap.objs.size + 1, s1.heap.objs.size], _, _, H1, rfl, I2, turn_enumT a (s1.heap.objs.size + 1) s1.heap.objs.size, ⟨⟨.none, he⟩, ⟨_, hit, rfl, rfl⟩, Nat.succ_ne_self _⟩, fun b hb => ?_, q⟩
    have e' : b = s1.heap.objs.size + 1 ∨ b = s1.heap.objs.size := by simpa using hb
    have hle : s1.heap.objs.size ≤ b := by
      rcases e' with z | z
      · rw [z]; exact Nat.le_add_right _ _
      · rw [z]; exact Nat.le_refl _
    exact I1.fpOk hle (I1.hok.fresh hle)
def enA : Nat → List AV → List AV
  | _, [] => []
  | n, v :: l => .tup [.int n, v] :: enA (n + 1) l
theorem enA_length : ∀ (n : Nat) (l : List AV), (enA n l).length = l.length
  | _, [] => rfl
  | n, v :: l => by rw [enA, List.length_cons, enA_length (n + 1) l, List.length_cons]
theorem enA_get : ∀ {n : Nat} {l : List AV} {i : Nat} {v : AV}, (enA n l)[i]? = some v → ∃ x, l[i]? = some x ∧ v = .tup [.int ((n + i : Nat) : Int), x]
  | n, [], i, v, h => by rw [enA] at h; cases h
  | n, x :: l, 0, v, h => by
    rw [enA] at h
    cases h
    exact ⟨x, rfl, rfl⟩
  | n, x :: l, i + 1, v, h => by
    rw [enA, List.getElem?_cons_succ] at h
    obtain ⟨y, hy, e⟩ := enA_get h
    exact ⟨y, by rw [List.getElem?_cons_succ]; exact hy, by rw [e, show n + 1 + i = n + (i + 1) by omega]⟩
theorem jg_enumT {K : PySem.W.Frag} {m : MM} {H : Hp} {a : Addr} {l : List AV} (h : ∀ m' H' ah', Ext m H m' H' → Rel K m' ah' H' → ∃ vs, SqT K H' a vs ∧ VRs K m' H' l vs) : JG true K (IteT K a) m H (none, enA 0 l) := by
  refine ⟨fun m' H' ah' e r c => ?_, fun m' H' ah' i v e r c hv => ?_, fun m' H' ah' i v x H'' e r c hv y => ?_⟩
  · obtain ⟨vs, h1, h2⟩ := h m' H' ah' e r
    exact ⟨vs, h1, by show vs.length ≤ (enA 0 l).length; rw [enA_length, h2.length]; exact Nat.le_refl _⟩
  · obtain ⟨vs, h1, h2⟩ := h m' H' ah' e r
    obtain ⟨p, e1, rfl⟩ := enA_get hv
    obtain ⟨x, hx, _⟩ := h2.get e1
    exact ⟨vs, x, h1, hx⟩
  · obtain ⟨vs, h1, h2⟩ := h m' H' ah' e r
    obtain ⟨p, e1, rfl⟩ := enA_get hv
    obtain ⟨T, x', rfl, hT, rfl, g1⟩ := y
    obtain ⟨x2, hx, rx⟩ := h2.get e1
    have ex : x2 = x' := Option.some.inj (hx.symm.trans (g1 vs h1))
    subst ex
    refine ⟨fun c o hc => ?_, .inr ⟨rfl, _, _, _, _, _, rfl, rfl, SqT.of upd_same, by rw [Nat.zero_add]; exact .int _, rx.mono (Ext.new hT)⟩⟩
    by_cases z : c = T
    · subst z; rw [hT] at hc; cases hc
    · rw [upd_ne z]; exact hc
section
variable {X : Cx} {W : WX} {e : Expr} {fr : GA} {p pos tpos : Pos} {elts : List Expr} {kk : Nat}
def enR (l : List AV) (ah : AH) : Res Src := match l with
  | [.tup p] => .ok (none, enA 0 p) ah
  | _ => .bad
def gEnum (r : GA) : GI := fun env ah => rb (r env ah) fun l ah1 => enR l ah1
theorem gi_enum (hg : Gl X "enumerate") (hm : X.mg "enumerate" = none) (ha : PA X [e] (tGA X W fr)) (hs : starEach [e] X.env = [(false, eval e X.env)] := by rfl) :
    PI X (.Tuple elts kk tpos) (.Call (.Name "enumerate" p) [e] [] pos) (tGI true X W (gEnum fr)) :=
  PI.weak (pi_enumT hg hm ha hs) fun σ H R h => by
    obtain ⟨m, env, ah, hE, hR, hp⟩ := h
    refine tGA_step hE hR hp (fun _ _ h => h) fun l ah1 m1 H1 xs e1 r1 v1 hp1 => ?_
    unfold enR at hp1
    split at hp1
    · cases v1 with
      | cons hx hr =>
        cases hr
        cases hx with
        | tup a1 a2 =>
          refine ⟨_, _, rfl, a1.sqT, hp1 m1 H1 _ e1 r1 (jg_enumT fun m' H' ah' ex r' => ?_)⟩
          exact ⟨_, (ex.sqN a1).sqT, a2.mono ex⟩
    · exact hp1.elim
end
end G
namespace G
open PySem PySem.Spec PyProof.Rows L2
set_option autoImplicit false
/-- the items of a list are pairs -/
def PrL (K : PySem.W.Frag) (H : Hp) : List V → List (Key × V) → Prop := Paired fun x kv => ∃ T, x = .ref T ∧ SqT K H T [kV kv.1, kv.2]
def tDictOf (K : PySem.W.Frag) (ta : TA) : TE := fun σ H Q => ta σ H fun vs H1 => ∃ a, vs = [.ref a] ∧ ((∃ xs kvs, (SqL K H1 a xs ∨ SqN K H1 a xs) ∧ PrL K H1 xs kvs ∧ ∀ p, H1 p = none → Q (.ref p) (upd H1 p (.dK (mergeK [] kvs)))) ∨ ∃ kvs, Rd H1 a (.dK kvs) ∧ ∀ p, H1 p = none → Q (.ref p) (upd H1 p (.dK kvs)))
section
variable {X : Cx} {pins : List (Addr × Obj)} {σ : L2.St} {H : Hp} {s : Shared}
theorem prl_items (I : Inv X pins σ H s) : ∀ {xs : List V} {kvs : List (Key × V)} {its : List Value}, PrL X.K H xs kvs → Vals xs its →
    ∃ (Ts : Nat → Addr) (ws : List (Value × Value)) (rs : List (Key × Value)), its.length = ws.length ∧ ws.length = rs.length ∧ KV kvs rs ∧
      (∀ (j : Nat) (k v : Value), ws[j]? = some (k, v) → its[j]? = some (.ref (Ts j)) ∧ PairAt s.heap (Ts j) k v) ∧
      ∀ (j : Nat) (k v : Value), ws[j]? = some (k, v) → ∃ q : Key, rs[j]? = some (q, v) ∧ (mixKind X.prog X.w).is q k = true
  | _, _, _, .nil, .nil => ⟨fun _ => 0, [], [], rfl, rfl, .nil, fun j k v h => (by cases h), fun j k v h => (by cases h)⟩
  | _, kv0 :: _, _, .cons h r, .cons hv rv => by
    obtain ⟨Ts, ws, rs, e1, e2, kv, h1, h2⟩ := prl_items I r rv
    obtain ⟨T, rfl, sq⟩ := h
    have hv : _ = Value.ref T := hv
    subst hv
    obtain ⟨its2, rv2, p2, _⟩ := I.tuple sq
    obtain ⟨key, val, rfl, hk, hval⟩ : ∃ key val, its2 = [key, val] ∧ RelV (kV kv0.1) key ∧ RelV kv0.2 val := by
      cases rv2 with
      | cons a1 r1 =>
        cases r1 with
        | cons a2 r2 =>
          cases r2
          exact ⟨_, _, rfl, a1, a2⟩
    refine ⟨fun j => match j with | 0 => T | j + 1 => Ts j, (key, val) :: ws, (kv0.1, val) :: rs, by rw [List.length_cons, List.length_cons, e1], by rw [List.length_cons, List.length_cons, e2], .cons ⟨rfl, hval⟩ kv, fun j k v hj => ?_, fun j k v hj => ?_⟩
    · cases j with
      | zero => cases hj; exact ⟨rfl, .inl p2⟩
      | succ j => exact h1 j k v hj
    · cases j with
      | zero => cases hj; exact ⟨_, rfl, kV_is hk⟩
      | succ j => exact h2 j k v hj
end
theorem tup_plain {X : Cx} {pins : List (Addr × Obj)} {σ : L2.St} {H : Hp} {s : Shared} (I : Inv X pins σ H s) {a : Addr} {xs : List V} (h : SqN X.K H a xs) : ∃ its : List Value, Vals xs its ∧ PlainSeq "tuple" s.heap a its.toArray ∧ xs.length ≤ sizeLine := by
  rcases h with ⟨o, hd, h⟩ | ⟨o, its, n, h1, h2, h3, h4, h5, h6⟩
  · obtain ⟨ho, hz, us, r, ⟨o', ho', hc, n, hda⟩⟩ := I.hok _ _ h
    rw [ho] at ho'; cases ho'
    exact ⟨us, r, ⟨o, n, ho, hc, hd, hda⟩, hz⟩
  · refine ⟨its.toList, h6, ⟨o, n, I.kIn _ _ h1, h2, h3, by simpa using h4⟩, ?_⟩
    have := h6.length
    rw [this, Array.length_toList]; exact h5
theorem pe_dictOf {X : Cx} {e : Expr} {ta : TA} {p pos : Pos} (hc : X.calm = true) (hg : Gl X "dict") (hm : X.mg "dict" = none) (ha : PA X [e] ta) (hs : starEach [e] X.env = [(false, eval e X.env)] := by rfl) :
    PE X (.Call (.Name "dict" p) [e] [] pos) (tDictOf X.K ta) := by
  refine ⟨fun pins s σ H Q I h => ?_⟩
  refine Call_ (ld_blt I hg hm PyProof.Rows.boot_dict (PyProof.Rows.callWith_type1 (thn (ha.run pos pins s σ H _ I h) fun us s1 ⟨vs, H1, I1, r1, q1⟩ => ?_) hs rfl))
  obtain ⟨a, ex, q1⟩ := q1
  subst ex
  cases r1 with
  | cons r rr =>
    cases rr
    cases r
    refine Or.elim q1 (fun ⟨xs, kvs, hq, pr, q⟩ => ?_) (fun ⟨kvs, hq, q⟩ => d_copyOf I1 hq fun p s' hp I' => ⟨.ref p, _, I', rfl, q p hp⟩)
    have go : ∀ {T : String} {its : List Value} {fp : List (Value × Value) → (Nat → Addr) → List Addr}, Vals xs its → xs.length ≤ sizeLine → (∀ (Ts : Nat → Addr) (ws : List (Value × Value)), PairArg X.prog X.w T a (fp ws Ts) [] ws.length (PairRel ws) (fun h => PlainSeq T h a its.toArray ∧ PairItems h its.toArray Ts ws)) → PlainSeq T s1.heap a its.toArray →
        wpAny (model X.prog X.w) X.A (call (.type "dict") [.ref a]) (EP X pins σ Q) X.xe s1 := fun {T its fp} rv hz hP p' => by
      obtain ⟨Ts, ws, rs, e1, e2, kv, h1, h2⟩ := prl_items I1 pr rv
      have hl := rv.length
      have hn : ws.length ≤ sizeLine := by omega
      have hlr : rs.length = ws.length := e2.symm
      have hkl : kvs.length = rs.length := Paired.length kv
      refine call_dict_pairs (knd := mixKind X.prog X.w) (kvs := rs) (hP Ts ws) (I1.ok.hd hc) ⟨p', by simpa using e1, fun j k v hj => ⟨by simpa using (h1 j k v hj).1, (h1 j k v hj).2⟩⟩ ⟨hlr, fun i key v hr => h2 i key v hr⟩ hn fun h' tk hd hk => ?_
      refine ⟨.ref s1.heap.objs.size, _, ?_, rfl, q _ (I1.hok.fresh (Nat.le_refl _))⟩
      have hzm : (mergeK [] kvs).length ≤ sizeLine := by
        have h1 := length_mergeK kvs []
        rw [List.length_nil] at h1
        omega
      exact I1.laid (t' := tk) (fun b o z => hk b o (by simp) z) (Nat.le_refl _) ⟨hzm, beq_eq_false_iff_ne.mpr (Ne.symm (Nat.ne_of_lt I1.big)), _, kv.merge .nil, hd⟩
    rcases hq with hq | hq
    · obtain ⟨its, rv, ⟨o, n, ho, hcl, hdd, hda⟩, hz⟩ := I1.list hq
      exact go rv hz (fun Ts ws => PairArg.list a its.toArray Ts ws) ⟨o, n, ho, hcl, hdd, hda⟩
    · obtain ⟨its, rv, p', hz⟩ := tup_plain I1 hq
      exact go rv hz (fun Ts ws => PairArg.tuple a its.toArray Ts ws) p'
def prA : AV → Option (AK × AV)
  | .tup [k, v] => (keyA k).map fun q => (q, v)
  | _ => none
def prsA : List AV → Option (List (AK × AV))
  | [] => some []
  | v :: l => match prA v, prsA l with
    | some p, some ps => some (p :: ps)
    | _, _ => none
section
variable {X : Cx} {W : WX} {e : Expr} {fr : GA} {p pos : Pos}
theorem prsA_rel {m : MM} {H : Hp} : ∀ {l : List AV} {xs : List V} {ps : List (AK × AV)}, VRs X.K m H l xs → prsA l = some ps → ∃ kvs, PrL X.K H xs kvs ∧ VRk X.K m H ps kvs
  | _, _, ps, .nil, e => by cases e; exact ⟨[], .nil, .nil⟩
  | v :: l, _, ps, .cons hv hr, e => by
    have e : (match prA v, prsA l with
      | some p, some ps => some (p :: ps)
      | _, _ => none) = some ps := e
    split at e
    · rename_i q qs h1 h2
      cases e
      obtain ⟨kvs, k1, k2⟩ := prsA_rel hr h2
      unfold prA at h1
      split at h1
      · rename_i k w
        cases hv with
        | tup a1 a2 =>
          obtain ⟨x, y, rfl, hx, hy⟩ := a2.two
          cases hk : keyA k with
          | none => rw [hk] at h1; cases h1
          | some q =>
            rw [hk] at h1
            cases h1
            obtain rfl := keyA_kV hk hx
            exact ⟨(akey q, y) :: kvs, .cons ⟨_, rfl, a1⟩ k1, .cons hy k2⟩
      · cases h1
    · cases e
def dcR (l : List AV) (ah : AH) : Res (List (AK × AV)) := match l with
  | [w] => match dr ah w with
    | .lst l => lift1 ((prsA l).map fun ps => mergeA [] ps) ah
    | .tup l => lift1 ((prsA l).map fun ps => mergeA [] ps) ah
    | .dk l => .ok l ah
    | _ => .bad
  | _ => .bad
def gDictOf (r : GA) : GE := fun env ah => rb (r env ah) fun l ah1 => rb (dcR l ah1) fun ps ah2 => .ok (.dk ps) ah2
def gDictOfH (r : GA) : GE := fun env ah => rb (r env ah) fun l ah1 => rb (dcR l ah1) fun ps ah2 => .ok (.ref ah2.length) (ah2 ++ [.dk ps])
theorem dcR_ok {l : List AV} {ah : AH} {α : Type} {g : List (AK × AV) → AH → Res α} {P : α → AH → Prop} {E : EV → AH → Prop} (h : (rb (dcR l ah) g).post P E) : ∃ w, l = [w] ∧ ((∃ l' ps, (dr ah w = .lst l' ∨ dr ah w = .tup l') ∧ prsA l' = some ps ∧ (g (mergeA [] ps) ah).post P E) ∨ ∃ l', dr ah w = .dk l' ∧ (g l' ah).post P E) := by
  unfold dcR at h
  split at h
  · rename_i w
    refine ⟨w, rfl, ?_⟩
    split at h
    · rename_i l' e
      cases hp : prsA l' with
      | none => rw [hp] at h; exact h.elim
      | some ps => rw [hp] at h; exact .inl ⟨l', ps, .inl e, hp, h⟩
    · rename_i l' e
      cases hp : prsA l' with
      | none => rw [hp] at h; exact h.elim
      | some ps => rw [hp] at h; exact .inl ⟨l', ps, .inr e, hp, h⟩
    · rename_i l' e
      exact .inr ⟨l', e, h⟩
    · exact h.elim
  · exact h.elim
theorem ge_dictOf (hc : X.calm = true) (hg : Gl X "dict") (hm : X.mg "dict" = none) (ha : PA X [e] (tGA X W fr)) (hs : starEach [e] X.env = [(false, eval e X.env)] := by rfl) :
    PE X (.Call (.Name "dict" p) [e] [] pos) (tG X W (gDictOf fr)) :=
  PE.weak (pe_dictOf hc hg hm ha hs) fun σ H Q h => by
    obtain ⟨m, env, ah, hE, hR, hp⟩ := h
    refine tGA_step hE hR hp (fun _ _ h => h) fun l ah1 m1 H1 xs e1 r1 v1 hp1 => ?_
    obtain ⟨w, rfl, hp2⟩ := dcR_ok hp1
    cases v1 with
    | cons hx hr =>
      cases hr
      have fin : ∀ {l : List (AK × AV)} {kvs : List (Key × V)}, VRk X.K m1 H1 l kvs → PQ X.K m H Q (.dk l) ah1 → ∀ p, H1 p = none → Q (.ref p) (upd H1 p (.dK kvs)) := fun k q p hn =>
        PQ.laid (PQ.mono e1 q) r1 hn (.dk (.inl upd_same) (r1.not hn) (k.mono (Ext.new hn)))
      rcases hp2 with ⟨l', ps, ed, ep, hp2⟩ | ⟨l', ed, hp2⟩
      · rcases ed with ed | ed
        · obtain ⟨a, vs, rfl, h1, h2⟩ := VR.list r1 hx ed
          obtain ⟨kvs, k1, k2⟩ := prsA_rel h2 ep
          exact ⟨a, rfl, .inl ⟨vs, kvs, .inl (SqL.of h1), k1, fin (VRk.merge ps k2 .nil) hp2⟩⟩
        · obtain ⟨a, vs, rfl, h1, h2⟩ := VR.tupl r1 hx ed
          obtain ⟨kvs, k1, k2⟩ := prsA_rel h2 ep
          exact ⟨a, rfl, .inl ⟨vs, kvs, .inr h1, k1, fin (VRk.merge ps k2 .nil) hp2⟩⟩
      · obtain ⟨a, kvs, rfl, h1, h2⟩ := VR.dict r1 hx ed
        exact ⟨a, rfl, .inr ⟨kvs, h1, fin h2 hp2⟩⟩
theorem ge_dictOfH (hc : X.calm = true) (hg : Gl X "dict") (hm : X.mg "dict" = none) (ha : PA X [e] (tGA X W fr)) (hs : starEach [e] X.env = [(false, eval e X.env)] := by rfl) :
    PE X (.Call (.Name "dict" p) [e] [] pos) (tG X W (gDictOfH fr)) :=
  PE.weak (pe_dictOf hc hg hm ha hs) fun σ H Q h => by
    obtain ⟨m, env, ah, hE, hR, hp⟩ := h
    refine tGA_step hE hR hp (fun _ _ h => h) fun l ah1 m1 H1 xs e1 r1 v1 hp1 => ?_
    obtain ⟨w, rfl, hp2⟩ := dcR_ok hp1
    cases v1 with
    | cons hx hr =>
      cases hr
      have fin : ∀ {l : List (AK × AV)} {kvs : List (Key × V)}, VRk X.K m1 H1 l kvs → PQ X.K m H Q (.ref ah1.length) (ah1 ++ [.dk l]) → ∀ p, H1 p = none → Q (.ref p) (upd H1 p (.dK kvs)) := fun k q p hn =>
        PQ.newD (PQ.mono e1 q) r1 k hn
      rcases hp2 with ⟨l', ps, ed, ep, hp2⟩ | ⟨l', ed, hp2⟩
      · rcases ed with ed | ed
        · obtain ⟨a, vs, rfl, h1, h2⟩ := VR.list r1 hx ed
          obtain ⟨kvs, k1, k2⟩ := prsA_rel h2 ep
          exact ⟨a, rfl, .inl ⟨vs, kvs, .inl (SqL.of h1), k1, fin (VRk.merge ps k2 .nil) hp2⟩⟩
        · obtain ⟨a, vs, rfl, h1, h2⟩ := VR.tupl r1 hx ed
          obtain ⟨kvs, k1, k2⟩ := prsA_rel h2 ep
          exact ⟨a, rfl, .inl ⟨vs, kvs, .inr h1, k1, fin (VRk.merge ps k2 .nil) hp2⟩⟩
      · obtain ⟨a, kvs, rfl, h1, h2⟩ := VR.dict r1 hx ed
        exact ⟨a, rfl, .inr ⟨kvs, h1, fin h2 hp2⟩⟩
end
def clrA (ah : AH) (w : AV) : Res AV := match w with
  | .ref n => match ah[n]? with
    | some (.dk _) => .ok .non (ah.set n (.dk []))
    | _ => .bad
  | _ => .bad
def gClr (o : GE) : GE := fun env ah => rb (o env ah) fun w ah1 => clrA ah1 w
section
variable {X : Cx} {W : WX} {o : Expr} {fa : GE} {apos cpos : Pos}
theorem ge_clr (ha : PE X o (tG X W fa)) (hbase : attributeBase o "clear" X.env (eval o X.env) = eval o X.env := by rfl) (hline : (apos.endLine == cpos.line) = true := by rfl) :
    PE X (.Call (.Attribute o "clear" apos) [] [] cpos) (tG X W (gClr fa)) :=
  PE.weak (pe_dclear ha hbase hline) fun σ H Q hh => by
    obtain ⟨m, env, ah, hE, hR, hp⟩ := hh
    refine tG_step hE hR hp (fun _ _ h => h) fun w ah1 m1 H1 x e1 r1 v1 hp1 => ?_
    have hp1 : (clrA ah1 w).post _ _ := hp1
    unfold clrA at hp1
    split at hp1
    · cases v1 with
      | ref hm =>
        rename_i n a
        obtain ⟨ob, ho, qo⟩ := r1.at hm
        rw [ho] at hp1
        cases ob with
        | lst l => exact hp1.elim
        | dk l =>
          obtain ⟨kvs, h1, h2⟩ := qo
          have ex : Ext m1 H1 m1 (upd H1 a (.dK [])) := Ext.write r1 (List.mem_of_getElem? hm)
          exact ⟨.inr (.inr (.inl ⟨rfl, .inl ⟨kvs, h1⟩⟩)), a, kvs, rfl, rfl, h1, hp1 m1 _ _ (e1.trans ex) (r1.write hm rfl ⟨_, rfl, .nil⟩) .non⟩
    · exact hp1.elim
end
end G
namespace G
open PySem PySem.Spec PyProof.Rows L2
set_option autoImplicit false
inductive HitsD (K : PySem.W.Frag) (H : Hp) (ls : List (Key × V)) : List (Key × V) → Bool → Prop
  | nil : HitsD K H ls [] true
  | miss {k : Key} {v : V} {r : List (Key × V)} : valV ls k = none → HitsD K H ls ((k, v) :: r) false
  | hit {k : Key} {v y : V} {r : List (Key × V)} {d e : PyData} {b : Bool} : valV ls k = some y → Dp K H v d → Dp K H y e → SeqAt.shaped d = true → SeqAt.shaped e = true → HitsD K H ls r b → HitsD K H ls ((k, v) :: r) (PyData.eqv d e && b)
section
variable {X : Cx} {pins : List (Addr × Obj)} {σ : L2.St} {H : Hp} {s : Shared}
theorem hits_of (I : Inv X pins σ H s) (hu : X.A.units + 65 < cLine) {ls : List (Key × V)} {vb : List (Key × Value)} (rb : KV ls vb) : ∀ {ks : List (Key × V)} {va : List (Key × Value)} {b : Bool}, KV ks va → HitsD X.K H ls ks b → PySem.W.KeqHits X.A.in1 s vb va b
  | _, _, _, .nil, .nil => .nil
  | (k, v) :: _, (k', u) :: _, _, .cons h r, .miss hn => by
    obtain ⟨h1, h2⟩ := h
    have h1 : k = k' := h1
    subst h1
    have := rb.val k
    rw [hn] at this
    refine .miss ?_
    cases e : valueAt vb k with
    | none => rfl
    | some y => rw [e] at this; exact this.elim
  | (k, v) :: _, (k', u) :: _, _, .cons h r, .hit (y := y) (d := d) (e := e) hy d1 d2 s1 s2 hr => by
    obtain ⟨h1, h2⟩ := h
    have h1 : k = k' := h1
    subst h1
    have := rb.val k
    rw [hy] at this
    obtain ⟨z, hz, rz⟩ := this.some_of
    obtain ⟨as, r1⟩ := Dp.reads I d v u d1 h2
    obtain ⟨bs, r2⟩ := Dp.reads I e y z d2 rz
    exact .hit hz (SeqAt.eqAt_reads d e X.A.in1 s u z as bs r1 r2 (SeqAt.canLay_of_shaped s1) (SeqAt.canLay_of_shaped s2) (SeqAt.room_of_shaped s1 (by show X.A.units + 1 + 64 < cLine; omega))) (hits_of I hu rb r hr)
end
def rDkD (K : PySem.W.Frag) (x y : V) (H : Hp) (P : Bool → Prop) : Prop := ∃ a b ks ls r, x = .ref a ∧ y = .ref b ∧ Rd H a (.dK ks) ∧ Rd H b (.dK ls) ∧ HitsD K H ls ks r ∧ P (ks.length == ls.length && r)
section
variable {X : Cx}
theorem op_eqDkD (hu : X.A.units + 65 < cLine) : OpR X (compareOp .Eq) fun x y H Q => rDkD X.K x y H fun b => Q (.bl b) H := by
  intro pins s σ H x y v u Q I rx ry h
  obtain ⟨a, b, ks, ls, r, rfl, rfl, ea, eb, he, q⟩ := h
  cases rx; cases ry
  obtain ⟨_, ya, va, ra, da⟩ := dk_rd I.hok ea
  obtain ⟨_, yb, vb, rb, db⟩ := dk_rd I.hok eb
  refine PySem.W.keq_eq (knd := mixKind X.prog X.w) (r := r) ya yb da db (by omega) (fun z => hits_of I hu rb ra he) ?_
  rw [← ra.length, ← rb.length]
  exact ⟨.bl _, H, I, rfl, q⟩
theorem op_neDkD (hu : X.A.units + 65 < cLine) : OpR X (compareOp .NotEq) fun x y H Q => rDkD X.K x y H fun b => Q (.bl !b) H := by
  intro pins s σ H x y v u Q I rx ry h
  obtain ⟨a, b, ks, ls, r, rfl, rfl, ea, eb, he, q⟩ := h
  cases rx; cases ry
  obtain ⟨_, ya, va, ra, da⟩ := dk_rd I.hok ea
  obtain ⟨_, yb, vb, rb, db⟩ := dk_rd I.hok eb
  refine PySem.W.keq_ne (knd := mixKind X.prog X.w) (r := r) ya yb da db (by omega) (fun z => hits_of I hu rb ra he) ?_
  rw [← ra.length, ← rb.length]
  exact ⟨.bl _, H, I, rfl, q⟩
/-- how the entries of one are found in the other -/
def hitsA (l' : List (AK × AV)) : List (AK × AV) → Option Bool
  | [] => some true
  | (k, v) :: r => match lookK l' k with
    | none => some false
    | some y => if shA v && shA y then (hitsA l' r).map fun b => eqA v y && b else none
def eqDO : O2 := fun ah v w => match dr ah v, dr ah w with
  | .dk l, .dk l' => (hitsA l' l).map fun b => .bl (l.length == l'.length && b)
  | _, _ => none
theorem VR.shD {m : MM} {H : Hp} {ah : AH} {v : AV} {x : V} (r : Rel X.K m ah H) (h : VR X.K m H v x) (hs : shA v = true) : Dp X.K H x (toD v) := by
  have ok : okA v = true := by unfold shA at hs; rw [Bool.and_eq_true] at hs; exact hs.1
  exact VR.dp v x h ok
theorem hitsA_rel {m : MM} {H : Hp} {ah : AH} (r : Rel X.K m ah H) {l' : List (AK × AV)} {ls : List (Key × V)} (hl : VRk X.K m H l' ls) : ∀ {l : List (AK × AV)} {ks : List (Key × V)} {b : Bool}, VRk X.K m H l ks → hitsA l' l = some b → HitsD X.K H ls ks b
  | _, _, b, .nil, e => by cases e; exact .nil
  | (k, v) :: l, _, b, .cons hv hr, e => by
    unfold hitsA at e
    rcases hl.look k with ⟨h1, h2⟩ | ⟨w, x, h1, h2, h3⟩
    · rw [h1] at e
      cases e
      exact .miss h2
    · rw [h1] at e
      have e : (if shA v && shA w then (hitsA l' l).map fun b => eqA v w && b else none) = some b := e
      split at e
      · rename_i hs
        rw [Bool.and_eq_true] at hs
        obtain ⟨b', hb, rfl⟩ := Option.map_eq_some_iff.mp e
        have o1 : okA v = true := by have := hs.1; unfold shA at this; rw [Bool.and_eq_true] at this; exact this.1
        have o2 : okA w = true := by have := hs.2; unfold shA at this; rw [Bool.and_eq_true] at this; exact this.1
        rw [← okA_eqv v w o1 o2]
        exact .hit h2 (VR.shD r hv hs.1) (VR.shD r h3 hs.2) (sh_of hs.1) (sh_of hs.2) (hitsA_rel r hl hr hb)
      · cases e
theorem eqD_read {m : MM} {H : Hp} {ah : AH} {v w z : AV} {x y : V} {P : Bool → Prop} (r : Rel X.K m ah H) (hv : VR X.K m H v x) (hw : VR X.K m H w y) (hf : eqDO ah v w = some z) (q : ∀ b, z = .bl b → P b) : rDkD X.K x y H P := by
  unfold eqDO at hf
  cases e1 : dr ah v with
  | dk l =>
    cases e2 : dr ah w with
    | dk l' =>
      rw [e1, e2] at hf
      obtain ⟨b, hb, rfl⟩ := Option.map_eq_some_iff.mp hf
      obtain ⟨a, ks, rfl, p1, p2⟩ := VR.dkE r hv e1
      obtain ⟨b', ls, rfl, p3, p4⟩ := VR.dkE r hw e2
      refine ⟨a, b', ks, ls, b, rfl, rfl, p1, p3, hitsA_rel r p4 p2 hb, ?_⟩
      rw [← p2.length, ← p4.length]
      exact q _ rfl
    | _ => rw [e1, e2] at hf; cases hf
  | _ => rw [e1] at hf; cases e2 : dr ah w <;> rw [e2] at hf <;> cases hf
theorem eqD_g (hu : X.A.units + 65 < cLine) : ∃ r, OpR X (compareOp .Eq) r ∧ OpG X r eqDO := by
  refine ⟨_, op_eqDkD hu, ?_⟩
  intro m H ah v w x y z Q r hv hw hf q
  exact eqD_read r hv hw hf fun b e => by subst e; exact q.here r (.bl b)
theorem neD_g (hu : X.A.units + 65 < cLine) : ∃ r, OpR X (compareOp .NotEq) r ∧ OpG X r (notO eqDO) := by
  refine ⟨_, op_neDkD hu, ?_⟩
  intro m H ah v w x y z Q r hv hw hf q
  unfold notO at hf
  split at hf
  · rename_i b hb
    cases hf
    exact eqD_read (P := fun b => Q (.bl (!b)) H) r hv hw hb fun b' e => by cases e; exact q.here r (.bl (!b))
  · cases hf
end
end G
namespace G
open PySem PySem.Spec PyProof.Rows L2
set_option autoImplicit false
def scl : AV → Bool
  | .non => true
  | .bl _ => true
  | .int _ => true
  | .str _ => true
  | _ => false
def flatT : AV → Bool
  | .tup l => l.all scl
  | _ => false
section
variable {K : PySem.W.Frag} {m m' : MM} {H H' : Hp}
theorem VR.scl {v : AV} {x : V} (h : scl v = true) (r : VR K m H v x) : VR K m' H' v x := by
  cases r <;> first | exact .non | exact .bl _ | exact .int _ | exact .str _ | cases h
theorem VRs.scl : ∀ {l : List AV} {xs : List V}, l.all G.scl = true → VRs K m H l xs → VRs K m' H' l xs
  | _, _, _, .nil => .nil
  | _, _, h, .cons a b => by
    rw [List.all_cons, Bool.and_eq_true] at h
    exact .cons (VR.scl h.1 a) (VRs.scl h.2 b)
theorem VRk.flat (hs : ∀ a vs, SqN K H a vs → SqN K H' a vs) : ∀ {l : List (AK × AV)} {kvs : List (Key × V)}, (l.all fun p => flatT p.2) = true → VRk K m H l kvs → VRk K m' H' l kvs
  | _, _, _, .nil => .nil
  | (k, v) :: _, _, h, .cons a b => by
    rw [List.all_cons, Bool.and_eq_true] at h
    refine .cons ?_ (VRk.flat hs h.2 b)
    cases a with
    | tup a1 a2 => exact .tup (hs _ _ a1) (VRs.scl h.1 a2)
    | _ => exact absurd h.1 (by simp [flatT])
end
noncomputable def gLkD (i : Nat) (f : GE) : GE := fun env ah => match env[i]? with
  | some (some (.ref n)) => match ah[n]? with
    | some (.dk l) => if (l.all fun p => flatT p.2) = true then match f ((List.replicate env.length none).set i (some (.dk l))) [] with
        | .ok (.lst r) [] => if r.all scl = true then .ok (.lst r) ah else .bad
        | _ => .bad
      else .bad
    | _ => .bad
  | _ => .bad
section
variable {X : Cx} {W : WX} {e : Expr} {f : GE}
theorem lk_sq {K : PySem.W.Frag} {H : Hp} {d : Addr} {kvs : List (Key × V)} {o : HO} (hd : H d = some (.dK kvs)) {a : Addr} {vs : List V} (h : SqN K H a vs) : SqN K (upd H d o) a vs := by
  rcases h with ⟨u, g, h⟩ | h
  · exact .inl ⟨u, g, by rw [upd_ne (fun z => by subst z; rw [hd] at h; cases h)]; exact h⟩
  · exact .inr h
theorem ge_lkD {i : Nat} (h : PE X e (tG X W f)) : PE X e (tG X W (gLkD i f)) :=
  PE.weak (pe_lock h) fun σ H Q hh => by
    obtain ⟨m, env, ah, hE, hR, hp⟩ := hh
    unfold gLkD at hp
    split at hp
    case h_2 => exact hp.elim
    rename_i n hn
    obtain ⟨x, hx, hv⟩ := hE.2 i _ hn
    cases hv with
    | ref hm =>
    rename_i d
    obtain ⟨ob, ho, qo⟩ := hR.at hm
    rw [ho] at hp
    cases ob with
    | lst l => exact hp.elim
    | dk l =>
    obtain ⟨kvs, hd, hk⟩ := qo
    have hp : (if (l.all fun p => flatT p.2) = true then match f ((List.replicate env.length none).set i (some (.dk l))) [] with
        | .ok (.lst r) [] => if r.all scl = true then Res.ok (AV.lst r) ah else .bad
        | _ => .bad
      else .bad).post (PQ X.K m H Q) (PX X.K X.mg m H fun c d H' => W c d σ H') := hp
    split at hp
    case isFalse => exact hp.elim
    rename_i hfl
    refine ⟨d, .dK kvs, hd, trivial, fun od => ?_⟩
    have dm : d ∈ m.l := List.mem_of_getElem? hm
    let m0 : MM := ⟨[], m.l.filter (fun a => decide (a ≠ d)) ++ m.p⟩
    have in0 : ∀ a, a ∈ m → a ≠ d → a ∈ m0.p := fun a ha hne => by
      rcases ha with ha | ha
      · exact List.mem_append_left _ (List.mem_filter.mpr ⟨ha, by simpa using hne⟩)
      · exact List.mem_append_right _ ha
    have of0 : ∀ a, a ∈ m0 → a ∈ m ∧ a ≠ d := fun a ha => by
      rcases ha with ha | ha
      · cases ha
      · rcases List.mem_append.mp ha with ha | ha
        · have := List.mem_filter.mp ha
          exact ⟨.inl this.1, by simpa using this.2⟩
        · exact ⟨.inr ha, fun z => (hR.prot a ha).1 (z ▸ dm)⟩
    have hR0 : Rel X.K m0 [] (upd H d (.frz od (.dK kvs))) := by
      refine ⟨rfl, List.nodup_nil, fun n a o h1 h2 => (by cases h1), fun a ha => ⟨fun z => (by cases z), ?_⟩⟩
      obtain ⟨ha, hne⟩ := of0 a (.inr ha)
      rw [upd_ne hne]
      rcases ha with ha | ha
      · obtain ⟨u, h1, h2⟩ := hR.mem (.inl ha)
        exact ⟨u, h1, h2⟩
      · exact (hR.prot a ha).2
    have hk0 : VRk X.K m0 (upd H d (.frz od (.dK kvs))) l kvs := VRk.flat (fun a vs => lk_sq hd) hfl hk
    have d0 : d ∉ m0 := fun z => (of0 d z).2 rfl
    have hE0 : EnvR X.K m0 (upd H d (.frz od (.dK kvs))) ((List.replicate env.length none).set i (some (.dk l))) σ := by
      refine ⟨by rw [List.length_set, List.length_replicate]; exact hE.1, fun j v hj => ?_⟩
      by_cases z : i = j
      · subst z
        have hl : i < env.length := (List.getElem?_eq_some_iff.mp hn).1
        rw [List.getElem?_set_self (by rw [List.length_replicate]; exact hl)] at hj
        cases hj
        exact ⟨_, hx, .dk (.inr ⟨od, upd_same⟩) d0 hk0⟩
      · rw [List.getElem?_set_ne z, List.getElem?_replicate] at hj
        split at hj <;> cases hj
    refine ⟨m0, _, [], hE0, hR0, ?_⟩
    split at hp
    case h_2 => exact hp.elim
    rename_i r e0
    split at hp
    case isFalse => exact hp.elim
    rename_i hs
    rw [e0]
    intro m1 H1 y e1 r1 v1
    have hd1 : H1 d = some (.frz od (.dK kvs)) := e1.still _ _ upd_same rfl
    refine ⟨hd1, ?_⟩
    have ne_stl : ∀ a o, H a = some o → stl o = true → a ≠ d := fun a o ha hs z => by subst z; rw [hd] at ha; cases ha; cases hs
    have hold : ∀ a, a ∈ m → a ≠ d → ∀ o, H a = some o → H1 a = some o := fun a ha hne o h => e1.hold a (in0 a ha hne) o (by rw [upd_ne hne]; exact h)
    have ex : Ext m H m (upd H1 d (.dK kvs)) := by
      refine ⟨⟨[], [], by simp⟩, fun a o h hm' => ?_, fun a o h hs => ?_, fun a ha => .inl ha, fun a ha o h => ?_⟩
      · have hne : a ≠ d := fun z => hm' (.inl (z ▸ dm))
        have := e1.keep a o (by rw [upd_ne hne]; exact h) fun z => hm' (of0 a z).1
        rcases this with q | ⟨ks, od', e, q⟩
        · exact .inl (by rw [upd_ne hne]; exact q)
        · exact .inr ⟨ks, od', e, by rw [upd_ne hne]; exact q⟩
      · have hne := ne_stl a o h hs
        rw [upd_ne hne]
        exact e1.still a o (by rw [upd_ne hne]; exact h) hs
      · have hne : a ≠ d := fun z => (hR.prot a ha).1 (z ▸ dm)
        rw [upd_ne hne]
        exact hold a (.inr ha) hne o h
    have hR1 : Rel X.K m ah (upd H1 d (.dK kvs)) := by
      refine ⟨hR.len, hR.nd, fun n' a o h1 h2 => ?_, fun a ha => ?_⟩
      · have q := (hR.obj n' a o h1 h2).mv ex.mv
        have eq : (upd H1 d (.dK kvs)) a = H a := by
          by_cases z : a = d
          · subst z; rw [upd_same, hd]
          · obtain ⟨u, hu, _⟩ := hR.mem (.inl (List.mem_of_getElem? h1))
            rw [upd_ne z, hold a (.inl (List.mem_of_getElem? h1)) z u hu, hu]
        rw [eq]; exact q
      · obtain ⟨p1, u, p2, p3⟩ := hR.prot a ha
        have hne : a ≠ d := fun z => p1 (z ▸ dm)
        exact ⟨p1, u, by rw [upd_ne hne]; exact hold a (.inr ha) hne u p2, p3⟩
    refine hp m _ y ex hR1 ?_
    cases v1 with
    | lst a1 a2 a3 =>
      rename_i a vs
      have hne : a ≠ d := fun z => by subst z; rw [hd1] at a1; cases a1
      refine .lst (by rw [upd_ne hne]; exact a1) (fun z => a2 ?_) (VRs.scl hs a3)
      obtain ⟨t, q, e'⟩ := e1.pre
      rw [e']
      exact .inr (List.mem_append_right _ (in0 a z hne))
end
end G
namespace G
open PySem PySem.Spec PyProof.Rows L2
mutual
def keyN : AV → Option NestedKey
  | .non => some .none
  | .int i => some (.num i)
  | .str s => some (.text (mkS s))
  | .tup l => (keyNs l).map .tup
  | _ => none
def keyNs : List AV → Option (List NestedKey)
  | [] => some []
  | v :: l => match keyN v, keyNs l with
    | some k, some ks => some (k :: ks)
    | _, _ => none
end
section
variable {X : Cx} {pins : List (Addr × Obj)} {σ : L2.St} {H : Hp} {s : Shared} {m : MM}
mutual
theorem keyN_is (I : Inv X pins σ H s) : ∀ (v : AV) (x : V) (u : Value) (k : NestedKey), VR X.K m H v x → RelV x u → keyN v = some k → NestedIs s.heap k u
  | .non, _, u, k, hv, ru, e => by cases e; cases hv; cases ru; exact .none
  | .int i, _, u, k, hv, ru, e => by cases e; cases hv; obtain ⟨t, rfl⟩ := ru; exact .int _ _
  | .str i, _, u, k, hv, ru, e => by cases e; cases hv; obtain ⟨t, rfl⟩ := ru; exact .text _ _
  | .tup l, _, u, k, hv, ru, e => by
    have e : (keyNs l).map NestedKey.tup = some k := e
    obtain ⟨ks, h1, rfl⟩ := Option.map_eq_some_iff.mp e
    cases hv with
    | tup a1 a2 =>
      cases ru
      obtain ⟨its, rv, ⟨o, ho, hc, n, hd⟩, _⟩ := I.tuple a1.sqT
      exact .tup ho hc hd (by simpa using keyNs_is I l _ its ks a2 rv h1)
  | .bl _, _, _, _, _, _, e => by cases e
  | .lst _, _, _, _, _, _, e => by cases e
  | .dk _, _, _, _, _, _, e => by cases e
  | .fl _, _, _, _, _, _, e => by cases e
  | .ref _, _, _, _, _, _, e => by cases e
  | .fn _, _, _, _, _, _, e => by cases e
theorem keyNs_is (I : Inv X pins σ H s) : ∀ (l : List AV) (xs : List V) (us : List Value) (ks : List NestedKey), VRs X.K m H l xs → Vals xs us → keyNs l = some ks → NestedAll s.heap ks us
  | [], _, us, ks, hv, ru, e => by cases e; cases hv; cases ru; exact .nil
  | v :: l, _, us, ks, hv, ru, e => by
    have e : (match keyN v, keyNs l with
      | some k, some ks => some (k :: ks)
      | _, _ => none) = some ks := e
    split at e
    · rename_i q qs h1 h2
      cases e
      cases hv with
      | cons a b =>
        cases ru with
        | cons c d => exact .cons (keyN_is I v _ _ _ a c h1) (keyNs_is I l _ _ _ b d h2)
    · cases e
end
end
section
variable {prog : Program} {w : World} {A : Around} {E : Value → Shared → Prop} {s : Shared}
theorem quiet_tell {key : Value} {ks : List Value} {k : NestedKey} {Q : Bool → Shared → Prop} (hk : NestedIs s.heap k key) (hd : k.depth ≤ 8) (hq : ∀ v ∈ ks, carriedByValue v = true) (h : Q false s) : wpAny (model prog w) A (tableMayTell key ks) Q E s := by
  unfold tableMayTell
  cases ks with
  | nil => exact wpAny_pure h
  | cons a r =>
    simp only [List.isEmpty_cons, Bool.false_eq_true, if_false]
    refine wpAny_bind (quiet_key k key 8 s hk hd A E _ ?_)
    simp only [Bool.not_true, Bool.false_eq_true, if_false]
    refine wpAny_bind ?_
    refine wpAny_forIn_list _ (fun rest r s' => r.1 = none ∧ s' = s ∧ ∀ v ∈ rest, carriedByValue v = true) _ ?_ ?_ _ _ ⟨rfl, rfl, hq⟩
    · rintro v rest r s' ⟨hr, rfl, hall⟩
      refine wpAny_bind ((QuietAt.byValue (n := 8) (hall v List.mem_cons_self)) A E _ ?_)
      simp only [Bool.not_true, Bool.false_eq_true, if_false]
      exact wpAny_pure ⟨rfl, rfl, fun u hu' => hall u (List.mem_cons_of_mem _ hu')⟩
    · rintro ⟨r1, r2⟩ s' ⟨hr, rfl, _⟩
      simp only at hr
      subst hr
      exact wpAny_pure h
theorem find_tup {d : Addr} {o : Obj} {es : Array DictEntry} {ep : Nat} {a : Addr} {ks : List NestedKey} {h0 : Int} {Q : Option Nat → Shared → Prop} (hk : NestedIs s.heap (.tup ks) (.ref a)) (hd8 : (NestedKey.tup ks).depth ≤ 8) (hu : A.units < cLine) (ho : s.heap.get? d = some o)
    (hd : o.data = .dict es ep) (hes : KeysOf (mixKind prog w) es) (h : Q none s) : wpAny (model prog w) A (dictFind d (.ref a) h0) Q E s := by
  have hval : ∀ e ∈ es, carriedByValue e.key = true := fun e he => by
    obtain ⟨k', hk', _⟩ := hes e he
    exact (mixKind prog w).byValue k' _ hk'
  have hstored : ∀ v ∈ (placesWithHash es.size (fun i => es[i]?.map (·.hash)) h0).filterMap (fun i => es[i]?.map (·.key)), carriedByValue v = true := fun v hv => by
    obtain ⟨i, _, hi⟩ := List.mem_filterMap.mp hv
    cases he : es[i]? with
    | none => rw [he] at hi; cases hi
    | some e =>
      rw [he] at hi
      obtain rfl : e.key = v := by simpa using hi
      exact hval e (Array.mem_of_getElem? he)
  unfold dictFind
  try with_reducible refine wpAny_holding ?_
  refine wpAny_bind (wpAny_dictEntries ho hd ?_)
  dsimp only
  have h1 : ((Value.ref a :: (placesWithHash es.size (fun i => es[i]?.map (·.hash)) h0).filterMap fun i => es[i]?.map (·.key)).all carriedByValue) = false := rfl
  rw [h1]
  simp only [Bool.false_eq_true, if_false]
  have h2 : (es.any fun e => e.key == Value.ref a && e.hash != h0) = false := by
    rw [Array.any_eq_false]
    intro i hi hc
    rw [Bool.and_eq_true] at hc
    have := hval es[i] (Array.getElem_mem hi)
    have e2 : es[i].key = Value.ref a := by simpa using hc.1
    rw [e2] at this
    cases this
  rw [h2]
  simp only [Bool.false_eq_true, if_false]
  have h3 : ((placesWithHash es.size (fun i => es[i]?.map (·.hash)) h0).filterMap (fun i => es[i]?.map (·.key)) == [Value.ref a]) = false := by
    rw [beq_eq_false_iff_ne]
    intro z
    have := hstored (Value.ref a) (by rw [z]; simp)
    cases this
  rw [h3]
  simp only [Bool.false_eq_true, if_false]
  refine wpAny_bind (quiet_tell hk hd8 hstored ?_)
  simp only [Bool.false_and, Bool.false_eq_true, if_false]
  refine wpAny_bind ?_
  refine wpAny_forIn_list _ (fun rest r s' => s' = s ∧ r = (none, none)) _ ?_ ?_ _ _ ⟨rfl, rfl⟩
  · rintro x rest r s' ⟨rfl, rfl⟩
    cases he : es[x]? with
    | none => exact wpAny_pure ⟨rfl, rfl⟩
    | some e =>
      by_cases hh : (e.hash == h0) = true
      · simp only [hh, if_true]
        refine wpAny_bind (wpAny_dictEpoch ho hd (wpAny_bind ?_))
        obtain ⟨k', hk', _⟩ := hes e (Array.mem_of_getElem? he)
        have htup : ∃ vs : Array Value, s'.heap.IsTuple a vs := by
          cases hk with
          | tup g1 g2 g3 g4 => exact ⟨_, _, g1, g2, _, g3⟩
        obtain ⟨tv, hT⟩ := htup
        have heq : SeqAt.EqAt A s' e.key (.ref a) false := by
          rcases keyIs_shape (show keyIs k' e.key = true from hk') with ⟨j, t, _, e1⟩ | ⟨y, t, _, e1⟩
          · rw [e1]; exact SeqAt.EqAt.int_tuple j t hT hu
          · rw [e1]; exact SeqAt.EqAt.str_tuple y t hT hu
        refine heq _ _ _ _ (wpAny_bind (wpAny_dictEpoch ho hd ?_))
        show wpAny _ _ (if (ep != ep) = true then _ else _) _ E _
        rw [if_neg (by simp)]
        simp only [Bool.false_eq_true, if_false]
        exact wpAny_bind (wpAny_rule (wpAny_pure ⟨rfl, rfl⟩))
      · simp only [hh, if_false]
        exact wpAny_pure ⟨rfl, rfl⟩
  · rintro r s' ⟨rfl, rfl⟩
    exact wpAny_pure h
theorem meets_get_tup {d a : Addr} {ks : List NestedKey} {dflt : Value} {vs : List (Key × Value)} (hd8 : (NestedKey.tup ks).depth ≤ 8) (hs : (d == sysModules) = false) :
    MeetsIn prog w (Builtin.«dict.get» ⟨[.ref d, .ref a, dflt], []⟩) (fun A R s => A.units + 9 < cLine ∧ NestedIs s.heap (.tup ks) (.ref a) ∧ s.heap.DictOf (mixKind prog w) d vs ∧ ∀ tk, R (.ok (.ret dflt)) { s with toks := tk }) :=
  .of_wp fun A R s ⟨hu, hk, dd, h⟩ => by
    have dd' := dd
    obtain ⟨o, es, ep, ho, hx, hd, hes, _⟩ := dd'
    show wpAny _ _ (dictGet d (.ref a) >>= _) _ _ s
    refine wpAny_bind ?_
    unfold dictGet
    try with_reducible refine wpAny_holding ?_
    refine wpAny_bind (pyHash_key (.tup ks) (.ref a) _ s _ hk (by simp only [Around.in1_units]; omega) ?_)
    refine wpAny_bind (find_tup (s := { s with toks := s.toks + (NestedKey.tup ks).draws }) hk hd8 (by simp only [Around.in1_units]; omega) ho hd hes ?_)
    refine wpAny_pure ?_
    show wpAny _ _ (Builtin.Dict.missed d (.ref a) >>= _) _ _ _
    exact wpAny_bind (wpAny_missed_other hs (wpAny_pure ⟨dflt, rfl, h _⟩))
end
section
variable {X : Cx} {W : WX} {o e f : Expr} {apos cpos : Pos} {td ty tx : TE} {fo fe ff : GE}
/-- y is a key that is a tuple -/
def TupK (P : Program) (w : World) (y : V) (H : Hp) : Prop := ∀ (h : Heap) (u : Value), HOk P w H h → RelV y u → ∃ a ks, u = .ref a ∧ NestedIs h (.tup ks) (.ref a) ∧ (NestedKey.tup ks).depth ≤ 8
def tGetN (X : Cx) (td ty tx : TE) : TE := fun σ H Q => td σ H fun x H1 => ∃ a, x = .ref a ∧ (∃ kvs, DKR X.K H1 a kvs) ∧ ty σ H1 fun y H2 => tx σ H2 fun z H3 => ∃ kvs, DKR X.K H3 a kvs ∧
  ((∃ k, y = kV k ∧ Q ((valV kvs k).getD z) H3) ∨ (∀ pins (s : Shared) (u : Value), Inv X pins σ H3 s → RelV y u → ∃ b ks, u = .ref b ∧ NestedIs s.heap (.tup ks) (.ref b) ∧ (NestedKey.tup ks).depth ≤ 8) ∧ Q z H3)
theorem pe_getN (hu : X.A.units + 65 < cLine) (ho : PE X o td) (he : PE X e ty) (hf : PE X f tx) (m : M2 X o "get" apos e f cpos) : PE X (.Call (.Attribute o "get" apos) [e, f] [] cpos) (tGetN X td ty tx) := by
  refine ⟨fun pins s σ H Q I h => ?_⟩
  refine wpAny_Call_method m.base m.few m.line PySem.F.plainAttrs_dict PySem.F.slot_dict_get PySem.F.type_dict_get (thn (ho.run pins s σ H _ I h) fun u s1 ⟨x, H1, I1, rx, a, ex, ⟨kvs, d⟩, q1⟩ => ?_)
  subst ex
  obtain rfl : u = Value.ref a := rx
  obtain ⟨_, hd, vs, _, dd⟩ := d.at I1
  refine ⟨dd.typeIs, fun b q => ?_, ?_⟩
  · cases q
    obtain ⟨ob, _, _, h1, h2, _⟩ := dd
    exact ⟨ob, h1, h2.2.1⟩
  rw [m.trees]
  refine Calls.callWith_builtin rfl (Calls.evalArgs_plain (Calls.spliced_cons (thn (he.run pins s1 σ H1 _ I1 q1) fun iv s2 ⟨y, H2, I2, ry, q2⟩ =>
    Calls.spliced_cons (thn (hf.run pins s2 σ H2 _ I2 q2) fun fv s3 ⟨z, H3, I3, rz, kvs3, d3, q3⟩ => Calls.spliced_nil ?_))))
  obtain ⟨_, hd3, vs3, rel3, dd3⟩ := d3.at I3
  rcases q3 with ⟨k, ek, q3⟩ | ⟨hn, q3⟩
  · subst ek
    refine call_meetsIn PySem.F.slot_dict_get dd3.typeIs PySem.F.entry_dict_get (PySem.F.args_dict_get_3 _ _ _) (meets_dict_get_default (mixKind X.prog X.w) a (kV_is ry) hd3 fv) ⟨_, dd3.mapOf, ⟨_, H3, I3.tok _, ?_, q3⟩⟩
    exact (rel3.val k).getD rz
  · obtain ⟨b, ks, rfl, hk, h8⟩ := hn pins s3 iv I3 ry
    exact call_meetsIn PySem.F.slot_dict_get dd3.typeIs PySem.F.entry_dict_get (PySem.F.args_dict_get_3 _ _ _) (meets_get_tup (vs := vs3) h8 hd3) ⟨by omega, hk, dd3, fun tk => ⟨z, H3, I3.tok _, rz, q3⟩⟩
def tupK (v : AV) : Bool := match v with
  | .tup l => (match keyNs l with
    | some ks => decide ((NestedKey.tup ks).depth ≤ 8)
    | none => false)
  | _ => false
def gGetX (o k d : GE) : GE := fun env ah => rb (o env ah) fun w ah1 => match w with
  | .dk l => rb (k env ah1) fun kv ah2 => rb (d env ah2) fun dv ah3 => match keyA kv with
    | some q => .ok ((lookK l q).getD dv) ah3
    | none => if tupK kv then .ok dv ah3 else .bad
  | _ => .bad
theorem ge_getX (hu : X.A.units + 65 < cLine) (ho : PE X o (tG X W fo)) (he : PE X e (tG X W fe)) (hf : PE X f (tG X W ff)) (m : M2 X o "get" apos e f cpos := by exact ⟨rfl, rfl, rfl, rfl⟩) : PE X (.Call (.Attribute o "get" apos) [e, f] [] cpos) (tG X W (gGetX fo fe ff)) :=
  PE.weak (pe_getN hu ho he hf m) fun σ H Q h => by
    obtain ⟨m, env, ah, hE, hR, hp⟩ := h
    refine tG_step hE hR hp (fun _ _ h => h) fun v ah1 m1 H1 x e1 r1 v1 hp1 => ?_
    cases v with
    | dk l =>
      obtain ⟨a, kvs, rfl, h1, h2⟩ := VR.dict r1 v1 (show dr ah1 (.dk l) = .dk l from rfl)
      refine ⟨a, rfl, ⟨kvs, h1⟩, ?_⟩
      refine tG_step (hE.mono e1) r1 (Res.post_imp hp1 (fun _ _ _ h => PQ.mono e1 h) (fun _ _ h => PX.mono e1 h)) (fun _ _ h => h) fun kv ah2 m2 H2 y e2 r2 v2 hp2 => ?_
      refine tG_step ((hE.mono e1).mono e2) r2 (Res.post_imp hp2 (fun _ _ _ h => PQ.mono e2 h) (fun _ _ h => PX.mono e2 h)) (fun _ _ h => h) fun dv ah3 m3 H3 z e3 r3 v3 hp3 => ?_
      have v1' := (v1.mono e2).mono e3
      obtain ⟨a', kvs', ea, h1', h2'⟩ := VR.dict r3 v1' (show dr ah3 (.dk l) = .dk l from rfl)
      cases ea
      refine ⟨kvs', h1', ?_⟩
      cases hk : keyA kv with
      | none =>
        rw [hk] at hp3
        have hp3 : (if tupK kv = true then Res.ok dv ah3 else .bad).post _ _ := hp3
        by_cases ht : tupK kv = true
        · rw [if_pos ht] at hp3
          refine .inr ⟨fun pins s u I ru => ?_, hp3 m3 H3 z e3 r3 v3⟩
          cases kv with
          | tup tl =>
            unfold tupK at ht
            simp only at ht
            cases hks : keyNs tl with
            | none => rw [hks] at ht; cases ht
            | some ks =>
              rw [hks] at ht
              have hi := keyN_is I (.tup tl) _ u (.tup ks) (v2.mono e3) ru (by show (keyNs tl).map NestedKey.tup = _; rw [hks]; rfl)
              cases v2 with
              | tup a1 a2 => cases ru; exact ⟨_, ks, rfl, hi, of_decide_eq_true ht⟩
          | _ => cases ht
        · rw [if_neg ht] at hp3; exact hp3.elim
      | some q =>
        rw [hk] at hp3
        refine .inl ⟨akey q, keyA_kV hk v2, ?_⟩
        rcases h2'.look q with ⟨g1, g2⟩ | ⟨v', x', g1, g2, hx⟩
        · have hp3 : PQ X.K m2 H2 Q ((lookK l q).getD dv) ah3 := hp3
          rw [g1] at hp3
          rw [g2]
          exact hp3 m3 H3 z e3 r3 v3
        · have hp3 : PQ X.K m2 H2 Q ((lookK l q).getD dv) ah3 := hp3
          rw [g1] at hp3
          rw [g2]
          exact hp3 m3 H3 x' e3 r3 hx
    | _ => exact hp1.elim
def tGetK1 (K : PySem.W.Frag) (td ty : TE) : TE := fun σ H Q => td σ H fun x H1 => ∃ a, x = .ref a ∧ (∃ kvs, DKR K H1 a kvs) ∧ ty σ H1 fun y H2 => ∃ k kvs, y = kV k ∧ DKR K H2 a kvs ∧ Q ((valV kvs k).getD .non) H2
theorem pe_getK1 (ho : PE X o td) (he : PE X e ty) (m : M1 X o "get" apos e cpos) : PE X (.Call (.Attribute o "get" apos) [e] [] cpos) (tGetK1 X.K td ty) := by
  refine ⟨fun pins s σ H Q I h => ?_⟩
  refine wpAny_Call_method m.base m.few m.line PySem.F.plainAttrs_dict PySem.F.slot_dict_get PySem.F.type_dict_get (thn (ho.run pins s σ H _ I h) fun u s1 ⟨x, H1, I1, rx, a, ex, ⟨kvs, d⟩, q1⟩ => ?_)
  subst ex
  obtain rfl : u = Value.ref a := rx
  obtain ⟨_, hd, vs, _, dd⟩ := d.at I1
  refine ⟨dd.typeIs, fun b q => ?_, ?_⟩
  · cases q
    obtain ⟨ob, _, _, h1, h2, _⟩ := dd
    exact ⟨ob, h1, h2.2.1⟩
  rw [m.trees]
  refine Calls.callWith_builtin rfl (Calls.evalArgs_plain (Calls.spliced_cons (thn (he.run pins s1 σ H1 _ I1 q1) fun iv s2 ⟨y, H2, I2, ry, k, kvs3, ek, d3, q3⟩ => Calls.spliced_nil ?_)))
  subst ek
  obtain ⟨_, hd3, vs3, rel3, dd3⟩ := d3.at I2
  refine call_meetsIn PySem.F.slot_dict_get dd3.typeIs PySem.F.entry_dict_get (PySem.F.args_dict_get_2 _ _) (meets_dict_get (mixKind X.prog X.w) a (kV_is ry) hd3) ⟨_, dd3.mapOf, ⟨_, H2, I2.tok _, ?_, q3⟩⟩
  exact (rel3.val k).getD (show RelV .non .none from rfl)
def gGet1 (o k : GE) : GE := fun env ah => rb (o env ah) fun w ah1 => match w with
  | .dk l => rb (k env ah1) fun kv ah2 => match keyA kv with
    | some q => .ok ((lookK l q).getD .non) ah2
    | none => .bad
  | _ => .bad
theorem ge_get1 (ho : PE X o (tG X W fo)) (he : PE X e (tG X W fe)) (m : M1 X o "get" apos e cpos := by exact ⟨rfl, rfl, rfl, rfl⟩) : PE X (.Call (.Attribute o "get" apos) [e] [] cpos) (tG X W (gGet1 fo fe)) :=
  PE.weak (pe_getK1 ho he m) fun σ H Q h => by
    obtain ⟨m, env, ah, hE, hR, hp⟩ := h
    refine tG_step hE hR hp (fun _ _ h => h) fun v ah1 m1 H1 x e1 r1 v1 hp1 => ?_
    cases v with
    | dk l =>
      obtain ⟨a, kvs, rfl, h1, h2⟩ := VR.dict r1 v1 (show dr ah1 (.dk l) = .dk l from rfl)
      refine ⟨a, rfl, ⟨kvs, h1⟩, ?_⟩
      refine tG_step (hE.mono e1) r1 (Res.post_imp hp1 (fun _ _ _ h => PQ.mono e1 h) (fun _ _ h => PX.mono e1 h)) (fun _ _ h => h) fun kv ah2 m2 H2 y e2 r2 v2 hp2 => ?_
      have v1' := v1.mono e2
      obtain ⟨a', kvs', ea, h1', h2'⟩ := VR.dict r2 v1' (show dr ah2 (.dk l) = .dk l from rfl)
      cases ea
      cases hk : keyA kv with
      | none => rw [hk] at hp2; exact hp2.elim
      | some q =>
        rw [hk] at hp2
        refine ⟨akey q, kvs', keyA_kV hk v2, h1', ?_⟩
        rcases h2'.look q with ⟨g1, g2⟩ | ⟨v', x', g1, g2, hx⟩
        · have hp2 : PQ X.K m1 H1 Q ((lookK l q).getD .non) ah2 := hp2
          rw [g1] at hp2
          rw [g2]
          exact hp2 m2 H2 _ e2 r2 .non
        · have hp2 : PQ X.K m1 H1 Q ((lookK l q).getD .non) ah2 := hp2
          rw [g1] at hp2
          rw [g2]
          exact hp2 m2 H2 x' e2 r2 hx
    | _ => exact hp1.elim
end
end G
namespace G
open PySem PySem.Spec PyProof.Rows L2
def mulTO : O2 := fun ah v w => match v, w with
  | .tup s, .int k => if -1000 ≤ k ∧ k ≤ 1000 ∧ s.length ≤ 1000 then some (.tup (List.replicate k.toNat s).flatten) else none
  | v, w => mulO ah v w
section
variable {X : Cx}
theorem mulT_g : ∃ r, OpR X (binaryOp .Mult) r ∧ OpG X r mulTO := by
  obtain ⟨r0, g1, g2⟩ := mul_g (X := X)
  refine ⟨_, op_repN.or g1, ?_⟩
  intro m H ah v w x y z Q r hv hw hf q
  unfold mulTO at hf
  split at hf
  · split at hf
    · rename_i hh
      cases hf
      exact .inl (rep_read r hv hw hh.1 hh.2.1 hh.2.2 q)
    · cases hf
  · exact .inr (g2 m H ah _ _ x y _ Q r hv hw hf q)
end
def rVals : V → Hp → VK → Prop := fun x H Q => ∃ (d : Addr) (kvs : List (Key × V)), x = .ref d ∧ Rd H d (.dK kvs) ∧ ∀ p, H p = none → Q (.ref p) (upd H p (.lst (kvs.map (·.2))))
def tListVals (te : TE) : TE := fun σ H Q => te σ H fun x H1 => rVals x H1 Q
section
variable {X : Cx} {e : Expr} {te : TE} {p apos cpos pos : Pos}
theorem kv_vals : ∀ {kvs : List (Key × V)} {vs : List (Key × Value)}, KV kvs vs → Vals (kvs.map (·.2)) (vs.map (·.2))
  | _, _, .nil => .nil
  | _, _, .cons h r => .cons h.2 (kv_vals r)
theorem pe_listVals (hc : X.calm = true) (he : PE X e te) (hg : Gl X "list") (hm : X.mg "list" = none) (hv : bootBuiltins "list" = some (.type "list")) (hbase : attributeBase e "values" X.env (eval e X.env) = eval e X.env := by rfl) (hline : (apos.endLine == cpos.line) = true := by rfl)
    (hs : starEach [.Call (.Attribute e "values" apos) [] [] cpos] X.env = (false, eval (.Call (.Attribute e "values" apos) [] [] cpos) X.env) :: starEach [] X.env := by rfl) :
    PE X (.Call (.Name "list" p) [.Call (.Attribute e "values" apos) [] [] cpos] [] pos) (tListVals te) := by
  refine ⟨fun pins s σ H Q I hq => ?_⟩
  refine wpAny_Call_Name_kw (ld_blt I hg hm hv ?_)
  refine PyProof.Rows.callWith_type1 ?_ hs rfl
  rw [hs]
  show wpAny _ _ (spliced ((false, eval (.Call (.Attribute e "values" apos) [] [] cpos) X.env) :: backTo pos (starEach [] X.env))) _ _ s
  refine Calls.spliced_cons ?_
  refine wpAny_Call_method (T := "dict") (id := "dict.values") hbase rfl hline F.plainAttrs_dict F.slot_dict_values F.type_dict_values (thn (he.run pins s σ H _ I hq) fun u s1 ⟨x, H1, I1, rx, d, kvs, ex, hd, q⟩ => ?_)
  subst ex
  obtain rfl : u = Value.ref d := rx
  obtain ⟨hz, hs0, vs, kv, hdo⟩ := dk_rd I1.hok hd
  obtain ⟨ep, hat⟩ := hdo.dictAt
  have lk : kvs.length = vs.length := Paired.length kv
  have I2 : Inv X pins σ H1 { s1 with heap := s1.heap.push { cls := .type "dict_values", data := .fields #[.ref d] } } := I1.kept (t' := s1.toks) fun b ob q => Heap.get?_push_of_some _ q
  refine ⟨hdo.typeIs, hdo.mapOf.noDict, ?_⟩
  show wpAny _ _ (callWith cpos (.builtin "dict.values") [.ref d] [] []) _ X.xe s1
  refine method_meetsIn F.slot_dict_values F.entry_dict_values rfl (PySem.evalArgs_none ⟨rfl, hdo.typeIs, F.args_dict_values_1 _, _, meets_dict_values (mixKind X.prog X.w) d hs0, ⟨vs, hdo⟩, ?_⟩)
  refine Calls.spliced_nil ?_
  refine PySem.W.kdl_call (PySem.W.kdl_values (knd := mixKind X.prog X.w) (kvs := vs) (ep := ep)) (I1.ok.hd hc) ⟨⟨_, Heap.get?_push_size _ rfl, rfl, rfl⟩, hat.push _⟩ (by omega) fun h' tk acc c' hk hS hacc => ?_
  have hva : acc.toList = vs.map (·.2) := PySem.W.kdl_vals_eq acc.toList (by rw [Array.length_toList]; exact hacc.1) fun j v e => hacc.2 j v (by rw [← Array.getElem?_toList]; exact e)
  refine ⟨.ref _, _, I2.laid hk (Nat.le_refl _) (o := .lst (kvs.map (·.2))) ⟨by rw [List.length_map]; exact hz, acc.toList, c', by rw [hva]; exact kv_vals kv, by rw [Array.toArray_toList]; exact hS⟩, rfl, q _ (I2.hok.fresh (Nat.le_refl _))⟩
end
section
variable {X : Cx} {W : WX} {e : Expr} {fe : GE} {p apos cpos pos : Pos}
def lvA (ah : AH) (v : AV) : Option (List AV) := match dr ah v with
  | .dk l => some (l.map (·.2))
  | _ => none
def gLVals (o : GE) : GE := fun env ah => rb (o env ah) fun w ah1 => lift1 ((lvA ah1 w).map AV.lst) ah1
theorem ge_lvals (hc : X.calm = true) (hg : Gl X "list") (hm : X.mg "list" = none) (he : PE X e (tG X W fe)) (hbase : attributeBase e "values" X.env (eval e X.env) = eval e X.env := by rfl) (hline : (apos.endLine == cpos.line) = true := by rfl)
    (hs : starEach [.Call (.Attribute e "values" apos) [] [] cpos] X.env = (false, eval (.Call (.Attribute e "values" apos) [] [] cpos) X.env) :: starEach [] X.env := by rfl) (hv : bootBuiltins "list" = some (.type "list") := by decide +kernel) :
    PE X (.Call (.Name "list" p) [.Call (.Attribute e "values" apos) [] [] cpos] [] pos) (tG X W (gLVals fe)) :=
  PE.weak (pe_listVals hc he hg hm hv hbase hline hs) fun σ H Q h => by
    obtain ⟨m, env, ah, hE, hR, hp⟩ := h
    refine tG_step hE hR hp (fun _ _ h => h) fun w ah1 m1 H1 x e1 r1 v1 hp1 => ?_
    unfold lvA at hp1
    split at hp1
    · obtain ⟨a, kvs, rfl, h1, h2⟩ := VR.dict r1 v1 (by assumption)
      exact ⟨a, kvs, rfl, h1, fun p hn => PQ.laid (PQ.mono e1 hp1) r1 hn (VR.newL r1 hn h2.vals)⟩
    · exact hp1.elim
end
section
variable {prog : Program} {w : World} {A : Around} {E : Value → Shared → Prop} {s : Shared}
/-- v is a pair, its first a text of these signs -/
def FstIs (h : Heap) (v : Value) (c : List Nat) : Prop := ∃ a o t y n, v = .ref a ∧ h.get? a = some o ∧ o.cls = .type "tuple" ∧ o.data = .seq #[.str (mkS c) t, y] n
theorem FstIs.keeps {h h' : Heap} {v : Value} {c : List Nat} (p : FstIs h v c) (k : ∀ b o, h.get? b = some o → o.cls = .type "tuple" → h'.get? b = some o) : FstIs h' v c := by
  obtain ⟨a, o, t, y, n, e, ho, hc, hd⟩ := p
  exact ⟨a, o, t, y, n, e, k a o ho hc, hc, hd⟩
def ltN (f : Value → List Nat) (v u : Value) : Bool := decide (f v < f u)
theorem ltN_swo (f : Value → List Nat) : SrtO.Swo (ltN f) := by
  refine ⟨fun x y h => ?_, fun x y z h1 h2 => ?_⟩
  · have := of_decide_eq_true h
    refine decide_eq_false fun z => ?_
    exact absurd (List.lt_trans this z) (List.lt_irrefl _)
  · have a := of_decide_eq_false h1
    have b := of_decide_eq_false h2
    refine decide_eq_false fun z => ?_
    exact absurd (List.le_trans (List.not_lt.mp a) (List.not_lt.mp b)) (List.not_le.mpr z)
theorem fst_cmp {vs : List Value} {f : Value → List Nat} (hp : ∀ v ∈ vs, FstIs s.heap v (f v)) (hi : ∀ v ∈ vs, ∀ u ∈ vs, f v = f u → v = u) : SrtO.Cmp prog w A s (tuples' true) (fun p => p.1 ∈ vs) (SrtO.lt2 (ltN f)) := by
  intro p q hm hm'
  have h1 := hp _ hm
  have h2 := hp _ hm'
  have hpq := hi _ hm _ hm'
  show wpAny (model prog w) A (keyLt' (tuples' true) p.1 q.1) (fun r s' => s' = s ∧ r = decide (f p.1 < f q.1)) (fun _ _ => False) s
  obtain ⟨a, o, t, y, n, e, ho, hc, hd⟩ := h1
  obtain ⟨a', o', t', y', n', e', ho', hc', hd'⟩ := h2
  have hab : f p.1 = f q.1 → a = a' := fun z => by
    have := hpq z
    rw [e, e'] at this
    cases this; rfl
  rw [e] at hab hd
  rw [e'] at hab hd'
  rw [e, e']
  generalize f (.ref a) = c at *
  generalize f (.ref a') = c' at *
  refine PySem.W.kat_lt ho hd ho' hd' ?_
  show PySem.W.KatLex prog w A true (decide (2 < 2)) _ [(.str (mkS c) t, .str (mkS c') t'), (y, y')] 0 s
  refine PySem.W.kat_cons (SeqAt.EqAt.str_str (mkS c) t (mkS c') t' prog w _ _ ?_)
  refine PySem.W.kat_go (fun e1 => ?_) (fun e1 => ?_)
  · have ex : c = c' := mkS_inj (by simpa using e1)
    have := hab ex
    subst this
    rw [ho] at ho'; cases ho'
    rw [hd] at hd'; cases hd'

    refine PySem.W.kat_yes (PySem.W.kat_cons (SeqAt.EqAt.same _ prog w _ _ ?_))
    refine PySem.W.kat_go (fun e2 => ?_) (fun e2 => nomatch e2)
    exact PySem.W.kat_yes (PySem.W.kat_nil ⟨rfl, (decide_eq_false (List.lt_irrefl _)).symm⟩)
  · refine PySem.W.kat_no (PyProof.Rows.oneLt_any_str ⟨rfl, ?_⟩)
    first | rfl | simp
theorem fst_firsts {h : Heap} {f : Value → List Nat} : ∀ vs : List Value, (∀ v ∈ vs, FstIs h v (f v)) → ∃ fs : List Value, PySem.W.KatTups h vs fs ∧ fs.length = vs.length ∧ ∀ x ∈ fs, ∃ y t, x = Value.str y t
  | [], _ => ⟨[], PySem.W.KatTups.nil, rfl, fun _ h => nomatch h⟩
  | v :: vs, hp => by
    obtain ⟨fs, g1, g2, g3⟩ := fst_firsts vs fun u hu => hp u (List.mem_cons_of_mem _ hu)
    obtain ⟨a, o, t, y, n, e, ho, hc, hd⟩ := hp v List.mem_cons_self
    refine ⟨.str (mkS (f v)) t :: fs, ?_, by simp [g2], fun x hx => ?_⟩
    · rw [e]
      rw [e] at hd
      exact PySem.W.KatTups.cons ho hc hd (by simp) g1
    · rcases List.mem_cons.mp hx with rfl | hx
      · exact ⟨_, _, rfl⟩
      · exact g3 x hx
theorem fst_sortable {a : Addr} {vs : List Value} {f : Value → List Nat} (h0 : 0 < vs.length) (hp : ∀ v ∈ vs, FstIs s.heap v (f v)) (hi : ∀ v ∈ vs, ∀ u ∈ vs, f v = f u → v = u) (ha : ∀ o, s.heap.get? a = some o → o.cls ≠ .type "tuple") : SrtO.SortableO prog w A s a vs (ltN f) := by
  intro h' keep
  have hp' : ∀ v ∈ vs, FstIs h' v (f v) := fun v hm => (hp v hm).keeps fun b o e c => keep b o (fun z => by subst z; exact ha o e c) e
  obtain ⟨fs, h1, h2, h3⟩ := fst_firsts vs hp'
  refine ⟨tuples' true, fun Q E hq => ?_, fst_cmp hp' hi⟩
  refine PySem.W.kat_kind (T := .type "str") h1 (by omega) (fun g hm => ?_) (by rfl) ?_
  · obtain ⟨x, t, rfl⟩ := h3 g hm
    exact PySem.W.Looks.now
  · have e : (Value.type "str" != Value.type "tuple") = true := by first | decide +kernel | rfl | decide
    rw [e]
    exact hq
theorem sorted_fst {l : Addr} {vs : List Value} {f : Value → List Nat} {Q : Value → Shared → Prop} (hl : s.heap.IsList l vs.toArray) (hz : vs.length ≤ sizeLine) (hp : ∀ v ∈ vs, FstIs s.heap v (f v)) (hi : ∀ v ∈ vs, ∀ u ∈ vs, f v = f u → v = u)
    (h : ∀ (h' : Heap) (d : Addr) (out : List Value), SrtO.Srtd (ltN f) out → out.Perm vs → (∀ b o, s.heap.get? b = some o → h'.get? b = some o) → s.heap.objs.size ≤ d → (∃ n, h'.get? d = some (seqObj "list" out.toArray n)) → Q (.ref d) { s with heap := h' }) :
    wpAny (model prog w) A (call (.builtin "sorted") [.ref l]) Q E s := by
  refine SrtO.sorted_ord (ltN_swo f) hl hz (fun h2 h₁ a ha kk => ?_) fun out hs hb => ?_
  · refine fst_sortable (s := { s with heap := h₁ }) (by omega) (fun v hm => (hp v hm).keeps fun b o e _ => (kk b o e).2) hi fun o e => ?_
    have e' : some o = some (seqObj "list" vs.toArray 0) := e.symm.trans ha
    cases e'
    intro c
    exact absurd (Value.type.inj c) (by decide)
  · exact h _ _ out hs hb.perm (fun b o e => sortedAll_old e) (Nat.le_succ _) (sortedAll_at s.heap vs out.toArray)
end
/-- sorted(xs): pairs, told with their first texts, unlike -/
def rSortF (K : PySem.W.Frag) : List V → Hp → VK → Prop := fun vs H Q => ∃ (a : Addr) (xs : List V) (f : V → List Nat), vs = [V.ref a] ∧ SqL K H a xs ∧ (∀ x ∈ xs, ∃ t y, x = .ref t ∧ SqT K H t [.str (mkS (f x)), y]) ∧ (∀ x ∈ xs, ∀ y ∈ xs, f x = f y → x = y) ∧
  ∀ ys p, ys.Perm xs → ys.Pairwise (fun x y => f x ≤ f y) → H p = none → Q (.ref p) (upd H p (.lst ys))
section
variable {X : Cx}
theorem cr_sortF : CallR X (.builtin "sorted") (rSortF X.K) := by
  intro pins s σ H vs us Q I r h
  obtain ⟨a, xs, f, rfl, hs, hx, hi, q⟩ := h
  obtain ⟨its, rv, hl, hz⟩ := I.list hs
  obtain ⟨u, rfl, ru⟩ := vals1 r
  obtain rfl : u = Value.ref a := ru
  obtain ⟨e1, e2⟩ := refs_back rv fun x m => by
    obtain ⟨t, y, e, _⟩ := hx x m
    exact ⟨t, e⟩
  have hmem : ∀ v ∈ its, backV v ∈ xs := fun v hv => by rw [e1]; exact List.mem_map.mpr ⟨_, hv, rfl⟩
  refine sorted_fst (f := fun u => f (backV u)) hl.isList (by rw [← rv.length]; exact hz) (fun v hv => ?_) (fun v hv u hu e => ?_) fun h' d out h1 h2 kp hd hn => ?_
  · obtain ⟨t, rfl⟩ := e2 v hv
    obtain ⟨t', y, e, ht⟩ := hx _ (hmem _ hv)
    cases e
    obtain ⟨its2, r2, ⟨o, ho, hc, n, hd⟩, _⟩ := I.tuple ht
    obtain ⟨u1, u2, rfl, ri, rj⟩ := vals2 r2
    obtain ⟨t1, rfl⟩ := ri
    exact ⟨t, o, t1, u2, n, rfl, ho, hc, hd⟩
  · have := hi _ (hmem _ hv) _ (hmem _ hu) e
    obtain ⟨t, rfl⟩ := e2 v hv
    obtain ⟨t', rfl⟩ := e2 u hu
    cases this; rfl
  · have h3 : ∀ u ∈ out, ∃ a, u = Value.ref a := fun u hu => e2 u (h2.mem_iff.mp hu)
    obtain ⟨n, hn⟩ := hn
    have hb : (out.map backV).Perm xs := by rw [e1]; exact h2.map backV
    refine ⟨.ref d, upd H d (.lst (out.map backV)), I.laid (t' := s.toks) kp hd ⟨?_, out, n, vals_back h3, hn⟩, rfl, q _ d hb ?_ (I.hok.fresh hd)⟩
    · rw [hb.length_eq]
      exact hz
    · rw [List.pairwise_map]
      refine h1.imp fun h => ?_
      have := of_decide_eq_false h
      exact List.not_lt.mp this
end
def fstA : AV → Option (List Nat)
  | .tup [.str s, _] => some s
  | _ => none
def fstsA : List AV → Option (List (List Nat))
  | [] => some []
  | v :: l => match fstA v, fstsA l with
    | some s, some ss => some (s :: ss)
    | _, _ => none
def fst0 (v : AV) : List Nat := (fstA v).getD []
def sortF (l : List AV) : List AV := l.mergeSort fun a b => decide (fst0 a ≤ fst0 b)
theorem sortF_perm (l : List AV) : (sortF l).Perm l := List.mergeSort_perm l _
theorem sortF_pw (l : List AV) : (sortF l).Pairwise fun a b => fst0 a ≤ fst0 b := by
  have := List.pairwise_mergeSort (le := fun a b : AV => decide (fst0 a ≤ fst0 b)) (fun a b c h1 h2 => decide_eq_true (List.le_trans (of_decide_eq_true h1) (of_decide_eq_true h2))) (fun a b => by
    rcases List.le_total (fst0 a) (fst0 b) with h | h <;> simp [h]) l
  exact this.imp fun h => of_decide_eq_true h
theorem fsts_eq : ∀ {l : List AV} {ss : List (List Nat)}, fstsA l = some ss → ss = l.map fst0 ∧ ∀ v ∈ l, ∃ s y, v = .tup [.str s, y]
  | [], _, h => by cases h; exact ⟨rfl, fun _ h => nomatch h⟩
  | v :: l, ss, h => by
    have h : (match fstA v, fstsA l with
      | some s, some ss => some (s :: ss)
      | _, _ => none) = some ss := h
    split at h
    · rename_i s ss' h1 h2
      cases h
      obtain ⟨g1, g2⟩ := fsts_eq h2
      refine ⟨by rw [List.map_cons, ← g1]; unfold fst0; rw [h1]; rfl, fun w hw => ?_⟩
      rcases List.mem_cons.mp hw with rfl | hw
      · unfold fstA at h1
        split at h1
        · exact ⟨_, _, rfl⟩
        · cases h1
      · exact g2 w hw
    · cases h
/-- what bears on what, item by item, carried over to a rearrangement -/
theorem VRs.permR {K : PySem.W.Frag} {m : MM} {H : Hp} {l l' : List AV} (h : l.Perm l') : ∀ {xs : List V}, VRs K m H l xs → ∃ ys, ys.Perm xs ∧ VRs K m H l' ys := by
  induction h with
  | nil => intro xs h; exact ⟨xs, .refl _, h⟩
  | cons a _ ih =>
    intro xs h
    cases h with
    | cons h r =>
      obtain ⟨ys, p, q⟩ := ih r
      exact ⟨_ :: ys, p.cons _, .cons h q⟩
  | swap a b l =>
    intro xs h
    cases h with
    | cons h r =>
      cases r with
      | cons h' r => exact ⟨_, .swap _ _ _, .cons h' (.cons h r)⟩
  | trans _ _ ih1 ih2 =>
    intro xs h
    obtain ⟨ys, p, q⟩ := ih1 h
    obtain ⟨zs, p', q'⟩ := ih2 q
    exact ⟨zs, p'.trans p, q'⟩
theorem VRs.mem {K : PySem.W.Frag} {m : MM} {H : Hp} : ∀ {l : List AV} {xs : List V}, VRs K m H l xs → ∀ {x : V}, x ∈ xs → ∃ v ∈ l, VR K m H v x
  | _, _, .cons h r, x, hx => by
    rcases List.mem_cons.mp hx with rfl | hx
    · exact ⟨_, List.mem_cons_self, h⟩
    · obtain ⟨v, h1, h2⟩ := VRs.mem r hx
      exact ⟨v, List.mem_cons_of_mem _ h1, h2⟩
/-- the first text of a pair of the heap -/
def keyF (K : PySem.W.Frag) (H : Hp) (x : V) (s : List Nat) : Prop := ∃ t y, x = .ref t ∧ SqT K H t [.str (mkS s), y]
theorem keyF_of {K : PySem.W.Frag} {m : MM} {H : Hp} {s : List Nat} {y : AV} {x : V} (h : VR K m H (.tup [.str s, y]) x) : keyF K H x s := by
  cases h with
  | tup a b =>
    obtain ⟨u, w, rfl, hu, hw⟩ := b.two
    cases hu
    exact ⟨_, _, rfl, a.sqT⟩
def sorPS : AH → List AV → Option (List AV) := fun ah l => match sorS ah l with
  | some z => some z
  | none => match l with
    | [v] => match dr ah v with
      | .lst l => (match fstsA l with
        | some ss => if ss.Nodup then some (sortF l) else none
        | none => none)
      | _ => none
    | _ => none
def sorPO : OL := fun ah l => (sorPS ah l).map AV.lst
/-- two rearrangements of pairs with unlike firsts, both rising -/
theorem rise_uniq {α : Type} (f : α → List Nat) : ∀ {l m : List α}, l.Perm m → (∀ x ∈ l, ∀ y ∈ l, f x = f y → x = y) → l.Pairwise (fun x y => f x ≤ f y) → m.Pairwise (fun x y => f x ≤ f y) → l = m := fun {l m} hp hi h1 h2 =>
  List.Perm.eq_of_pairwise (le := fun a b => f a ≤ f b) (fun a b ha hb h1 h2 => hi a ha b (hp.mem_iff.mpr hb) (List.le_antisymm h1 h2)) h1 h2 hp
/-- pairs by their firsts -/
def sortPr {α : Type} (l : List (List Nat × α)) : List (List Nat × α) := l.mergeSort fun a b => decide (a.1 ≤ b.1)
theorem sortPr_perm {α : Type} (l : List (List Nat × α)) : (sortPr l).Perm l := List.mergeSort_perm l _
theorem sortPr_pw {α : Type} (l : List (List Nat × α)) : (sortPr l).Pairwise fun a b => a.1 ≤ b.1 := by
  have := List.pairwise_mergeSort (le := fun a b : List Nat × α => decide (a.1 ≤ b.1)) (fun a b c h1 h2 => decide_eq_true (List.le_trans (of_decide_eq_true h1) (of_decide_eq_true h2))) (fun a b => by
    rcases List.le_total a.1 b.1 with h | h <;> simp [h]) l
  exact this.imp fun h => of_decide_eq_true h
theorem nodup_fst {α β : Type} : ∀ {l : List (α × β)}, (l.map (·.1)).Nodup → ∀ {p q : α × β}, p ∈ l → q ∈ l → p.1 = q.1 → p = q
  | [], _, p, q, hp, _, _ => nomatch hp
  | x :: l, hn, p, q, hp, hq, e => by
    rw [List.map_cons, List.nodup_cons] at hn
    rcases List.mem_cons.mp hp with h1 | h1
    · rcases List.mem_cons.mp hq with h2 | h2
      · rw [h1, h2]
      · refine absurd ?_ hn.1
        rw [← h1, e]
        exact List.mem_map.mpr ⟨q, h2, rfl⟩
    · rcases List.mem_cons.mp hq with h2 | h2
      · refine absurd ?_ hn.1
        rw [← h2, ← e]
        exact List.mem_map.mpr ⟨p, h1, rfl⟩
      · exact nodup_fst hn.2 h1 h2 e
open Classical in
/-- the first that goes with y -/
noncomputable def fstOf (ps : List (List Nat × V)) (y : V) : List Nat := if h : ∃ p ∈ ps, p.2 = y then (Classical.choose h).1 else []
theorem fstOf_eq {ps : List (List Nat × V)} (hi : ∀ p ∈ ps, ∀ q ∈ ps, p.2 = q.2 → p = q) {p : List Nat × V} (hp : p ∈ ps) : fstOf ps p.2 = p.1 := by
  unfold fstOf
  have h : ∃ q ∈ ps, q.2 = p.2 := ⟨p, hp, rfl⟩
  rw [dif_pos h]
  rw [hi _ (Classical.choose_spec h).1 p hp (Classical.choose_spec h).2]
def rSortG (K : PySem.W.Frag) : List V → Hp → VK → Prop := fun vs H Q => ∃ (a : Addr) (ps : List (List Nat × V)), vs = [V.ref a] ∧ SqL K H a (ps.map (·.2)) ∧ (∀ p ∈ ps, ∃ t y, p.2 = .ref t ∧ SqT K H t [.str (mkS p.1), y]) ∧ (ps.map (·.1)).Nodup ∧
  ∀ p, H p = none → Q (.ref p) (upd H p (.lst ((sortPr ps).map (·.2))))
section
variable {X : Cx}
theorem cr_sortG : CallR X (.builtin "sorted") (rSortG X.K) := by
  intro pins s σ H vs us Q I r h
  obtain ⟨a, ps, rfl, hs, hx, hn, q⟩ := h
  have hi : ∀ p ∈ ps, ∀ q ∈ ps, p.2 = q.2 → p = q := fun p hp q hq e => by
    obtain ⟨t, y, e1, s1⟩ := hx p hp
    obtain ⟨t', y', e2, s2⟩ := hx q hq
    rw [e1, e2] at e
    cases e
    have := I.tuple_inj s1 s2
    have h1 : p.1 = q.1 := by
      have := (List.cons.inj this).1
      exact mkS_inj (by injection this)
    exact nodup_fst hn hp hq h1
  refine cr_sortF pins s σ H [V.ref a] us Q I r ⟨a, ps.map (·.2), fstOf ps, rfl, hs, fun x hx' => ?_, fun x hx1 y hy1 e => ?_, fun ys p hp hr hnew => ?_⟩
  · obtain ⟨p, hp, rfl⟩ := List.mem_map.mp hx'
    rw [fstOf_eq hi hp]
    exact hx p hp
  · obtain ⟨p, hp, rfl⟩ := List.mem_map.mp hx1
    obtain ⟨p', hp', rfl⟩ := List.mem_map.mp hy1
    rw [fstOf_eq hi hp, fstOf_eq hi hp'] at e
    rw [nodup_fst hn hp hp' e]
  · have e : ys = (sortPr ps).map (·.2) := by
      refine rise_uniq (fstOf ps) (hp.trans ((sortPr_perm ps).symm.map _)) (fun x hx1 y hy1 e => ?_) hr ?_
      · obtain ⟨p, hp1, rfl⟩ := List.mem_map.mp (hp.mem_iff.mp hx1)
        obtain ⟨p', hp', rfl⟩ := List.mem_map.mp (hp.mem_iff.mp hy1)
        rw [fstOf_eq hi hp1, fstOf_eq hi hp'] at e
        rw [nodup_fst hn hp1 hp' e]
      · rw [List.pairwise_map]
        refine List.Pairwise.imp_of_mem (fun {a b} ha hb h => ?_) (sortPr_pw ps)
        rw [fstOf_eq hi ((sortPr_perm ps).mem_iff.mp ha), fstOf_eq hi ((sortPr_perm ps).mem_iff.mp hb)]
        exact h
    rw [e]
    exact q p hnew
/-- both sides paired -/
theorem zip_rel {m : MM} {H : Hp} : ∀ {l : List AV} {xs : List V}, VRs X.K m H l xs → (∀ v ∈ l, ∃ s y, v = .tup [.str s, y]) → ∃ ps : List (List Nat × (AV × V)), ps.map (fun p => p.2.1) = l ∧ ps.map (fun p => p.2.2) = xs ∧ ps.map (·.1) = l.map fst0 ∧ ∀ p ∈ ps, VR X.K m H p.2.1 p.2.2 ∧ fst0 p.2.1 = p.1 ∧ ∃ t y, p.2.2 = .ref t ∧ SqT X.K H t [.str (mkS p.1), y]
  | _, _, .nil, _ => ⟨[], rfl, rfl, rfl, fun _ h => nomatch h⟩
  | _, _, .cons (v := v) (x := x) h r, hp => by
    obtain ⟨ps, g1, g2, g3, g4⟩ := zip_rel r fun w hw => hp w (List.mem_cons_of_mem _ hw)
    obtain ⟨s, y, rfl⟩ := hp v List.mem_cons_self
    refine ⟨(s, (.tup [.str s, y], x)) :: ps, by rw [List.map_cons, g1], by rw [List.map_cons, g2], by rw [List.map_cons, List.map_cons, g3]; rfl, fun p hp => ?_⟩
    rcases List.mem_cons.mp hp with rfl | hp
    · exact ⟨h, rfl, keyF_of h⟩
    · exact g4 p hp
theorem sorP_gl (hc : X.calm = true) : ∃ r, CallR X (.builtin "sorted") r ∧ CallGL X r sorPS := by
  obtain ⟨r0, g1, g2⟩ := sor_gl (X := X) hc
  refine ⟨_, g1.or cr_sortG, ?_⟩
  intro m H ah l xs z Q r hv hf q
  unfold sorPS at hf
  split at hf
  · rename_i z' hz
    cases hf
    exact .inl (g2 m H ah l xs _ Q r hv hz q)
  · split at hf
    · obtain ⟨x, rfl, hx⟩ := hv.one
      split at hf
      · obtain ⟨a, vs, rfl, h1, h2⟩ := VR.list r hx (by assumption)
        split at hf
        · rename_i l' _ _ ss hss
          split at hf
          · rename_i hnd
            cases hf
            obtain ⟨e1, e2⟩ := fsts_eq hss
            obtain ⟨ps, f1, f2, f3, f4⟩ := zip_rel (X := X) h2 e2
            have hvr : ∀ qs : List (List Nat × (AV × V)), (∀ p ∈ qs, VR X.K m H p.2.1 p.2.2) → VRs X.K m H (qs.map fun p => p.2.1) (qs.map fun p => p.2.2) := fun qs => by
              induction qs with
              | nil => exact fun _ => .nil
              | cons p qs ih => exact fun h => .cons (h p List.mem_cons_self) (ih fun p' hp' => h p' (List.mem_cons_of_mem _ hp'))
            have hs : (sortPr ps).map (fun p => p.2.1) = sortF l' := by
              refine rise_uniq fst0 (((sortPr_perm ps).map _).trans (by rw [f1]; exact (sortF_perm l').symm)) (fun x hx1 y hy1 e => ?_) ?_ (sortF_pw l')
              · obtain ⟨p, hp, rfl⟩ := List.mem_map.mp hx1
                obtain ⟨p', hp', rfl⟩ := List.mem_map.mp hy1
                have hp := (sortPr_perm ps).mem_iff.mp hp
                have hp' := (sortPr_perm ps).mem_iff.mp hp'
                rw [(f4 p hp).2.1, (f4 p' hp').2.1] at e
                rw [nodup_fst (by rw [f3, ← e1]; exact hnd) hp hp' e]
              · rw [List.pairwise_map]
                refine List.Pairwise.imp_of_mem (fun {a b} ha hb h => ?_) (sortPr_pw ps)
                rw [(f4 a ((sortPr_perm ps).mem_iff.mp ha)).2.1, (f4 b ((sortPr_perm ps).mem_iff.mp hb)).2.1]
                exact h
            have hm : sortPr (ps.map fun p => (p.1, p.2.2)) = (sortPr ps).map fun p => (p.1, p.2.2) := by
              refine rise_uniq (·.1) ((sortPr_perm _).trans ((sortPr_perm ps).symm.map _)) (fun x hx1 y hy1 e => ?_) (sortPr_pw _) ?_
              · have hx1 := (sortPr_perm _).mem_iff.mp hx1
                have hy1 := (sortPr_perm _).mem_iff.mp hy1
                refine nodup_fst ?_ hx1 hy1 e
                rw [List.map_map]
                show (ps.map (·.1)).Nodup
                rw [f3, ← e1]; exact hnd
              · rw [List.pairwise_map]
                exact sortPr_pw ps
            refine .inr ⟨a, ps.map fun p => (p.1, p.2.2), rfl, ?_, fun p hp => ?_, ?_, fun p hnew => ?_⟩
            · rw [List.map_map]
              show SqL X.K H a (ps.map fun p => p.2.2)
              rw [f2]; exact SqL.of h1
            · obtain ⟨p', hp', rfl⟩ := List.mem_map.mp hp
              exact (f4 p' hp').2.2
            · rw [List.map_map]
              show (ps.map (·.1)).Nodup
              rw [f3, ← e1]; exact hnd
            · rw [hm, List.map_map]
              refine q p _ hnew ?_
              rw [← hs]
              exact hvr (sortPr ps) fun p' hp' => (f4 p' ((sortPr_perm ps).mem_iff.mp hp')).1
          · cases hf
        · cases hf
      · cases hf
    · cases hf
theorem sorP_g (hc : X.calm = true) : ∃ r, CallR X (.builtin "sorted") r ∧ CallG X r sorPO := by
  obtain ⟨r, h1, h2⟩ := sorP_gl (X := X) hc
  exact ⟨r, h1, h2.v⟩
end
end G
namespace G
open PySem PySem.Spec PyProof.Rows L2
def eqZ (f : AV → AV → Option Bool) : List AV → List AV → Option Bool
  | [], _ => some true
  | _ :: _, [] => some true
  | v :: l, w :: l' => match f v w, eqZ f l l' with
    | some b, some c => some (b && c)
    | _, _ => none
def eqH (f : AV → AV → Option Bool) (l' : List (AK × AV)) : List (AK × AV) → Option Bool
  | [] => some true
  | (k, v) :: r => match lookK l' k with
    | none => (eqH f l' r).map fun _ => false
    | some y => match f v y, eqH f l' r with
      | some b, some c => some (b && c)
      | _, _ => none
/-- how == answers, where it is told -/
def eqX : Nat → AV → AV → Option Bool
  | 0, _, _ => none
  | n + 1, v, w => if shA v && shA w then some (eqA v w) else match v, w with
    | .tup l, .tup l' => (eqZ (eqX n) l l').map fun b => b && l.length == l'.length
    | .lst l, .lst l' => if l.length = l'.length then eqZ (eqX n) l l' else some false
    | .dk l, .dk l' => (eqH (eqX n) l' l).map fun b => l.length == l'.length && b
    | _, _ => none
mutual
/-- data with dicts, nothing of ours -/
def okX : AV → Bool
  | .non => true
  | .bl _ => true
  | .int _ => true
  | .str _ => true
  | .tup l => okXs l
  | .lst l => okXs l
  | .dk l => okXk l
  | _ => false
def okXs : List AV → Bool
  | [] => true
  | v :: l => okX v && okXs l
def okXk : List (AK × AV) → Bool
  | [] => true
  | (_, v) :: l => okX v && okXk l
end
theorem look_nodup : ∀ {l : List (AK × AV)}, (l.map (·.1)).Nodup → ∀ {p : AK × AV}, p ∈ l → lookK l p.1 = some p.2
  | [], _, p, hp => nomatch hp
  | q :: l, hn, p, hp => by
    rw [List.map_cons, List.nodup_cons] at hn
    rcases List.mem_cons.mp hp with h1 | h1
    · subst h1; simp [lookK]
    · have hne : q.1 ≠ p.1 := fun e => hn.1 (by rw [e]; exact List.mem_map.mpr ⟨p, h1, rfl⟩)
      have := look_nodup hn.2 h1
      unfold lookK at this ⊢
      rw [List.find?_cons]
      simp only [hne, decide_false]
      exact this
theorem relV_refd {x : V} {p : Addr} (h : RelV x (.ref p)) : x = .ref p := by
  cases x <;> first | (cases h; done) | (cases h; rfl) | (obtain ⟨_, h⟩ := h; cases h)
theorem kv_cons {k : Key} {x : V} {kvs : List (Key × V)} {va : List (Key × Value)} (h : KV ((k, x) :: kvs) va) : ∃ u va', va = (k, u) :: va' ∧ RelV x u ∧ KV kvs va' := by
  generalize hy : (k, x) :: kvs = z at h
  cases h with
  | nil => cases hy
  | @cons p q ps qs h r =>
    cases hy
    obtain ⟨k', u⟩ := q
    obtain ⟨h1, h2⟩ := h
    have h1 : k = k' := h1
    subst h1
    exact ⟨u, qs, rfl, h2, r⟩
theorem vrk_cons {K : PySem.W.Frag} {m : MM} {H : Hp} {k : AK} {v : AV} {l : List (AK × AV)} {xs : List (Key × V)} (h : VRk K m H ((k, v) :: l) xs) : ∃ x kvs, xs = (akey k, x) :: kvs ∧ VR K m H v x ∧ VRk K m H l kvs := by
  cases h with
  | cons a b => exact ⟨_, _, rfl, a, b⟩
theorem okXk_look : ∀ {l : List (AK × AV)} {k : AK} {v : AV}, okXk l = true → lookK l k = some v → okX v = true
  | [], _, _, _, h => by cases h
  | (q, w) :: l, k, v, ok, h => by
    rw [okXk, Bool.and_eq_true] at ok
    unfold lookK at h
    rw [List.find?_cons] at h
    by_cases e : q = k
    · simp only [e, decide_true] at h
      cases h; exact ok.1
    · simp only [e, decide_false] at h
      exact okXk_look ok.2 h
theorem _root_.List.all_congr_mem {α : Type} {f g : α → Bool} : ∀ {l : List α}, (∀ x ∈ l, f x = g x) → l.all f = l.all g
  | [], _ => rfl
  | x :: l, h => by rw [List.all_cons, List.all_cons, h x List.mem_cons_self, List.all_congr_mem fun y hy => h y (List.mem_cons_of_mem _ hy)]
section
variable {X : Cx} {pins : List (Addr × Obj)} {σ : L2.St} {H : Hp} {s : Shared} {m : MM}
mutual
/-- what is one thing is one value -/
theorem VR.inj (I : Inv X pins σ H s) : ∀ (v w : AV) (x : V), VR X.K m H v x → VR X.K m H w x → okX v = true → okX w = true → v = w
  | .non, w, _, h1, h2, _, o2 => by cases h1; cases h2; rfl
  | .bl b, w, _, h1, h2, _, o2 => by cases h1; cases h2; rfl
  | .int i, w, _, h1, h2, _, o2 => by cases h1; cases h2; rfl
  | .str i, w, x, h1, h2, _, o2 => by
    generalize hy : x = y at h2
    cases h1
    cases h2 <;> cases hy <;> rfl
  | .tup l, w, _, h1, h2, o1, o2 => by
    cases h1 with
    | tup a1 a2 =>
      cases h2 with
      | tup b1 b2 =>
        have := I.tuple_inj a1.sqT b1.sqT
        subst this
        rw [VRs.inj I l _ _ a2 b2 o1 o2]
      | lst b1 b2 b3 =>
        obtain ⟨its, rv, ⟨o, ho, hc, n, hd⟩, _⟩ := I.tuple a1.sqT
        obtain ⟨its', rv', p', _⟩ := I.list (SqL.of b1)
        obtain ⟨o', n', ho', hc', _⟩ := p'
        rw [ho] at ho'; cases ho'
        rw [hc] at hc'
        exact absurd (Value.type.inj hc') (by decide)
      | dk b1 b2 b3 =>
        obtain ⟨its, rv, ⟨o, ho, hc, n, hd⟩, _⟩ := I.tuple a1.sqT
        obtain ⟨_, _, vs, _, dd⟩ := dk_rd I.hok b1
        obtain ⟨o', ho', hc'⟩ := dd.typeIs (s := s)
        rw [ho] at ho'; cases ho'
        rw [hc] at hc'
        exact absurd (Value.type.inj hc') (by decide)
      | fl _ _ => cases o2
      | ref _ => cases o2
      | fn _ => cases o2
  | .lst l, w, _, h1, h2, o1, o2 => by
    cases h1 with
    | lst a1 a3 a2 =>
      cases h2 with
      | lst b1 b3 b2 =>
        rw [a1] at b1; cases b1
        rw [VRs.inj I l _ _ a2 b2 o1 o2]
      | tup b1 b2 =>
        obtain ⟨its, rv, ⟨o, ho, hc, n, hd⟩, _⟩ := I.tuple b1.sqT
        obtain ⟨its', rv', p', _⟩ := I.list (SqL.of a1)
        obtain ⟨o', n', ho', hc', _⟩ := p'
        rw [ho] at ho'; cases ho'
        rw [hc] at hc'
        exact absurd (Value.type.inj hc') (by decide)
      | dk b1 b2 b3 =>
        rcases b1 with b1 | ⟨_, b1⟩ <;> exact nomatch a1.symm.trans b1
      | fl _ _ => cases o2
      | ref _ => cases o2
      | fn _ => cases o2
  | .dk l, w, _, h1, h2, o1, o2 => by
    cases h1 with
    | dk a1 a3 a2 =>
      cases h2 with
      | dk b1 b3 b2 =>
        have e : ∀ {k1 k2 : List (Key × V)} {a : Addr}, Rd H a (.dK k1) → Rd H a (.dK k2) → k1 = k2 := fun h h' => by
          rcases h with h | ⟨_, h⟩ <;> rcases h' with h' | ⟨_, h'⟩ <;> (have q := h.symm.trans h'; cases q) <;> rfl
        have := e a1 b1
        subst this
        rw [VRk.inj I l _ _ a2 b2 o1 o2]
      | lst b1 b3 b2 =>
        rcases a1 with a1 | ⟨_, a1⟩ <;> exact nomatch a1.symm.trans b1
      | tup b1 b2 =>
        obtain ⟨its, rv, ⟨o, ho, hc, n, hd⟩, _⟩ := I.tuple b1.sqT
        obtain ⟨_, _, vs, _, dd⟩ := dk_rd I.hok a1
        obtain ⟨o', ho', hc'⟩ := dd.typeIs (s := s)
        rw [ho] at ho'; cases ho'
        rw [hc] at hc'
        exact absurd (Value.type.inj hc') (by decide)
      | fl _ _ => cases o2
      | ref _ => cases o2
      | fn _ => cases o2
  | .fl _, _, _, _, _, o1, _ => by cases o1
  | .ref _, _, _, _, _, o1, _ => by cases o1
  | .fn _, _, _, _, _, o1, _ => by cases o1
theorem VRs.inj (I : Inv X pins σ H s) : ∀ (l l' : List AV) (xs : List V), VRs X.K m H l xs → VRs X.K m H l' xs → okXs l = true → okXs l' = true → l = l'
  | [], _, _, h1, h2, _, _ => by cases h1; cases h2; rfl
  | v :: l, _, _, h1, h2, o1, o2 => by
    cases h1 with
    | cons a b =>
      cases h2 with
      | cons a' b' =>
        rw [okXs, Bool.and_eq_true] at o1 o2
        rw [VR.inj I v _ _ a a' o1.1 o2.1, VRs.inj I l _ _ b b' o1.2 o2.2]
theorem VRk.inj (I : Inv X pins σ H s) : ∀ (l l' : List (AK × AV)) (xs : List (Key × V)), VRk X.K m H l xs → VRk X.K m H l' xs → okXk l = true → okXk l' = true → l = l'
  | [], _, _, h1, h2, _, _ => by cases h1; cases h2; rfl
  | (k, v) :: l, l', xs, h1, h2, o1, o2 => by
    generalize hy : xs = ys at h2
    cases h1 with
    | cons a b =>
      cases h2 with
      | nil => cases hy
      | cons a' b' =>
        injection hy with e1 e2
        injection e1 with e3 e4
        subst e2 e4
        rw [okXk, Bool.and_eq_true] at o1 o2
        rw [akey_inj e3, VR.inj I v _ _ a a' o1.1 o2.1, VRk.inj I l _ _ b b' o1.2 o2.2]
end
mutual
theorem eqSame : ∀ v : AV, okA v = true → eqA v v = true
  | .non, _ => rfl
  | .bl b, _ => by simp [eqA]
  | .int i, _ => by simp [eqA]
  | .str i, _ => by simp [eqA]
  | .tup l, h => by rw [eqA]; exact eqSames l h
  | .lst l, h => by rw [eqA]; exact eqSames l h
  | .dk _, h => by cases h
  | .fl _, h => by cases h
  | .ref _, h => by cases h
  | .fn _, h => by cases h
theorem eqSames : ∀ l : List AV, okAs l = true → eqAs l l = true
  | [], _ => rfl
  | x :: l, h => by
    rw [okAs, Bool.and_eq_true] at h
    rw [eqAs, eqSame x h.1, eqSames l h.2, Bool.and_self]
end
theorem vrk_keys : ∀ {l : List (AK × AV)} {kvs : List (Key × V)}, VRk X.K m H l kvs → kvs.map (·.1) = (l.map (·.1)).map akey
  | _, _, .nil => rfl
  | _, _, .cons _ r => by rw [List.map_cons, List.map_cons, List.map_cons, vrk_keys r]
theorem dk_nodup (I : Inv X pins σ H s) {a : Addr} {kvs : List (Key × V)} {l : List (AK × AV)} (h : Rd H a (.dK kvs)) (r : VRk X.K m H l kvs) : (l.map (·.1)).Nodup := by
  obtain ⟨_, _, vs, rel, o, es, ep, h1, h2, h3, h4, h5, h6⟩ := dk_rd I.hok h
  have e1 : kvs.map (·.1) = vs.map (·.1) := KV.keys rel
  have h6 : (vs.map (·.1)).Nodup := h6
  rw [← e1, vrk_keys r] at h6
  have := List.pairwise_map.mp h6
  exact this.imp fun h e => h (by rw [e])
section
variable {f : AV → AV → Option Bool}
theorem eqZ_self (hf : ∀ (v : AV) (x : V) (b : Bool), VR X.K m H v x → f v v = some b → b = true) : ∀ (l : List AV) (xs : List V) (b : Bool), VRs X.K m H l xs → eqZ f l l = some b → b = true
  | [], _, b, _, h => by unfold eqZ at h; cases h; rfl
  | v :: l, _, b, hv, h => by
    unfold eqZ at h
    split at h
    · rename_i b' c' h1 h2
      cases h
      cases hv with
      | cons a1 a2 => rw [hf v _ b' a1 h1, eqZ_self hf l _ c' a2 h2]; rfl
    · cases h
theorem eqH_self (hf : ∀ (v : AV) (x : V) (b : Bool), VR X.K m H v x → f v v = some b → b = true) (l' : List (AK × AV)) : ∀ (l : List (AK × AV)) (xs : List (Key × V)) (b : Bool), VRk X.K m H l xs → (∀ p ∈ l, lookK l' p.1 = some p.2) → eqH f l' l = some b → b = true
  | [], _, b, _, _, h => by unfold eqH at h; cases h; rfl
  | (k, v) :: l, _, b, hv, hl, h => by
    unfold eqH at h
    have := hl (k, v) (by simp)
    simp only at this
    rw [this] at h
    simp only at h
    split at h
    · rename_i b' c' h1 h2
      cases h
      cases hv with
      | cons a1 a2 => rw [hf v _ b' a1 h1, eqH_self hf l' l _ c' a2 (fun p hp => hl p (by simp [hp])) h2]; rfl
    · cases h
end
/-- == of a thing with itself -/
theorem eqX_self (I : Inv X pins σ H s) : ∀ (n : Nat) (v : AV) (x : V) (b : Bool), VR X.K m H v x → eqX n v v = some b → b = true
  | 0, v, x, b, _, h => by cases h
  | n + 1, v, x, b, hv, h => by
    unfold eqX at h
    split at h
    · rename_i hs
      cases h
      rw [Bool.and_eq_true] at hs
      have := hs.1
      unfold shA at this
      rw [Bool.and_eq_true] at this
      exact eqSame v this.1
    · cases hv with
      | tup a1 a2 =>
        obtain ⟨c, h1, rfl⟩ := Option.map_eq_some_iff.mp h
        rw [eqZ_self (eqX_self I n) _ _ c a2 h1]; simp
      | @lst _ l _ a1 a2 a3 =>
        have h : (if l.length = l.length then eqZ (eqX n) l l else some false) = some b := h
        rw [if_pos rfl] at h
        exact eqZ_self (eqX_self I n) l _ b a3 h
      | @dk _ l _ a1 a2 a3 =>
        obtain ⟨c, h1, rfl⟩ := Option.map_eq_some_iff.mp h
        rw [eqH_self (eqX_self I n) l l _ c a3 (fun p hp => look_nodup (dk_nodup I a1 a3) hp) h1]; simp
      | _ => cases h
section
variable {f : AV → AV → Option Bool} {n : Nat}
/-- f tells the trees of comparisons -/
def TreeF (X : Cx) (s : Shared) (H : Hp) (m : MM) (f : AV → AV → Option Bool) (n : Nat) : Prop :=
  ∀ (v w : AV) (x y : V) (a b : Value) (r : Bool), VR X.K m H v x → VR X.K m H w y → RelV x a → RelV y b → okX v = true → okX w = true → f v w = some r → PySem.W.EqTree X.prog X.w s n a b r
theorem eqZ_tree (hf : TreeF X s H m f n) : ∀ (l l' : List AV) (xs ys : List V) (us ws : List Value) (r : Bool), VRs X.K m H l xs → VRs X.K m H l' ys → Vals xs us → Vals ys ws → okXs l = true → okXs l' = true → eqZ f l l' = some r →
      ∃ e : Nat → Bool, (∀ j (h1 : j < us.length) (h2 : j < ws.length), PySem.W.EqTree X.prog X.w s n us[j] ws[j] (e j)) ∧ r = (List.range (min us.length ws.length)).all e
  | [], l', _, ys, us, ws, r, hv, hw, ru, rw', ol, ol', h => by
    cases hv
    cases ru
    unfold eqZ at h
    cases h
    exact ⟨fun _ => true, fun j h1 => absurd h1 (by simp), by simp⟩
  | v :: l, [], _, _, us, ws, r, hv, hw, ru, rw', ol, ol', h => by
    cases hw
    cases rw'
    unfold eqZ at h
    cases h
    exact ⟨fun _ => true, fun j h1 h2 => absurd h2 (by simp), by simp⟩
  | v :: l, w :: l', _, _, us, ws, r, hv, hw, ru, rw', ol, ol', h => by
    cases hv with
    | cons a1 a2 =>
      cases ru with
      | cons c1 c2 =>
        cases hw with
        | cons b1 b2 =>
          cases rw' with
          | cons d1 d2 =>
            unfold eqZ at h
            rw [okXs, Bool.and_eq_true] at ol ol'
            split at h
            · rename_i r1 r2 h1 h2
              cases h
              have t1 := hf _ _ _ _ _ _ r1 a1 b1 c1 d1 ol.1 ol'.1 h1
              obtain ⟨e, he, rfl⟩ := eqZ_tree hf _ _ _ _ _ _ r2 a2 b2 c2 d2 ol.2 ol'.2 h2
              refine ⟨fun j => match j with | 0 => r1 | j + 1 => e j, fun j g1 g2 => ?_, ?_⟩
              · cases j with
                | zero => exact t1
                | succ j => exact he j (by simpa using g1) (by simpa using g2)
              · simp only [List.length_cons, Nat.succ_min_succ, List.range_succ_eq_map, List.all_cons, List.all_map]
                rfl
            · cases h
theorem eqH_tree (hf : TreeF X s H m f n) {l' : List (AK × AV)} {ls : List (Key × V)} {vb : List (Key × Value)} (hl : VRk X.K m H l' ls) (rb : KV ls vb) (ol' : okXk l' = true) : ∀ (l : List (AK × AV)) (ks : List (Key × V)) (va : List (Key × Value)) (r : Bool), VRk X.K m H l ks → KV ks va → okXk l = true → (l.map (·.1)).Nodup → eqH f l' l = some r →
      ∃ e : Key → Bool, (∀ k v y, (k, v) ∈ va → valueAt vb k = some y → PySem.W.EqTree X.prog X.w s n v y (e k)) ∧ r = va.all fun p => (valueAt vb p.1).isSome && e p.1
  | [], _, va, r, hv, ra, ol, hn, h => by
    cases hv
    cases ra
    unfold eqH at h
    cases h
    exact ⟨fun _ => true, fun _ _ _ h => absurd h List.not_mem_nil, rfl⟩
  | (k, v) :: rest, _, va, r, hv, ra, ol, hn, h => by
    obtain ⟨x, kvs, rfl, a1, a2⟩ := vrk_cons hv
    obtain ⟨u, va', rfl, c1, c2⟩ := kv_cons ra
    rw [List.map_cons, List.nodup_cons] at hn
    rw [okXk, Bool.and_eq_true] at ol
    have hne : ∀ p ∈ va', p.1 ≠ akey k := fun p hp e => by
      have e1 : kvs.map (·.1) = va'.map (·.1) := KV.keys c2
      have : p.1 ∈ va'.map (·.1) := List.mem_map.mpr ⟨p, hp, rfl⟩
      rw [← e1, vrk_keys a2] at this
      obtain ⟨k', hk', e2⟩ := List.mem_map.mp this
      rw [e] at e2
      exact hn.1 (akey_inj e2 ▸ hk')
    unfold eqH at h
    rcases hl.look k with ⟨g1, g2⟩ | ⟨w, y, g1, g2, g3⟩
    · rw [g1] at h
      obtain ⟨c, h1, rfl⟩ := Option.map_eq_some_iff.mp h
      obtain ⟨e, he, rfl⟩ := eqH_tree hf hl rb ol' _ _ va' c a2 c2 ol.2 hn.2 h1
      have hnone : valueAt vb (akey k) = none := by
        have := rb.val (akey k)
        rw [g2] at this
        cases q : valueAt vb (akey k) with
        | none => rfl
        | some y => rw [q] at this; exact this.elim
      refine ⟨e, fun q v' y' hm hy => ?_, by simp [hnone]⟩
      rcases List.mem_cons.mp hm with hm | hm
      · cases hm; rw [hnone] at hy; cases hy
      · exact he q v' y' hm hy
    · rw [g1] at h
      simp only at h
      split at h
      · rename_i r1 r2 h1 h2
        cases h
        obtain ⟨e, he, rfl⟩ := eqH_tree hf hl rb ol' _ _ va' r2 a2 c2 ol.2 hn.2 h2
        have hsome := rb.val (akey k)
        rw [g2] at hsome
        obtain ⟨z, hz, rz⟩ := hsome.some_of
        have t1 := hf v w x y u z r1 a1 g3 c1 rz ol.1 (okXk_look ol' g1) h1
        refine ⟨fun q => if q = akey k then r1 else e q, fun q v' y' hm hy => ?_, ?_⟩
        · rcases List.mem_cons.mp hm with hm | hm
          · cases hm
            rw [hz] at hy; cases hy
            show PySem.W.EqTree X.prog X.w s n u z (if akey k = akey k then r1 else e (akey k))
            rw [if_pos rfl]; exact t1
          · have := hne _ hm
            simp only at this
            show PySem.W.EqTree X.prog X.w s n v' y' (if q = akey k then r1 else e q)
            rw [if_neg this]; exact he q v' y' hm hy
        · rw [List.all_cons]
          simp only [hz, Option.isSome_some, Bool.true_and, if_true]
          congr 1
          refine List.all_congr_mem fun p hp => ?_
          simp [hne p hp]
      · cases h
end
/-- how two things of data stand, as == finds them -/
inductive TopQ (P : Program) (w : World) (s : Shared) (n : Nat) : Value → Value → Bool → Prop
  | shaped {a b : Value} {d e : PyData} {as bs : List Addr} : Reads s.heap a d as → Reads s.heap b e bs → SeqAt.shaped d = true → SeqAt.shaped e = true → TopQ P w s n a b (PyData.eqv d e)
  | tuples {l l' : Addr} {vs vs' : Array Value} {e : Nat → Bool} : s.heap.IsTuple l vs → s.heap.IsTuple l' vs' → (∀ j (h1 : j < vs.size) (h2 : j < vs'.size), PySem.W.EqTree P w s n vs[j] vs'[j] (e j)) → TopQ P w s n (.ref l) (.ref l') ((List.range (min vs.size vs'.size)).all e && vs.size == vs'.size)
  | lists {l l' : Addr} {vs vs' : Array Value} {e : Nat → Bool} : s.heap.IsList l vs → s.heap.IsList l' vs' → vs.size = vs'.size → (∀ j (h1 : j < vs.size) (h2 : j < vs'.size), PySem.W.EqTree P w s n vs[j] vs'[j] (e j)) → TopQ P w s n (.ref l) (.ref l') ((List.range vs.size).all e)
  | listsLen {l l' : Addr} {vs vs' : Array Value} : s.heap.IsList l vs → s.heap.IsList l' vs' → (vs.size != vs'.size) = true → TopQ P w s n (.ref l) (.ref l') false
  | dicts {a b : Addr} {ka kb : List (Key × Value)} {e : Key → Bool} : (a == sysModules) = false → (b == sysModules) = false → s.heap.DictOf (mixKind P w) a ka → s.heap.DictOf (mixKind P w) b kb → (∀ k v y, (k, v) ∈ ka → valueAt kb k = some y → PySem.W.EqTree P w s n v y (e k)) →
      TopQ P w s n (.ref a) (.ref b) (ka.length == kb.length && ka.all fun p => (valueAt kb p.1).isSome && e p.1)
theorem eqX_top (I : Inv X pins σ H s) {n : Nat} (hf : TreeF X s H m (eqX n) (64 + n)) {v w : AV} {x y : V} {a b : Value} {r : Bool} (hv : VR X.K m H v x) (hw : VR X.K m H w y) (ra : RelV x a) (rb : RelV y b) (ov : okX v = true) (ow : okX w = true) (h : eqX (n + 1) v w = some r) : TopQ X.prog X.w s (64 + n) a b r := by
  unfold eqX at h
  split at h
  · rename_i hs
    cases h
    rw [Bool.and_eq_true] at hs
    have o1 : okA v = true := by have := hs.1; unfold shA at this; rw [Bool.and_eq_true] at this; exact this.1
    have o2 : okA w = true := by have := hs.2; unfold shA at this; rw [Bool.and_eq_true] at this; exact this.1
    rw [← okA_eqv v w o1 o2]
    obtain ⟨as, r1⟩ := Dp.reads I _ x a (VR.dp v x hv o1) ra
    obtain ⟨bs, r2⟩ := Dp.reads I _ y b (VR.dp w y hw o2) rb
    exact .shaped r1 r2 (sh_of hs.1) (sh_of hs.2)
  · cases hv with
    | @tup p l vs a1 a2 =>
      cases hw with
      | @tup p' l' vs' b1 b2 =>
        cases ra; cases rb
        obtain ⟨c, h1, rfl⟩ := Option.map_eq_some_iff.mp h
        obtain ⟨us, ru, pu, _⟩ := I.tuple a1.sqT
        obtain ⟨ws, rw', pw, _⟩ := I.tuple b1.sqT
        obtain ⟨e, he, rfl⟩ := eqZ_tree hf _ _ _ _ us ws c a2 b2 ru rw' ov ow h1
        have el1 : us.length = l.length := by rw [← ru.length, ← a2.length]
        have el2 : ws.length = l'.length := by rw [← rw'.length, ← b2.length]
        have := TopQ.tuples (P := X.prog) (w := X.w) (n := 64 + n) (e := e) pu pw (fun j h1 h2 => by simpa using he j (by simpa using h1) (by simpa using h2))
        simpa [el1, el2] using this
      | _ => cases h
    | @lst p l vs a1 a3 a2 =>
      cases hw with
      | @lst p' l' vs' b1 b3 b2 =>
        cases ra; cases rb
        obtain ⟨us, ru, pu, _⟩ := I.list (SqL.of a1)
        obtain ⟨ws, rw', pw, _⟩ := I.list (SqL.of b1)
        have el1 : us.length = l.length := by rw [← ru.length, ← a2.length]
        have el2 : ws.length = l'.length := by rw [← rw'.length, ← b2.length]
        have h : (if l.length = l'.length then eqZ (eqX n) l l' else some false) = some r := h
        split at h
        · rename_i hll
          obtain ⟨e, he, rfl⟩ := eqZ_tree hf _ _ _ _ us ws r a2 b2 ru rw' ov ow h
          have := TopQ.lists (P := X.prog) (w := X.w) (n := 64 + n) (e := e) pu.isList pw.isList (by simp; omega) (fun j h1 h2 => by simpa using he j (by simpa using h1) (by simpa using h2))
          simpa [el1, el2, hll] using this
        · rename_i hll
          cases h
          exact .listsLen pu.isList pw.isList (by simp; omega)
      | _ => cases h
    | @dk p l kvs a1 a3 a2 =>
      cases hw with
      | @dk p' l' kvs' b1 b3 b2 =>
        cases ra; cases rb
        obtain ⟨c, h1, rfl⟩ := Option.map_eq_some_iff.mp h
        obtain ⟨_, ya, va, rla, da⟩ := dk_rd I.hok a1
        obtain ⟨_, yb, vb, rlb, db⟩ := dk_rd I.hok b1
        obtain ⟨e, he, rfl⟩ := eqH_tree hf b2 rlb ow _ _ va c a2 rla ov (dk_nodup I a1 a2) h1
        have el1 : va.length = l.length := by rw [← rla.length, ← a2.length]
        have el2 : vb.length = l'.length := by rw [← rlb.length, ← b2.length]
        have := TopQ.dicts (P := X.prog) (w := X.w) (n := 64 + n) (e := e) ya yb da db he
        simpa [el1, el2] using this
      | _ => cases h
    | _ => cases h
/-- the tree of a comparison -/
theorem eqX_tree (I : Inv X pins σ H s) : ∀ n : Nat, TreeF X s H m (eqX n) (64 + n)
  | 0 => fun _ _ _ _ _ _ _ _ _ _ _ _ _ h => by (cases h)
  | n + 1 => fun v w x y a b r hv hw ra rb ov ow h => by
    have self : x = y → r = true := fun e => by
      subst e
      have := VR.inj I v w x hv hw ov ow
      subst this
      exact eqX_self I (n + 1) v x r hv h
    have ref : ∀ {p p' : Addr}, a = .ref p → b = .ref p' → (p = p' → x = y) → (p ≠ p' → PySem.W.EqTree X.prog X.w s (64 + n + 1) a b r) → PySem.W.EqTree X.prog X.w s (64 + n + 1) a b r := fun {p p'} e1 e2 h1 h2 => by
      by_cases e : p = p'
      · rw [self (h1 e), e1, e2, e]; exact .same
      · exact h2 e
    have top := eqX_top I (eqX_tree I n) hv hw ra rb ov ow h
    show PySem.W.EqTree X.prog X.w s (64 + n + 1) a b r
    have same : ∀ {p : Addr}, a = .ref p → b = .ref p → PySem.W.EqTree X.prog X.w s (64 + n + 1) a b r := fun {p} e1 e2 => by
      have hx : x = .ref p := relV_refd (e1 ▸ ra)
      have hy : y = .ref p := relV_refd (e2 ▸ rb)
      rw [self (hx.trans hy.symm), e1, e2]; exact .same
    cases top with
    | shaped r1 r2 s1 s2 => exact .leaf fun A hu => SeqAt.eqAt_reads _ _ A s a b _ _ r1 r2 (SeqAt.canLay_of_shaped s1) (SeqAt.canLay_of_shaped s2) (SeqAt.room_of_shaped s1 (by omega))
    | @tuples l l' _ _ _ h1 h2 h3 =>
      by_cases e : l = l'
      · subst e; exact same rfl rfl
      · exact .tuples e h1 h2 h3
    | @lists l l' _ _ _ h1 h2 h3 h4 =>
      by_cases e : l = l'
      · subst e; exact same rfl rfl
      · exact .lists e h1 h2 h3 h4
    | @listsLen l l' _ _ h1 h2 h3 =>
      by_cases e : l = l'
      · subst e; exact same rfl rfl
      · exact .listsLen e h1 h2 h3
    | @dicts l l' _ _ _ h1 h2 h3 h4 h5 =>
      by_cases e : l = l'
      · subst e; exact same rfl rfl
      · exact .dicts e h1 h2 h3 h4 h5
end
section
variable {prog : Program} {w : World}
/-- the walk of != over two lists whose items are pairwise equal -/
theorem ne_walk {l₁ l₂ : Addr} {us ws : Array Value} {p q : Nat} {d₁ d₂ : Option Addr} {s₁ s₂ : Array (Option Value)} (hus : us.size = ws.size) (m : Nat) : ∀ i : Nat, us.size - i = m →
    MeetsIn prog w (Builtin.«list.__eq__.loop» ⟨[.ref l₁, .ref l₂, rawInt i, rawInt 3], []⟩) fun A R s =>
      (s.heap.get? l₁ = some { cls := .type "list", dict := d₁, data := .seq us p, slots := s₁ }) ∧ (s.heap.get? l₂ = some { cls := .type "list", dict := d₂, data := .seq ws q, slots := s₂ }) ∧
      (∀ j (h₁ : j < us.size) (h₂ : j < ws.size), SeqAt.EqIn prog w A.in1 s us[j] ws[j] true) ∧ R (.ok (.ret (.bool false))) s := by
  induction m with
  | zero =>
    intro i hi A R s z
    obtain ⟨hp, g, d, tk, os⟩ := s
    obtain ⟨z1, z2, z3, z4⟩ := z
    have k1 : us[((i : Nat) : Int).toNat]? = none := by simp; omega
    have k2 : ws[((i : Nat) : Int).toNat]? = none := by simp; omega
    wp_walk using AutoSeq1.wpAny_loadPart' z1, AutoSeq1.wpAny_loadPart' z2
    rw [k1, k2]
    wp_walk using AutoSeq1.wpAny_loadPart' z1, AutoSeq1.wpAny_loadPart' z2
    show R (.ok (.ret (.bool (us.size != ws.size)))) _
    have : (us.size != ws.size) = false := by simp [hus]
    rw [this]; exact z4
  | succ m ih =>
    intro i hi A R s z
    obtain ⟨hp, g, d, tk, os⟩ := s
    obtain ⟨z1, z2, z3, z4⟩ := z
    have b1 : i < us.size := by omega
    have b2 : i < ws.size := by omega
    have k1 : us[((i : Nat) : Int).toNat]? = some us[i] := by simp [b1]
    have k2 : ws[((i : Nat) : Int).toNat]? = some ws[i] := by simp [b2]
    wp_walk using AutoSeq1.wpAny_loadPart' z1, AutoSeq1.wpAny_loadPart' z2
    rw [k1, k2]
    refine wpAny_bind (z3 i b1 b2 _ _ ?_)
    wp_walk
    rw [show ((i : Int) + 1) = ((i + 1 : Nat) : Int) by push_cast; rfl]
    refine ⟨plainId_quiet MeetsSeq3.plain_eq_loop _, codeAny_builtin MeetsSeq3.entry_eq_loop ?_⟩
    rw [Around.under_plainId MeetsSeq3.plain_eq_loop _]
    exact ih (i + 1) (by omega) A R _ ⟨z1, z2, z3, z4⟩
theorem ne_lists {l₁ l₂ : Addr} {us ws : Array Value} {p q : Nat} {d₁ d₂ : Option Addr} {s₁ s₂ : Array (Option Value)} (hus : us.size = ws.size) :
    MeetsIn prog w (Builtin.«list.__ne__» ⟨[.ref l₁, .ref l₂], []⟩) fun A R s =>
      (s.heap.get? l₁ = some { cls := .type "list", dict := d₁, data := .seq us p, slots := s₁ }) ∧ (s.heap.get? l₂ = some { cls := .type "list", dict := d₂, data := .seq ws q, slots := s₂ }) ∧
      (∀ j (h₁ : j < us.size) (h₂ : j < ws.size), SeqAt.EqIn prog w A.in1 s us[j] ws[j] true) ∧ R (.ok (.ret (.bool false))) s := by
  intro A R s z
  obtain ⟨hp, g, d, tk, os⟩ := s
  obtain ⟨z1, z2, z3, z4⟩ := z
  have f3 := AutoSeq1.sub_list_list
  have hne : ¬ (us.size != ws.size) = true := by simp [hus]
  wp_walk using AutoSeq1.wpAny_loadPart' z1, AutoSeq1.wpAny_loadPart' z2
  refine ⟨plainId_quiet MeetsSeq3.plain_eq_loop _, codeAny_builtin MeetsSeq3.entry_eq_loop ?_⟩
  rw [Around.under_plainId MeetsSeq3.plain_eq_loop _]
  exact ne_walk hus _ 0 rfl A R _ ⟨z1, z2, z3, z4⟩
end
section
variable {X : Cx}
def topX : AV → Bool
  | .tup _ => true
  | .lst _ => true
  | .dk _ => true
  | _ => false
/-- == of lists, tuples, dicts with dicts in them -/
def eqXO : O2 := fun ah v w => if okX (dr ah v) && okX (dr ah w) && topX (dr ah v) && topX (dr ah w) then (eqX 60 (dr ah v) (dr ah w)).map .bl else none
mutual
theorem VR.bareX {K : PySem.W.Frag} {m : MM} {H : Hp} : ∀ (v : AV) (x : V), VR K m H v x → okX v = true → VR K ⟨[], []⟩ H v x
  | .non, _, h, _ => by cases h; exact .non
  | .bl b, _, h, _ => by cases h; exact .bl b
  | .int i, _, h, _ => by cases h; exact .int i
  | .str s, _, h, _ => by cases h; exact .str s
  | .tup l, _, h, o => by
    cases h with
    | tup a b => exact .tup a (VRs.bareX l _ b o)
  | .lst l, _, h, o => by
    cases h with
    | lst a c b => exact .lst a (by rintro (z | z) <;> cases z) (VRs.bareX l _ b o)
  | .dk l, _, h, o => by
    cases h with
    | dk a c b => exact .dk a (by rintro (z | z) <;> cases z) (VRk.bareX l _ b o)
  | .fl _, _, _, o => by cases o
  | .ref _, _, _, o => by cases o
  | .fn _, _, _, o => by cases o
theorem VRs.bareX {K : PySem.W.Frag} {m : MM} {H : Hp} : ∀ (l : List AV) (xs : List V), VRs K m H l xs → okXs l = true → VRs K ⟨[], []⟩ H l xs
  | [], _, h, _ => by cases h; exact .nil
  | v :: l, _, h, o => by
    cases h with
    | cons a b =>
      rw [okXs, Bool.and_eq_true] at o
      exact .cons (VR.bareX v _ a o.1) (VRs.bareX l _ b o.2)
theorem VRk.bareX {K : PySem.W.Frag} {m : MM} {H : Hp} : ∀ (l : List (AK × AV)) (xs : List (Key × V)), VRk K m H l xs → okXk l = true → VRk K ⟨[], []⟩ H l xs
  | [], _, h, _ => by cases h; exact .nil
  | (k, v) :: l, _, h, o => by
    cases h with
    | cons a b =>
      rw [okXk, Bool.and_eq_true] at o
      exact .cons (VR.bareX v _ a o.1) (VRk.bareX l _ b o.2)
end
/-- how a side stands -/
theorem dr_vr {m : MM} {H : Hp} {ah : AH} {v : AV} {x : V} (r : Rel X.K m ah H) (h : VR X.K m H v x) (ok : okX (dr ah v) = true) : VR X.K ⟨[], []⟩ H (dr ah v) x := by
  cases h with
  | ref hm =>
    rename_i n a
    obtain ⟨o, ho, q⟩ := r.at hm
    rw [dr_ref ho] at ok ⊢
    cases o with
    | lst l =>
      obtain ⟨vs, h1, h2⟩ := q
      exact .lst h1 (by rintro (z | z) <;> cases z) (VRs.bareX l _ h2 ok)
    | dk l =>
      obtain ⟨vs, h1, h2⟩ := q
      exact .dk (.inl h1) (by rintro (z | z) <;> cases z) (VRk.bareX l _ h2 ok)
  | non => exact .non
  | bl b => exact .bl b
  | int i => exact .int i
  | str s => exact .str s
  | tup h1 h2 => exact VR.bareX _ _ (VR.tup h1 h2) ok
  | lst h1 h2 h3 => exact VR.bareX _ _ (VR.lst h1 h2 h3) ok
  | dk h1 h3 h2 => exact VR.bareX _ _ (VR.dk h1 h3 h2) ok
  | fn h1 => cases ok
  | fl h1 h2 => cases ok
/-- both sides, as == wants them -/
def rEqX (X : Cx) (x y : V) (H : Hp) (P : Bool → Prop) : Prop := ∃ v w b, VR X.K ⟨[], []⟩ H v x ∧ VR X.K ⟨[], []⟩ H w y ∧ okX v = true ∧ okX w = true ∧ topX v = true ∧ topX w = true ∧ eqX 60 v w = some b ∧ P b
theorem op_eqX (hu : X.A.units + 140 < cLine) : OpR X (compareOp .Eq) fun x y H Q => rEqX X x y H fun b => Q (.bl b) H := by
  intro pins s σ H x y v u Q I rx ry h
  obtain ⟨a, b, r, h1, h2, o1, o2, t1, t2, he, q⟩ := h
  have tr := eqX_top I (eqX_tree I 59) h1 h2 rx ry o1 o2 he
  have fin : ∃ v H', Inv X pins σ H' s ∧ RelV v (.bool r) ∧ Q v H' := ⟨.bl r, H, I, rfl, q⟩
  cases tr with
  | shaped r1 r2 s1 s2 => exact SeqAt.compareEq_shaped r1 r2 s1 s2 (by omega) fin
  | lists hl hl' hsz ht => exact PySem.W.eq_listsT hl hl' hsz ht (by omega) fin
  | listsLen hl hl' hsz => exact (SeqAt.RcAt.lists_lengths hl hl' hsz (by omega)) X.prog X.w X.xe _ fin
  | tuples hl hl' ht => exact PySem.W.eq_tuplesT hl hl' ht (by omega) fin
  | dicts ha hb da db ht => exact PySem.W.eq_dictsT ha hb da db ht (by omega) fin
/-- both sides of a != that is told: lists, pairwise equal -/
def rNeX (X : Cx) (x y : V) (H : Hp) (P : Prop) : Prop := ∃ l l', VR X.K ⟨[], []⟩ H (.lst l) x ∧ VR X.K ⟨[], []⟩ H (.lst l') y ∧ okXs l = true ∧ okXs l' = true ∧ l.length = l'.length ∧ eqZ (eqX 60) l l' = some true ∧ P
theorem op_neX (hu : X.A.units + 140 < cLine) : OpR X (compareOp .NotEq) fun x y H Q => rNeX X x y H (Q (.bl false) H) := by
  intro pins s σ H x y v u Q I rx ry h
  obtain ⟨l, l', h1, h2, o1, o2, hl, he, q⟩ := h
  cases h1 with
  | @lst p _ vs a1 a3 a2 =>
    cases h2 with
    | @lst p' _ vs' b1 b3 b2 =>
      cases rx; cases ry
      obtain ⟨us, ru, ⟨⟨cls, dd, data, sl⟩, n, ho, hc, hd, hdat⟩, _⟩ := I.list (SqL.of a1)
      obtain ⟨ws, rw', ⟨⟨cls2, dd2, data2, sl2⟩, n2, ho2, hc2, hd2, hdat2⟩, _⟩ := I.list (SqL.of b1)
      simp only at hc hd hdat hc2 hd2 hdat2
      subst hc hd hdat hc2 hd2 hdat2
      have el : us.length = ws.length := by rw [← ru.length, ← a2.length, ← rw'.length, ← b2.length]; exact hl
      obtain ⟨e, ht, hall⟩ := eqZ_tree (eqX_tree I 60) _ _ _ _ us ws true a2 b2 ru rw' o1 o2 he
      have he : ∀ j (h1 : j < us.length) (h2 : j < ws.length), SeqAt.EqIn X.prog X.w X.A.in1 s us[j] ws[j] true := fun j h1 h2 => by
        have := (List.all_eq_true.mp hall.symm) j (List.mem_range.mpr (by omega))
        have k := (ht j h1 h2).at X.A.in1 (by show X.A.units + 1 + _ < cLine; omega)
        rw [this] at k; exact k
      have sz : us.toArray.size = ws.toArray.size := by simpa using el
      exact wpAny_richCompare_same_room (T := "list") (op := .NotEq) ⟨_, ho, rfl⟩ ⟨_, ho2, rfl⟩ F.slot_list_ne (call_meetsIn F.slot_list_ne ⟨_, ho, rfl⟩ F.entry_list_ne (F.args_list_ne_2 _ _) (ne_lists sz)
        ⟨ho, ho2, fun j h1 h2 => by simpa using he j (by simpa using h1) (by simpa using h2), (fun x => nomatch x), ⟨.bl false, H, I, rfl, q⟩⟩) (by omega)
theorem eqX_g (hu : X.A.units + 140 < cLine) : ∃ r, OpR X (compareOp .Eq) r ∧ OpG X r eqXO := by
  refine ⟨_, op_eqX hu, ?_⟩
  intro m H ah v w x y z Q r hv hw hf q
  unfold eqXO at hf
  split at hf
  · rename_i h
    simp only [Bool.and_eq_true] at h
    obtain ⟨b, hb, rfl⟩ := Option.map_eq_some_iff.mp hf
    exact ⟨_, _, b, dr_vr r hv h.1.1.1, dr_vr r hw h.1.1.2, h.1.1.1, h.1.1.2, h.1.2, h.2, hb, q.here r (.bl b)⟩
  · cases hf
/-- != of lists, where they are equal -/
def neXO : O2 := fun ah v w => match dr ah v, dr ah w with
  | .lst l, .lst l' => if okXs l && okXs l' && decide (l.length = l'.length) && decide (eqZ (eqX 60) l l' = some true) then some (.bl false) else none
  | _, _ => none
theorem neX_g (hu : X.A.units + 140 < cLine) : ∃ r, OpR X (compareOp .NotEq) r ∧ OpG X r neXO := by
  refine ⟨_, op_neX hu, ?_⟩
  intro m H ah v w x y z Q r hv hw hf q
  unfold neXO at hf
  split at hf
  · rename_i l l' e1 e2
    split at hf
    · rename_i h
      simp only [Bool.and_eq_true, decide_eq_true_eq] at h
      cases hf
      have v1 := dr_vr r hv (by rw [e1]; exact h.1.1.1)
      have v2 := dr_vr r hw (by rw [e2]; exact h.1.1.2)
      rw [e1] at v1
      rw [e2] at v2
      exact ⟨l, l', v1, v2, h.1.1.1, h.1.1.2, h.1.2, h.2, q.here r (.bl false)⟩
    · cases hf
  · cases hf
end
theorem XG.u140 {X : Cx} {W : WX} {k : Nat} (h : XG X W k) : X.A.units + 140 < cLine := by have := h.room.un; omega
end G
namespace G
open PySem PySem.Spec PyProof.Rows L2
section
variable {X : Cx} {W : WX} {a b o : Expr} {fa fb : GE} {pos apos cpos : Pos}
theorem ge_ext (ha : PE X o (tG X W fa)) (hb : PE X b (tG X W fb)) (hbase : attributeBase o "extend" X.env (eval o X.env) = eval o X.env := by rfl)
    (hfew : ((backTo cpos (starEach [b] X.env)).all (fun x => !x.1) && (backToKw cpos (keywordEach [] X.env)).all (fun x => x.1.isSome)
      && decide ([b].length + ([] : List Keyword).length + (if ([] : List Keyword).isEmpty then 0 else 1) < 30)) = true := by rfl)
    (hline : (apos.endLine == cpos.line) = true := by rfl) (hs : starEach [b] X.env = (false, eval b X.env) :: starEach [] X.env := by rfl) (hplain : (backTo cpos (starEach [] X.env)).any (·.1) = false := by rfl) :
    PE X (.Call (.Attribute o "extend" apos) [b] [] cpos) (tG X W (gExt fa fb)) :=
  PE.weak (pe_bm PySem.F.plainAttrs_list PySem.F.slot_list_extend PySem.F.type_list_extend mt_extend ha (pa_cons hb pa_nil hs) hbase hfew hline hs hplain) fun σ H Q hh => by
    obtain ⟨m, env, ah, hE, hR, hp⟩ := hh
    refine tG_step hE hR hp (fun _ _ h => h) fun w ah1 m1 H1 x e1 r1 v1 hp1 => ?_
    cases q : lref ah1 w with
    | none => rw [q] at hp1; exact hp1.elim
    | some n =>
      rw [q] at hp1
      obtain ⟨rfl, a, rfl, hm, ty⟩ := lref_of r1 v1 q
      refine ⟨ty, tG_step (hE.mono e1) r1 (Res.post_imp hp1 (fun _ _ _ h => PQ.mono e1 h) (fun _ _ h => PX.mono e1 h)) (fun _ _ h => h) fun v ah2 m2 H2 y e2 r2 v2 hp2 => ?_⟩
      obtain ⟨ob, ho, qo⟩ := r2.at (e2.get hm)
      have hp2 : (exA ah2 n v).post _ _ := hp2
      unfold exA at hp2
      rw [ho] at hp2
      cases ob with
      | dk l => exact hp2.elim
      | lst l =>
        split at hp2
        · rename_i l0 l' h0 ev
          cases h0
          split at hp2
          · rename_i hl
            obtain ⟨vs, h1, h2⟩ := qo
            obtain ⟨b', ws, rfl, g1, g2⟩ := VR.list r2 v2 ev
            have h16 : sizeLine = 16777216 := sizeLine_eq
            have ex : Ext m2 H2 m2 (upd H2 a (.lst (vs ++ ws))) := Ext.write r2 (List.mem_of_getElem? (e2.get hm))
            exact ⟨a, b', vs, ws, rfl, rfl, h1, g1, by rw [← h2.length, ← g2.length]; omega, hp2 m2 _ _ (e2.trans ex) (r2.write (e2.get hm) rfl ⟨_, rfl, (h2.append g2).mono ex⟩) .non⟩
          · exact hp2.elim
        · exact hp2.elim
/-- a + b of two lists, ours or not: a list of ours -/
def addR (ah : AH) (v w : AV) : Option (List AV) := match dr ah v, dr ah w with
  | .lst s, .lst t => if s.length + t.length ≤ 1000000 then some (s ++ t) else none
  | _, _ => none
def gAddR (a b : GE) : GE := fun env ah => rb (a env ah) fun v ah1 => rb (b env ah1) fun w ah2 => match addR ah2 v w with
  | some l => .ok (.ref ah2.length) (ah2 ++ [.lst l])
  | none => .bad
theorem ge_addR (ha : PE X a (tG X W fa)) (hb : PE X b (tG X W fb)) : PE X (.BinOp a .Add b pos) (tG X W (gAddR fa fb)) :=
  PE.weak (pe_op op_cat ha hb) fun σ H Q h => by
    obtain ⟨m, env, ah, hE, hR, hp⟩ := h
    refine tG_step hE hR hp (fun _ _ h => h) fun v ah1 m1 H1 x e1 r1 v1 hp1 => ?_
    refine tG_step (hE.mono e1) r1 (Res.post_imp hp1 (fun _ _ _ h => PQ.mono e1 h) (fun _ _ h => PX.mono e1 h)) (fun _ _ h => h) fun w ah2 m2 H2 y e2 r2 v2 hp2 => ?_
    unfold addR at hp2
    split at hp2
    · rename_i l hl
      split at hl
      · rename_i s t es et
        split at hl
        · rename_i hz
          cases hl
          obtain ⟨p, vs, rfl, h1, h2⟩ := VR.list r2 (v1.mono e2) es
          obtain ⟨p', ws, rfl, h3, h4⟩ := VR.list r2 v2 et
          exact ⟨_, _, _, _, rfl, rfl, h1, h3, lim2 h2 h4 hz, fun p hp => PQ.newH (PQ.mono e2 hp2) r2 (h2.append h4) hp⟩
        · cases hl
      · cases hl
    · exact hp2.elim
/-- a, b, c = x, y, z -/
theorem gs_par3 {i j l : Nat} {x y z : Str} {a b c : Expr} {fa fb fc : GE} {px py pz pt pos : Pos} {kt k2 pt2} (hc : X.calm = true) (hN : X.N.Nodup) (hi : X.N[i]? = some x) (hj : X.N[j]? = some y) (hl : X.N[l]? = some z) (hij : i ≠ j) (hil : i ≠ l) (hjl : j ≠ l)
    (hx : X.env.scope.names.lookup x = some .local) (hy : X.env.scope.names.lookup y = some .local) (hz : X.env.scope.names.lookup z = some .local) (ha : PA X [a, b, c] (tGA X W (gCons fa (gCons fb (gCons fc gNil)))))
    (hw : swappedStores [.Tuple [.Name x px, .Name y py, .Name z pz] kt pt] (.Tuple [a, b, c] k2 pt2) X.env = pure (some [x, y, z]))
    (hs : swapsWithSole [.Tuple [.Name x px, .Name y py, .Name z pz] kt pt] (.Tuple [a, b, c] k2 pt2) pos.line X.env = pure false := by rfl) :
    PS X (.Assign [.Tuple [.Name x px, .Name y py, .Name z pz] kt pt] (.Tuple [a, b, c] k2 pt2) pos) (tGS X W (gAsg (gTup (gCons fa (gCons fb (gCons fc gNil)))) (gTg 3 (gTc (gNm i) (gTc (gNm j) (gTc (gNm l) gTn)))))) :=
  PS.weak (ps_par3 hc hN hi hj hl hij hil hjl hx hy hz ha hw hs) fun D σ H hh => by
    obtain ⟨m, env, ah, hE, hR, hp⟩ := hh
    refine ⟨m, env, ah, hE, hR, ?_⟩
    have hp : sPost X W m H D (sb (rb (gCons fa (gCons fb (gCons fc gNil)) env ah) fun l ah1 => limL l (.tup l) ah1) env fun v ah1 => match gTg 3 (gTc (gNm i) (gTc (gNm j) (gTc (gNm l) gTn))) env v with
      | some env1 => .nx env1 ah1
      | none => .bad) := hp
    cases e : gCons fa (gCons fb (gCons fc gNil)) env ah with
    | ok r ah1 =>
      rw [e] at hp
      have hp : sPost X W m H D (sb (limL r (.tup r) ah1) env fun v ah1 => match gTg 3 (gTc (gNm i) (gTc (gNm j) (gTc (gNm l) gTn))) env v with
        | some env1 => .nx env1 ah1
        | none => .bad) := hp
      unfold limL at hp
      split at hp
      · by_cases h3 : r.length = 3
        · obtain ⟨u, v, w, rfl⟩ : ∃ u v w, r = [u, v, w] := by
            match r, h3 with
            | [u, v, w], _ => exact ⟨u, v, w, rfl⟩
          have hp : PN X.K m H D.nx (((env.set i (some u)).set j (some v)).set l (some w)) ah1 := hp
          intro m1 H1 xs e1 r1 v1
          cases v1 with
          | cons a1 a2 =>
            cases a2 with
            | cons b1 b2 =>
              cases b2 with
              | cons c1 c2 =>
                cases c2
                exact ⟨_, _, _, rfl, hp m1 H1 _ e1 r1 ((((hE.mono e1).set i a1).set j b1).set l c1)⟩
        · exfalso
          have e3 : gTg 3 (gTc (gNm i) (gTc (gNm j) (gTc (gNm l) gTn))) env (.tup r) = none := by
            show (if r.length = 3 then _ else none) = none
            rw [if_neg h3]
          rw [sb_ok, e3] at hp
          exact hp
      · exact hp.elim
    | exc ev ah1 => rw [e] at hp; exact fun m1 H1 c d e1 r1 xr => hp m1 H1 σ c d e1 r1 (hE.mono e1) xr
    | bad => rw [e] at hp; exact hp.elim
end
end G
namespace G
open PySem PySem.Spec PyProof.Rows L2
section
variable {prog : Program} {w : World} {A : Around} {E : Value → Shared → Prop} {s : Shared}
/-- sorted of a tuple of pairs with unlike first texts -/
theorem sorted_fstT {l : Addr} {vs : List Value} {f : Value → List Nat} {Q : Value → Shared → Prop} (hl : IsTup s.heap l vs.toArray) (hz : vs.length ≤ sizeLine) (hp : ∀ v ∈ vs, FstIs s.heap v (f v)) (hi : ∀ v ∈ vs, ∀ u ∈ vs, f v = f u → v = u)
    (h : ∀ (h' : Heap) (d : Addr) (out : List Value), SrtO.Srtd (ltN f) out → out.Perm vs → (∀ b o, s.heap.get? b = some o → h'.get? b = some o) → s.heap.get? d = none → (∃ n, h'.get? d = some (seqObj "list" out.toArray n)) → Q (.ref d) { s with heap := h' }) :
    wpAny (model prog w) A (call (.builtin "sorted") [.ref l]) Q E s := by
  obtain ⟨o, ho, hc, n, hd⟩ := hl
  refine Calls.call_function_entry kind_sorted plain_sorted entry_sorted (args_sorted1 _) ?_
  unfold Builtin.«sorted»
  refine wpAny_bind (m := checkCount "sorted" 1 1 _) (wpAny_pure ?_)
  refine wpAny_bind (wpAny_collect_seq l (.inr rfl) ho hc hd (fun h1 k1 => ?_) (by simpa using hz))
  rw [show vs.toArray.toList = vs by simp]
  refine wpAny_bind (wpAny_newList ?_ (by simpa using hz))
  have hoL : (h1.push (seqObj "list" vs.toArray 0)).get? h1.objs.size = some (seqObj "list" vs.toArray 0) := Heap.get?_push_size _ rfl
  have lt : ∀ {b : Addr} {o' : Obj}, s.heap.get? b = some o' → b < h1.objs.size := fun q => Heap.lt_size (k1 _ _ q)
  show wpAny _ _ _ _ _ { s with heap := h1.push (seqObj "list" vs.toArray 0) }
  refine wpAny_bind (wpAny_holding (wpAny_call_entry slot_list_sort ⟨_, hoL, rfl⟩ entry_list_sort (SrtO.list_sort_ord (ltN_swo f) hoL hz (fun h2 => ?_) fun out hs hb => ⟨_, rfl, ?_⟩) (args_list_sort _)))
  · refine fst_sortable (s := { s with heap := h1.push (seqObj "list" vs.toArray 0) }) (by omega) (fun v hm => (hp v hm).keeps fun b o e _ => Heap.get?_push_of_some _ (k1 b o e)) hi fun o e => ?_
    have e' : some o = some (seqObj "list" vs.toArray 0) := e.symm.trans hoL
    cases e'
    intro c
    exact absurd (Value.type.inj c) (by decide)
  · refine wpAny_pure ⟨_, rfl, h _ _ out hs hb.perm (fun b o e => ?_) ?_ (sortedHeap_at hoL)⟩
    · rw [sortedHeap_old (Nat.ne_of_lt (lt e)) (by rw [size_push']; exact Nat.lt_succ_of_lt (lt e))]
      exact Heap.get?_push_of_some _ (k1 b o e)
    · cases e : s.heap.get? h1.objs.size with
      | none => rfl
      | some o => exact absurd (lt e) (Nat.lt_irrefl _)
end
/-- sorted(t) of a tuple t -/
def rSortFT (K : PySem.W.Frag) : List V → Hp → VK → Prop := fun vs H Q => ∃ (a : Addr) (xs : List V) (f : V → List Nat), vs = [V.ref a] ∧ SqT K H a xs ∧ (∀ x ∈ xs, ∃ t y, x = .ref t ∧ SqT K H t [.str (mkS (f x)), y]) ∧ (∀ x ∈ xs, ∀ y ∈ xs, f x = f y → x = y) ∧
  ∀ ys p, ys.Perm xs → ys.Pairwise (fun x y => f x ≤ f y) → H p = none → Q (.ref p) (upd H p (.lst ys))
section
variable {X : Cx}
theorem cr_sortFT : CallR X (.builtin "sorted") (rSortFT X.K) := by
  intro pins s σ H vs us Q I r h
  obtain ⟨a, xs, f, rfl, hs, hx, hi, q⟩ := h
  obtain ⟨its, rv, hl, hz⟩ := I.tuple hs
  obtain ⟨u, rfl, ru⟩ := vals1 r
  obtain rfl : u = Value.ref a := ru
  obtain ⟨e1, e2⟩ := refs_back rv fun x m => by
    obtain ⟨t, y, e, _⟩ := hx x m
    exact ⟨t, e⟩
  have hmem : ∀ v ∈ its, backV v ∈ xs := fun v hv => by rw [e1]; exact List.mem_map.mpr ⟨_, hv, rfl⟩
  refine sorted_fstT (f := fun u => f (backV u)) hl (by rw [← rv.length]; exact hz) (fun v hv => ?_) (fun v hv u hu e => ?_) fun h' d out h1 h2 kp hd hn => ?_
  · obtain ⟨t, rfl⟩ := e2 v hv
    obtain ⟨t', y, e, ht⟩ := hx _ (hmem _ hv)
    cases e
    obtain ⟨its2, r2, ⟨o, ho, hc, n, hd⟩, _⟩ := I.tuple ht
    obtain ⟨u1, u2, rfl, ri, rj⟩ := vals2 r2
    obtain ⟨t1, rfl⟩ := ri
    exact ⟨t, o, t1, u2, n, rfl, ho, hc, hd⟩
  · have := hi _ (hmem _ hv) _ (hmem _ hu) e
    obtain ⟨t, rfl⟩ := e2 v hv
    obtain ⟨t', rfl⟩ := e2 u hu
    cases this; rfl
  · have h3 : ∀ u ∈ out, ∃ a, u = Value.ref a := fun u hu => e2 u (h2.mem_iff.mp hu)
    obtain ⟨n, hn⟩ := hn
    have hb : (out.map backV).Perm xs := by rw [e1]; exact h2.map backV
    have hnone : H d = none := I.hok.gone hd
    refine ⟨.ref d, upd H d (.lst (out.map backV)), I.laidN (t' := s.toks) kp hd hnone ⟨?_, out, n, vals_back h3, hn⟩, rfl, q _ d hb ?_ hnone⟩
    · rw [hb.length_eq]
      exact hz
    · rw [List.pairwise_map]
      refine h1.imp fun h => ?_
      have := of_decide_eq_false h
      exact List.not_lt.mp this
end
def rSortGT (K : PySem.W.Frag) : List V → Hp → VK → Prop := fun vs H Q => ∃ (a : Addr) (ps : List (List Nat × V)), vs = [V.ref a] ∧ SqT K H a (ps.map (·.2)) ∧ (∀ p ∈ ps, ∃ t y, p.2 = .ref t ∧ SqT K H t [.str (mkS p.1), y]) ∧ (ps.map (·.1)).Nodup ∧
  ∀ p, H p = none → Q (.ref p) (upd H p (.lst ((sortPr ps).map (·.2))))
section
variable {X : Cx}
theorem cr_sortGT : CallR X (.builtin "sorted") (rSortGT X.K) := by
  intro pins s σ H vs us Q I r h
  obtain ⟨a, ps, rfl, hs, hx, hn, q⟩ := h
  have hi : ∀ p ∈ ps, ∀ q ∈ ps, p.2 = q.2 → p = q := fun p hp q hq e => by
    obtain ⟨t, y, e1, s1⟩ := hx p hp
    obtain ⟨t', y', e2, s2⟩ := hx q hq
    rw [e1, e2] at e
    cases e
    have := I.tuple_inj s1 s2
    have h1 : p.1 = q.1 := by
      have := (List.cons.inj this).1
      exact mkS_inj (by injection this)
    exact nodup_fst hn hp hq h1
  refine cr_sortFT pins s σ H [V.ref a] us Q I r ⟨a, ps.map (·.2), fstOf ps, rfl, hs, fun x hx' => ?_, fun x hx1 y hy1 e => ?_, fun ys p hp hr hnew => ?_⟩
  · obtain ⟨p, hp, rfl⟩ := List.mem_map.mp hx'
    rw [fstOf_eq hi hp]
    exact hx p hp
  · obtain ⟨p, hp, rfl⟩ := List.mem_map.mp hx1
    obtain ⟨p', hp', rfl⟩ := List.mem_map.mp hy1
    rw [fstOf_eq hi hp, fstOf_eq hi hp'] at e
    rw [nodup_fst hn hp hp' e]
  · have e : ys = (sortPr ps).map (·.2) := by
      refine rise_uniq (fstOf ps) (hp.trans ((sortPr_perm ps).symm.map _)) (fun x hx1 y hy1 e => ?_) hr ?_
      · obtain ⟨p, hp1, rfl⟩ := List.mem_map.mp (hp.mem_iff.mp hx1)
        obtain ⟨p', hp', rfl⟩ := List.mem_map.mp (hp.mem_iff.mp hy1)
        rw [fstOf_eq hi hp1, fstOf_eq hi hp'] at e
        rw [nodup_fst hn hp1 hp' e]
      · rw [List.pairwise_map]
        refine List.Pairwise.imp_of_mem (fun {a b} ha hb h => ?_) (sortPr_pw ps)
        rw [fstOf_eq hi ((sortPr_perm ps).mem_iff.mp ha), fstOf_eq hi ((sortPr_perm ps).mem_iff.mp hb)]
        exact h
    rw [e]
    exact q p hnew
end
def sorQS : AH → List AV → Option (List AV) := fun ah l => match sorPS ah l with
  | some z => some z
  | none => match l with
    | [.tup l] => (match fstsA l with
        | some ss => if ss.Nodup then some (sortF l) else none
        | none => none)
    | _ => none
def sorQO : OL := fun ah l => (sorQS ah l).map AV.lst
section
variable {X : Cx}
theorem sorQ_gl (hc : X.calm = true) : ∃ r, CallR X (.builtin "sorted") r ∧ CallGL X r sorQS := by
  obtain ⟨r0, g1, g2⟩ := sorP_gl (X := X) hc
  refine ⟨_, g1.or cr_sortGT, ?_⟩
  intro m H ah l xs z Q r hv hf q
  unfold sorQS at hf
  split at hf
  · rename_i z' hz
    cases hf
    exact .inl (g2 m H ah l xs _ Q r hv hz q)
  · split at hf
    · obtain ⟨x, rfl, hx⟩ := hv.one
      cases hx with
      | tup h1 h2 =>
        rename_i l' hsp a vs
        split at hf
        · rename_i ss hss
          split at hf
          · rename_i hnd
            cases hf
            obtain ⟨e1, e2⟩ := fsts_eq hss
            obtain ⟨ps, f1, f2, f3, f4⟩ := zip_rel (X := X) h2 e2
            have hvr : ∀ qs : List (List Nat × (AV × V)), (∀ p ∈ qs, VR X.K m H p.2.1 p.2.2) → VRs X.K m H (qs.map fun p => p.2.1) (qs.map fun p => p.2.2) := fun qs => by
              induction qs with
              | nil => exact fun _ => .nil
              | cons p qs ih => exact fun h => .cons (h p List.mem_cons_self) (ih fun p' hp' => h p' (List.mem_cons_of_mem _ hp'))
            have hs : (sortPr ps).map (fun p => p.2.1) = sortF l' := by
              refine rise_uniq fst0 (((sortPr_perm ps).map _).trans (by rw [f1]; exact (sortF_perm l').symm)) (fun x hx1 y hy1 e => ?_) ?_ (sortF_pw l')
              · obtain ⟨p, hp, rfl⟩ := List.mem_map.mp hx1
                obtain ⟨p', hp', rfl⟩ := List.mem_map.mp hy1
                have hp := (sortPr_perm ps).mem_iff.mp hp
                have hp' := (sortPr_perm ps).mem_iff.mp hp'
                rw [(f4 p hp).2.1, (f4 p' hp').2.1] at e
                rw [nodup_fst (by rw [f3, ← e1]; exact hnd) hp hp' e]
              · rw [List.pairwise_map]
                refine List.Pairwise.imp_of_mem (fun {a b} ha hb h => ?_) (sortPr_pw ps)
                rw [(f4 a ((sortPr_perm ps).mem_iff.mp ha)).2.1, (f4 b ((sortPr_perm ps).mem_iff.mp hb)).2.1]
                exact h
            have hm : sortPr (ps.map fun p => (p.1, p.2.2)) = (sortPr ps).map fun p => (p.1, p.2.2) := by
              refine rise_uniq (·.1) ((sortPr_perm _).trans ((sortPr_perm ps).symm.map _)) (fun x hx1 y hy1 e => ?_) (sortPr_pw _) ?_
              · have hx1 := (sortPr_perm _).mem_iff.mp hx1
                have hy1 := (sortPr_perm _).mem_iff.mp hy1
                refine nodup_fst ?_ hx1 hy1 e
                rw [List.map_map]
                show (ps.map (·.1)).Nodup
                rw [f3, ← e1]; exact hnd
              · rw [List.pairwise_map]
                exact sortPr_pw ps
            refine .inr ⟨a, ps.map fun p => (p.1, p.2.2), rfl, ?_, fun p hp => ?_, ?_, fun p hnew => ?_⟩
            · rw [List.map_map]
              show SqT X.K H a (ps.map fun p => p.2.2)
              rw [f2]; exact h1.sqT
            · obtain ⟨p', hp', rfl⟩ := List.mem_map.mp hp
              exact (f4 p' hp').2.2
            · rw [List.map_map]
              show (ps.map (·.1)).Nodup
              rw [f3, ← e1]; exact hnd
            · rw [hm, List.map_map]
              refine q p _ hnew ?_
              rw [← hs]
              exact hvr (sortPr ps) fun p' hp' => (f4 p' ((sortPr_perm ps).mem_iff.mp hp')).1
          · cases hf
        · cases hf
    · cases hf
theorem sorQ_g (hc : X.calm = true) : ∃ r, CallR X (.builtin "sorted") r ∧ CallG X r sorQO := by
  obtain ⟨r, h1, h2⟩ := sorQ_gl (X := X) hc
  exact ⟨r, h1, h2.v⟩
end
end G
namespace G
open PySem PySem.Spec PyProof.Rows L2
section
variable {X : Cx} {W : WX} {o e f : Expr} {apos cpos : Pos} {fo fe ff : GE}
def gGet1R (o k : GE) : GE := fun env ah => rb (o env ah) fun w ah1 => match dr ah1 w with
  | .dk _ => rb (k env ah1) fun kv ah2 => match dr ah2 w with
    | .dk l => (match keyA kv with
      | some q => .ok ((lookK l q).getD .non) ah2
      | none => .bad)
    | _ => .bad
  | _ => .bad
theorem ge_get1R (ho : PE X o (tG X W fo)) (he : PE X e (tG X W fe)) (m : M1 X o "get" apos e cpos := by exact ⟨rfl, rfl, rfl, rfl⟩) : PE X (.Call (.Attribute o "get" apos) [e] [] cpos) (tG X W (gGet1R fo fe)) :=
  PE.weak (pe_getK1 ho he m) fun σ H Q h => by
    obtain ⟨m, env, ah, hE, hR, hp⟩ := h
    refine tG_step hE hR hp (fun _ _ h => h) fun v ah1 m1 H1 x e1 r1 v1 hp1 => ?_
    cases hd : dr ah1 v with
    | dk l0 =>
      rw [hd] at hp1
      obtain ⟨a, kvs, rfl, h1, h2⟩ := VR.dict r1 v1 hd
      refine ⟨a, rfl, ⟨kvs, h1⟩, ?_⟩
      refine tG_step (hE.mono e1) r1 (Res.post_imp hp1 (fun _ _ _ h => PQ.mono e1 h) (fun _ _ h => PX.mono e1 h)) (fun _ _ h => h) fun kv ah2 m2 H2 y e2 r2 v2 hp2 => ?_
      have v1' := v1.mono e2
      cases hd2 : dr ah2 v with
      | dk l =>
        rw [hd2] at hp2
        obtain ⟨a', kvs', ea, h1', h2'⟩ := VR.dict r2 v1' hd2
        cases ea
        cases hk : keyA kv with
        | none => rw [hk] at hp2; exact hp2.elim
        | some q =>
          rw [hk] at hp2
          refine ⟨akey q, kvs', keyA_kV hk v2, h1', ?_⟩
          rcases h2'.look q with ⟨g1, g2⟩ | ⟨v', x', g1, g2, hx⟩
          · have hp2 : PQ X.K m1 H1 Q ((lookK l q).getD .non) ah2 := hp2
            rw [g1] at hp2
            rw [g2]
            exact hp2 m2 H2 _ e2 r2 .non
          · have hp2 : PQ X.K m1 H1 Q ((lookK l q).getD .non) ah2 := hp2
            rw [g1] at hp2
            rw [g2]
            exact hp2 m2 H2 _ e2 r2 hx
      | _ => rw [hd2] at hp2; exact hp2.elim
    | _ => rw [hd] at hp1; exact hp1.elim
def dropA (l : List (AK × AV)) (k : AK) : List (AK × AV) := l.filter fun p => decide (p.1 ≠ k)
theorem VRk.drop {K : PySem.W.Frag} {m : MM} {H : Hp} (k : AK) : ∀ {l : List (AK × AV)} {kvs : List (Key × V)}, VRk K m H l kvs → VRk K m H (dropA l k) (dropK kvs (akey k))
  | _, _, .nil => .nil
  | _, _, .cons (k := j) (v := v) (l := l) (x := x) (xs := xs) h r => by
    unfold dropA dropK
    by_cases e : j = k
    · subst e
      rw [List.filter_cons_of_neg (by simp), List.filter_cons_of_neg (by simp)]
      exact VRk.drop _ r
    · rw [List.filter_cons_of_pos (by simp [e]), List.filter_cons_of_pos (by simp; exact fun z => e (akey_inj z))]
      exact .cons h (VRk.drop _ r)
def popA (ah : AH) (w kv dv : AV) : Res AV := match w with
  | .ref n => (match ah[n]? with
    | some (.dk l) => (match keyA kv with
      | some q => (match lookK l q with
        | some v => .ok v (ah.set n (.dk (dropA l q)))
        | none => .ok dv ah)
      | none => .bad)
    | _ => .bad)
  | _ => .bad
def isDk (ah : AH) (w : AV) : Bool := match w with
  | .ref n => (match ah[n]? with
    | some (.dk _) => true
    | _ => false)
  | _ => false
def gPop2 (o k d : GE) : GE := fun env ah => rb (o env ah) fun w ah1 => if isDk ah1 w then rb (k env ah1) fun kv ah2 => rb (d env ah2) fun dv ah3 => popA ah3 w kv dv else .bad
theorem ge_pop2 (ho : PE X o (tG X W fo)) (he : PE X e (tG X W fe)) (hf : PE X f (tG X W ff)) (m : M2 X o "pop" apos e f cpos := by exact ⟨rfl, rfl, rfl, rfl⟩) : PE X (.Call (.Attribute o "pop" apos) [e, f] [] cpos) (tG X W (gPop2 fo fe ff)) :=
  PE.weak (pe_dpop2 ho he hf m) fun σ H Q h => by
    obtain ⟨m, env, ah, hE, hR, hp⟩ := h
    refine tG_step hE hR hp (fun _ _ h => h) fun w ah1 m1 H1 x e1 r1 v1 hp1 => ?_
    by_cases hi : isDk ah1 w = true
    · rw [if_pos hi] at hp1
      unfold isDk at hi
      split at hi
      · rename_i n
        split at hi
        · rename_i l0 hl0
          cases v1 with
          | ref hm =>
            rename_i a
            obtain ⟨ob, hob, qo⟩ := r1.at hm
            rw [hl0] at hob
            cases hob
            obtain ⟨kvs, h1, h2⟩ := qo
            refine ⟨a, rfl, .inl ⟨kvs, .inl h1⟩, ?_⟩
            refine tG_step (hE.mono e1) r1 (Res.post_imp hp1 (fun _ _ _ h => PQ.mono e1 h) (fun _ _ h => PX.mono e1 h)) (fun _ _ h => h) fun kv ah2 m2 H2 y e2 r2 v2 hp2 => ?_
            refine tG_step (hE.mono (e1.trans e2)) r2 (Res.post_imp hp2 (fun _ _ _ h => PQ.mono e2 h) (fun _ _ h => PX.mono e2 h)) (fun _ _ h => h) fun dv ah3 m3 H3 z e3 r3 v3 hp3 => ?_
            have hp3 : (popA ah3 (.ref n) kv dv).post _ _ := hp3
            have hm3 := e3.get (e2.get hm)
            obtain ⟨ob3, ho3, qo3⟩ := r3.at hm3
            unfold popA at hp3
            simp only [ho3] at hp3
            cases ob3 with
            | lst l => exact hp3.elim
            | dk l =>
              obtain ⟨kvs3, g1, g2⟩ := qo3
              cases hk : keyA kv with
              | none => rw [hk] at hp3; exact hp3.elim
              | some q =>
                rw [hk] at hp3
                simp only at hp3
                refine ⟨kvs3, akey q, g1, keyA_kV hk (v2.mono e3), fun v hv => ?_, fun hn => ?_⟩
                · rcases g2.look q with ⟨k1, k2⟩ | ⟨v', x', k1, k2, hx⟩
                  · rw [k2] at hv; cases hv
                  · rw [k2] at hv
                    cases hv
                    rw [k1] at hp3
                    have hp3 : PQ X.K m2 H2 Q v' (ah3.set n (.dk (dropA l q))) := hp3
                    have ex : Ext m3 H3 m3 (upd H3 a (.dK (dropK kvs3 (akey q)))) := Ext.write r3 (List.mem_of_getElem? hm3)
                    exact hp3 m3 _ _ (e3.trans ex) (r3.write hm3 rfl ⟨_, rfl, (g2.drop q).mono ex⟩) (hx.mono ex)
                · rcases g2.look q with ⟨k1, k2⟩ | ⟨v', x', k1, k2, hx⟩
                  · rw [k1] at hp3
                    have hp3 : PQ X.K m2 H2 Q dv ah3 := hp3
                    exact hp3 m3 _ _ e3 r3 v3
                  · rw [k2] at hn; cases hn
        · cases hi
      · cases hi
    · rw [if_neg hi] at hp1
      exact hp1.elim
end
end G
namespace G
open PySem PySem.Spec PyProof.Rows L2
def tDUpd (K : PySem.W.Frag) (td ty : TE) : TE := fun σ H Q => td σ H fun x H1 => ∃ a, x = .ref a ∧ IsD H1 a ∧ ty σ H1 fun y H2 => ∃ b kvs more, y = .ref b ∧ a ≠ b ∧ H2 a = some (.dK kvs) ∧ DKR K H2 b more ∧ kvs.length + more.length ≤ sizeLine ∧ Q .non (upd H2 a (.dK (mergeK kvs more)))
section
variable {X : Cx} {W : WX} {o e : Expr} {apos cpos : Pos} {td ty : TE} {fo fe : GE}
theorem pe_dupd (ho : PE X o td) (he : PE X e ty) (m : M1 X o "update" apos e cpos) : PE X (.Call (.Attribute o "update" apos) [e] [] cpos) (tDUpd X.K td ty) := by
  refine ⟨fun pins s σ H Q I h => ?_⟩
  refine wpAny_Call_method m.base m.few m.line PySem.F.plainAttrs_dict PySem.F.slot_dict_update PySem.F.type_dict_update (thn (ho.run pins s σ H _ I h) fun u s1 ⟨x, H1, I1, rx, a, ex, d, q1⟩ => ?_)
  subst ex
  obtain rfl : u = Value.ref a := rx
  obtain ⟨t1, t2, _⟩ := isD_at I1 d
  refine ⟨t1, t2, ?_⟩
  rw [m.trees]
  refine Calls.callWith_builtin rfl (Calls.evalArgs_plain (Calls.spliced_cons (thn (he.run pins s1 σ H1 _ I1 q1) fun iv s2 ⟨y, H2, I2, ry, b, kvs, more, ey, hab, ea, db, hsz, q2⟩ => Calls.spliced_nil ?_)))
  subst ey
  obtain rfl : iv = Value.ref b := ry
  obtain ⟨z, hd, vs, rel, dd⟩ := dk_of I2.hok ea
  obtain ⟨zb, hdb, ws, relb, ddb⟩ := db.at I2
  refine call_meetsIn PySem.F.slot_dict_update dd.typeIs PySem.F.entry_dict_update (PySem.F.args_dict_update_2 _ _) (meets_dict_update (mixKind X.prog X.w) a b hab hdb) ⟨vs, ws, dd, ddb, by rw [← rel.length, ← relb.length]; exact hsz, fun h' dd' _ hs => ?_⟩
  have he : ∃ q, h'.get? a = some q := let ⟨q, _, _, hq, _⟩ := dd'; ⟨q, hq⟩
  exact ⟨.non, _, d_write I2 (by rw [ea]; exact True.intro) hs he (dk_new (Nat.le_trans (length_mergeK more kvs) hsz) hd (KV.merge relb rel) dd'), rfl, q2⟩
def updA (ah : AH) (w v : AV) : Res AV := match w, v with
  | .ref n, .dk ps => (match ah[n]? with
    | some (.dk l) => if l.length + ps.length ≤ 1000000 then .ok .non (ah.set n (.dk (mergeA l ps))) else .bad
    | _ => .bad)
  | _, _ => .bad
def gUpd (o k : GE) : GE := fun env ah => rb (o env ah) fun w ah1 => if isDk ah1 w then rb (k env ah1) fun v ah2 => updA ah2 w v else .bad
theorem ge_upd (ho : PE X o (tG X W fo)) (he : PE X e (tG X W fe)) (m : M1 X o "update" apos e cpos := by exact ⟨rfl, rfl, rfl, rfl⟩) : PE X (.Call (.Attribute o "update" apos) [e] [] cpos) (tG X W (gUpd fo fe)) :=
  PE.weak (pe_dupd ho he m) fun σ H Q h => by
    obtain ⟨m, env, ah, hE, hR, hp⟩ := h
    refine tG_step hE hR hp (fun _ _ h => h) fun w ah1 m1 H1 x e1 r1 v1 hp1 => ?_
    by_cases hi : isDk ah1 w = true
    · rw [if_pos hi] at hp1
      unfold isDk at hi
      split at hi
      · rename_i n
        split at hi
        · rename_i l0 hl0
          cases v1 with
          | ref hm =>
            rename_i a
            obtain ⟨ob, hob, qo⟩ := r1.at hm
            rw [hl0] at hob
            cases hob
            obtain ⟨kvs, h1, h2⟩ := qo
            refine ⟨a, rfl, .inl ⟨kvs, .inl h1⟩, ?_⟩
            refine tG_step (hE.mono e1) r1 (Res.post_imp hp1 (fun _ _ _ h => PQ.mono e1 h) (fun _ _ h => PX.mono e1 h)) (fun _ _ h => h) fun v ah2 m2 H2 y e2 r2 v2 hp2 => ?_
            have hp2 : (updA ah2 (.ref n) v).post _ _ := hp2
            have hm2 := e2.get hm
            obtain ⟨ob2, ho2, qo2⟩ := r2.at hm2
            unfold updA at hp2
            cases v with
            | dk ps =>
              simp only [ho2] at hp2
              cases ob2 with
              | lst l => exact hp2.elim
              | dk l =>
                obtain ⟨kvs2, g1, g2⟩ := qo2
                cases v2 with
                | dk hb hnm hr =>
                  rename_i b more
                  simp only at hp2
                  split at hp2
                  · rename_i hsz
                    have hab : a ≠ b := fun z => hnm (.inl (by rw [← z]; exact List.mem_of_getElem? hm2))
                    refine ⟨b, kvs2, more, rfl, hab, g1, hb, by rw [← g2.length, ← hr.length, sizeLine_eq]; omega, ?_⟩
                    have hp2 : PQ X.K m1 H1 Q .non (ah2.set n (.dk (mergeA l ps))) := hp2
                    have ex : Ext m2 H2 m2 (upd H2 a (.dK (mergeK kvs2 more))) := Ext.write r2 (List.mem_of_getElem? hm2)
                    exact hp2 m2 _ _ (e2.trans ex) (r2.write hm2 rfl ⟨_, rfl, (VRk.merge ps hr g2).mono ex⟩) .non
                  · exact hp2.elim
            | _ => exact hp2.elim
        · cases hi
      · cases hi
    · rw [if_neg hi] at hp1
      exact hp1.elim
end
end G
namespace G
open PySem PySem.Spec PyProof.Rows L2 L2.DX
abbrev txK (q : List Nat × V) : Key × V := (.inr (mkS q.1), q.2)
theorem key_tx {P : Program} {w : World} {x : Str} {v : Value} (h : (mixKind P w).is (.inr x) v = true) : ∃ t, v = .str x t := by
  rcases keyIs_shape (show keyIs (.inr x) v = true from h) with ⟨i, t, e, _⟩ | ⟨y, t, e, rfl⟩
  · cases e
  · cases e; exact ⟨t, rfl⟩
theorem pairs_ix {P : Program} {w : World} : ∀ {es : List DictEntry} {vs : List (Key × Value)} {ps : List (List Nat × V)}, Pairs (mixKind P w) es vs → KV (ps.map txK) vs → ∀ (j : Nat) (e : DictEntry), es[j]? = some e → ∃ q, ps[j]? = some q ∧ (∃ t, e.key = .str (mkS q.1) t) ∧ RelV q.2 e.val
  | _, _, [], .nil, _, j, e, h => by simp at h
  | _, _, [], .cons h1 h2 r, k, _, _, _ => by cases k
  | _, _, q :: ps, .nil, k, _, _, _ => by cases k
  | _, _, q :: ps, .cons (e := e0) (kv := kv) h1 h2 r, k, j, e, h => by
    cases k with
    | cons a b =>
      cases j with
      | zero =>
        cases h
        refine ⟨q, rfl, ?_, ?_⟩
        · have e1 : kv.1 = .inr (mkS q.1) := a.1.symm
          rw [e1] at h1
          exact key_tx h1
        · rw [h2]; exact a.2
      | succ j => exact pairs_ix r b j e h
/-- d.items(): a view -/
def rItemsK : V → List V → Hp → VK → Prop := fun x xs H Q => ∃ (a : Addr) (kvs : List (Key × V)), x = .ref a ∧ xs = [] ∧ Rd H a (.dK kvs) ∧ ∀ p, H p = none → Q (.ref p) (upd H p (itemsO p a))
def tItemsK (te : TE) : TE := fun σ H Q => te σ H fun x H1 => rItemsK x [] H1 Q
section
variable {X : Cx} {e : Expr} {te : TE} {apos cpos : Pos}
theorem pe_itemsK (he : PE X e te) (hbase : attributeBase e "items" X.env (eval e X.env) = eval e X.env := by rfl) (hline : (apos.endLine == cpos.line) = true := by rfl) : PE X (.Call (.Attribute e "items" apos) [] [] cpos) (tItemsK te) := by
  refine ⟨fun pins s σ H Q I hq => ?_⟩
  refine wpAny_Call_method (T := "dict") (id := "dict.items") hbase rfl hline F.plainAttrs_dict F.slot_dict_items F.type_dict_items (thn (he.run pins s σ H _ I hq) fun u s1 ⟨x, H1, I1, rx, d, kvs, ex, _, hd, q⟩ => ?_)
  subst ex
  obtain rfl : u = Value.ref d := rx
  obtain ⟨hz, hs0, vs, kv, hdo⟩ := dk_rd I1.hok hd
  refine ⟨hdo.typeIs, hdo.mapOf.noDict, ?_⟩
  obtain ⟨o, es, ep, ho, hx, hdat, hes, hps, hn⟩ := hdo
  show wpAny _ _ (callWith cpos (.builtin "dict.items") [.ref d] [] []) _ X.xe s1
  refine Calls.callWith_builtin rfl (PySem.evalArgs_none ?_)
  refine DT.callItems (es := es) (ep := ep) hs0 ⟨o, ho, hx, hdat⟩ ?_
  have hf : H1 s1.heap.objs.size = none := I1.hok.fresh (Nat.le_refl _)
  exact ⟨.ref s1.heap.objs.size, upd H1 s1.heap.objs.size (itemsO s1.heap.objs.size d), I1.laid (t' := s1.toks) (fun b u e => Heap.get?_push_of_some _ e) (Nat.le_refl _) (itemsO_ok (Heap.get?_push_size _ rfl)), rfl, q _ hf⟩
end
theorem perm_mapG {α β : Type} {f : α → β} {x y : List β} (h : x.Perm y) : ∀ l : List α, x = l.map f → ∃ l', y = l'.map f ∧ l.Perm l' := by
  induction h with
  | nil => intro l e; exact ⟨l, e, .refl _⟩
  | cons a _ ih =>
    intro l e
    cases l with
    | nil => cases e
    | cons b l =>
      rw [List.map_cons] at e
      injection e with e1 e2
      obtain ⟨l', h1, h2⟩ := ih l e2
      exact ⟨b :: l', by rw [List.map_cons, h1, e1], h2.cons b⟩
  | swap a b r =>
    intro l e
    cases l with
    | nil => cases e
    | cons c l =>
      cases l with
      | nil => simp at e
      | cons d l =>
        simp only [List.map_cons, List.cons.injEq] at e
        exact ⟨d :: c :: l, by simp [e.1, e.2.1, e.2.2], .swap _ _ _⟩
  | trans _ _ ih1 ih2 =>
    intro l e
    obtain ⟨l1, h1, p1⟩ := ih1 l e
    obtain ⟨l2, h2, p2⟩ := ih2 l1 h1
    exact ⟨l2, h2, p1.trans p2⟩
abbrev tpK (z : Addr × (List Nat × V)) : HO := .tup [.str (mkS z.2.1), z.2.2]
section
variable {X : Cx}
/-- tuples already laid are tracked, whole -/
theorem takeF {pins : List (Addr × Obj)} {σ : L2.St} {H0 : Hp} {s : Shared} {hF : Heap} {tk : Nat} (I0 : Inv X pins σ H0 s) : ∀ (S : List (Addr × (List Nat × V))) (H1 : Hp), Inv X pins σ H1 { s with heap := hF, toks := tk } → (S.map (·.1)).Nodup →
    (∀ z ∈ S, s.heap.objs.size ≤ z.1 ∧ H1 z.1 = none ∧ ∃ o : Obj, o.dict = none ∧ ∀ H2, ObjOk X.prog X.w H2 hF z.1 (.frz o (tpK z))) →
    ∃ H2, Inv X pins σ H2 { s with heap := hF, toks := tk } ∧ (∀ b o, H1 b = some o → H2 b = some o) ∧ (∀ b, H1 b = none → b ∉ S.map (·.1) → H2 b = none) ∧ ∀ z ∈ S, ∃ o : Obj, o.dict = none ∧ H2 z.1 = some (.frz o (tpK z))
  | [], H1, I1, _, _ => ⟨H1, I1, fun _ _ e => e, fun _ e _ => e, fun _ h => nomatch h⟩
  | z :: S, H1, I1, hn, h => by
    obtain ⟨hb, hnone, o, hd, ok⟩ := h z List.mem_cons_self
    have I2 : Inv X pins σ (upd H1 z.1 (.frz o (tpK z))) { s with heap := hF, toks := tk } := I1.take (h' := hF) (t' := tk) (fun b ob _ e => e) (I0.fpOk hb hnone) (ok _)
    rw [List.map_cons, List.nodup_cons] at hn
    have ne : ∀ c ∈ S, c.1 ≠ z.1 := fun c hc e => hn.1 (by rw [← e]; exact List.mem_map.mpr ⟨c, hc, rfl⟩)
    obtain ⟨H2, I3, g, gn, q⟩ := takeF I0 S (upd H1 z.1 (.frz o (tpK z))) I2 hn.2 fun c hc => by
      obtain ⟨c1, c2, c3⟩ := h c (List.mem_cons_of_mem _ hc)
      exact ⟨c1, by rw [upd_ne (ne c hc)]; exact c2, c3⟩
    refine ⟨H2, I3, fun b u e => g b u (by rw [upd_ne (ne_of_none e hnone)]; exact e), fun b e hb' => gn b (by rw [upd_ne (fun w => hb' (by rw [w]; simp))]; exact e) (fun w => hb' (by rw [List.map_cons]; exact List.mem_cons_of_mem _ w)), fun c hc => ?_⟩
    rcases List.mem_cons.mp hc with rfl | hc
    · exact ⟨o, hd, g _ _ upd_same⟩
    · exact q c hc
theorem zip_inj {α β : Type} : ∀ {as : List α} {bs : List β}, as.Nodup → ∀ {x y : α × β}, x ∈ as.zip bs → y ∈ as.zip bs → x.1 = y.1 → x = y
  | [], _, _, x, y, hx, _, _ => by simp at hx
  | _ :: _, [], _, x, y, hx, _, _ => by simp at hx
  | a :: as, b :: bs, hn, x, y, hx, hy, e => by
    rw [List.nodup_cons] at hn
    rw [List.zip_cons_cons] at hx hy
    rcases List.mem_cons.mp hx with rfl | hx
    · rcases List.mem_cons.mp hy with rfl | hy
      · rfl
      · exact absurd (by have := (List.of_mem_zip hy).1; rw [← e] at this; exact this) hn.1
    · rcases List.mem_cons.mp hy with rfl | hy
      · exact absurd (by have := (List.of_mem_zip hx).1; rw [e] at this; exact this) hn.1
      · exact zip_inj hn.2 hx hy e
theorem vals_refs : ∀ S : List (Addr × (List Nat × V)), Vals (S.map fun w => V.ref w.1) (S.map fun w => Value.ref w.1)
  | [] => .nil
  | _ :: S => .cons rfl (vals_refs S)
def rSortIK : List V → Hp → VK → Prop := fun vs H Q => ∃ (p a : Addr) (ps : List (List Nat × V)), vs = [.ref p] ∧ H p = some (itemsO p a) ∧ Rd H a (.dK (ps.map txK)) ∧ (ps.map (·.1)).Nodup ∧
  ∀ (H' : Hp) (l : Addr) (S : List (Addr × (List Nat × V))), (∀ b o, H b = some o → H' b = some o) → H l = none → (S.map (·.2)).Perm ps → (S.map (·.2)).Pairwise (fun x y => x.1 ≤ y.1) → H' l = some (.lst (S.map fun z => V.ref z.1)) →
    (∀ z ∈ S, ∃ o : Obj, o.dict = none ∧ H' z.1 = some (.frz o (tpK z))) → Q (.ref l) H'
theorem cr_sortIK (hc : X.calm = true) : CallR X (.builtin "sorted") rSortIK := by
  intro pins s σ H xs us Q I r h
  obtain ⟨p, a, ps, rfl, hp, ha, hnd, q⟩ := h
  obtain ⟨u, rfl, ru⟩ := vals1 r
  obtain rfl : u = Value.ref p := ru
  have view : s.heap.IsItemsView p a := (show ObjOk X.prog X.w H s.heap p (itemsO p a) from I.hok p _ hp).1
  obtain ⟨z, hs0, vs, kv, o, es, ep, ho, hx, hdat, hes, hps, hn⟩ := dk_rd I.hok ha
  have l1 : (ps.map txK).length = vs.length := Paired.length kv
  have l2 := hps.length
  rw [List.length_map] at l1
  rw [List.length_map] at z
  have l3 : es.size = ps.length := by rw [← Array.length_toList]; omega
  have hh : X.A.handled = none := I.ok.hd hc
  refine DT.sortedI (es := es) (ep := ep) hh view ⟨o, ho, hx, hdat⟩ (by omega) fun h' tk as hk hlt hl hG => ?_
  have lak : as.length = ps.length := by omega
  have nd : as.Nodup := List.Pairwise.imp (fun h => Nat.ne_of_lt h) hG.rise
  have hob : (h'.push { cls := .type "list", data := .seq (as.map Value.ref).toArray }).get? h'.objs.size = some (seqObj "list" (as.map Value.ref).toArray 0) := Heap.get?_push_size _ rfl
  have ka : ∀ b ob, h'.get? b = some ob → (h'.push { cls := .type "list", data := .seq (as.map Value.ref).toArray }).get? b = some ob := fun b ob e => Heap.get?_push_of_some _ e
  -- the pairs that were made
  have pr : ∀ w ∈ as.zip ps, ∃ (t : Tok) (u : Value), h'.get? w.1 = some { cls := .type "tuple", data := .seq #[.str (mkS w.2.1) t, u] } ∧ RelV w.2.2 u := fun w hw => by
    obtain ⟨j, hj⟩ := List.mem_iff_getElem?.mp hw
    obtain ⟨h1, h2⟩ := List.getElem?_zip_eq_some.mp hj
    obtain ⟨e, he, hg⟩ := hG.pairs j w.1 h1
    obtain ⟨q', hq', ⟨t, ht⟩, rv⟩ := pairs_ix hps kv j e (by rw [Array.getElem?_toList]; exact he)
    rw [h2] at hq'
    cases hq'
    rw [ht] at hg
    exact ⟨t, e.val, hg, rv⟩
  generalize hL : as.zip ps = L at pr
  have hLa : L.map (·.1) = as := by rw [← hL]; exact List.map_fst_zip (by omega)
  have hLp : L.map (·.2) = ps := by rw [← hL]; exact List.map_snd_zip (by omega)
  have hLi : ∀ x ∈ L, ∀ y ∈ L, x.1 = y.1 → x = y := fun x hx y hy e => by
    rw [← hL] at hx hy
    exact zip_inj nd hx hy e
  have hLm : as.map Value.ref = L.map fun w => Value.ref w.1 := by rw [← hLa, List.map_map]; rfl
  have hFi : ∀ x ∈ L.map (fun w : Addr × (List Nat × V) => (w.2.1, V.ref w.1)), ∀ y ∈ L.map (fun w : Addr × (List Nat × V) => (w.2.1, V.ref w.1)), x.2 = y.2 → x = y := fun x hx y hy e => by
    obtain ⟨w, hw, rfl⟩ := List.mem_map.mp hx
    obtain ⟨w', hw', rfl⟩ := List.mem_map.mp hy
    have e : V.ref w.1 = V.ref w'.1 := e
    injection e with e
    rw [hLi w hw w' hw' e]
  have hf : ∀ w ∈ L, fstOf (L.map fun w : Addr × (List Nat × V) => (w.2.1, V.ref w.1)) (backV (Value.ref w.1)) = w.2.1 := fun w hw =>
    fstOf_eq hFi (p := (w.2.1, V.ref w.1)) (List.mem_map.mpr ⟨w, hw, rfl⟩)
  generalize hF : (fun u : Value => fstOf (L.map fun w : Addr × (List Nat × V) => (w.2.1, V.ref w.1)) (backV u)) = f
  have hf : ∀ w ∈ L, f (Value.ref w.1) = w.2.1 := fun w hw => by rw [← hF]; exact hf w hw
  have hmem : ∀ v ∈ as.map Value.ref, ∃ w ∈ L, v = Value.ref w.1 := fun v hv => by
    rw [hLm] at hv
    obtain ⟨w, hw, rfl⟩ := List.mem_map.mp hv
    exact ⟨w, hw, rfl⟩
  have hfst : ∀ v ∈ as.map Value.ref, FstIs (h'.push { cls := .type "list", data := .seq (as.map Value.ref).toArray }) v (f v) := fun v hv => by
    obtain ⟨w, hw, rfl⟩ := hmem v hv
    obtain ⟨t, u, hg, _⟩ := pr w hw
    rw [hf w hw]
    exact ⟨w.1, _, t, u, 0, rfl, ka _ _ hg, rfl, rfl⟩
  have hinj : ∀ v ∈ as.map Value.ref, ∀ u ∈ as.map Value.ref, f v = f u → v = u := fun v hv u hu e => by
    obtain ⟨w, hw, rfl⟩ := hmem v hv
    obtain ⟨w', hw', rfl⟩ := hmem u hu
    rw [hf w hw, hf w' hw'] at e
    have e1 : w.2 ∈ ps := by rw [← hLp]; exact List.mem_map.mpr ⟨w, hw, rfl⟩
    have e2 : w'.2 ∈ ps := by rw [← hLp]; exact List.mem_map.mpr ⟨w', hw', rfl⟩
    have e3 := nodup_fst hnd e1 e2 e
    have lw : ∃ j : Nat, L[j]? = some w := List.mem_iff_getElem?.mp hw
    have lw' : ∃ j : Nat, L[j]? = some w' := List.mem_iff_getElem?.mp hw'
    obtain ⟨j, hj⟩ := lw
    obtain ⟨j', hj'⟩ := lw'
    have pj : (ps.map (·.1))[j]? = some w.2.1 := by rw [← hLp, List.map_map, List.getElem?_map, hj]; rfl
    have pj' : (ps.map (·.1))[j']? = some w'.2.1 := by rw [← hLp, List.map_map, List.getElem?_map, hj']; rfl
    have ej : j = j' := by
      obtain ⟨b1, q1⟩ := List.getElem?_eq_some_iff.mp pj
      obtain ⟨b2, q2⟩ := List.getElem?_eq_some_iff.mp pj'
      exact (List.getElem_inj hnd).mp (by rw [q1, q2, e])
    subst ej
    rw [hj] at hj'
    cases hj'
    rfl
  have hzl : (as.map Value.ref).length ≤ sizeLine := by rw [List.length_map]; omega
  refine wpAny_call_entry slot_list_sort ⟨_, hob, rfl⟩ entry_list_sort (SrtO.list_sort_ord (s := { s with heap := h'.push { cls := .type "list", data := .seq (as.map Value.ref).toArray }, toks := tk }) (ltN_swo f) hob hzl (fun h2 => ?_) fun out hs hb => ⟨_, rfl, ?_⟩) (args_list_sort _)
  · refine fst_sortable (s := { s with heap := h'.push { cls := .type "list", data := .seq (as.map Value.ref).toArray }, toks := tk }) (by omega) hfst hinj fun o e => ?_
    have e' : some o = some (seqObj "list" (as.map Value.ref).toArray 0) := e.symm.trans hob
    cases e'
    intro c
    exact absurd (Value.type.inj c) (by decide)
  · obtain ⟨S, hS, pS⟩ := perm_mapG (hb.perm.symm.trans (.refl _)) L hLm
    have old : ∀ b ob, h'.get? b = some ob → (sortedHeap (h'.push { cls := .type "list", data := .seq (as.map Value.ref).toArray }) h'.objs.size (as.map Value.ref) out.toArray).get? b = some ob := fun b ob e => by
      have lt := Heap.lt_size e
      rw [sortedHeap_old (Nat.ne_of_lt lt) (by rw [size_push']; exact Nat.lt_succ_of_lt lt)]
      exact ka _ _ e
    obtain ⟨ne, hat⟩ := sortedHeap_at (out := out.toArray) hob
    have I1 : Inv X pins σ H { s with heap := sortedHeap (h'.push { cls := .type "list", data := .seq (as.map Value.ref).toArray }) h'.objs.size (as.map Value.ref) out.toArray, toks := tk } := I.kept (t' := tk) fun b ob e => old b ob (hk b ob e)
    have hSm : ∀ w ∈ S, w ∈ L := fun w hw => pS.mem_iff.mpr hw
    have hSn : (S.map (·.1)).Nodup := ((pS.map (·.1)).nodup_iff).mp (by rw [hLa]; exact nd)
    have hab : ∀ w ∈ S, s.heap.objs.size ≤ w.1 ∧ w.1 < h'.objs.size := fun w hw => by
      have : w.1 ∈ as := by rw [← hLa]; exact List.mem_map.mpr ⟨w, hSm w hw, rfl⟩
      exact ⟨Nat.le_of_lt (hG.above _ this), hG.there this⟩
    obtain ⟨H2, I2, g, gn, qS⟩ := takeF I S H I1 hSn fun w hw => by
      obtain ⟨t, u, hg, rv⟩ := pr w (hSm w hw)
      refine ⟨(hab w hw).1, I.hok.fresh (hab w hw).1, _, rfl, fun H2 => ⟨old _ _ hg, ?_⟩⟩
      exact ⟨by rw [sizeLine_eq]; simp, [.str (mkS w.2.1) t, u], .cons ⟨t, rfl⟩ (.cons rv .nil), _, old _ _ hg, rfl, 0, rfl⟩
    have hln : H h'.objs.size = none := I.hok.fresh (Nat.le_of_lt hlt)
    have hln2 : H2 h'.objs.size = none := gn _ hln fun e => by
      obtain ⟨w, hw, e⟩ := List.mem_map.mp e
      have := (hab w hw).2
      rw [e] at this
      exact absurd this (Nat.lt_irrefl _)
    have hvo : Vals (S.map fun w => V.ref w.1) out := by
      rw [hS]; exact vals_refs S
    have I3 : Inv X pins σ (upd H2 h'.objs.size (.lst (S.map fun w => V.ref w.1))) { s with heap := sortedHeap (h'.push { cls := .type "list", data := .seq (as.map Value.ref).toArray }) h'.objs.size (as.map Value.ref) out.toArray, toks := tk } :=
      I2.take (t' := tk) (fun b ob _ e => e) (I.fpOk (Nat.le_of_lt hlt) hln2) ⟨by rw [List.length_map, ← pS.length_eq, ← List.length_map (f := fun w : Addr × (List Nat × V) => w.1), hLa]; omega, out, ne, hvo, hat⟩
    refine ⟨.ref h'.objs.size, _, I3, rfl, q _ _ S (fun b o e => ?_) hln ?_ ?_ upd_same fun w hw => ?_⟩
    · rw [upd_ne (ne_of_none e hln)]; exact g b o e
    · rw [← hLp]; exact (pS.map _).symm
    · have e1 : out.Pairwise fun x y => f x ≤ f y := hs.imp fun h => List.not_lt.mp (of_decide_eq_false h)
      rw [hS, List.pairwise_map] at e1
      rw [List.pairwise_map]
      refine List.Pairwise.imp_of_mem (fun {a b} ha hb h => ?_) e1
      rw [hf a (hSm a ha), hf b (hSm b hb)] at h
      exact h
    · obtain ⟨o, h1, h2⟩ := qS w hw
      exact ⟨o, h1, by rw [upd_ne (fun e => by rw [e] at h2; rw [hln2] at h2; cases h2)]; exact h2⟩
end
end G
namespace G
open PySem PySem.Spec PyProof.Rows L2 L2.DX
theorem skeys_pp {K : PySem.W.Frag} {m : MM} {H : Hp} : ∀ {l : List (AK × AV)} {kvs : List (Key × V)} {ss : List (List Nat)}, VRk K m H l kvs → skeys l = some ss →
    ∃ PP : List (List Nat × (AV × V)), PP.map (·.1) = ss ∧ l = PP.map (fun p => (.inr p.1, p.2.1)) ∧ kvs = (PP.map fun p => (p.1, p.2.2)).map txK ∧ ∀ p ∈ PP, VR K m H p.2.1 p.2.2
  | _, _, _, .nil, h => by cases h; exact ⟨[], rfl, rfl, rfl, fun _ h => nomatch h⟩
  | _, _, ss, .cons (k := k) (v := v) (l := l) (x := x) h r, e => by
    cases k with
    | inl i => cases e
    | inr b =>
      have e : (skeys l).map (b :: ·) = some ss := e
      obtain ⟨bs', e1, rfl⟩ := Option.map_eq_some_iff.mp e
      obtain ⟨PP, p1, p2, p3, p4⟩ := skeys_pp r e1
      refine ⟨(b, (v, x)) :: PP, by rw [List.map_cons, p1], by rw [List.map_cons, ← p2], by rw [List.map_cons, List.map_cons, ← p3]; rfl, fun p hp => ?_⟩
      rcases List.mem_cons.mp hp with rfl | hp
      · exact h
      · exact p4 p hp
theorem Rd.grow {H H' : Hp} {a : Addr} {u : HO} (h : Rd H a u) (g : ∀ b o, H b = some o → H' b = some o) : Rd H' a u := by
  rcases h with h | ⟨o, h⟩
  · exact .inl (g _ _ h)
  · exact .inr ⟨o, g _ _ h⟩
abbrev ppT (p : List Nat × (AV × V)) : AV := .tup [.str p.1, p.2.1]
theorem vrs_S {K : PySem.W.Frag} {m : MM} {H : Hp} : ∀ (S : List (Addr × (List Nat × V))) (T : List (List Nat × (AV × V))), S.map (·.2) = T.map (fun p => (p.1, p.2.2)) → (∀ z ∈ S, ∃ o : Obj, o.dict = none ∧ H z.1 = some (.frz o (tpK z))) → (∀ p ∈ T, VR K m H p.2.1 p.2.2) → VRs K m H (T.map ppT) (S.map fun z => V.ref z.1)
  | [], [], _, _, _ => .nil
  | [], _ :: _, e, _, _ => by cases e
  | _ :: _, [], e, _, _ => by cases e
  | z :: S, p :: T, e, h, hv => by
    rw [List.map_cons, List.map_cons] at e
    injection e with e1 e2
    obtain ⟨o, h1, h2⟩ := h z List.mem_cons_self
    refine .cons ?_ (vrs_S S T e2 (fun z' hz => h z' (List.mem_cons_of_mem _ hz)) fun p' hp => hv p' (List.mem_cons_of_mem _ hp))
    refine .tup (.inl ⟨o, h1, h2⟩) ?_
    have e3 : z.2.1 = p.1 := congrArg (·.1) e1
    have e4 : z.2.2 = p.2.2 := congrArg (·.2) e1
    rw [e3, e4]
    exact .cons (.str _) (.cons (hv p List.mem_cons_self) .nil)
def sorIA (ah : AH) (v : AV) : Option (List AV) := match dr ah v with
  | .dk l => (match skeys l with
    | some ss => if ss.Nodup then some (sortF (l.map fun p => .tup [keyV p.1, p.2])) else none
    | none => none)
  | _ => none
def gSorI (o : GE) : GE := fun env ah => rb (o env ah) fun w ah1 => lift1 ((sorIA ah1 w).map AV.lst) ah1
section
variable {X : Cx} {W : WX} {e : Expr} {fe : GE} {p apos cpos pos : Pos}
theorem ge_sorI (hc : X.calm = true) (hg : Gl X "sorted") (hm : X.mg "sorted" = none) (he : PE X e (tG X W fe)) (hbase : attributeBase e "items" X.env (eval e X.env) = eval e X.env := by rfl) (hline : (apos.endLine == cpos.line) = true := by rfl)
    (hs : starEach [.Call (.Attribute e "items" apos) [] [] cpos] X.env = (false, eval (.Call (.Attribute e "items" apos) [] [] cpos) X.env) :: starEach [] X.env := by rfl) (hv : bootBuiltins "sorted" = some (.builtin "sorted") := by decide +kernel)
    (hpl : (backTo pos (starEach [] X.env)).any (·.1) = false := by rfl) :
    PE X (.Call (.Name "sorted" p) [.Call (.Attribute e "items" apos) [] [] cpos] [] pos) (tG X W (gSorI fe)) :=
  PE.weak (pe_callB (cr_sortIK hc) hg hm hv (pa_cons (pe_itemsK he hbase hline) pa_nil hs) (by decide) (by decide) hs hpl) fun σ H Q h => by
    obtain ⟨m, env, ah, hE, hR, hp⟩ := h
    refine tG_step hE hR hp (fun _ _ h => h) fun w ah1 m1 H1 x e1 r1 v1 hp1 => ?_
    cases hd : dr ah1 w with
    | dk l =>
      obtain ⟨a, kvs, rfl, h1, h2⟩ := VR.dict r1 v1 hd
      cases hk : skeys l with
      | none =>
        have : sorIA ah1 w = none := by unfold sorIA; rw [hd]; simp only [hk]
        rw [this] at hp1; exact hp1.elim
      | some ss =>
        by_cases hnd : ss.Nodup
        · have hsI : sorIA ah1 w = some (sortF (l.map fun p => .tup [keyV p.1, p.2])) := by
            unfold sorIA; rw [hd]; simp only [hk]; rw [if_pos hnd]
          rw [hsI] at hp1
          have hp1 : PQ X.K m H Q (.lst (sortF (l.map fun p => .tup [keyV p.1, p.2]))) ah1 := hp1
          obtain ⟨PP, p1, p2, p3, p4⟩ := skeys_pp h2 hk
          refine ⟨a, kvs, rfl, rfl, h1, fun pa hpa => ?_⟩
          have gr : ∀ b o, H1 b = some o → upd H1 pa (itemsO pa a) b = some o := fun b o e => by rw [upd_ne (ne_of_none e hpa)]; exact e
          refine ⟨pa, a, PP.map fun p => (p.1, p.2.2), rfl, upd_same, Rd.grow (by rw [← p3]; exact h1) gr, by rw [List.map_map]; show (PP.map (·.1)).Nodup; rw [p1]; exact hnd, fun H' lp S g hl pS sS hL hT => ?_⟩
          have hlp : lp ≠ pa := fun z => by rw [z, upd_same] at hl; cases hl
          have hl1 : H1 lp = none := by rw [upd_ne hlp] at hl; exact hl
          have gg : ∀ b o, H1 b = some o → H' b = some o := fun b o e => g b o (gr b o e)
          have ndP : (PP.map (·.1)).Nodup := by rw [p1]; exact hnd
          have eS : S.map (·.2) = (sortPr PP).map fun p => (p.1, p.2.2) := by
            refine rise_uniq (·.1) (pS.trans ((sortPr_perm PP).symm.map _)) (fun x hx y hy e => ?_) sS ?_
            · exact nodup_fst (by rw [List.map_map]; exact ndP) (pS.mem_iff.mp hx) (pS.mem_iff.mp hy) e
            · rw [List.pairwise_map]; exact sortPr_pw PP
          have eF : sortF (l.map fun p => .tup [keyV p.1, p.2]) = (sortPr PP).map ppT := by
            have el : (l.map fun p => AV.tup [keyV p.1, p.2]) = PP.map ppT := by rw [p2, List.map_map]; rfl
            rw [el]
            refine rise_uniq fst0 ((sortF_perm _).trans ((sortPr_perm PP).symm.map _)) (fun x hx y hy e => ?_) (sortF_pw _) ?_
            · obtain ⟨q, hq, rfl⟩ := List.mem_map.mp ((sortF_perm _).mem_iff.mp hx)
              obtain ⟨q', hq', rfl⟩ := List.mem_map.mp ((sortF_perm _).mem_iff.mp hy)
              have e : q.1 = q'.1 := e
              rw [nodup_fst ndP hq hq' e]
            · rw [List.pairwise_map]; exact sortPr_pw PP
          have hext : Ext m1 H1 m1 H' := Ext.grow gg
          rw [eF] at hp1
          refine hp1 m1 H' (.ref lp) (e1.trans hext) (r1.grow gg) (.lst hL (r1.notin hl1) (vrs_S S (sortPr PP) eS hT fun q hq => (p4 q ((sortPr_perm PP).mem_iff.mp hq)).mono hext))
        · have : sorIA ah1 w = none := by unfold sorIA; rw [hd]; simp only [hk]; rw [if_neg hnd]
          rw [this] at hp1; exact hp1.elim
    | _ =>
      have : sorIA ah1 w = none := by unfold sorIA; rw [hd]
      rw [this] at hp1; exact hp1.elim
end
end G
namespace G
open PySem PySem.Spec PyProof.Rows L2 RZ
section
variable {prog : Program} {w : World} {A : Around} {E : Value → Shared → Prop} {s : Shared}
abbrev zmH1 (h : Heap) (l1 : Addr) : Heap := h.push { cls := .type "tuple_iterator", data := .fields #[.ref l1, .int 0 0] }
abbrev zmH2 (h : Heap) (l1 l2 : Addr) : Heap := (zmH1 h l1).push { cls := .type "list_iterator", data := .fields #[.ref l2, .int 0 0] }
abbrev zmH3 (h : Heap) (l1 l2 : Addr) : Heap := (zmH2 h l1 l2).push { cls := .type "tuple", data := .seq #[.ref h.objs.size, .ref (zmH1 h l1).objs.size] }
abbrev zmH4 (h : Heap) (l1 l2 : Addr) : Heap := (zmH3 h l1 l2).push { cls := .type "tuple", data := .seq #[.none, .none] }
abbrev zmH5 (h : Heap) (l1 l2 : Addr) : Heap := (zmH4 h l1 l2).push { cls := .type "zip", data := .fields #[.none, .bool false, .bool false, .ref (zmH2 h l1 l2).objs.size, .ref (zmH3 h l1 l2).objs.size] }
theorem meets_zipM (l1 l2 : Addr) (xs ys : Array Value) :
    Meets (Builtin.«zip.__new__» ⟨[.type "zip", .ref l1, .ref l2], []⟩) (fun _ R s => s.heap.IsTuple l1 xs ∧ s.heap.IsList l2 ys ∧
      R (.ok (.ret (.ref (zmH4 s.heap l1 l2).objs.size))) { s with heap := zmH5 s.heap l1 l2 }) :=
  .of_wp fun prog w A R s h => by
    obtain ⟨hp, g, d, tk, os⟩ := s; obtain ⟨hl1, hl2, h⟩ := h
    have hsub := sub_zip
    have hL1 : Heap.IsTuple (Shared.heap ⟨hp, g, d, tk, os⟩) l1 xs := hl1
    have hL2 : Heap.IsList (Shared.heap ⟨hp.push { cls := .type "tuple_iterator", data := .fields #[.ref l1, .int 0 0] }, g, d, tk, os⟩) l2 ys := Heap.IsList.push hl2 _
    wp_walk using wpAny_pyIter_tuple hL1, wpAny_pyIter_list hL2
    exact ⟨_, rfl, h⟩
theorem call_zipM {l1 l2 : Addr} {xs ys : Array Value} {Q : Value → Shared → Prop} (hl1 : s.heap.IsTuple l1 xs) (hl2 : s.heap.IsList l2 ys)
    (h : ∀ h', IsZip h' (s.heap.objs.size + 4) (s.heap.objs.size + 2) (s.heap.objs.size + 3) .none → IsPair h' (s.heap.objs.size + 2) (.ref s.heap.objs.size) (.ref (s.heap.objs.size + 1)) →
      IsPair h' (s.heap.objs.size + 3) .none .none → h'.IsTupleIter s.heap.objs.size l1 0 → h'.IsListIter (s.heap.objs.size + 1) l2 0 → h'.objs.size = s.heap.objs.size + 5 →
      (∀ c o, s.heap.get? c = some o → h'.get? c = some o) → Q (.ref (s.heap.objs.size + 4)) { s with heap := h' }) :
    wpAny (model prog w) A (call (.type "zip") [.ref l1, .ref l2]) Q E s := by
  refine callType_new F.called_zip (by decide) (F.typeCall_zip_2 _ _) (F.newCall_zip_2 _ _) (fun obj => F.args_object_init_3 obj _ _) F.entry_zip_new
    (meets_zipM l1 l2 xs ys) ⟨hl1, hl2, ?_⟩
  have z1 : (zmH1 s.heap l1).objs.size = s.heap.objs.size + 1 := Heap.size_push ..
  have z2 : (zmH2 s.heap l1 l2).objs.size = s.heap.objs.size + 2 := by rw [Heap.size_push, z1]
  have z3 : (zmH3 s.heap l1 l2).objs.size = s.heap.objs.size + 3 := by rw [Heap.size_push, z2]
  have z4 : (zmH4 s.heap l1 l2).objs.size = s.heap.objs.size + 4 := by rw [Heap.size_push, z3]
  have z5 : (zmH5 s.heap l1 l2).objs.size = s.heap.objs.size + 5 := by rw [Heap.size_push, z4]
  have g5 : (zmH5 s.heap l1 l2).get? (zmH4 s.heap l1 l2).objs.size = some _ := Heap.get?_push_size _ rfl
  have up : ∀ {c o}, (zmH4 s.heap l1 l2).get? c = some o → (zmH5 s.heap l1 l2).get? c = some o := fun x => Heap.get?_push_of_some _ x
  have up4 : ∀ {c o}, (zmH3 s.heap l1 l2).get? c = some o → (zmH5 s.heap l1 l2).get? c = some o := fun x => up (Heap.get?_push_of_some _ x)
  have up3 : ∀ {c o}, (zmH2 s.heap l1 l2).get? c = some o → (zmH5 s.heap l1 l2).get? c = some o := fun x => up4 (Heap.get?_push_of_some _ x)
  have up2 : ∀ {c o}, (zmH1 s.heap l1).get? c = some o → (zmH5 s.heap l1 l2).get? c = some o := fun x => up3 (Heap.get?_push_of_some _ x)
  have g4 : (zmH5 s.heap l1 l2).get? (zmH3 s.heap l1 l2).objs.size = some _ := up (Heap.get?_push_size _ rfl)
  have g3 : (zmH5 s.heap l1 l2).get? (zmH2 s.heap l1 l2).objs.size = some _ := up4 (Heap.get?_push_size _ rfl)
  have g2 : (zmH5 s.heap l1 l2).get? (zmH1 s.heap l1).objs.size = some _ := up3 (Heap.get?_push_size _ rfl)
  have g1 : (zmH5 s.heap l1 l2).get? s.heap.objs.size = some _ := up2 (Heap.get?_push_size _ rfl)
  show _ ∧ _
  rw [z2, z3, z4] at g5
  rw [z1, z2] at g3
  rw [z3] at g4
  rw [z1] at g2
  rw [z4]
  exact ⟨⟨_, g5, rfl⟩, h _ g5 g3 g4 ⟨_, g1, rfl, rfl⟩ ⟨_, g2, rfl, rfl⟩ z5 fun c o x => up2 (Heap.get?_push_of_some _ x)⟩
end
/-- the tuple at a and the list at b as they stand at each turn -/
def ItzM (K : PySem.W.Frag) (a b : Addr) : It :=
  ⟨fun i H => ∃ (xs ys : List V) (x y : V), SqT K H a xs ∧ SqL K H b ys ∧ xs[i]? = some x ∧ ys[i]? = some y,
    fun i H v H' => ∃ T x y, v = .ref T ∧ H T = none ∧ H' = upd H T (.tup [x, y]) ∧ (∀ xs, SqT K H a xs → xs[i]? = some x) ∧ ∀ ys, SqL K H b ys → ys[i]? = some y,
    fun i H => ∃ xs ys : List V, SqT K H a xs ∧ SqL K H b ys ∧ i ≤ xs.length ∧ i ≤ ys.length ∧ (i = xs.length ∨ i = ys.length)⟩
theorem sepM {z TI TO i1 i2 a b : Addr} (D : ZipApart z TI TO i1 i2 a b) : ZipSep2 z TI TO i1 i2 [i1, a] [i2, b] where
  TIz := D.TIz
  TOz := D.TOz
  TITO := D.TITO
  TIi1 := D.TIi1
  mem1 := by simp
  zf1 := by simp; exact ⟨fun e => D.i1z e.symm, fun e => D.l1z e.symm⟩
  Tf1 := by simp; exact ⟨D.TOi1, fun e => D.l1TO e.symm⟩
  TIi2 := D.TIi2
  mem2 := by simp
  zf2 := by simp; exact ⟨fun e => D.i2z e.symm, fun e => D.l2z e.symm⟩
  Tf2 := by simp; exact ⟨D.TOi2, fun e => D.l2TO e.symm⟩
  sep1_2 := by simp; exact ⟨D.i12, fun e => D.l2i1 e.symm⟩
  sep2_1 := by simp; exact ⟨fun e => D.i12 e.symm, fun e => D.l1i2 e.symm⟩
theorem turn_zipM {P : Program} {w : World} {K : PySem.W.Frag} {elts : List Expr} {kk : Nat} {tpos : Pos} {a b z TI TO i1 i2 : Addr} (D : ZipApart z TI TO i1 i2 a b) :
    Turn P w K (.Tuple elts kk tpos) (ItzM K a b) [z, TI, TO, i1, i2] z (fun i h => IsZip h z TI TO .none ∧ IsPair h TI (.ref i1) (.ref i2) ∧ (∃ x y, IsPair h TO x y) ∧ h.IsTupleIter i1 a i ∧ h.IsListIter i2 b i) where
  mem := by simp
  obj := fun i h st c hc => by
    obtain ⟨hz, hTI, ⟨x, y, hTO⟩, ⟨o1, e1, _, d1⟩, ⟨o2, e2, _, d2⟩⟩ := st
    have e' : c = z ∨ c = TI ∨ c = TO ∨ c = i1 ∨ c = i2 := by simpa using hc
    rcases e' with q | q | q | q | q
    · rw [q]; exact ⟨_, hz, fun v q => nomatch q⟩
    · rw [q]; exact ⟨_, hTI, fun v q => nomatch q⟩
    · rw [q]; exact ⟨_, hTO, fun v q => nomatch q⟩
    · rw [q]; exact ⟨o1, e1, fun v q => by rw [d1] at q; cases q⟩
    · rw [q]; exact ⟨o2, e2, fun v q => by rw [d2] at q; cases q⟩
  keep := fun i h h' st k => by
    obtain ⟨hz, hTI, ⟨x, y, hTO⟩, h1, h2⟩ := st
    exact ⟨k z (by simp) _ hz, k TI (by simp) _ hTI, ⟨x, y, k TO (by simp) _ hTO⟩, h1.at fun o q => k i1 (by simp) o q, h2.at fun o q => k i2 (by simp) o q⟩
  item := by
    intro X hP hw hK hc i pins s σ H E I hf st hg
    subst hP hw hK
    obtain ⟨hz, hTI, ⟨x0, y0, hTO⟩, h1, h2⟩ := st
    obtain ⟨xs, ys, x, y, hqx, hqy, hx, hy⟩ := hg
    obtain ⟨its, rv, p, _⟩ := I.tuple hqx
    obtain ⟨its2, rv2, p2, _⟩ := I.list hqy
    obtain ⟨u, hu, ru⟩ := rv.get hx
    obtain ⟨u2, hu2, ru2⟩ := rv2.get hy
    have hzl : z < s.heap.objs.size := Heap.lt_size hz
    have hh : X.A.in1.handled = none := I.ok.hd hc
    refine wpAny_pyNext_zipD2_item (sepM D) (Draws.tuple hh i1 a D.l1i1 its.toArray) (Draws.list hh i2 b D.l2i2 its2.toArray) hz hTI hTO ⟨h1, p⟩ ⟨h2, p2.isList⟩ (by simpa using (List.getElem?_eq_some_iff.mp hu).1) (by simpa using (List.getElem?_eq_some_iff.mp hu2).1) fun v1 v2 h' tk q1 q2 z' TO' h1' h2' hT hsz hk => ?_
    have ev1 : v1 = u := by
      have : its[i]? = some v1 := by simpa using q1
      rw [hu] at this; exact (Option.some.inj this).symm
    have ev2 : v2 = u2 := by
      have : its2[i]? = some v2 := by simpa using q2
      rw [hu2] at this; exact (Option.some.inj this).symm
    subst ev1; subst ev2
    refine ⟨_, rfl, wpAny_letOwnedTupleGo_zip (s := { s with heap := h', toks := tk }) z' fun h'' z'' sb => ?_⟩
    have hT2 : h''.get? s.heap.objs.size = some { cls := .type "tuple", data := .seq #[v1, v2] } := (sb.2 _ (Nat.ne_of_gt hzl)).trans hT
    have new : ObjOk X.prog X.w (upd H s.heap.objs.size (.tup [x, y])) h'' s.heap.objs.size (.tup [x, y]) :=
      ⟨by show 2 ≤ sizeLine; decide, [v1, v2], .cons ru (.cons ru2 .nil), ⟨_, hT2, rfl, _, rfl⟩⟩
    have I1 : Inv X pins σ (upd H s.heap.objs.size (.tup [x, y])) { s with heap := h'', toks := tk } :=
      I.turnedNew (t' := tk) (ch := [z, TI, TO, i1, i2]) (fun c o hb q => (sb.2 c (fun q' => hb (by simp [q']))).trans (hk c o (fun q' => hb (by simp [q'])) (fun q' => hb (by simp [q'])) (fun q' => hb (by simp [q'])) (fun q' => hb (by simp [q'])) q)) hf (Nat.le_refl _) new
    refine ⟨.ref s.heap.objs.size, _, I1, rfl, ⟨_, x, y, rfl, I.hok.fresh (Nat.le_refl _), rfl, fun l hl => by rw [I.tuple_inj hl hqx]; exact hx, fun l hl => by rw [I.list_inj hl hqy]; exact hy⟩, ⟨z'', ?_, ⟨v1, v2, ?_⟩, ?_, ?_⟩, fun c hcm => ?_⟩
    · exact (sb.2 _ D.TIz).trans (hk _ _ D.TIz D.TITO D.TIi1 D.TIi2 hTI)
    · exact (sb.2 _ D.TOz).trans TO'
    · exact h1'.1.at fun o q => (sb.2 _ D.i1z).trans q
    · exact h2'.1.at fun o q => (sb.2 _ D.i2z).trans q
    · have hlt : c < s.heap.objs.size := by
        have e' : c = z ∨ c = TI ∨ c = TO ∨ c = i1 ∨ c = i2 := by simpa using hcm
        rcases e' with q | q | q | q | q
        · rw [q]; exact hzl
        · rw [q]; exact Heap.lt_size hTI
        · rw [q]; exact Heap.lt_size hTO
        · rw [q]; obtain ⟨_, e1, _⟩ := h1; exact Heap.lt_size e1
        · rw [q]; obtain ⟨_, e2, _⟩ := h2; exact Heap.lt_size e2
      rw [upd_ne (Nat.ne_of_lt hlt)]
      exact (hf c hcm).1
  done := by
    intro X hP hw hK hc i pins s σ H E I hf st hg
    subst hP hw hK
    obtain ⟨hz, hTI, ⟨x0, y0, hTO⟩, h1, h2⟩ := st
    obtain ⟨xs, ys, hqx, hqy, b1, b2, hend⟩ := hg
    obtain ⟨its, rv, p, _⟩ := I.tuple hqx
    obtain ⟨its2, rv2, p2, _⟩ := I.list hqy
    have l1 := rv.length
    have l2 := rv2.length
    have hh : X.A.in1.handled = none := I.ok.hd hc
    refine wpAny_pyNext_zipD2_end (sepM D) (Draws.tuple hh i1 a D.l1i1 its.toArray) (Draws.list hh i2 b D.l2i2 its2.toArray) hz hTI hTO ⟨h1, p⟩ ⟨h2, p2.isList⟩ (by simp; omega) (by simp; omega) (by simp; omega) fun h' tk hk => ⟨rfl, I.turnedL (t' := tk) (ch := [z, TI, TO, i1, i2]) (fun c o hb q =>
      hk c o (fun q' => hb (by simp [q'])) (fun q' => hb (by simp [q'])) (fun q' => hb (by simp [q'])) (fun q' => hb (by simp [q'])) q) hf⟩
  self := fun A i s Q E st h => wpAny_pyIter_zip st.1 h
/-- zip of two lists, two tuples, a tuple and a list -/
def iZipX (K : PySem.W.Frag) (ta : TA) : TI := fun σ H R => ta σ H fun vs H1 => ∃ a b xs ys, vs = [.ref a, .ref b] ∧ ((SqL K H1 a xs ∧ SqL K H1 b ys ∧ R (Itz K a b) H1) ∨ (SqT K H1 a xs ∧ SqT K H1 b ys ∧ R (ItzT K a b) H1) ∨ (SqT K H1 a xs ∧ SqL K H1 b ys ∧ R (ItzM K a b) H1))
theorem pi_zipX {X : Cx} {e e2 : Expr} {ta : TA} {p pos tpos : Pos} {elts : List Expr} {kk : Nat} (hg : Gl X "zip") (hm : X.mg "zip" = none) (ha : PA X [e, e2] ta)
    (hs : starEach [e, e2] X.env = (false, eval e X.env) :: starEach [e2] X.env := by rfl) (hpl : (backTo pos (starEach [e2] X.env)).any (·.1) = false := by rfl) :
    PI X (.Tuple elts kk tpos) (.Call (.Name "zip" p) [e, e2] [] pos) (iZipX X.K ta) := by
  refine ⟨fun pins s σ H R I h => ?_⟩
  refine Call_ (ld_blt I hg hm PyProof.Rows.boot_zip (PyProof.Rows.callWith_type1 (thn (ha.run pos pins s σ H _ I h) fun us s1 ⟨vs, H1, I1, r1, q1⟩ => ?_) hs hpl))
  obtain ⟨a, b, xs, ys, ex, q1⟩ := q1
  subst ex
  obtain ⟨u1, u2, rfl, ra, rb⟩ := vals2 r1
  obtain rfl : u1 = Value.ref a := ra
  obtain rfl : u2 = Value.ref b := rb
  have fresh5 : ∀ c, c ∈ [s1.heap.objs.size + 4, s1.heap.objs.size + 2, s1.heap.objs.size + 3, s1.heap.objs.size, s1.heap.objs.size + 1] → FpOk X pins H1 c := fun c hcm => by
    have hle : s1.heap.objs.size ≤ c := by
      simp only [List.mem_cons, List.not_mem_nil, or_false] at hcm
      omega
    exact I1.fpOk hle (I1.hok.fresh hle)
  rcases q1 with ⟨hqx, hqy, q⟩ | ⟨hqx, hqy, q⟩ | ⟨hqx, hqy, q⟩
  · obtain ⟨its, rv, p1, _⟩ := I1.list hqx
    obtain ⟨its2, rv2, p2, _⟩ := I1.list hqy
    refine call_zip_2 p1.isList p2.isList fun h' hz hTI hTO h1 h2 hsz hk => wpAny_pyIter_zip hz ?_
    exact ⟨_, _, _, _, H1, rfl, I1.kept (t' := s1.toks) hk, turn_zip (PySem.W.ktu_apart s1.heap.objs.size a b p1.lt p2.lt), ⟨hz, hTI, ⟨_, _, hTO⟩, h1, h2⟩, fresh5, q⟩
  · obtain ⟨its, rv, p1, _⟩ := I1.tuple hqx
    obtain ⟨its2, rv2, p2, _⟩ := I1.tuple hqy
    refine call_zipT (show s1.heap.IsTuple a its.toArray from p1) (show s1.heap.IsTuple b its2.toArray from p2) fun h' hz hTI hTO h1 h2 hsz hk => wpAny_pyIter_zip hz ?_
    exact ⟨_, _, _, _, H1, rfl, I1.kept (t' := s1.toks) hk, turn_zipT (PySem.W.ktu_apart s1.heap.objs.size a b p1.lt p2.lt), ⟨hz, hTI, ⟨_, _, hTO⟩, h1, h2⟩, fresh5, q⟩
  · obtain ⟨its, rv, p1, _⟩ := I1.tuple hqx
    obtain ⟨its2, rv2, p2, _⟩ := I1.list hqy
    refine call_zipM (show s1.heap.IsTuple a its.toArray from p1) p2.isList fun h' hz hTI hTO h1 h2 hsz hk => wpAny_pyIter_zip hz ?_
    exact ⟨_, _, _, _, H1, rfl, I1.kept (t' := s1.toks) hk, turn_zipM (PySem.W.ktu_apart s1.heap.objs.size a b p1.lt p2.lt), ⟨hz, hTI, ⟨_, _, hTO⟩, h1, h2⟩, fresh5, q⟩
end G
namespace G
open PySem PySem.Spec PyProof.Rows L2 RZ
section
variable {K : PySem.W.Frag} {m : MM} {H : Hp}
theorem jg_zipM {a b : Addr} {l l' : List AV} (h : ∀ m' H' ah', Ext m H m' H' → Rel K m' ah' H' → ∃ vs ws, SqT K H' a vs ∧ VRs K m' H' l vs ∧ SqL K H' b ws ∧ VRs K m' H' l' ws) : JG true K (ItzM K a b) m H (none, zipA l l') := by
  refine ⟨fun m' H' ah' e r c => ?_, fun m' H' ah' i v e r c hv => ?_, fun m' H' ah' i v x H'' e r c hv y => ?_⟩
  · obtain ⟨vs, ws, h1, h2, h3, h4⟩ := h m' H' ah' e r
    have hl : (zipA l l').length = min l.length l'.length := by simp [zipA]
    refine ⟨vs, ws, h1, h3, ?_, ?_, ?_⟩
    · show (zipA l l').length ≤ vs.length
      rw [hl, ← h2.length]; omega
    · show (zipA l l').length ≤ ws.length
      rw [hl, ← h4.length]; omega
    · show (zipA l l').length = vs.length ∨ (zipA l l').length = ws.length
      rw [hl, ← h2.length, ← h4.length]; omega
  · obtain ⟨vs, ws, h1, h2, h3, h4⟩ := h m' H' ah' e r
    obtain ⟨p, q, e1, e2, rfl⟩ := zipA_get hv
    obtain ⟨x, hx, _⟩ := h2.get e1
    obtain ⟨z, hz, _⟩ := h4.get e2
    exact ⟨vs, ws, x, z, h1, h3, hx, hz⟩
  · obtain ⟨vs, ws, h1, h2, h3, h4⟩ := h m' H' ah' e r
    obtain ⟨p, q, e1, e2, rfl⟩ := zipA_get hv
    obtain ⟨T, x', y', rfl, hT, rfl, g1, g2⟩ := y
    obtain ⟨x2, hx, rx⟩ := h2.get e1
    obtain ⟨z2, hz, rz⟩ := h4.get e2
    have ex : x2 = x' := Option.some.inj (hx.symm.trans (g1 vs h1))
    have ez : z2 = y' := Option.some.inj (hz.symm.trans (g2 ws h3))
    subst ex; subst ez
    refine ⟨fun c o hc => ?_, .inr ⟨rfl, _, _, _, _, _, rfl, rfl, SqT.of upd_same, rx.mono (Ext.new hT), rz.mono (Ext.new hT)⟩⟩
    by_cases z : c = T
    · subst z; rw [hT] at hc; cases hc
    · rw [upd_ne z]; exact hc
end
section
variable {X : Cx} {W : WX} {e e2 : Expr} {fr : GA} {p pos tpos : Pos} {elts : List Expr} {kk : Nat}
def zipXR (l : List AV) (ah : AH) : Res Src := match l with
  | [.lst p, .lst q] => .ok (none, zipA p q) ah
  | [.tup p, .tup q] => .ok (none, zipA p q) ah
  | [.tup p, .lst q] => .ok (none, zipA p q) ah
  | _ => .bad
def gZipX (r : GA) : GI := fun env ah => rb (r env ah) fun l ah1 => zipXR l ah1
theorem gi_zipX (hg : Gl X "zip") (hm : X.mg "zip" = none) (ha : PA X [e, e2] (tGA X W fr))
    (hs : starEach [e, e2] X.env = (false, eval e X.env) :: starEach [e2] X.env := by rfl) (hpl : (backTo pos (starEach [e2] X.env)).any (·.1) = false := by rfl) :
    PI X (.Tuple elts kk tpos) (.Call (.Name "zip" p) [e, e2] [] pos) (tGI true X W (gZipX fr)) :=
  PI.weak (pi_zipX hg hm ha hs hpl) fun σ H R h => by
    obtain ⟨m, env, ah, hE, hR, hp⟩ := h
    refine tGA_step hE hR hp (fun _ _ h => h) fun l ah1 m1 H1 xs e1 r1 v1 hp1 => ?_
    unfold zipXR at hp1
    split at hp1
    · obtain ⟨x, y, rfl, hx, hy⟩ := v1.two
      cases hx with
      | lst a1 a2 a3 =>
        cases hy with
        | lst b1 b2 b3 =>
          refine ⟨_, _, _, _, rfl, .inl ⟨SqL.of a1, SqL.of b1, hp1 m1 H1 _ e1 r1 (jg_zipL fun m' H' ah' ex r' => ?_)⟩⟩
          exact ⟨_, _, SqL.of (keep_ne (ex.keep _ _ a1 a2) fun _ z => nomatch z), a3.mono ex, SqL.of (keep_ne (ex.keep _ _ b1 b2) fun _ z => nomatch z), b3.mono ex⟩
    · obtain ⟨x, y, rfl, hx, hy⟩ := v1.two
      cases hx with
      | tup a1 a2 =>
        cases hy with
        | tup b1 b2 =>
          refine ⟨_, _, _, _, rfl, .inr (.inl ⟨a1.sqT, b1.sqT, hp1 m1 H1 _ e1 r1 (jg_zipT fun m' H' ah' ex r' => ?_)⟩)⟩
          exact ⟨_, _, (ex.sqN a1).sqT, a2.mono ex, (ex.sqN b1).sqT, b2.mono ex⟩
    · obtain ⟨x, y, rfl, hx, hy⟩ := v1.two
      cases hx with
      | tup a1 a2 =>
        cases hy with
        | lst b1 b2 b3 =>
          refine ⟨_, _, _, _, rfl, .inr (.inr ⟨a1.sqT, SqL.of b1, hp1 m1 H1 _ e1 r1 (jg_zipM fun m' H' ah' ex r' => ?_)⟩)⟩
          exact ⟨_, _, (ex.sqN a1).sqT, a2.mono ex, SqL.of (keep_ne (ex.keep _ _ b1 b2) fun _ z => nomatch z), b3.mono ex⟩
    · exact hp1.elim
end
end G
namespace G
open PySem PySem.Spec PyProof.Rows L2
set_option autoImplicit false
/-- a name of the module stands for the object that K tells of it -/
def NsF (K : PySem.W.Frag) (mg : Str → Option Value) (x : Str) : Prop := ∃ f : Addr, PySem.W.nsIn K mainGlobals x = some (some (.ref f)) ∧ mg x = some (.ref f)
abbrev FTab := List (Str × Den)
/-- each function of a table -/
inductive FnT (P : Program) (w : World) (K : PySem.W.Frag) (mg : Str → Option Value) (base : Heap) (k : Nat) : FTab → Prop
  | nil : FnT P w K mg base k []
  | cons {x : Str} {den : Den} {l : FTab} : NsF K mg x → FnD P w K mg base x k den → FnT P w K mg base k l → FnT P w K mg base k ((x, den) :: l)
def lookF : FTab → Str → Option Den
  | [], _ => none
  | (y, d) :: l, x => if y = x then some d else lookF l x
theorem FnT.at {P : Program} {w : World} {K : PySem.W.Frag} {mg : Str → Option Value} {base : Heap} {k : Nat} : ∀ {t : FTab} {x : Str} {den : Den}, FnT P w K mg base k t → lookF t x = some den → NsF K mg x ∧ FnD P w K mg base x k den
  | _, x, den, .nil, h => by cases h
  | _, x, den, .cons (x := y) a b c, h => by
    unfold lookF at h
    split at h
    · rename_i e; subst e; cases h; exact ⟨a, b⟩
    · exact FnT.at c h
def gCallV (t : FTab) (i : Nat) (r : GA) : GE := fun env ah => match env[i]? with
  | some (some (.fn x)) => (match lookF t x with
    | some den => rb (r env ah) fun l ah1 => den l ah1
    | none => .bad)
  | _ => .bad
section
variable {X : Cx} {W : WX} {e : Expr} {es : List Expr} {fr : GA} {pos p : Pos} {x : Str} {k j : Nat} {t : FTab}
theorem ge_fn (hg : Gl X x) (h : NsF X.K X.mg x) (hd : (x == ("__debug__" : Str)) = false := by decide) : PE X (.Name x p) (tG X W (gC (.fn x))) := by
  obtain ⟨f, h1, h2⟩ := h
  exact ge_const (.fn x) (pe_glob (v := .ref f) hg h2 rfl hd) fun m H => .fn h1
theorem ge_callV (i : Nat) (F : FnT X.prog X.w X.K X.mg X.base k t) (hx : XG X W k) (ha : PA X (e :: es) (tGA X W fr)) (hN : X.N[i]? = some x := by rfl) (hv : Vis X.env.scope x := by first | exact Or.inl rfl | exact Or.inr (Or.inl rfl) | exact Or.inr (Or.inr rfl)) (hdb : (x == ("__debug__" : Str)) = false := by decide)
    (hcd : (x == ("__classdict__" : Str)) = false := by decide) (he : starEach (e :: es) X.env = (false, eval e X.env) :: starEach es X.env := by rfl) (hpl : (backTo pos (starEach es X.env)).any (·.1) = false := by rfl) :
    PE X (.Call (.Name x p) (e :: es) [] pos) (tG X W (gCallV t i fr)) := by
  refine ⟨fun pins s σ H Q I h => ?_⟩
  obtain ⟨m, env, ah, hE, hR, hp⟩ := h
  unfold gCallV at hp
  split at hp
  case h_2 => exact hp.elim
  rename_i y hy
  split at hp
  case h_2 => exact hp.elim
  rename_i den hden
  obtain ⟨⟨f', n1, n2⟩, ⟨f, fd, ps, hm, hk, hb, F⟩⟩ := F.at hden
  obtain ⟨v, hσ, hv1⟩ := hE.2 i _ hy
  cases hv1 with
  | fn q =>
  rename_i a
  rw [n1] at q; cases q
  rw [n2] at hm; cases hm
  refine wpAny_Call_Name_kw (thn ((pe_var (X := X) (pos := p) hN hv hdb hcd).run pins s σ H (fun v1 H1 => v1 = .ref f' ∧ H1 = H) I ⟨_, hσ, rfl, rfl⟩) fun u s0 hq => ?_)
  obtain ⟨v1, H0, I0, rv, rfl, rfl⟩ := hq
  cases rv
  have go : tGA X W fr σ H0 fun vs H1 => ∃ m1 ah1 l, Rel X.K m1 ah1 H1 ∧ VRs X.K m1 H1 l vs ∧ (den l ah1).post (PQ X.K m1 H1 Q) (PX X.K X.mg m1 H1 fun c d H' => W c d σ H') :=
    tGA_step hE hR hp (fun _ _ h => h) fun l ah1 m1 H1 xs e1 r1 v1 hp1 => ⟨m1, ah1, l, r1, v1, Res.post_imp hp1 (fun _ _ _ h => PQ.mono e1 h) (fun _ _ h => PX.mono e1 h)⟩
  refine PySem.W.callWith_K (h₀ := X.base) I0.ok.mod.kin hk (thn (ha.run pos pins s0 σ H0 _ I0 go) fun us s1 hq => ?_) he hpl
  obtain ⟨vs, H1, I1, r, m1, ah1, l, hR1, hv1, hp1⟩ := hq
  exact ⟨I1.kIn, call_run F hx hb I1 r hR1 hv1 hp1⟩
end
end G
namespace G
open PySem PySem.Spec PyProof.Rows L2 L2H
set_option autoImplicit false
def gTryO (f : GS) (t : RelTab) (c : Str) (g : GS) : GS := fun env ah => match f env ah with
  | .exc ev env1 ah1 => match relO t ev.cls c with
    | some true => (match g env1 ah1 with
      | .exc _ _ _ => .bad
      | r => r)
    | some false => .exc ev env1 ah1
    | none => .bad
  | r => r
section
variable {X : Cx} {W : WX}
theorem gs_tryO {t : RelTab} {c : Str} {k : Nat} {C : Addr} {body suite : List Stmt} {b₀ : Stmt} {np pos pos' : Pos} {f g : GS} (hx : XG X W k) (hs : X.stack = X.env :: X.outer) (hf : X.env.frame = some X.env.locals) (hcg : Gl X c) (hcd : (c == ("__debug__" : Str)) = false) (T : RelT X.K X.mg t) (hC : X.mg c = some (.ref C))
    (hb : ∀ (W' : WX) (pn : List (Addr × Obj)) (xe : Value → Shared → Prop), XG (X.tr pn xe) W' k → PSs (X.tr pn xe) body (tGS X W' f))
    (hsu : ∀ (a : Addr) (oe : Obj) (cls : Value) (d : Option Addr) (pn : List (Addr × Obj)), ErrIn (X.suite a ((a, oe) :: pn)) a cls d → RoomH k (X.suite a ((a, oe) :: pn)).A → PSs (X.suite a ((a, oe) :: pn)) (b₀ :: suite) (tGS (X.suite a ((a, oe) :: pn)) (fun _ _ _ _ => False) g)) :
    PS X (.Try body [.ExceptHandler (some (.Name c np)) none (b₀ :: suite) pos'] [] [] pos) (tGS X W (gTryO f t c g)) := by
  refine PS.weak (ps_try_only (c := .ref C) (tb := fun W' => tGS X W' f) (ts := fun a cls d => tGS X (fun _ _ _ _ => False) g) (Wout := W) hs hf ⟨hcg, hcd, .inl hC⟩ hx.tk (fun W' pn xe tk po => hb W' pn xe ⟨hx.room, hx.gd, hx.calm, tk, po⟩)
    (fun a oe cls d pn hz hf => hsu a oe cls d pn ⟨oe, List.mem_cons_self, hz, hf⟩ ⟨hx.room.dp, hx.room.un⟩)) fun D σ H h => ?_
  obtain ⟨m, env, ah, hE, hR, hp⟩ := h
  refine ⟨m, env, ah, hE, hR, ?_⟩
  unfold gTryO at hp
  cases q : f env ah with
  | nx env1 ah1 => rw [q] at hp; exact hp
  | rt v ah1 => rw [q] at hp; exact hp
  | bk env1 ah1 => rw [q] at hp; exact hp
  | ct env1 ah1 => rw [q] at hp; exact hp
  | bad => rw [q] at hp; exact hp
  | exc ev env1 ah1 =>
    rw [q] at hp
    intro m' H' σ' cls d e1 r1 E1 xr
    have hp : sPost X W m H D (match relO t ev.cls c with
      | some true => (match g env1 ah1 with
        | .exc _ _ _ => .bad
        | r => r)
      | some false => .exc ev env1 ah1
      | none => .bad) := hp
    cases qr : relO t ev.cls c with
    | none => rw [qr] at hp; exact hp.elim
    | some b =>
      rw [qr] at hp
      obtain ⟨C', hA, hD⟩ := (relO_at T qr).ex
      have hA1 : X.mg ev.cls = some (.ref C') := hA.at_
      have e2 := xr.1
      rw [hA1] at e2; cases e2
      have exm : PySem.W.exmOne X.K (.ref C') (.ref C) = some b := by
        rcases hD with ⟨D', h1, _, h2⟩ | ⟨T', h1, _⟩
        · have h1 : X.mg c = some (.ref D') := h1
          rw [hC] at h1; cases h1; exact h2
        · have h1 : X.mg c = none := h1
          rw [hC] at h1; cases h1
      refine ⟨b, exm, fun hbt a na => ?_, fun hbf => ?_⟩
      · subst hbt
        have hp : sPost X W m H D (match g env1 ah1 with
          | .exc _ _ _ => .bad
          | r => r) := hp
        refine ⟨m', env1, ah1, E1, r1, ?_⟩
        cases q2 : g env1 ah1 with
        | nx env2 ah2 =>
          rw [q2] at hp
          exact fun m2 H2 σ2 e2 r2 E2 => hp m2 H2 _ (e1.trans e2) r2 E2
        | rt v ah2 =>
          rw [q2] at hp
          exact PQ.mono e1 hp
        | bk env2 ah2 =>
          rw [q2] at hp
          exact fun m2 H2 σ2 e2 r2 E2 => hp m2 H2 _ (e1.trans e2) r2 E2
        | ct env2 ah2 =>
          rw [q2] at hp
          exact fun m2 H2 σ2 e2 r2 E2 => hp m2 H2 _ (e1.trans e2) r2 E2
        | exc _ _ _ => rw [q2] at hp; exact hp.elim
        | bad => rw [q2] at hp; exact hp.elim
      · subst hbf
        exact hp m' H' σ' _ d e1 r1 E1 xr
end
end G
namespace G
open PySem PySem.Spec PyProof.Rows L2
set_option autoImplicit false
/-- a text, each sign in a new pair -/
def IteS (x : Str) : It :=
  ⟨fun i _ => i < x.cps.size, fun i H v H' => ∃ T c, v = .ref T ∧ H T = none ∧ x.cps[i]? = some c ∧ H' = upd H T (.tup [.int (i : Nat), .str ⟨#[c]⟩]), fun i _ => i = x.cps.size⟩
theorem turn_enumS {P : Program} {w : World} {K : PySem.W.Frag} {elts : List Expr} {kk : Nat} {tpos : Pos} (x : Str) (t : Tok) (e it : Addr) :
    Turn P w K (.Tuple elts kk tpos) (IteS x) [e, it] e (fun i h => (∃ old, IsEnum h e it ((i : Nat) : Int) old) ∧ h.IsStrIter it (strIterType x) x t i ∧ e ≠ it) where
  mem := by simp
  obj := fun i h st b hb => by
    obtain ⟨⟨old, he⟩, ⟨o, ho, hc, hd⟩, _⟩ := st
    have e' : b = e ∨ b = it := by simpa using hb
    rcases e' with z | z
    · rw [z]; exact ⟨_, he, fun v q => nomatch q⟩
    · rw [z]; exact ⟨o, ho, fun v q => by rw [hd] at q; cases q⟩
  keep := fun i h h' st k => let ⟨⟨old, he⟩, ⟨o, ho, hc, hd⟩, hne⟩ := st; ⟨⟨old, k e (by simp) _ he⟩, ⟨o, k it (by simp) _ ho, hc, hd⟩, hne⟩
  item := by
    intro X hP hw hK hc i pins s σ H E I hf st hg
    subst hP hw hK
    obtain ⟨⟨old, he⟩, hit, hne⟩ := st
    have hg : i < x.cps.size := hg
    have hel : e < s.heap.objs.size := Heap.lt_size he
    have hil : it < s.heap.objs.size := by obtain ⟨_, q, _⟩ := hit; exact Heap.lt_size q
    refine wpAny_pyNext_enum_itemD (Draws.text (A := X.A.in1) (I.ok.hd hc) it x t) he hit hg hne (by simp [hne]) fun x' h' tk hx' ho hst' hT hsz' hk => ?_
    obtain ⟨c, u, hc1, rfl⟩ := hx'
    refine ⟨_, rfl, wpAny_letOwnedTupleGo_enum (s := { s with heap := h', toks := tk + 1 }) ho fun h'' he' sb => ?_⟩
    have hT2 : h''.get? s.heap.objs.size = some { cls := .type "tuple", data := .seq #[.int i tk, .str ⟨#[c]⟩ u] } := (sb.2 _ (Nat.ne_of_gt hel)).trans hT
    have new : ObjOk X.prog X.w (upd H s.heap.objs.size (.tup [.int (i : Nat), .str ⟨#[c]⟩])) h'' s.heap.objs.size (.tup [.int (i : Nat), .str ⟨#[c]⟩]) :=
      ⟨by show 2 ≤ sizeLine; decide, [.int i tk, .str ⟨#[c]⟩ u], .cons ⟨_, rfl⟩ (.cons ⟨_, rfl⟩ .nil), ⟨_, hT2, rfl, _, rfl⟩⟩
    have I1 : Inv X pins σ (upd H s.heap.objs.size (.tup [.int (i : Nat), .str ⟨#[c]⟩])) { s with heap := h'', toks := tk + 1 } :=
      I.turnedNew (ch := [e, it]) (fun b ob hb q => (sb.2 b (fun z => hb (by simp [z]))).trans (hk b ob (fun z => hb (by simp [z])) (fun z => hb (by simp [z])) q)) hf (Nat.le_refl _) new
    refine ⟨.ref s.heap.objs.size, _, I1, rfl, ⟨_, c, rfl, I.hok.fresh (Nat.le_refl _), hc1, rfl⟩, ⟨⟨.str ⟨#[c]⟩ u, ?_⟩, ?_, hne⟩, fun b hb => ?_⟩
    · have e1 : ((i + 1 : Nat) : Int) = (i : Int) + 1 := by omega
      rw [e1]; exact he'
    · obtain ⟨o, q1, q2⟩ := hst'
      exact ⟨o, (sb.2 it (Ne.symm hne)).trans q1, q2⟩
    · have hb' : b < s.heap.objs.size := by
        have e' : b = e ∨ b = it := by simpa using hb
        rcases e' with z | z
        · rw [z]; exact hel
        · rw [z]; exact hil
      rw [upd_ne (Nat.ne_of_lt hb')]
      exact (hf b hb).1
  done := by
    intro X hP hw hK hc i pins s σ H E I hf st hg
    subst hP hw hK
    obtain ⟨⟨old, he⟩, hit, hne⟩ := st
    have hg : i = x.cps.size := hg
    subst hg
    obtain ⟨f0, f1, f2, f3, f4, f5⟩ := hf it (by simp)
    exact wpAny_pyNext_enum_endD (Draws.text (A := X.A.in1) (I.ok.hd hc) it x t) he hit fun h' eb => ⟨rfl, I.turned (t' := s.toks) (fun b o hb q => eb b o hb q) f0 f1 f3 f4 f5⟩
  self := fun A i s Q E st h => let ⟨⟨_, he⟩, _⟩ := st; wpAny_pyIter_enum he h
def iEnumS (ta : TA) : TI := fun σ H R => ta σ H fun vs H1 => ∃ x, vs = [.str x] ∧ R (IteS x) H1
theorem pi_enumS {X : Cx} {e : Expr} {ta : TA} {p pos tpos : Pos} {elts : List Expr} {kk : Nat} (hg : Gl X "enumerate") (hm : X.mg "enumerate" = none) (ha : PA X [e] ta) (hs : starEach [e] X.env = [(false, eval e X.env)] := by rfl) :
    PI X (.Tuple elts kk tpos) (.Call (.Name "enumerate" p) [e] [] pos) (iEnumS ta) := by
  refine ⟨fun pins s σ H R I h => ?_⟩
  refine Call_ (ld_blt I hg hm boot_enumerate (PyProof.Rows.callWith_type1 (thn (ha.run pos pins s σ H _ I h) fun us s1 ⟨vs, H1, I1, r1, q1⟩ => ?_) hs rfl))
  obtain ⟨x, ex, q⟩ := q1
  subst ex
  cases r1 with
  | cons r rr =>
    cases rr
    obtain ⟨t, rfl⟩ := r
    refine call_enumerate_B (begins_text x t) trivial fun h' he hit hsz hk => wpAny_pyIter_enum he ?_
    have I2 : Inv X pins σ H1 { s1 with heap := h' } := I1.kept (t' := s1.toks) hk
    refine ⟨s1.heap.objs.size + 1, [s1.heap.objs.size + 1, s1.heap.objs.size], _, _, H1, rfl, I2, turn_enumS x t (s1.heap.objs.size + 1) s1.heap.objs.size, ⟨⟨.none, he⟩, ⟨_, hit, rfl, rfl⟩, Nat.succ_ne_self _⟩, fun b hb => ?_, q⟩
    have e' : b = s1.heap.objs.size + 1 ∨ b = s1.heap.objs.size := by simpa using hb
    have hle : s1.heap.objs.size ≤ b := by
      rcases e' with z | z
      · rw [z]; exact Nat.le_add_right _ _
      · rw [z]; exact Nat.le_refl _
    exact I1.fpOk hle (I1.hok.fresh hle)
theorem jg_enumS {K : PySem.W.Frag} {m : MM} {H : Hp} (s : List Nat) : JG true K (IteS (mkS s)) m H (none, enA 0 (s.map fun c => .str [c])) := by
  have hz : (mkS s).cps.size = s.length := by simp [mkS]
  have hg : ∀ (i : Nat) (c : Nat), (mkS s).cps[i]? = some c ↔ s[i]? = some c := fun i c => by simp [mkS]
  refine ⟨fun m' H' ah' e r c => ?_, fun m' H' ah' i v e r c hv => ?_, fun m' H' ah' i v x H'' e r c hv y => ?_⟩
  · show (enA 0 (s.map fun c => AV.str [c])).length = (mkS s).cps.size
    rw [enA_length, List.length_map, hz]
  · obtain ⟨p, e1, rfl⟩ := enA_get hv
    show i < (mkS s).cps.size
    rw [hz]
    have := (List.getElem?_eq_some_iff.mp e1).1
    simpa using this
  · obtain ⟨p, e1, rfl⟩ := enA_get hv
    obtain ⟨T, c, rfl, hT, hc, rfl⟩ := y
    rw [List.getElem?_map, (hg i c).mp hc] at e1
    cases e1
    refine ⟨fun c o hc => ?_, .inr ⟨rfl, _, _, _, _, _, rfl, rfl, SqT.of upd_same, by rw [Nat.zero_add]; exact .int _, .str [c]⟩⟩
    by_cases z : c = T
    · subst z; rw [hT] at hc; cases hc
    · rw [upd_ne z]; exact hc
section
variable {X : Cx} {W : WX} {e : Expr} {fr : GA} {p pos tpos : Pos} {elts : List Expr} {kk : Nat}
def enSR (l : List AV) (ah : AH) : Res Src := match l with
  | [.str s] => .ok (none, enA 0 (s.map fun c => .str [c])) ah
  | _ => .bad
def gEnumS (r : GA) : GI := fun env ah => rb (r env ah) fun l ah1 => enSR l ah1
theorem gi_enumS (hg : Gl X "enumerate") (hm : X.mg "enumerate" = none) (ha : PA X [e] (tGA X W fr)) (hs : starEach [e] X.env = [(false, eval e X.env)] := by rfl) :
    PI X (.Tuple elts kk tpos) (.Call (.Name "enumerate" p) [e] [] pos) (tGI true X W (gEnumS fr)) :=
  PI.weak (pi_enumS hg hm ha hs) fun σ H R h => by
    obtain ⟨m, env, ah, hE, hR, hp⟩ := h
    refine tGA_step hE hR hp (fun _ _ h => h) fun l ah1 m1 H1 xs e1 r1 v1 hp1 => ?_
    unfold enSR at hp1
    split at hp1
    · rename_i s
      cases v1 with
      | cons hx hr =>
        cases hr
        cases hx
        exact ⟨_, rfl, hp1 m1 H1 _ e1 r1 (jg_enumS s)⟩
    · exact hp1.elim
end
end G
namespace G
open PySem PySem.Spec PyProof.Rows L2
set_option autoImplicit false
def strXO : OL := fun ah l => match l with
  | [.str s] => some (.str s)
  | l => strO ah l
section
variable {X : Cx}
theorem strX_g : ∃ r, CallR X (.type "str") r ∧ CallG X r strXO := by
  obtain ⟨r0, h1, h2⟩ := str_g (X := X)
  refine ⟨fun xs H Q => (∃ a, xs = [.str a] ∧ Q (.str a) H) ∨ r0 xs H Q, fun pins s σ H xs us Q I r h => h.elim (SkE.call_str_str pins s σ H xs us Q I r) (h1 pins s σ H xs us Q I r), ?_⟩
  intro m H ah l xs z Q r hv hf q
  unfold strXO at hf
  split at hf
  · obtain ⟨x, rfl, hx⟩ := hv.one
    cases hf; cases hx
    exact .inl ⟨_, rfl, q.here r (.str _)⟩
  · exact .inr (h2 m H ah _ xs z Q r hv hf q)
end
end G
namespace G
open PySem PySem.Spec PyProof.Rows L2
set_option autoImplicit false
def neSB (s : List Nat) : AV → Option Bool
  | .str t => some (!decide (t = s))
  | .fl _ => none
  | .ref _ => none
  | .fn _ => none
  | .dk _ => none
  | _ => some true
def neSO : O2 := fun _ v w => match w with
  | .str s => (neSB s v).map .bl
  | _ => none
section
variable {X : Cx}
def rNeS (K : PySem.W.Frag) : R2 := fun x y H Q => ∃ m v s b, VR K m H v x ∧ y = .str (mkS s) ∧ neSB s v = some b ∧ Q (.bl b) H
theorem op_neS (hu : X.A.units < cLine) : OpR X (compareOp .NotEq) (rNeS X.K) := by
  intro pins s σ H x y v u Q I rx ry h
  obtain ⟨m, vv, t, b, hv, rfl, hb, q⟩ := h
  obtain ⟨tk, rfl⟩ := ry
  have go : SeqAt.RcNeAt X.A s v (.str (mkS t) tk) b → wpAny (model X.prog X.w) X.A (compareOp .NotEq v (.str (mkS t) tk)) (EP X pins σ Q) X.xe s := fun r => r X.prog X.w X.xe _ ⟨.bl b, H, I, rfl, q⟩
  cases hv with
  | non => cases hb; cases rx; exact go (SeqAt.RcNeAt.none_str _ tk)
  | bl k => cases hb; cases rx; exact go (SeqAt.RcNeAt.bool_str k _ tk)
  | int i => cases hb; obtain ⟨t2, rfl⟩ := rx; exact go (SeqAt.RcNeAt.int_str i t2 _ tk)
  | str z =>
    cases hb
    obtain ⟨t2, rfl⟩ := rx
    have e : (mkS z == mkS t) = decide (z = t) := by
      by_cases q : z = t
      · subst q; simp
      · rw [decide_eq_false q, beq_eq_false_iff_ne]; exact fun k => q (mkS_inj k)
    have := SeqAt.RcNeAt.str_str (A := X.A) (s := s) (mkS z) t2 (mkS t) tk
    rw [e] at this
    exact go this
  | fl _ _ => cases hb
  | ref _ => cases hb
  | fn _ => cases hb
  | dk _ _ _ => cases hb
  | lst q1 _ _ =>
    cases hb; cases rx
    obtain ⟨us, r1, p1, _⟩ := I.list (SqL.of q1)
    exact go (SeqAt.RcNeAt.list_str _ tk p1.isList hu)
  | tup q1 _ =>
    cases hb; cases rx
    obtain ⟨us, r1, p1, _⟩ := I.tuple q1.sqT
    exact go (SeqAt.RcNeAt.tuple_str _ tk p1 hu)
theorem neS_g (hu : X.A.units + 64 < cLine) : ∃ r, OpR X (compareOp .NotEq) r ∧ OpG X r neSO := by
  refine ⟨_, op_neS (by omega), ?_⟩
  intro m H ah v w x y z Q r hv hw hf q
  unfold neSO at hf
  split at hf
  · rename_i s
    cases h2 : neSB s v with
    | none => rw [h2] at hf; cases hf
    | some b =>
      rw [h2] at hf; cases hf; cases hw
      exact ⟨m, v, s, b, hv, rfl, h2, q.here r (.bl _)⟩
  · cases hf
end
end G
namespace G
open PySem PySem.Spec PyProof.Rows L2
set_option autoImplicit false
def gDivS (fr : GA) (fc fd : GE) (i : Nat) : GS := fun env ah => sb (fr env ah) env fun l ah1 => match l with
  | [.int a, .int b] => if 0 < b ∧ b < 10 ^ 100 then sb (fc env ah1) env fun o ah2 => sb (fd env ah2) env fun k ah3 => match stA ah3 o k (.int (a / b)) with
      | some ah4 => .nx (env.set i (some (.int (a % b)))) ah4
      | none => .bad else .bad
  | _ => .bad
section
variable {X : Cx} {W : WX} {a b c d : Expr} {fa fb fc fd : GE} {fr : GA} {pos p tpos pt py : Pos} {kt : Nat}
theorem gs_divmod {i : Nat} {y : Str} (hr : Room 0 X.A) (hcalm : X.calm = true) (hN : X.N.Nodup) (hi : X.N[i]? = some y) (hx : Loc X.env.scope y) (hg : Gl X "divmod") (hm : X.mg "divmod" = none) (ha : PA X [a, b] (tGA X W fr)) (hc : PE X c (tG X W fc)) (hd : PE X d (tG X W fd))
    (has : ∀ v, assign (.Subscript c d tpos) X.env v = (do
      let ov ← holding [v] (eval c X.env)
      let iv ← holding [v, ov] (eval d X.env)
      standAt tpos
      holding [v, ov, iv] (setItem ov iv v)
      release [v, ov, iv] []) := by intro _; rfl)
    (hf : X.fn y = true ∨ X.env.scope.names.lookup y = some .local := by first | exact .inl rfl | exact .inr rfl)
    (hv : bootBuiltins "divmod" = some (.builtin "divmod") := by decide +kernel)
    (he : starEach [a, b] X.env = (false, eval a X.env) :: starEach [b] X.env := by rfl) (hpl : (backTo pos (starEach [b] X.env)).any (·.1) = false := by rfl)
    (hst1 : (assignEach [.Subscript c d tpos, .Name y py] X.env).map (·.2) = assign (.Subscript c d tpos) X.env :: (assignEach [.Name y py] X.env).map (·.2) := by rfl)
    (hst2 : (assignEach [.Name y py] X.env).map (·.2) = assign (.Name y py) X.env :: (assignEach [] X.env).map (·.2) := by rfl)
    (hn : (assignEach [.Subscript c d tpos, .Name y py] X.env).length = 2 := by rfl) (hst : (assignEach [.Subscript c d tpos, .Name y py] X.env).findIdx? (·.1) = none := by rfl)
    (hs : swapsWithSole [.Tuple [.Subscript c d tpos, .Name y py] kt pt] (.Call (.Name "divmod" p) [a, b] [] pos) pos.line X.env = pure false := by rfl)
    (hw : swappedStores [.Tuple [.Subscript c d tpos, .Name y py] kt pt] (.Call (.Name "divmod" p) [a, b] [] pos) X.env = pure none := by rfl)
    (h1 : (assignEach [.Tuple [.Subscript c d tpos, .Name y py] kt pt] X.env).map (·.2) = [assign (.Tuple [.Subscript c d tpos, .Name y py] kt pt) X.env] := by rfl) :
    PS X (.Assign [.Tuple [.Subscript c d tpos, .Name y py] kt pt] (.Call (.Name "divmod" p) [a, b] [] pos) pos) (tGS X W (gDivS fr fc fd i)) :=
  PS.weak (ps_asg (pe_callB call_divmodW hg hm hv ha (by decide) (by decide) he hpl) (pg_tup hcalm (pgs_cons (pg_sub hc hd (PSet.or set_list (set_dict (hu_of hr))) has) (pgs_cons (pg_name hN hi hx hf) pgs_nil hst2) hst1) hn hst) hs hw h1) fun D σ H hh => by
    obtain ⟨m, env, ah, hE, hR, hp⟩ := hh
    refine ⟨m, env, ah, hE, hR, ?_⟩
    unfold gDivS at hp
    cases e : fr env ah with
    | ok l ah1 =>
      rw [e] at hp
      simp only [sb_ok] at hp
      intro m1 H1 xs e1 r1 v1
      split at hp
      · rename_i i1 j1
        split at hp
        · rename_i hb
          obtain ⟨x1, x2, rfl, a1, a2⟩ := v1.two
          cases a1; cases a2
          have hcd : CDivP i1 j1 := by
            refine ⟨hb.1, PyProof.noPylong_of_log2 (wide_div (i := i1) (b := 400) hb.1 ?_ (by decide) (by decide)).2⟩
            have h2 : ((10 : Int) ^ 100) < 2 ^ 400 := by decide +kernel
            have h3 := hb.2
            have h4 := hb.1
            have h5 : ((2 : Int) ^ 400) = ((2 ^ 400 : Nat) : Int) := by rw [Int.natCast_pow]; rfl
            rw [h5] at h2
            generalize (2 ^ 400 : Nat) = B at *
            generalize ((10 : Int) ^ 100) = C at *
            omega
          refine ⟨i1, j1, rfl, hcd, fun q hq => ?_⟩
          have ex := Ext.new (m := m1) (o := .tup [.int (i1 / j1), .int (i1 % j1)]) hq
          refine ⟨q, _, rfl, .inl (.inl upd_same), rfl, _, _, rfl, ?_⟩
          have hp1 := sPost.mono (e1.trans ex) hp
          refine sG_step (hE.mono (e1.trans ex)) (r1.new hq) hp1 fun w ah2 m2 H2 o e2 r2 v2 hp2 => ?_
          refine sG_step ((hE.mono (e1.trans ex)).mono e2) r2 hp2 fun k ah3 m3 H3 i3 e3 r3 v3 hp3 => ?_
          cases q4 : stA ah3 w k (.int (i1 / j1)) with
          | none => rw [q4] at hp3; exact hp3.elim
          | some ah4 =>
            rw [q4] at hp3
            refine st_read r3 (v2.mono e3) v3 (.int _) q4 fun m' H' ex' r' => ⟨_, _, rfl, rfl, hp3 m' H' _ ex' r' ?_⟩
            exact EnvR.set ((((hE.mono (e1.trans ex)).mono e2).mono e3).mono ex') i (.int _)
        · exact hp.elim
      · exact hp.elim
    | exc ev ah1 => rw [e] at hp; exact fun m1 H1 c d e1 r1 xr => hp m1 H1 σ c d e1 r1 (hE.mono e1) xr
    | bad => rw [e] at hp; exact hp.elim
end
end G
namespace G
open PySem PySem.Spec PyProof.Rows L2 L2H
set_option autoImplicit false
section
variable {X : Cx} {W : WX} {e : Expr} {es : List Expr} {ta : TA} {p1 p2 pos p : Pos}
/-- C.__init__(self, ..), C an own class that has ValueError's -/
theorem pe_veC {c : Str} {D : Addr} {pl : Sem Bool} (hg : Gl X c) (hm : X.mg c = some (.ref D)) (hgD : PySem.W.specialIn X.K (.ref D) "__getattribute__" = some (some (.builtin "type.__getattribute__"))) (hr : PySem.W.readsIn X.K D (.type "type") = true)
    (vV : PySem.W.findCls X.K (.ref D) (.type "type") "__init__" = some (.val (.builtin "ValueError.__init__"))) (ha : PA X (e :: es) ta) (hdb : (c == ("__debug__" : Str)) = false := by decide)
    (hc : eval (.Call (.Attribute (.Name c p1) "__init__" p2) (e :: es) [] pos) X.env = (do
      let ov ← eval (.Name c p1) X.env
      standAt p2.atName
      let (f, first) ← holding [ov] (getMethod ov "__init__" pl)
      callWith pos f first (backTo pos (starEach (e :: es) X.env)) (backToKw pos (keywordEach [] X.env))) := by rfl)
    (he : starEach (e :: es) X.env = (false, eval e X.env) :: starEach es X.env := by rfl) (hpl : (backTo pos (starEach es X.env)).any (·.1) = false := by rfl) :
    PE X (.Call (.Attribute (.Name c p1) "__init__" p2) (e :: es) [] pos) (tVeI X.K ta) := by
  refine ⟨fun pins s σ H Q I h => ?_⟩
  refine PySem.W.methodCall_KW (ld_glob I hg hm ?_ hdb) hc
  refine PySem.W.method_cls I.kIn hgD (PySem.W.cls_value I.kIn hr vV (by decide +kernel) ?_)
  show wpAny _ _ (callWith pos (Value.builtin "ValueError.__init__") [] (backTo pos (starEach (e :: es) X.env)) []) _ _ _
  refine PyProof.Rows.callWith_method1 (thn (ha.run pos pins _ σ H _ (I.tok _) h) fun us s1 ⟨vs, H1, I1, r1, a, C, ws, ev, hl, T, ea, q⟩ => ?_) he hpl
  subst ev
  cases r1 with
  | @cons _ u0 _ ur ra rw' =>
    obtain rfl : u0 = Value.ref a := ra
    have hlen : ur.length ≤ sizeLine := by
      rw [← Paired.length rw', sizeLine_eq]
      omega
    exact oinit_ok T I1 ea hlen fun s' J => ⟨.non, H1, J, rfl, q⟩
end
def fieldsR {α : Type} : List Str → List α → List (Str × α) → List (Str × α)
  | f :: fl, v :: l, acc => fieldsR fl l ((f, v) :: acc)
  | _, _, acc => acc
theorem look_put {α : Type} (f g : Str) (y : α) (fs : List (Str × α)) : ((f, y) :: fs).lookup g = if g = f then some y else fs.lookup g := by
  by_cases h : g = f
  · subst h
    simp [List.lookup]
  · have e : (g == f) = false := by simpa using h
    rw [if_neg h]
    simp [List.lookup, e]
theorem fieldsR_look {K : PySem.W.Frag} {m : MM} {H : Hp} : ∀ (fl : List Str) {l : List AV} {xs : List V} {A : List (Str × AV)} {B : List (Str × V)}, VRs K m H l xs → (∀ f v, A.lookup f = some v → ∃ x, B.lookup f = some x ∧ VR K m H v x) →
    ∀ f v, (fieldsR fl l A).lookup f = some v → ∃ x, (fieldsR fl xs B).lookup f = some x ∧ VR K m H v x
  | [], l, xs, A, B, _, h => by
    unfold fieldsR
    exact h
  | g :: fl, [], xs, A, B, r, h => by
    cases r
    unfold fieldsR
    exact h
  | g :: fl, v :: l, xs, A, B, r, h => by
    cases r with
    | cons r1 r2 =>
      unfold fieldsR
      refine fieldsR_look fl r2 fun f w hf => ?_
      rw [look_put] at hf ⊢
      split at hf
      · cases hf
        rename_i hfg
        rw [if_pos hfg]
        exact ⟨_, rfl, r1⟩
      · rename_i hfg
        rw [if_neg hfg]
        exact h f w hf
theorem fieldsR_ne {α : Type} {f : Str} {fl : List Str} {v : α} {l : List α} : ∀ {acc : List (Str × α)}, fieldsR (f :: fl) (v :: l) acc ≠ [] := by
  have key : ∀ (fl : List Str) (l : List α) (acc : List (Str × α)), acc ≠ [] → fieldsR fl l acc ≠ [] := by
    intro fl
    induction fl with
    | nil => intro l acc h; unfold fieldsR; exact h
    | cons g fl ih =>
      intro l acc h
      cases l with
      | nil => unfold fieldsR; exact h
      | cons w l => unfold fieldsR; exact ih _ _ (by simp)
  intro acc
  unfold fieldsR
  exact key _ _ _ (by simp)
/-- what such an __init__ keeps -/
def spI (C : Addr) (fl : List Str) : Sp := fun vs H Q _ => ∃ (a : Addr) (ws : List V), vs = .ref a :: ws ∧ ws.length = fl.length ∧ H a = some (exo a C none) ∧ ∀ d, H d = none → d ≠ a → Q .non (upd (upd H a (exo a C (some d))) d (exd d (fieldsR fl ws [])))
/-- an own class with fields -/
structure ExI (P : Program) (w : World) (K : PySem.W.Frag) (mg : Str → Option Value) (base : Heap) (k : Nat) (x : Str) (C : Addr) (fl : List Str) : Prop extends ExA K mg x C where
  oc : OexC K C
  ne : fl ≠ []
  fn : ∃ (fI : Addr) (fd : FuncData) (ps : List Str), PySem.W.findIn K (.ref C) "__init__" = some (some (.ref fI)) ∧ PySem.W.typeIn K (.ref fI) = some (.type "function") ∧ FnOk P w K mg base (L2.CX P w) k fI fd ps (spI C fl) ∧ Binds K fd ps []
def gRaiseI (x : Str) (fl : List Str) (fr : GA) : GS := fun env ah => sb (fr env ah) env fun l ah1 => if l.length = fl.length ∧ l.length ≤ 1000 then .exc ⟨x, fieldsR fl l []⟩ env ah1 else .bad
theorem passes_none {X : Cx} : Passes (L2.CX X.prog X.w) X (fun _ _ _ => False) := fun pins σ H s e s' I h => by
  obtain ⟨a, B, H', cls, d, _, _, _, _, _, _, _, hE⟩ := h
  exact hE.elim
section
variable {X : Cx} {W : WX} {e : Expr} {es : List Expr} {fr : GA} {p pos pos2 : Pos} {k : Nat} {C : Addr} {x : Str} {fl : List Str}
theorem gs_raiseI (hx : XG X W (k + 1)) (N : ExI X.prog X.w X.K X.mg X.base k x C fl) (hg : Gl X x) (ha : PA X (e :: es) (tGA X W fr))
    (hdb : (x == ("__debug__" : Str)) = false := by decide) (he : starEach (e :: es) X.env = (false, eval e X.env) :: starEach es X.env := by rfl) (hpl : (backTo pos (starEach es X.env)).any (·.1) = false := by rfl) :
    PS X (.Raise (some (.Call (.Name x p) (e :: es) [] pos)) none pos2) (tGS X W (gRaiseI x fl fr)) := by
  obtain ⟨fI, fd, ps, h1, h2, h3, h4⟩ := N.fn
  refine PS.weak (ps_raise hx.calm hx.tk (pmk_oex (dvs := []) N.oc h1 h2 h3 hx.room h4 .nil passes_none hg N.at_ ha hdb he hpl)) fun D σ H h => ?_
  obtain ⟨m, env, ah, hE, hR, hp⟩ := h
  refine ⟨m, env, ah, hE, hR, ?_⟩
  unfold gRaiseI at hp
  cases q : fr env ah with
  | ok l ah1 =>
    rw [q] at hp
    simp only [sb_ok] at hp
    intro m1 H1 xs e1 r1 v1
    split at hp
    · rename_i hl
      have hlx := v1.length
      refine ⟨by omega, fun a ha => ⟨a, xs, by rw [List.append_nil], by omega, upd_same, fun d hd hda => ⟨rfl, d, fieldsR fl xs [], ?_, upd_same, ?_, ?_⟩⟩⟩
      · rw [upd_ne (Ne.symm hda), upd_same]
      · rw [upd_ne hda] at hd; exact hd
      · rw [upd_ne hda] at hd
        have eH : upd (del (upd (upd (upd H1 a (exo a C none)) a (exo a C (some d))) d (exd d (fieldsR fl xs []))) a) d (.xd (fieldsR fl xs [])) = upd H1 d (.xd (fieldsR fl xs [])) := by
          funext b
          by_cases z1 : b = d
          · subst z1; rw [upd_same, upd_same]
          · rw [upd_ne z1, upd_ne z1]
            by_cases z2 : b = a
            · subst z2; rw [del_same, ha]
            · rw [del_ne z2, upd_ne z1, upd_ne z2, upd_ne z2]
        rw [eH]
        have ex : Ext m1 H1 m1 (upd H1 d (.xd (fieldsR fl xs []))) := Ext.new hd
        refine hp m1 _ σ (.ref C) (some d) (e1.trans ex) (r1.new hd) (hE.mono (e1.trans ex)) ⟨N.at_, .inr ⟨d, fieldsR fl xs [], ?_, rfl, upd_same, r1.not hd, ?_⟩⟩
        · cases fl with
          | nil => exact absurd rfl N.ne
          | cons f fl =>
            cases l with
            | nil => simp at hl
            | cons v l => exact fieldsR_ne
        · intro f v hf
          obtain ⟨y, hy, ry⟩ := fieldsR_look fl (A := []) (B := []) v1 (fun f v h => nomatch h) f v hf
          exact ⟨y, hy, ry.mono ex⟩
    · exact hp.elim
  | exc ev ah1 => rw [q] at hp; exact fun m1 H1 c d e1 r1 xr => hp m1 H1 σ c d e1 r1 (hE.mono e1) xr
  | bad => rw [q] at hp; exact hp.elim
end

section
variable {P : Program} {w : World} {K : PySem.W.Frag} {mg : Str → Option Value} {base : Heap} {C : Addr} {f1 f2 : Str} {N : List Str} {vs : List V} {H : Hp} {Q : VK} {E : XK} {s : Str}
theorem init2_rd (oc : OexC K C) (hf1 : PySem.W.findIn K (.ref C) f1 = some none) (hf2 : PySem.W.findIn K (.ref C) f2 = some none) (h : spI C [f1, f2] vs H Q E) :
    tSeq (tDrop (tVeI K (tCons (tVar 0) (tCons (tC (.str s)) tNil)))) (tSeq (tOst K f1 (tVar 0) (tVar 1)) (tOst K f2 (tVar 0) (tVar 2))) { nx := fun _ H' => Q .non H', rt := Q } (L2.start N vs) H := by
  obtain ⟨a, ws, rfl, hl, ha, q⟩ := h
  match ws, hl with
  | [y1, y2], _ =>
    refine ⟨.ref a, rfl, a, C, [.str s], rfl, by simp, oc, ha, ?_⟩
    refine ⟨y1, rfl, .ref a, rfl, a, C, rfl, oc, hf1, .inl ⟨ha, fun dx hdx hne => ?_⟩⟩
    refine ⟨y2, rfl, .ref a, rfl, a, C, rfl, oc, hf2, .inr ⟨dx, [(f1, y1)], upd_same, ?_, by simp, ?_⟩⟩
    · rw [upd_ne hne, upd_same]
    · have eH : upd (upd (upd H dx (exd dx [(f1, y1)])) a (exo a C (some dx))) dx (exd dx [(f2, y2), (f1, y1)]) = upd (upd H a (exo a C (some dx))) dx (exd dx [(f2, y2), (f1, y1)]) := by
        funext b
        by_cases z1 : b = dx
        · subst z1; rw [upd_same, upd_same]
        · rw [upd_ne z1, upd_ne z1]
          by_cases z2 : b = a
          · subst z2; rw [upd_same, upd_same]
          · rw [upd_ne z2, upd_ne z2, upd_ne z1]
      show Q .non _
      rw [eH]
      exact q dx hdx hne
theorem init1_rd (oc : OexC K C) (hf1 : PySem.W.findIn K (.ref C) f1 = some none) (h : spI C [f1] vs H Q E) :
    tSeq (tDrop (tVeI K (tCons (tVar 0) (tCons (tC (.str s)) tNil)))) (tOst K f1 (tVar 0) (tVar 1)) { nx := fun _ H' => Q .non H', rt := Q } (L2.start N vs) H := by
  obtain ⟨a, ws, rfl, hl, ha, q⟩ := h
  match ws, hl with
  | [y1], _ =>
    refine ⟨.ref a, rfl, a, C, [.str s], rfl, by simp, oc, ha, ?_⟩
    refine ⟨y1, rfl, .ref a, rfl, a, C, rfl, oc, hf1, .inl ⟨ha, fun dx hdx hne => ?_⟩⟩
    have eH : upd (upd H dx (exd dx [(f1, y1)])) a (exo a C (some dx)) = upd (upd H a (exo a C (some dx))) dx (exd dx [(f1, y1)]) := by
      funext b
      by_cases z1 : b = dx
      · subst z1; rw [upd_same, upd_ne hne, upd_same]
      · by_cases z2 : b = a
        · subst z2; rw [upd_same, upd_ne z1, upd_same]
        · rw [upd_ne z2, upd_ne z1, upd_ne z1, upd_ne z2]
    show Q .non _
    rw [eH]
    exact q dx hdx hne
theorem fnI_of {qual : Str} {st : Stmt} {f : Addr} {fd : FuncData} {ps fl : List Str} {k : Nat} (F : Fun K "__init__" qual st f fd) (S : FnScope N ps (defScope st)) (hps : ps.length = fl.length + 1)
    (hbody : ∀ (cdv : Value) (A : Around) (outer : List PySem.Env) (s : Shared) (H : Hp) (E : XK), ∃ t, PSs (cxOf (L2.CX P w) P w K mg base N qual (defScope st) f cdv A outer s H E) (defBody st) t ∧ ∀ vs Q, spI C fl vs H Q E → t { nx := fun _ H' => Q .non H', rt := Q } (L2.start N vs) H) :
    FnOk P w K mg base (L2.CX P w) (k + 1) f fd ps (spI C fl) := by
  obtain ⟨oc, od, kV, doc, pm, an, cdv, ct, osl, rfl, lk, hcd⟩ := F.ex
  refine fn_of lk hcd S (fun vs H Q E h => ?_) fun A outer s H vs Q E hr h => ?_
  · obtain ⟨a, ws, rfl, hl, _⟩ := h
    rw [List.length_cons, hl, hps]
  · obtain ⟨t, h1, h2⟩ := hbody cdv A outer s H E
    exact ⟨t, h1, h2 vs Q h⟩
end

abbrev FldTab := List (Str × Str)
def FldT (K : PySem.W.Frag) (mg : Str → Option Value) (t : FldTab) : Prop := ∀ p ∈ t, ∃ C, mg p.1 = some (.ref C) ∧ XfC K C ∧ PySem.W.findIn K (.ref C) p.2 = some none
theorem FldT.nil {K : PySem.W.Frag} {mg : Str → Option Value} : FldT K mg [] := fun p h => nomatch h
theorem FldT.cons {K : PySem.W.Frag} {mg : Str → Option Value} {x f : Str} {C : Addr} {t : FldTab} (A : ExA K mg x C) (h : PySem.W.findIn K (.ref C) f = some none) (r : FldT K mg t) : FldT K mg ((x, f) :: t) := fun q hq => by
  rcases List.mem_cons.mp hq with rfl | hq
  · exact ⟨C, A.at_, ⟨A.asks.hg, A.asks.hk, A.asks.hs, A.asks.hd⟩, h⟩
  · exact r q hq
def gEAttr (t : FldTab) (f : Str) : EV → GE := fun ev _ ah => if (ev.cls, f) ∈ t then (match ev.fs.lookup f with
  | some v => .ok v ah
  | none => .bad) else .bad
section
variable {X : Cx} {W : WX} {i : Nat} {a : Addr} {cls : Value} {d : Option Addr} {e e2 : Expr} {f g : EV → GE} {pos : Pos}
theorem te_attr {t : FldTab} {x n : Str} {pe : Pos} (T : FldT X.K X.mg t) (E : ErrIn X a cls d) (hN : X.N[i]? = some x) (hv : Vis X.env.scope x) (hed : (x == ("__debug__" : Str)) = false) (hec : (x == ("__classdict__" : Str)) = false)
    (hb : attributeBase (.Name x pe) n X.env (eval (.Name x pe) X.env) = eval (.Name x pe) X.env := by rfl) : PE X (.Attribute (.Name x pe) n pos) (tGe X W i a cls d (gEAttr t n)) := by
  refine ⟨fun pins s σ H Q I h => ?_⟩
  obtain ⟨m, env, ah, ev, ⟨hE, hR, xr, hσ⟩, q⟩ := h
  unfold gEAttr at q
  split at q
  · rename_i hmem
    cases hl : ev.fs.lookup n with
    | none => rw [hl] at q; exact q.elim
    | some v =>
      rw [hl] at q
      have q : PQ X.K m H Q v ah := q
      obtain ⟨C, hC, T, hno⟩ := T _ hmem
      have hC : X.mg ev.cls = some (.ref C) := hC
      have hno : PySem.W.findIn X.K (.ref C) n = some none := hno
      have e1 := xr.1
      rw [hC] at e1; cases e1
      rcases xr.2 with ⟨z, _⟩ | ⟨dd, fs, _, rfl, hdd, hnm, hfs⟩
      · rw [z] at hl; cases hl
      · obtain ⟨y, hy, ry⟩ := hfs n v hl
        obtain ⟨oe, hp, hz, vs, hd⟩ := E.ex
        refine attr_of hb (thn ((pe_var (X := X) (pos := pe) hN hv hed hec).run pins s σ H (fun x H1 => x = .ref a ∧ H1 = H) I ⟨_, hσ, rfl, rfl⟩) fun u s1 hh => ?_)
        obtain ⟨x1, H1, I1, rx, rfl, rfl⟩ := hh
        obtain rfl : u = Value.ref a := rx
        obtain ⟨ha, _⟩ := I1.pin (a, oe) (List.mem_append_left _ hp)
        have hx : ObjOk X.prog X.w H1 s1.heap dd (.xd fs) := I1.hok dd _ hdd
        obtain ⟨mA, hns, hr⟩ := hx
        obtain ⟨od, ho, hlk⟩ := lookIn_ns hns
        obtain ⟨u, hu, ru⟩ := RelO.some_of (v := y) (o := mA n) (by rw [← hy]; exact hr n)
        have J : PySem.W.InstAt s1.heap a oe C (some od) := ⟨ha, hz.1, by unfold PySem.W.notCls; rw [hd] <;> rfl, by rw [hz.2]; exact ho⟩
        exact HandSPX.exc_get I1.kIn J T.ga T.gg T.exC (PySem.W.findObj_own T.hdC hno rfl (by rw [hlk, hu])) (handed_of ru) ⟨y, H1, I1.tok _, ru, q m H1 y (Ext.refl m H1) hR ry⟩
  · exact q.elim
theorem te_cm {op : CmpOp} {o : O2} (h : ∃ r, OpR X (compareOp op) r ∧ OpG X r o) (ha : PE X e (tGe X W i a cls d f)) (hb : PE X e2 (tGe X W i a cls d g)) (hm : behindInMarks op e2 = false := by first | exact nomark _ | rfl) : PE X (.Compare e [op] [e2] pos) (tGe X W i a cls d fun ev => gOp o (f ev) (g ev)) := by
  obtain ⟨r, h1, h2⟩ := h
  refine PE.weak (pe_cmpR h1 ha hb hm) fun σ H Q hh => ?_
  obtain ⟨m, env, ah, ev, hS, hp⟩ := hh
  refine hE_step hS hp (fun _ _ h => h) fun v ah1 m1 H1 x e1 hS1 v1 hp1 => ?_
  refine hE_step hS1 (Res.post_imp hp1 (fun _ _ _ h => PQ.mono e1 h) fun _ _ h => PX.mono e1 h) (fun _ _ h => h) fun w ah2 m2 H2 y e2 hS2 v2 hp2 => ?_
  cases q : o ah2 v w with
  | none => rw [q] at hp2; exact hp2.elim
  | some z =>
    rw [q] at hp2
    exact h2 m2 H2 ah2 v w x y z Q hS2.2.1 (v1.mono e2) v2 q (PQ.mono e2 hp2)
theorem te_one {op : BoolOp} (ha : PE X e (tGe X W i a cls d f)) : PE X (.BoolOp op [e] pos) (tGe X W i a cls d f) := pe_one ha
theorem te_and {rest : List Expr} (ha : PE X e (tGe X W i a cls d f)) (hb : PE X (.BoolOp .And (e2 :: rest) pos) (tGe X W i a cls d g)) : PE X (.BoolOp .And (e :: e2 :: rest) pos) (tGe X W i a cls d fun ev => gAnd (f ev) (g ev)) :=
  PE.weak (pe_andT ha hb) fun σ H Q h => by
    obtain ⟨m, env, ah, ev, hS, hp⟩ := h
    refine hE_step hS hp (fun _ _ h => h) fun v ah1 m1 H1 x e1 hS1 v1 hp1 => ?_
    cases q : trA ah1 v with
    | none => rw [q] at hp1; exact hp1.elim
    | some k =>
      rw [q] at hp1
      refine ⟨k, tru_of hS1.2.1 v1 q, ?_⟩
      cases k with
      | true => exact iteT ⟨m1, env, ah1, ev, hS1, Res.post_imp hp1 (fun _ _ _ h => PQ.mono e1 h) fun _ _ h => PX.mono e1 h⟩
      | false => exact iteF (hp1 m1 H1 x e1 hS1.2.1 v1)
end

structure FnGH (P : Program) (w : World) (K : PySem.W.Frag) (mg : Str → Option Value) (base : Heap) (k : Nat) (f : Addr) (fd : FuncData) (x : Str) (den : Den) : Prop where
  run : ∀ (A : Around) (outer : List PySem.Env) (s : Shared) (H : Hp) (us : List Value) (v : V) (m : MM) (ah : AH) (av : AV) (p : Addr × Obj) (Q : VK) (E : XK), RoomH k A → PinOk outer H s p → Env0 P w K mg base A outer s H → BindsTo s fd ⟨us, []⟩ ([x].zip us) → Vals [v] us →
    Rel K m ah H → VR K m H av v → (den [av] ah).post (PQ K m H Q) (fun _ _ => False) → codeAny (model P w) A (.call (.ref f) ⟨us, []⟩) (CR (L2.CX P w) outer P w H s Q E) s
def FnDGH (P : Program) (w : World) (K : PySem.W.Frag) (mg : Str → Option Value) (base : Heap) (y : Str) (k : Nat) (den : Den) : Prop :=
  ∃ (f : Addr) (fd : FuncData) (x : Str), mg y = some (.ref f) ∧ PySem.W.keepIn K (.ref f) = true ∧ Binds K fd [x] [] ∧ FnGH P w K mg base k f fd x den
section
variable {P : Program} {w : World} {K : PySem.W.Frag} {mg : Str → Option Value} {base : Heap}
theorem fnGH_of {x qual : Str} {st : Stmt} {f : Addr} {fd : FuncData} {N : List Str} {y : Str} {k : Nat} {body : GS} (F : Fun K x qual st f fd) (S : FnScope N [y] (defScope st))
    (hbody : ∀ (cdv : Value) (A : Around) (outer : List PySem.Env) (s : Shared) (H : Hp) (E : XK) (p : Addr × Obj),
      PSs (cxH (L2.CX P w) P w K mg base N qual (defScope st) f cdv A outer s H E p) (defBody st) (tGS (cxH (L2.CX P w) P w K mg base N qual (defScope st) f cdv A outer s H E p) (fun _ _ _ _ => False) body)) :
    FnGH P w K mg base (k + 1) f fd y (gFun 1 N.length body) := by
  obtain ⟨oc, od, kV, doc, pm, an, cdv, ct, osl, rfl, lk, hcd⟩ := F.ex
  refine ⟨fun A outer s H us v m ah av p Q E hr hpin e0 hb r hR hv hp => ?_⟩
  have same : ∀ b o, base.get? b = some o → s.heap.get? b = some o := fun b o z => (e0.bs b o z).1
  have KX : K.In s.heap := e0.mod.kin.keeps same
  have lim : s.heap.NoLimit := e0.mod.nolimit.keeps same
  refine codeAny_call_function hr.depth (KX _ _ lk) rfl S.co S.gen rfl (PySem.W.codeRec_of KX hcd) (hb _ _ _ _ ?_)
  refine wpAny_newFunctionEnv_cells S.kind (fun ⟨n, v⟩ hy => ?_) fun env he s1 ic => ?_
  · rcases S.par n (List.of_mem_zip hy).1 with q | q
    · exact .inl q
    · exact .inr ⟨q, PySem.W.cellsFrom_some _ _ _ (.inl q)⟩
  · subst he
    refine ⟨lim.keeps ic.toInCall.keep, codeAny_func ?_⟩
    have ht := hbody cdv A outer s H E p
    have I := inv_startH (CX := L2.CX P w) (E := E) S hpin e0 (vs := [v]) rfl r ic
    let D : Ends := { nx := fun _ H' => Q .non H', rt := Q }
    have hq : tGS (cxH (L2.CX P w) P w K mg base N qual (defScope st) f cdv A outer s H E p) (fun _ _ _ _ => False) body D (L2.start N [v]) H := by
      refine ⟨m, _, ah, env_start (l := [av]) (.cons hv .nil), hR, ?_⟩
      unfold gFun at hp
      rw [if_pos (show [av].length = 1 from rfl)] at hp
      cases q : body ([av].map some ++ List.replicate (N.length - [av].length) none) ah with
      | rt v ah1 => rw [q] at hp; exact hp
      | nx env1 ah1 => rw [q] at hp; exact fun m' H' σ' e1 r1 _ => hp m' H' .non e1 r1 .non
      | exc ev env1 ah1 => rw [q] at hp; exact hp.elim
      | bk _ _ => rw [q] at hp; exact hp.elim
      | ct _ _ => rw [q] at hp; exact hp.elim
      | bad => rw [q] at hp; exact hp.elim
    refine wpAny_mono (ht.run [] s1 (L2.start N [v]) H _ I hq) (fun fl s' hs => ?_) fun ev s' hs => hs
    match fl, hs with
    | .ret u, ⟨v, σ', H', J, rv, q⟩ => exact ⟨v, H', J.os, J.bare, J.base, J.hok, rv, q⟩
    | .next, ⟨σ', H', J, q⟩ => exact ⟨V.non, H', J.os, J.bare, J.base, J.hok, rfl, q⟩
    | .brk, ⟨_, _, _, q⟩ => exact False.elim q
    | .cont, ⟨_, _, _, q⟩ => exact False.elim q
theorem FnDGH.mono {y : Str} {k j : Nat} {den : Den} (F : FnDGH P w K mg base y k den) (h : k ≤ j) : FnDGH P w K mg base y j den := by
  obtain ⟨f, fd, x, h1, h2, h3, h4⟩ := F
  exact ⟨f, fd, x, h1, h2, h3, ⟨fun A outer s H us v m ah av p Q E hr => h4.run A outer s H us v m ah av p Q E (hr.mono h)⟩⟩
end
section
variable {X : Cx} {i : Nat} {a : Addr} {cls : Value} {d : Option Addr}
noncomputable def gCallH (den : Den) (f : EV → GE) : EV → GE := fun ev env ah => rb (f ev env ah) fun v ah1 => noX (den [v] ah1)
theorem te_callH {y : Str} {e : Expr} {f : EV → GE} {p pos : Pos} {k : Nat} {den : Den} (F : FnDGH X.prog X.w X.K X.mg X.base y k den) (hr : RoomH k X.A) (E : ErrIn X a cls d) (hg : Gl X y) (ha : PE X e (tGe X (fun _ _ _ _ => False) i a cls d f))
    (hdb : (y == ("__debug__" : Str)) = false := by decide) (hs : starEach [e] X.env = (false, eval e X.env) :: starEach [] X.env := by rfl) (hpl : (backTo pos (starEach [] X.env)).any (·.1) = false := by rfl) :
    PE X (.Call (.Name y p) [e] [] pos) (tGe X (fun _ _ _ _ => False) i a cls d (gCallH den f)) := by
  obtain ⟨fa, fd, x, hm, hk, hb, F⟩ := F
  obtain ⟨oe, hp, hz, hf⟩ := E.ex
  refine ⟨fun pins s σ H Q I h => ?_⟩
  obtain ⟨m, env, ah, ev, hS, q⟩ := h
  refine wpAny_Call_Name_kw (ld_glob I hg hm ?_ hdb)
  have hpa := pa_cons ha pa_nil hs
  refine PySem.W.callWith_K (h₀ := X.base) I.ok.mod.kin hk (thn (hpa.run pos pins s σ H (fun vs H1 => ∃ v av ah1 m1, vs = [v] ∧ Ext m H m1 H1 ∧ hSt X i a cls d m1 H1 σ env ah1 ev ∧ VR X.K m1 H1 av v ∧ (noX (den [av] ah1)).post (PQ X.K m1 H1 Q) (PX X.K X.mg m1 H1 fun c d H' => False)) I ?_) fun us s1 hq => ?_) hs hpl
  · unfold gCallH at q
    exact hE_step hS q (fun _ _ h => h) fun v ah1 m1 H1 x e1 hS1 v1 hp1 => ⟨x, v, ah1, m1, rfl, e1, hS1, v1, Res.post_imp hp1 (fun _ _ _ h => PQ.mono e1 h) fun _ _ h => PX.mono e1 h⟩
  · obtain ⟨vs, H1, I1, r, v, av, ah1, m1, rfl, e1, hS1, hv, hq⟩ := hq
    refine ⟨I1.kIn, ?_⟩
    obtain ⟨u, rfl, ru⟩ := vals1 r
    have P1 := I1.pin (a, oe) (List.mem_append_left _ hp)
    have hpin : PinOk X.stack H1 s1 (a, oe) := ⟨P1.1, P1.2.1, fun hm => (List.mem_cons.mp (I1.stkSub a hm)).elim P1.2.2.1 P1.2.2.2.1, P1.2.2.2.2⟩
    have b := hb s1 [u] I1.kIn rfl
    rw [List.append_nil] at b
    have go := F.run X.A X.stack s1 H1 [u] v m1 ah1 av (a, oe) Q (fun _ _ _ => False) hr hpin I1.env0 b r hS1.2.1 hv (noX_post hq)
    refine wpAny_call (codeAny_mono go fun res s' hq => ?_)
    match res, hq with
    | .error ev, hq => obtain ⟨_, _, _, _, _, _, _, _, _, _, _, _, z⟩ := hq; exact z.elim
    | .ok (.ret u), hq => exact I1.after hq
end
end G
namespace G
open PySem PySem.Spec PyProof.Rows L2 L2H
set_option autoImplicit false
/-- the class object of an own error whose __init__ is the program's -/
def oexIn (K : PySem.W.Frag) (C : Addr) : Bool := match K.lookup C with
  | some ⟨.type "type", _, .cls cd, sl⟩ => (match cd.mro, sl.toList with
    | .ref C' :: bm, [_, _, _, _, some (.builtin n), _] => C' == C && n == "ValueError.__new__" && !cd.hasDel && cd.hasDict && PySem.HandSPX.refsVE bm
    | _, _ => false)
  | _ => false
theorem oex_of {K : PySem.W.Frag} {C : Addr} (q : oexIn K C = true) : ∃ nm q N bs bm sn sub ab col dd k0 k1 k2 k3 k5, K.lookup C = some (excClassObj nm q C N bs bm true sn sub ab col dd k0 k1 k2 k3 k5 "ValueError.__new__") ∧ PySem.HandSPX.refsVE bm = true := by
  unfold oexIn at q
  split at q
  · rename_i dd cd sl ho
    split at q
    · rename_i C' bm k0 k1 k2 k3 n k5 hm hs
      simp only [Bool.and_eq_true, beq_iff_eq, Bool.not_eq_true'] at q
      obtain ⟨⟨⟨⟨rfl, rfl⟩, hdel⟩, hdict⟩, ht⟩ := q
      obtain ⟨nm, bs, mro, ns, qn, hd, sn, sub, ab, col, del⟩ := cd
      dsimp only at hm hdel hdict
      subst hm hdel hdict
      have hsl : sl = #[k0, k1, k2, k3, some (.builtin "ValueError.__new__"), k5] := by
        obtain ⟨l⟩ := sl
        simp only at hs
        rw [hs]
      subst hsl
      exact ⟨nm, qn, ns, bs, bm, sn, sub, ab, col, dd, k0, k1, k2, k3, k5, ho, ht⟩
    · cases q
  · cases q
theorem RoomH_u64 {k : Nat} {A : Around} (r : RoomH k A) : A.units + 64 < cLine := by have := r.un; omega
/-- abs -/
def absO : OL := fun _ l => match l with
  | [.int i] => some (.int (if i < 0 then -i else i))
  | _ => none
section
variable {X : Cx}
theorem abs_g : ∃ r, CallR X (.builtin "abs") r ∧ CallG X r absO := by
  refine ⟨_, call_abs, ?_⟩
  intro m H ah l xs z Q r hv hf q
  unfold absO at hf
  split at hf
  · obtain ⟨x, rfl, hx⟩ := hv.one
    cases hf; cases hx
    exact ⟨_, rfl, q.here r (.int _)⟩
  · cases hf
/-- tuples already laid are tracked, whole -/
theorem takeG {pins : List (Addr × Obj)} {σ : L2.St} {H0 : Hp} {s : Shared} {hF : Heap} {tk : Nat} (I0 : Inv X pins σ H0 s) : ∀ (S : List (Addr × List V)) (H1 : Hp), Inv X pins σ H1 { s with heap := hF, toks := tk } → (S.map (·.1)).Nodup →
    (∀ z ∈ S, s.heap.objs.size ≤ z.1 ∧ H1 z.1 = none ∧ ∃ o : Obj, o.dict = none ∧ ∀ H2, ObjOk X.prog X.w H2 hF z.1 (.frz o (.tup z.2))) →
    ∃ H2, Inv X pins σ H2 { s with heap := hF, toks := tk } ∧ (∀ b o, H1 b = some o → H2 b = some o) ∧ (∀ b, H1 b = none → b ∉ S.map (·.1) → H2 b = none) ∧ ∀ z ∈ S, ∃ o : Obj, o.dict = none ∧ H2 z.1 = some (.frz o (.tup z.2))
  | [], H1, I1, _, _ => ⟨H1, I1, fun _ _ e => e, fun _ e _ => e, fun _ h => nomatch h⟩
  | z :: S, H1, I1, hn, h => by
    obtain ⟨hb, hnone, o, hd, ok⟩ := h z List.mem_cons_self
    have I2 : Inv X pins σ (upd H1 z.1 (.frz o (.tup z.2))) { s with heap := hF, toks := tk } := I1.take (h' := hF) (t' := tk) (fun b ob _ e => e) (I0.fpOk hb hnone) (ok _)
    rw [List.map_cons, List.nodup_cons] at hn
    have ne : ∀ c ∈ S, c.1 ≠ z.1 := fun c hc e => hn.1 (by rw [← e]; exact List.mem_map.mpr ⟨c, hc, rfl⟩)
    obtain ⟨H2, I3, g, gn, q⟩ := takeG I0 S (upd H1 z.1 (.frz o (.tup z.2))) I2 hn.2 fun c hc => by
      obtain ⟨c1, c2, c3⟩ := h c (List.mem_cons_of_mem _ hc)
      exact ⟨c1, by rw [upd_ne (ne c hc)]; exact c2, c3⟩
    refine ⟨H2, I3, fun b u e => g b u (by rw [upd_ne (ne_of_none e hnone)]; exact e), fun b e hb' => gn b (by rw [upd_ne (fun w => hb' (by rw [w]; simp))]; exact e) (fun w => hb' (by rw [List.map_cons]; exact List.mem_cons_of_mem _ w)), fun c hc => ?_⟩
    rcases List.mem_cons.mp hc with rfl | hc
    · exact ⟨o, hd, g _ _ upd_same⟩
    · exact q c hc
abbrev kvL (q : Key × V) : List V := [kV q.1, q.2]
theorem itK_laid {pins : List (Addr × Obj)} {σ : L2.St} {H : Hp} {s : Shared} {h' : Heap} {tk : Nat} {kvs : List (Key × V)} {vs : List (Key × Value)} {acc : Array Value} {c : Nat} {as : List Addr} (I : Inv X pins σ H s) (hz : kvs.length ≤ sizeLine) (kv : KV kvs vs)
    (hk : ∀ b o, s.heap.get? b = some o → h'.get? b = some o) (hS : h'.get? s.heap.objs.size = some { cls := .type "list", dict := none, data := .seq acc c, slots := #[] }) (hl : as.length = vs.length) (hG : PySem.W.KdxG (mixKind X.prog X.w) vs s.heap.objs.size h' as) (hacc : acc.toList = as.map Value.ref) :
    ∃ (H' : Hp) (S : List (Addr × List V)), Inv X pins σ H' { s with heap := h', toks := tk } ∧ (∀ b o, H b = some o → H' b = some o) ∧ H s.heap.objs.size = none ∧ S.map (·.2) = kvs.map kvL ∧ H' s.heap.objs.size = some (.lst (S.map fun z => V.ref z.1)) ∧ ∀ z ∈ S, ∃ o : Obj, o.dict = none ∧ H' z.1 = some (.frz o (.tup z.2)) := by
  have lk : kvs.length = vs.length := Paired.length kv
  have nd : as.Nodup := List.Pairwise.imp (fun {a b} (h : a < b) => Nat.ne_of_lt h) hG.rise
  have I1 : Inv X pins σ H { s with heap := h', toks := tk } := I.kept (t' := tk) hk
  have e1 : (as.zip (kvs.map kvL)).map (·.1) = as := List.map_fst_zip (by simp; omega)
  have e2 : (as.zip (kvs.map kvL)).map (·.2) = kvs.map kvL := List.map_snd_zip (by simp; omega)
  have pr : ∀ z ∈ as.zip (kvs.map kvL), ∃ (o : Obj), o.dict = none ∧ z.1 ∈ as ∧ ∀ H2, ObjOk X.prog X.w H2 h' z.1 (.frz o (.tup z.2)) := fun z hz => by
    obtain ⟨j, hj⟩ := List.mem_iff_getElem?.mp hz
    obtain ⟨h1, h2⟩ := List.getElem?_zip_eq_some.mp hj
    rw [List.getElem?_map] at h2
    obtain ⟨q, hq, hq2⟩ := Option.map_eq_some_iff.mp h2
    obtain ⟨key, k, x, f1, f2, f3⟩ := hG.pairs j z.1 h1
    obtain ⟨qv, g1, g2, g3⟩ := LiI.paired_get kv hq
    rw [f1] at g1
    cases g1
    have rk : RelV (kV q.1) key := by
      rw [g2]
      exact relV_key (show keyIs k key = true from f2)
    refine ⟨_, rfl, List.mem_iff_getElem?.mpr ⟨j, h1⟩, fun H2 => ⟨f3, ?_⟩⟩
    rw [← hq2]
    exact ⟨by show 2 ≤ sizeLine; decide, [key, x], .cons rk (.cons g3 .nil), _, f3, rfl, 0, rfl⟩
  generalize as.zip (kvs.map kvL) = S at e1 e2 pr
  obtain ⟨H2, I2, g, gn, qS⟩ := takeG I S H I1 (by rw [e1]; exact nd) fun z hz => by
    obtain ⟨o, h1, h2, h3⟩ := pr z hz
    have ab := Nat.le_of_lt (hG.above _ h2)
    exact ⟨ab, I.hok.fresh ab, o, h1, h3⟩
  have newS : H s.heap.objs.size = none := I.hok.fresh (Nat.le_refl _)
  have newS2 : H2 s.heap.objs.size = none := gn _ newS fun z => by
    rw [e1] at z
    exact Nat.lt_irrefl _ (hG.above _ z)
  have er : (S.map fun z => V.ref z.1) = as.map V.ref := by rw [← e1, List.map_map]; rfl
  have I3 : Inv X pins σ (upd H2 s.heap.objs.size (.lst (S.map fun z => V.ref z.1))) { s with heap := h', toks := tk } :=
    I2.take (t' := tk) (fun b ob _ e => e) (I.fpOk (Nat.le_refl _) newS2) ⟨by rw [er, List.length_map]; omega, acc.toList, c, by rw [er, hacc]; exact LiI.vals_refs as, by rw [Array.toArray_toList]; exact hS⟩
  refine ⟨_, S, I3, fun b o e => ?_, newS, e2, upd_same, fun z hz => ?_⟩
  · rw [upd_ne (ne_of_none e newS)]; exact g b o e
  · obtain ⟨o, h1, h2⟩ := qS z hz
    exact ⟨o, h1, by rw [upd_ne (fun e => by rw [e] at h2; rw [newS2] at h2; cases h2)]; exact h2⟩
def rItK : V → Hp → VK → Prop := fun x H Q => ∃ (d : Addr) (kvs : List (Key × V)), x = .ref d ∧ Rd H d (.dK kvs) ∧ ∀ (H' : Hp) (l : Addr) (S : List (Addr × List V)), (∀ b o, H b = some o → H' b = some o) → H l = none → S.map (·.2) = kvs.map kvL → H' l = some (.lst (S.map fun z => V.ref z.1)) →
  (∀ z ∈ S, ∃ o : Obj, o.dict = none ∧ H' z.1 = some (.frz o (.tup z.2))) → Q (.ref l) H'
def tListItK (te : TE) : TE := fun σ H Q => te σ H fun x H1 => rItK x H1 Q
end
section
variable {X : Cx} {e : Expr} {te : TE} {p apos cpos pos : Pos}
theorem pe_listItK (hc : X.calm = true) (he : PE X e te) (hg : Gl X "list") (hm : X.mg "list" = none) (hv : bootBuiltins "list" = some (.type "list")) (hbase : attributeBase e "items" X.env (eval e X.env) = eval e X.env := by rfl) (hline : (apos.endLine == cpos.line) = true := by rfl)
    (hs : starEach [.Call (.Attribute e "items" apos) [] [] cpos] X.env = (false, eval (.Call (.Attribute e "items" apos) [] [] cpos) X.env) :: starEach [] X.env := by rfl) :
    PE X (.Call (.Name "list" p) [.Call (.Attribute e "items" apos) [] [] cpos] [] pos) (tListItK te) := by
  refine ⟨fun pins s σ H Q I hq => ?_⟩
  refine wpAny_Call_Name_kw (ld_blt I hg hm hv ?_)
  refine PyProof.Rows.callWith_type1 ?_ hs rfl
  rw [hs]
  show wpAny _ _ (spliced ((false, eval (.Call (.Attribute e "items" apos) [] [] cpos) X.env) :: backTo pos (starEach [] X.env))) _ _ s
  refine Calls.spliced_cons ?_
  refine wpAny_Call_method (T := "dict") (id := "dict.items") hbase rfl hline F.plainAttrs_dict F.slot_dict_items F.type_dict_items (thn (he.run pins s σ H _ I hq) fun u s1 ⟨x, H1, I1, rx, d, kvs, ex, hd, q⟩ => ?_)
  subst ex
  obtain rfl : u = Value.ref d := rx
  obtain ⟨hz, hs0, vs, kv, hdo⟩ := dk_rd I1.hok hd
  obtain ⟨ep, hat⟩ := hdo.dictAt
  have lk : kvs.length = vs.length := Paired.length kv
  have I2 : Inv X pins σ H1 { s1 with heap := s1.heap.push { cls := .type "dict_items", data := .fields #[.ref d] } } := I1.kept (t' := s1.toks) fun b ob q => Heap.get?_push_of_some _ q
  refine ⟨hdo.typeIs, hdo.mapOf.noDict, ?_⟩
  show wpAny _ _ (callWith cpos (.builtin "dict.items") [.ref d] [] []) _ X.xe s1
  refine method_meetsIn F.slot_dict_items F.entry_dict_items rfl (PySem.evalArgs_none ⟨rfl, hdo.typeIs, F.args_dict_items_1 _, _, meets_dict_items (mixKind X.prog X.w) d hs0, ⟨vs, hdo⟩, ?_⟩)
  refine Calls.spliced_nil ?_
  refine PySem.W.kdx_call (knd := mixKind X.prog X.w) (kvs := vs) (ep := ep) (I1.ok.hd hc) ⟨_, Heap.get?_push_size _ rfl, rfl, rfl⟩ (hat.push _) (by omega) fun h' tk acc c as hk hS hl hG hacc => ?_
  obtain ⟨H', S, J, k1, k2, k3, k4, k5⟩ := itK_laid (tk := tk) I2 hz kv hk hS hl hG hacc
  exact ⟨.ref _, H', J, rfl, q H' _ S k1 k2 k3 k4 k5⟩
end
theorem vrs_K {K : PySem.W.Frag} {m : MM} {H' : Hp} : ∀ {l : List (AK × AV)} {kvs : List (Key × V)} (S : List (Addr × List V)), VRk K m H' l kvs → S.map (·.2) = kvs.map kvL → (∀ z ∈ S, ∃ o : Obj, o.dict = none ∧ H' z.1 = some (.frz o (.tup z.2))) →
    VRs K m H' (l.map fun p => .tup [keyV p.1, p.2]) (S.map fun z => V.ref z.1)
  | _, _, [], .nil, _, _ => .nil
  | _, _, [], .cons _ _, e, _ => by cases e
  | _, _, z :: S, .nil, e, _ => by cases e
  | _, _, z :: S, .cons (k := k) (v := v) (l := l) (x := x) (xs := xs) h r, e, hS => by
    rw [List.map_cons, List.map_cons] at e
    injection e with e1 e2
    obtain ⟨o, h1, h2⟩ := hS z List.mem_cons_self
    refine .cons ?_ (vrs_K S r e2 fun z' hz => hS z' (List.mem_cons_of_mem _ hz))
    refine .tup (.inl ⟨o, h1, h2⟩) ?_
    rw [e1]
    refine .cons ?_ (.cons h .nil)
    cases k with
    | inl i => exact .int i
    | inr b => exact .str b
section
variable {X : Cx} {W : WX} {e : Expr} {fe : GE} {p apos cpos pos : Pos}
def liA (ah : AH) (v : AV) : Option (List AV) := match dr ah v with
  | .dk l => some (l.map fun p => .tup [keyV p.1, p.2])
  | _ => none
def gLItems (o : GE) : GE := fun env ah => rb (o env ah) fun w ah1 => lift1 ((liA ah1 w).map AV.lst) ah1
theorem ge_litems (hc : X.calm = true) (hg : Gl X "list") (hm : X.mg "list" = none) (he : PE X e (tG X W fe)) (hbase : attributeBase e "items" X.env (eval e X.env) = eval e X.env := by rfl) (hline : (apos.endLine == cpos.line) = true := by rfl)
    (hs : starEach [.Call (.Attribute e "items" apos) [] [] cpos] X.env = (false, eval (.Call (.Attribute e "items" apos) [] [] cpos) X.env) :: starEach [] X.env := by rfl) (hv : bootBuiltins "list" = some (.type "list") := by decide +kernel) :
    PE X (.Call (.Name "list" p) [.Call (.Attribute e "items" apos) [] [] cpos] [] pos) (tG X W (gLItems fe)) :=
  PE.weak (pe_listItK hc he hg hm hv hbase hline hs) fun σ H Q h => by
    obtain ⟨m, env, ah, hE, hR, hp⟩ := h
    refine tG_step hE hR hp (fun _ _ h => h) fun w ah1 m1 H1 x e1 r1 v1 hp1 => ?_
    unfold liA at hp1
    split at hp1
    · obtain ⟨a, kvs, rfl, h1, h2⟩ := VR.dict r1 v1 (by assumption)
      refine ⟨a, kvs, rfl, h1, fun H' lp S gg hl pS hL hT => ?_⟩
      have hext : Ext m1 H1 m1 H' := Ext.grow gg
      exact PQ.mono e1 hp1 m1 H' (.ref lp) hext (r1.grow gg) (.lst hL (r1.notin hl) (vrs_K S (h2.mono hext) pS hT))
    · exact hp1.elim
end
end G
namespace G
open PySem L2
set_option autoImplicit false
abbrev ErrP := EV → AH → Prop
abbrev ErrS := EV → Env → AH → Prop
abbrev noE : ErrP := fun _ _ => False
abbrev noES : ErrS := fun _ _ _ => False
section
variable {α β : Type} {P Q : α → AH → Prop} {ah : AH} {env : Env} {E : ErrP}
/-- what holds behind: P of a value, E of an error -/
def wx (E : ErrP) (r : Res α) (P : α → AH → Prop) : Prop := match r with
  | .ok a h => P a h
  | .exc e h => E e h
  | .bad => False
abbrev wp (r : Res α) (P : α → AH → Prop) : Prop := wx noE r P
@[simp] theorem wp_ok {a : α} : wx E (.ok a ah) P = P a ah := rfl
@[simp] theorem wp_bad : wx E (.bad : Res α) P = False := rfl
@[simp] theorem wp_exc {e : EV} : wx E (.exc e ah : Res α) P = E e ah := rfl
@[simp] theorem wp_rb {r : Res β} {g : β → AH → Res α} : wx E (rb r g) P = wx E r fun a h => wx E (g a h) P := by cases r <;> rfl
theorem wx_mono {E E' : ErrP} {r : Res α} (h : wx E r P) (hi : ∀ a ah, P a ah → Q a ah) (he : ∀ e ah, E e ah → E' e ah) : wx E' r Q := by
  cases r with
  | ok a h' => exact hi _ _ h
  | exc a h' => exact he _ _ h
  | bad => exact h.elim
theorem wp_mono {r : Res α} (h : wx E r P) (hi : ∀ a ah, P a ah → Q a ah) : wx E r Q := wx_mono h hi fun _ _ z => z
theorem wp_lift {r : Res α} (h : wp r P) : wx E r P := wx_mono h (fun _ _ z => z) fun _ _ z => z.elim
theorem wp_get {r : Res α} (h : wp r P) : ∃ a ah, r = .ok a ah ∧ P a ah := by
  cases r with
  | ok a h' => exact ⟨_, _, rfl, h⟩
  | _ => exact h.elim
@[simp] theorem wp_some {a : α} : wx E (lift1 (some a) ah) P = P a ah := rfl
@[simp] theorem wp_none : wx E (lift1 (none : Option α) ah) P = False := rfl
@[simp] theorem wp_ite {c : Prop} [Decidable c] {r s : Res α} : wx E (if c then r else s) P = if c then wx E r P else wx E s P := by split <;> rfl
@[simp] theorem wp_lite {c : Prop} [Decidable c] {o : Option α} : wx E (lift1 (if c then o else none) ah) P = (c ∧ wx E (lift1 o ah) P) := by
  split <;> simp_all
theorem wp_eq {o : Option α} {a : α} (e : o = some a) (h : P a ah) : wx E (lift1 o ah) P := by rw [e]; exact h
@[simp] theorem wp_lmap {o : Option β} {g : β → α} : wx E (lift1 (o.map g) ah) P = wx E (lift1 o ah) fun a h => P (g a) h := by cases o <;> rfl
theorem wp_noX {r : Res α} : wx E (noX r) P = wp r P := by cases r <;> rfl
end
def onB (v : AV) (f : Bool → Prop) : Prop := match v with
  | .bl k => f k
  | _ => False
@[simp] theorem onB_bl {k : Bool} {f : Bool → Prop} : onB (.bl k) f = f k := rfl
theorem onB_get {v : AV} {f : Bool → Prop} (h : onB v f) : ∃ k, v = .bl k ∧ f k := by
  cases v <;> first | exact ⟨_, rfl, h⟩ | exact h.elim
def onI (v : AV) (f : Int → Prop) : Prop := match v with
  | .int k => f k
  | _ => False
@[simp] theorem onI_int {k : Int} {f : Int → Prop} : onI (.int k) f = f k := rfl
section
variable {E : ErrP} {P : AV → AH → Prop} {PB : Bool → AH → Prop} {PL : List AV → AH → Prop} {PO : Option Int → AH → Prop} {PI : Src → AH → Prop} {ah : AH} {env : Env} {a b c : GE} {t u : GT} {fr : GA}
@[simp] theorem w_var {i : Nat} : wx E (gVar i env ah) P = match env[i]? with | some (some v) => P v ah | _ => False := by
  unfold gVar
  rcases env[i]? with _ | _ | _ <;> rfl
@[simp] theorem w_c {v : AV} : wx E (gC v env ah) P = P v ah := rfl
@[simp] theorem w_op {f : O2} : wx E (gOp f a b env ah) P = wx E (a env ah) fun v ah1 => wx E (b env ah1) fun w ah2 => wx E (lift1 (f ah2 v w) ah2) P := by simp [gOp]
@[simp] theorem w_tb : wx E (gTB a env ah) PB = wx E (a env ah) fun v ah1 => onB v fun k => PB k ah1 := by
  simp only [gTB, wp_rb]
  congr 1; funext v ah1
  cases v <;> rfl
@[simp] theorem w_tt : wx E (gTT a env ah) PB = wx E (a env ah) fun v ah1 => wx E (lift1 (trA ah1 v) ah1) PB := by simp [gTT]
@[simp] theorem w_notT : wx E (gNotT t env ah) PB = wx E (t env ah) fun k ah1 => PB (!k) ah1 := by simp [gNotT]
@[simp] theorem w_andT : wx E (gAndT t u env ah) PB = wx E (t env ah) fun k ah1 => if k = true then wx E (u env ah1) PB else PB false ah1 := by simp [gAndT]
@[simp] theorem w_orT : wx E (gOrT t u env ah) PB = wx E (t env ah) fun k ah1 => if k = true then PB true ah1 else wx E (u env ah1) PB := by simp [gOrT]
@[simp] theorem w_and : wx E (gAnd a b env ah) P = wx E (a env ah) fun v ah1 => wx E (lift1 (trA ah1 v) ah1) fun k _ => if k = true then wx E (b env ah1) P else P v ah1 := by
  simp only [gAnd, wp_rb]
  congr 1; funext v ah1
  rcases trA ah1 v with _ | _ | _ <;> simp
@[simp] theorem w_or : wx E (gOr a b env ah) P = wx E (a env ah) fun v ah1 => wx E (lift1 (trA ah1 v) ah1) fun k _ => if k = true then P v ah1 else wx E (b env ah1) P := by
  simp only [gOr, wp_rb]
  congr 1; funext v ah1
  rcases trA ah1 v with _ | _ | _ <;> simp
@[simp] theorem w_not : wx E (gNot a env ah) P = wx E (a env ah) fun v ah1 => wx E (lift1 (trA ah1 v) ah1) fun k _ => P (.bl !k) ah1 := by
  simp only [gNot, wp_rb]
  congr 1; funext v ah1
  rcases trA ah1 v with _ | _ | _ <;> simp
@[simp] theorem w_ifE : wx E (gIfE t a b env ah) P = wx E (t env ah) fun k ah1 => if k = true then wx E (a env ah1) P else wx E (b env ah1) P := by simp [gIfE]
@[simp] theorem w_neg : wx E (gNeg a env ah) P = wx E (a env ah) fun v ah1 => onI v fun i => P (.int (-i)) ah1 := by
  simp only [gNeg, wp_rb]
  congr 1; funext v ah1
  cases v <;> rfl
@[simp] theorem w_chain {f g : O2} : wx E (gChain f g a b c env ah) P = wx E (a env ah) fun v ah1 => wx E (b env ah1) fun w ah2 => wx E (lift1 (f ah2 v w) ah2) fun z _ => onB z fun k => if k = true then wx E (c env ah2) fun z ah3 => wx E (lift1 (g ah3 w z) ah3) P else P (.bl false) ah2 := by
  simp only [gChain, wp_rb]
  congr 1; funext v ah1
  congr 1; funext w ah2
  cases e : f ah2 v w with
  | none => rfl
  | some z => cases z <;> first | rfl | (rename_i k; cases k <;> simp)
@[simp] theorem w_nil : wx E (gNil env ah) PL = PL [] ah := rfl
@[simp] theorem w_cons : wx E (gCons a fr env ah) PL = wx E (a env ah) fun v ah1 => wx E (fr env ah1) fun l ah2 => PL (v :: l) ah2 := by simp [gCons]
theorem w_lim {l : List AV} {v : AV} : wx E (limL l v ah) P = (l.length ≤ 1000000 ∧ P v ah) := by
  unfold limL
  by_cases q : l.length ≤ 1000000 <;> simp [q]
@[simp] theorem w_tup : wx E (gTup fr env ah) P = wx E (fr env ah) fun l ah1 => l.length ≤ 1000000 ∧ P (.tup l) ah1 := by simp [gTup, w_lim]
@[simp] theorem w_lst : wx E (gLst fr env ah) P = wx E (fr env ah) fun l ah1 => l.length ≤ 1000000 ∧ P (.lst l) ah1 := by simp [gLst, w_lim]
@[simp] theorem w_lstH : wx E (gLstH fr env ah) P = wx E (fr env ah) fun l ah1 => l.length ≤ 1000000 ∧ P (.ref ah1.length) (ah1 ++ [.lst l]) := by simp [gLstH, w_lim]
@[simp] theorem w_dk0 : wx E (gDk0 env ah) P = P (.dk []) ah := rfl
@[simp] theorem w_dk0H : wx E (gDk0H env ah) P = P (.ref ah.length) (ah ++ [.dk []]) := rfl
@[simp] theorem w_noP : wx E (gNoP env ah) PO = PO none ah := rfl
@[simp] theorem w_p : wx E (gP a env ah) PO = wx E (a env ah) fun v ah1 => onI v fun i => PO (some i) ah1 := by
  simp only [gP, wp_rb]
  congr 1; funext v ah1
  cases v <;> rfl
@[simp] theorem w_sl {lo hi : GO} : wx E (gSl a lo hi env ah) P = wx E (a env ah) fun v ah1 => wx E (lo env ah1) fun l ah2 => wx E (hi env ah2) fun h ah3 => wx E (lift1 (slO ah3 v l h) ah3) P := by simp [gSl]
@[simp] theorem w_b {f : OL} : wx E (gB f fr env ah) P = wx E (fr env ah) fun l ah1 => wx E (lift1 (f ah1 l) ah1) P := by simp [gB]
@[simp] theorem w_isi {ty : Ty} : wx E (gIsi ty a env ah) P = wx E (a env ah) fun v ah1 => wx E (lift1 (isiA ah1 v ty) ah1) fun k _ => P (.bl k) ah1 := by
  simp only [gIsi, wp_rb]
  congr 1; funext v ah1
  cases isiA ah1 v ty <;> simp
@[simp] theorem w_bl {f : AH → List AV → Option (List AV)} : wx E (gBL f fr env ah) P = wx E (fr env ah) fun l ah1 => wx E (lift1 (f ah1 l) ah1) fun z _ => P (.lst z) ah1 := by
  simp only [gBL, wp_rb]
  congr 1; funext v ah1
  cases f ah1 v <;> simp
@[simp] theorem w_blH {f : AH → List AV → Option (List AV)} : wx E (gBLH f fr env ah) P = wx E (fr env ah) fun l ah1 => wx E (lift1 (f ah1 l) ah1) fun z _ => P (.ref ah1.length) (ah1 ++ [.lst z]) := by
  simp only [gBLH, wp_rb]
  congr 1; funext v ah1
  cases f ah1 v <;> simp
@[simp] theorem w_it : wx E (gIt a env ah) PI = wx E (a env ah) fun v ah1 => wx E (lift1 (itA ah1 v) ah1) PI := by simp [gIt]
@[simp] theorem w_r1 : wx E (gR1 fr env ah) PI = wx E (fr env ah) fun l ah1 => ∃ j, l = [.int j] ∧ (-1000000 ≤ j ∧ j ≤ 1000000) ∧ PI (none, rngA 0 j.toNat) ah1 := by
  simp only [gR1, wp_rb]
  congr 1; funext v ah1
  split
  · rename_i j; simp
  · rename_i h; apply propext; refine ⟨fun z => z.elim, ?_⟩; rintro ⟨j, rfl, _⟩; exact (h j rfl).elim
@[simp] theorem w_zip : wx E (gZip fr env ah) PI = wx E (fr env ah) fun l ah1 => wx E (zipR l ah1) PI := by simp [gZip]
@[simp] theorem w_zipL {p q : List AV} : wx E (zipR [.lst p, .lst q] ah) PI = PI (none, zipA p q) ah := rfl
@[simp] theorem w_zipT {p q : List AV} : wx E (zipR [.tup p, .tup q] ah) PI = PI (none, zipA p q) ah := rfl
@[simp] theorem w_vals : wx E (gVals a env ah) PI = wx E (a env ah) fun v ah1 => wx E (lift1 (valA v) ah1) PI := by simp [gVals]
@[simp] theorem w_items : wx E (gItems a env ah) PI = wx E (a env ah) fun v ah1 => wx E (lift1 (itmA v) ah1) PI := by simp [gItems]
@[simp] theorem o_valD {l : List (AK × AV)} : valA (.dk l) = some (none, l.map (·.2)) := rfl
@[simp] theorem o_itmD {l : List (AK × AV)} : itmA (.dk l) = some (none, l.map fun p => .tup [keyV p.1, p.2]) := rfl
@[simp] theorem w_enum : wx E (gEnum fr env ah) PI = wx E (fr env ah) fun l ah1 => wx E (enR l ah1) PI := by simp [gEnum]
@[simp] theorem w_enumT {p : List AV} : wx E (enR [.tup p] ah) PI = PI (none, enA 0 p) ah := rfl
@[simp] theorem w_dictOf : wx E (gDictOf fr env ah) P = wx E (fr env ah) fun l ah1 => wx E (dcR l ah1) fun ps ah2 => P (.dk ps) ah2 := by simp [gDictOf]
@[simp] theorem w_dictOfH : wx E (gDictOfH fr env ah) P = wx E (fr env ah) fun l ah1 => wx E (dcR l ah1) fun ps ah2 => P (.ref ah2.length) (ah2 ++ [.dk ps]) := by simp [gDictOfH]
@[simp] theorem w_clr : wx E (gClr a env ah) P = wx E (a env ah) fun v ah1 => wx E (clrA ah1 v) P := by simp [gClr]
theorem w_lkD {i n : Nat} {f : GE} {l : List (AK × AV)} (hi : env[i]? = some (some (.ref n))) (ho : ah[n]? = some (.dk l)) (hf : (l.all fun p => flatT p.2) = true)
    (h : wp (f ((List.replicate env.length none).set i (some (.dk l))) []) fun v a => ∃ r, v = .lst r ∧ a = [] ∧ r.all scl = true ∧ P (.lst r) ah) : wx E (gLkD i f env ah) P := by
  unfold gLkD
  rw [hi]
  simp only [ho, hf, if_true]
  cases q : f ((List.replicate env.length none).set i (some (.dk l))) [] with
  | ok v a =>
    rw [q] at h
    obtain ⟨r, rfl, rfl, hs, hp⟩ := h
    simp only [hs, if_true]
    exact hp
  | exc e a => rw [q] at h; exact h.elim
  | bad => rw [q] at h; exact h.elim
@[simp] theorem w_call {den : Den} : wx E (gCall den fr env ah) P = wx E (fr env ah) fun l ah1 => wx E (den l ah1) P := by simp [gCall]
@[simp] theorem w_yes : wx E (gYes env ah) PB = PB true ah := rfl
@[simp] theorem w_lcV {it : GI} {h : GG} {e : GE} {vs : List Nat} : wx E (gLcV it h t e vs env ah) P = wx E (it env ah) fun src ah1 => src.2.length ≤ 1000000 ∧ wp (lcL src h t e (wipeE env vs) src.2 ah1) fun l ah2 => P (.lst l) ah2 := by
  simp only [gLcV, gLc, wp_rb]
  congr 1; funext src ah1
  by_cases q : src.2.length ≤ 1000000 <;> simp [q, wp_noX]
@[simp] theorem w_lcH {it : GI} {h : GG} {e : GE} {vs : List Nat} : wx E (gLcH it h t e vs env ah) P = wx E (it env ah) fun src ah1 => src.2.length ≤ 1000000 ∧ wp (lcL src h t e (wipeE env vs) src.2 ah1) fun l ah2 => P (.ref ah2.length) (ah2 ++ [.lst l]) := by
  simp only [gLcH, gLc, wp_rb]
  congr 1; funext src ah1
  by_cases q : src.2.length ≤ 1000000 <;> simp [q, wp_noX]
@[simp] theorem w_up : wx E (gUp a env ah) P = wx E (a env ah) fun v ah1 => wx E (lift1 (upO ah1 v) ah1) P := by simp [gUp]
@[simp] theorem w_join : wx E (gJoin a b env ah) P = wx E (a env ah) fun v ah1 => match v with
    | .str s => wx E (b env ah1) fun w ah2 => wx E (lift1 (joinO s ah2 w) ah2) P
    | _ => False := by
  simp only [gJoin, wp_rb]
  congr 1; funext v ah1
  cases v <;> first | rfl | simp
@[simp] theorem w_soS : wx E (gSoS a env ah) P = wx E (a env ah) fun v ah1 => wx E (lift1 (soSO ah1 v) ah1) fun l _ => P (.lst l) ah1 := by
  simp only [gSoS, wp_rb]
  congr 1; funext v ah1
  cases soSO ah1 v <;> simp
@[simp] theorem w_soSH : wx E (gSoSH a env ah) P = wx E (a env ah) fun v ah1 => wx E (lift1 (soSO ah1 v) ah1) fun l _ => P (.ref ah1.length) (ah1 ++ [.lst l]) := by
  simp only [gSoSH, wp_rb]
  congr 1; funext v ah1
  cases soSO ah1 v <;> simp
@[simp] theorem w_psN {PP : List (AK × AV) → AH → Prop} : wx E (gPs [] env ah) PP = PP [] ah := rfl
@[simp] theorem w_psC {gs : List (GE × GE)} {PP : List (AK × AV) → AH → Prop} : wx E (gPs ((a, b) :: gs) env ah) PP = wx E (a env ah) fun kv ah1 => wx E (b env ah1) fun vv ah2 => wx E (lift1 (keyA kv) ah2) fun q _ => wx E (gPs gs env ah2) fun ps ah3 => PP ((q, vv) :: ps) ah3 := by
  simp only [gPs, wp_rb]
  congr 1; funext v ah1
  congr 1; funext w ah2
  cases keyA v <;> simp
@[simp] theorem w_disp {gs : List (GE × GE)} : wx E (gDisp gs env ah) P = wx E (gPs gs env ah) fun ps ah1 => P (.dk (mergeA [] ps)) ah1 := by simp [gDisp]
@[simp] theorem w_dispH {gs : List (GE × GE)} : wx E (gDispH gs env ah) P = wx E (gPs gs env ah) fun ps ah1 => P (.ref ah1.length) (ah1 ++ [.dk (mergeA [] ps)]) := by simp [gDispH]
@[simp] theorem kA_s {s : List Nat} : keyA (.str s) = some (.inr s) := rfl
@[simp] theorem kA_i {s : Int} : keyA (.int s) = some (.inl s) := rfl
@[simp] theorem o_revL {l : List AV} : revO ah (.lst l) = some (.lst l.reverse) := rfl
@[simp] theorem o_revF {l : List AV} : revO ah (.fl l) = some (.lst l.reverse) := rfl
@[simp] theorem w_m1 {f : O1} : wx E (gM1 f a env ah) P = wx E (a env ah) fun v ah1 => wx E (lift1 (f ah1 v) ah1) P := by simp [gM1]
@[simp] theorem o_tin {t : Tb} {s : List Nat} : tInO t ah (.str s) = some (.bl (tget t s).isSome) := rfl
@[simp] theorem o_tix {t : Tb} {s : List Nat} : tIxO t ah (.str s) = tget t s := rfl
@[simp] theorem o_tget1 {t : Tb} {s : List Nat} : tGet1O t ah (.str s) = some ((tget t s).getD .non) := rfl
theorem w_getR : wx E (gGetR a b c env ah) P = wx E (a env ah) fun w ah1 => match dr ah1 w with
    | .dk _ => wx E (b env ah1) fun kv ah2 => wx E (c env ah2) fun dv ah3 => match dr ah3 w with
      | .dk l => wx E (lift1 (keyA kv) ah3) fun q _ => P ((lookK l q).getD dv) ah3
      | _ => False
    | _ => False := by
  simp only [gGetR, wp_rb]
  congr 1; funext w ah1
  cases dr ah1 w <;> first | rfl | skip
  simp only [wp_rb]
  congr 1; funext kv ah2
  congr 1; funext dv ah3
  cases dr ah3 w <;> first | rfl | skip
  cases keyA kv <;> simp
theorem o_in1 {v : AV} {l : List AV} {ss : List (List Nat)} (h : s1s l = some ss) : in1O ah v (.lst l) = (hd1 v).map fun o => .bl (in1B ss o) := by
  show ((s1s l).bind fun ss => (hd1 v).map fun o => AV.bl (in1B ss o)) = _
  rw [h]; rfl
@[simp] theorem o_eqSs {s t : List Nat} : eqSO ah (.str t) (.str s) = some (.bl (decide (t = s))) := rfl
theorem o_eqSn {v : AV} {s : List Nat} (h : eqSB s v = some false) : eqSO ah v (.str s) = some (.bl false) := by
  show (eqSB s v).map _ = _
  rw [h]; rfl
@[simp] theorem o_leXi {i j : Int} : leX ah (.int i) (.int j) = some (.bl (decide (i ≤ j))) := rfl
@[simp] theorem o_leXs {i j : List Nat} : leX ah (.str i) (.str j) = some (.bl (!decide (j < i))) := rfl
theorem w_get2 : wx E (gGet2 a b c env ah) P = wx E (a env ah) fun w ah1 => match w with
    | .dk l => wx E (b env ah1) fun kv ah2 => wx E (c env ah2) fun dv ah3 => wx E (lift1 (keyA kv) ah3) fun q _ => P ((lookK l q).getD dv) ah3
    | _ => False := by
  simp only [gGet2, wp_rb]
  congr 1; funext w ah1
  cases w <;> first | rfl | skip
  simp only [wp_rb]
  congr 1; funext kv ah2
  congr 1; funext dv ah3
  cases keyA kv <;> simp
theorem w_addH : wx E (gAddH a b env ah) P = wx E (a env ah) fun v ah1 => wx E (b env ah1) fun w ah2 => match v, w with
    | .lst s, .lst t => s.length + t.length ≤ 1000000 ∧ P (.ref ah2.length) (ah2 ++ [.lst (s ++ t)])
    | _, _ => False := by
  simp only [gAddH, wp_rb]
  congr 1; funext v ah1
  congr 1; funext w ah2
  cases v <;> first | rfl | skip
  cases w <;> first | rfl | skip
  rename_i s t
  by_cases q : s.length + t.length ≤ 1000000 <;> simp [q]
theorem w_get1 : wx E (gGet1 a b env ah) P = wx E (a env ah) fun w ah1 => match w with
    | .dk l => wx E (b env ah1) fun kv ah2 => wx E (lift1 (keyA kv) ah2) fun q _ => P ((lookK l q).getD .non) ah2
    | _ => False := by
  simp only [gGet1, wp_rb]
  congr 1; funext w ah1
  cases w <;> first | rfl | skip
  simp only [wp_rb]
  congr 1; funext kv ah2
  cases keyA kv <;> simp
theorem w_getX : wx E (gGetX a b c env ah) P = wx E (a env ah) fun w ah1 => match w with
    | .dk l => wx E (b env ah1) fun kv ah2 => wx E (c env ah2) fun dv ah3 => match keyA kv with
      | some q => P ((lookK l q).getD dv) ah3
      | none => tupK kv = true ∧ P dv ah3
    | _ => False := by
  simp only [gGetX, wp_rb]
  congr 1; funext w ah1
  cases w <;> first | rfl | skip
  simp only [wp_rb]
  congr 1; funext kv ah2
  congr 1; funext dv ah3
  cases keyA kv with
  | some q => simp
  | none => by_cases q : tupK kv = true <;> simp [q]
@[simp] theorem w_lvals : wx E (gLVals a env ah) P = wx E (a env ah) fun v ah1 => wx E (lift1 (lvA ah1 v) ah1) fun l _ => P (.lst l) ah1 := by
  simp only [gLVals, wp_rb]
  congr 1; funext v ah1
  cases lvA ah1 v <;> simp
@[simp] theorem o_lvD {l : List (AK × AV)} : lvA ah (.dk l) = some (l.map (·.2)) := rfl
@[simp] theorem w_addR : wx E (gAddR a b env ah) P = wx E (a env ah) fun v ah1 => wx E (b env ah1) fun w ah2 => wx E (lift1 (addR ah2 v w) ah2) fun l _ => P (.ref ah2.length) (ah2 ++ [.lst l]) := by
  simp only [gAddR, wp_rb]
  congr 1; funext v ah1
  congr 1; funext w ah2
  cases addR ah2 v w <;> simp
@[simp] theorem w_ext : wx E (gExt a b env ah) P = wx E (a env ah) fun w ah1 => wx E (lift1 (lref ah1 w) ah1) fun n _ => wx E (b env ah1) fun v ah2 => wx E (exA ah2 n v) P := by
  simp only [gExt, wp_rb]
  congr 1; funext v ah1
  cases lref ah1 v <;> simp
theorem o_addRr {n : Nat} {s t : List AV} (h : ah[n]? = some (.lst s)) : addR ah (.ref n) (.lst t) = if s.length + t.length ≤ 1000000 then some (s ++ t) else none := by
  unfold addR; rw [dr_ref h]; rfl
@[simp] theorem o_addRl {s t : List AV} : addR ah (.lst s) (.lst t) = if s.length + t.length ≤ 1000000 then some (s ++ t) else none := rfl
theorem exA_eq {n : Nat} {s t : List AV} (h : ah[n]? = some (.lst s)) (hl : s.length + t.length < 1000000) : exA ah n (.lst t) = .ok .non (ah.set n (.lst (s ++ t))) := by
  unfold exA; rw [h]
  show (if s.length + t.length < 1000000 then _ else _) = _
  rw [if_pos hl]
@[simp] theorem o_mulTT {s : List AV} {k : Int} : mulTO ah (.tup s) (.int k) = if -1000 ≤ k ∧ k ≤ 1000 ∧ s.length ≤ 1000 then some (.tup (List.replicate k.toNat s).flatten) else none := rfl
@[simp] theorem o_mulTL {s : List AV} {k : Int} : mulTO ah (.lst s) (.int k) = mulO ah (.lst s) (.int k) := rfl
@[simp] theorem o_mulTI {s k : Int} : mulTO ah (.int s) (.int k) = mulO ah (.int s) (.int k) := rfl
@[simp] theorem dc_L {l : List AV} : dcR [.lst l] ah = lift1 ((prsA l).map fun ps => mergeA [] ps) ah := rfl
@[simp] theorem dc_T {l : List AV} : dcR [.tup l] ah = lift1 ((prsA l).map fun ps => mergeA [] ps) ah := rfl
@[simp] theorem dc_D {l : List (AK × AV)} : dcR [.dk l] ah = .ok l ah := rfl
@[simp] theorem w_app : wx E (gApp a b env ah) P = wx E (a env ah) fun w ah1 => wx E (lift1 (lref ah1 w) ah1) fun n _ => wx E (b env ah1) fun v ah2 => wx E (apA ah2 n v) P := by
  simp only [gApp, wp_rb]
  congr 1; funext v ah1
  cases lref ah1 v <;> simp
end
section
variable {h : GG} {t : GT} {e : GE} {env : Env}
theorem w_lc {src : Src} (hs : src.1 = none) {I : AH → Prop} {G : AV → Prop} : ∀ (l : List AV) (ah : AH) (P : List AV → AH → Prop), I ah →
    (∀ v ∈ l, ∀ ah, I ah → ∃ env1, h env v = some env1 ∧ wp (t env1 ah) fun b ah1 => if b = true then wp (e env1 ah1) fun x ah2 => I ah2 ∧ G x else I ah1) →
    (∀ r ah', I ah' → (∀ x ∈ r, G x) → r.length ≤ l.length → P r ah') → wp (lcL src h t e env l ah) P
  | [], ah, P, hI, hstep, hP => by
    have : ckS src ah := by unfold ckS; rw [hs]; trivial
    rw [lcL, if_pos this]
    exact hP [] ah hI (by simp) (by simp)
  | v :: l, ah, P, hI, hstep, hP => by
    have : ckS src ah := by unfold ckS; rw [hs]; trivial
    rw [lcL, if_pos this]
    obtain ⟨env1, h1, h2⟩ := hstep v (by simp) ah hI
    rw [h1]
    simp only [wp_rb]
    refine wp_mono h2 fun b ah1 q => ?_
    cases b with
    | true =>
      simp only [if_true, wp_rb] at q ⊢
      refine wp_mono q fun x ah2 q => ?_
      refine w_lc hs (I := I) (G := G) l ah2 _ q.1 (fun w hw => hstep w (by simp [hw])) fun r ah' hI' hr hl => ?_
      exact hP _ _ hI' (by intro y hy; rcases List.mem_cons.mp hy with rfl | hy; exact q.2; exact hr y hy) (by simp; omega)
    | false =>
      simp only [Bool.false_eq_true, if_false] at q ⊢
      refine w_lc hs (I := I) (G := G) l ah1 _ q (fun w hw => hstep w (by simp [hw])) fun r ah' hI' hr hl => ?_
      exact hP _ _ hI' hr (by simp; omega)
/-- exactly: a map, where nothing is changed -/
theorem w_lcX {src : Src} (hs : src.1 = none) {f : AV → Bool} {g : AV → AV} : ∀ (l : List AV) (ah : AH) (P : List AV → AH → Prop),
    (∀ v ∈ l, ∃ env1, h env v = some env1 ∧ wp (t env1 ah) fun b ah1 => ah1 = ah ∧ b = f v ∧ (b = true → wp (e env1 ah) fun x ah2 => ah2 = ah ∧ x = g v)) →
    P ((l.filter f).map g) ah → wp (lcL src h t e env l ah) P
  | [], ah, P, hstep, hP => by
    have : ckS src ah := by unfold ckS; rw [hs]; trivial
    rw [lcL, if_pos this]
    exact hP
  | v :: l, ah, P, hstep, hP => by
    have : ckS src ah := by unfold ckS; rw [hs]; trivial
    rw [lcL, if_pos this]
    obtain ⟨env1, h1, h2⟩ := hstep v (by simp)
    rw [h1]
    simp only [wp_rb]
    refine wp_mono h2 fun b ah1 q => ?_
    obtain ⟨rfl, hb, q⟩ := q
    cases b with
    | true =>
      simp only [if_true, wp_rb]
      refine wp_mono (q rfl) fun x ah2 q2 => ?_
      obtain ⟨rfl, rfl⟩ := q2
      refine w_lcX hs l _ _ (fun w hw => hstep w (by simp [hw])) ?_
      rw [List.filter_cons_of_pos hb.symm] at hP
      exact hP
    | false =>
      simp only [Bool.false_eq_true, if_false]
      refine w_lcX hs l _ _ (fun w hw => hstep w (by simp [hw])) ?_
      rw [List.filter_cons_of_neg (by rw [← hb]; simp)] at hP
      exact hP
theorem w_lcM {γ : Type} {src : Src} (hs : src.1 = none) {m : γ → AV} {f : γ → Bool} {g : γ → AV} : ∀ (l : List γ) (ah : AH) (P : List AV → AH → Prop),
    (∀ v ∈ l, ∃ env1, h env (m v) = some env1 ∧ wp (t env1 ah) fun b ah1 => ah1 = ah ∧ b = f v ∧ (b = true → wp (e env1 ah) fun x ah2 => ah2 = ah ∧ x = g v)) →
    P ((l.filter f).map g) ah → wp (lcL src h t e env (l.map m) ah) P
  | [], ah, P, hstep, hP => by
    have : ckS src ah := by unfold ckS; rw [hs]; trivial
    rw [List.map_nil, lcL, if_pos this]
    exact hP
  | v :: l, ah, P, hstep, hP => by
    have : ckS src ah := by unfold ckS; rw [hs]; trivial
    rw [List.map_cons, lcL, if_pos this]
    obtain ⟨env1, h1, h2⟩ := hstep v (by simp)
    rw [h1]
    simp only [wp_rb]
    refine wp_mono h2 fun b ah1 q => ?_
    obtain ⟨rfl, hb, q⟩ := q
    cases b with
    | true =>
      simp only [if_true, wp_rb]
      refine wp_mono (q rfl) fun x ah2 q2 => ?_
      obtain ⟨rfl, rfl⟩ := q2
      refine w_lcM hs l _ _ (fun w hw => hstep w (by simp [hw])) ?_
      rw [List.filter_cons_of_pos hb.symm] at hP
      exact hP
    | false =>
      simp only [Bool.false_eq_true, if_false]
      refine w_lcM hs l _ _ (fun w hw => hstep w (by simp [hw])) ?_
      rw [List.filter_cons_of_neg (by rw [← hb]; simp)] at hP
      exact hP
end
section
variable {E : ErrS} {N B C : Env → AH → Prop} {R : AV → AH → Prop} {ah : AH} {env : Env} {a b c : GE} {f g : GS} {t : GT}
def wsx (E : ErrS) (r : SRes) (N : Env → AH → Prop) (R : AV → AH → Prop) (B C : Env → AH → Prop) : Prop := match r with
  | .nx env ah => N env ah
  | .rt v ah => R v ah
  | .bk env ah => B env ah
  | .ct env ah => C env ah
  | .exc e env ah => E e env ah
  | .bad => False
abbrev ws (r : SRes) (N : Env → AH → Prop) (R : AV → AH → Prop) (B C : Env → AH → Prop) : Prop := wsx noES r N R B C
@[simp] theorem ws_nx : wsx E (.nx env ah) N R B C = N env ah := rfl
@[simp] theorem ws_rt {v : AV} : wsx E (.rt v ah) N R B C = R v ah := rfl
@[simp] theorem ws_bk : wsx E (.bk env ah) N R B C = B env ah := rfl
@[simp] theorem ws_ct : wsx E (.ct env ah) N R B C = C env ah := rfl
@[simp] theorem ws_bad : wsx E .bad N R B C = False := rfl
@[simp] theorem ws_exc {e : EV} : wsx E (.exc e env ah) N R B C = E e env ah := rfl
@[simp] theorem ws_then {r : SRes} {k : GS} : wsx E (r.andThen k) N R B C = wsx E r (fun env ah => wsx E (k env ah) N R B C) R B C := by cases r <;> rfl
@[simp] theorem ws_sb {α : Type} {r : Res α} {k : α → AH → SRes} : wsx E (sb r env k) N R B C = wx (fun e h => E e env h) r fun v ah1 => wsx E (k v ah1) N R B C := by cases r <;> rfl
@[simp] theorem ws_ite {p : Prop} [Decidable p] {r s : SRes} : wsx E (if p then r else s) N R B C = if p then wsx E r N R B C else wsx E s N R B C := by split <;> rfl
theorem ws_mono {r : SRes} {N' B' C' : Env → AH → Prop} {R' : AV → AH → Prop} (h : wsx E r N R B C) (hn : ∀ e a, N e a → N' e a) (hr : ∀ v a, R v a → R' v a) (hb : ∀ e a, B e a → B' e a) (hc : ∀ e a, C e a → C' e a) : wsx E r N' R' B' C' := by
  cases r with
  | nx e a => exact hn _ _ h
  | rt e a => exact hr _ _ h
  | bk e a => exact hb _ _ h
  | ct e a => exact hc _ _ h
  | exc e env a => exact h
  | bad => exact h.elim
@[simp] theorem s_skip : wsx E (gSkip env ah) N R B C = N env ah := rfl
@[simp] theorem s_break : wsx E (gBreak env ah) N R B C = B env ah := rfl
@[simp] theorem s_cont : wsx E (gCont env ah) N R B C = C env ah := rfl
@[simp] theorem s_seq : wsx E (gSeq f g env ah) N R B C = wsx E (f env ah) (fun env ah => wsx E (g env ah) N R B C) R B C := by simp [gSeq]
@[simp] theorem s_if : wsx E (gIf t f g env ah) N R B C = wx (fun e h => E e env h) (t env ah) fun k ah1 => if k = true then wsx E (f env ah1) N R B C else wsx E (g env ah1) N R B C := by simp [gIf]
@[simp] theorem s_ret : wsx E (gRet a env ah) N R B C = wx (fun e h => E e env h) (a env ah) R := by simp only [gRet, ws_sb]; rfl
@[simp] theorem s_retN : wsx E (gRetN env ah) N R B C = R .non ah := rfl
@[simp] theorem s_drop : wsx E (gDrop a env ah) N R B C = wx (fun e h => E e env h) (a env ah) fun _ ah1 => N env ah1 := by simp only [gDrop, ws_sb]; rfl
@[simp] theorem s_set {i : Nat} : wsx E (gSet i a env ah) N R B C = wx (fun e h => E e env h) (a env ah) fun v ah1 => N (env.set i (some v)) ah1 := by simp only [gSet, ws_sb]; rfl
@[simp] theorem s_asg {h : GG} : wsx E (gAsg a h env ah) N R B C = wx (fun e h => E e env h) (a env ah) fun v ah1 => ∃ env1, h env v = some env1 ∧ N env1 ah1 := by
  simp only [gAsg, ws_sb]
  congr 1; funext v ah1
  cases h env v <;> simp
@[simp] theorem s_store : wsx E (gStore a b c env ah) N R B C = wx (fun e h => E e env h) (a env ah) fun v ah1 => wx (fun e h => E e env h) (b env ah1) fun w ah2 => wx (fun e h => E e env h) (c env ah2) fun k ah3 => wx (fun e h => E e env h) (lift1 (stA ah3 w k v) ah3) fun ah4 _ => N env ah4 := by
  simp only [gStore, ws_sb]
  congr 1; funext v ah1
  congr 1; funext v ah1
  congr 1; funext v ah1
  split <;> simp_all
@[simp] theorem s_for {it : GI} {h : GG} : wsx E (gFor it h f env ah) N R B C = wx (fun e h => E e env h) (it env ah) fun src ah1 => wsx E (forL src h f src.2 env ah1) N R B C := by simp [gFor]
theorem s_forL {src : Src} (hs : src.1 = none) {h : GG} {I : Env → AH → Prop} : ∀ (l : List AV) (env : Env) (ah : AH), I env ah →
    (∀ v ∈ l, ∀ env ah, I env ah → ∃ env1, h env v = some env1 ∧ wsx E (f env1 ah) I R N I) → (∀ env ah, I env ah → N env ah) → wsx E (forL src h f l env ah) N R B C
  | [], env, ah, hI, hstep, hN => by
    have : ckS src ah := by unfold ckS; rw [hs]; trivial
    simp only [forL, if_pos this]
    exact hN _ _ hI
  | v :: l, env, ah, hI, hstep, hN => by
    have : ckS src ah := by unfold ckS; rw [hs]; trivial
    simp only [forL, if_pos this]
    obtain ⟨env1, h1, h2⟩ := hstep v (by simp) env ah hI
    rw [h1]
    have go : ∀ env ah, I env ah → wsx E (forL src h f l env ah) N R B C := fun env ah q => s_forL hs l env ah q (fun w hw => hstep w (by simp [hw])) hN
    show wsx E ((f env1 ah).loop (forL src h f l)) N R B C
    generalize hr : f env1 ah = r at h2
    cases r with
    | nx e a => exact go _ _ h2
    | ct e a => exact go _ _ h2
    | bk e a => exact h2
    | rt e a => exact h2
    | exc e env a => exact h2
    | bad => exact h2.elim
/-- a fixed list, walked out by hand -/
theorem s_forC {src : Src} (hs : src.1 = none) {h : GG} {v : AV} {l : List AV} : wsx E (forL src h f (v :: l) env ah) N R B C = ∃ env1, h env v = some env1 ∧ wsx E (f env1 ah) (fun e a => wsx E (forL src h f l e a) N R B C) R N (fun e a => wsx E (forL src h f l e a) N R B C) := by
  have : ckS src ah := by unfold ckS; rw [hs]; trivial
  simp only [forL, if_pos this]
  cases h env v with
  | none => simp
  | some e1 =>
    simp only [Option.some.injEq, exists_eq_left']
    cases f e1 ah <;> rfl
theorem s_forN {src : Src} (hs : src.1 = none) {h : GG} : wsx E (forL src h f [] env ah) N R B C = N env ah := by
  have : ckS src ah := by unfold ckS; rw [hs]; trivial
  simp only [forL, if_pos this]; rfl
theorem ws_loop {r : SRes} {k : GS} : wsx E (r.loop k) N R B C = wsx E r (fun e a => wsx E (k e a) N R B C) R N (fun e a => wsx E (k e a) N R B C) := by cases r <;> rfl
theorem s_while : wsx E (gWhile t f env ah) N R B C = wx (fun e h => E e env h) (t env ah) fun b ah1 => if b = true then wsx E (f env ah1) (fun e a => wsx E (gWhile t f e a) N R B C) R N (fun e a => wsx E (gWhile t f e a) N R B C) else N env ah1 := by
  rw [gWhile_eq]
  simp only [ws_sb, ws_ite, ws_nx, ws_loop]
theorem s_forK {src : Src} (hs : src.1 = none) {h : GG} {I : Nat → Env → AH → Prop} {m : Nat} : ∀ (l : List AV) (j : Nat) (env : Env) (ah : AH), j + l.length = m → I j env ah →
    (∀ v ∈ l, ∀ j env ah, j < m → I j env ah → ∃ env1, h env v = some env1 ∧ wsx E (f env1 ah) (I (j + 1)) R N (I (j + 1))) → (∀ env ah, I m env ah → N env ah) → wsx E (forL src h f l env ah) N R B C
  | [], j, env, ah, hm, hI, hstep, hN => by
    rw [s_forN hs]
    exact hN _ _ (by rw [← hm]; exact hI)
  | v :: l, j, env, ah, hm, hI, hstep, hN => by
    rw [s_forC hs]
    rw [List.length_cons] at hm
    obtain ⟨env1, h1, h2⟩ := hstep v (by simp) j env ah (by omega) hI
    have go : ∀ env ah, I (j + 1) env ah → wsx E (forL src h f l env ah) N R B C := fun env ah q => s_forK hs l (j + 1) env ah (by omega) q (fun w hw => hstep w (by simp [hw])) hN
    exact ⟨env1, h1, ws_mono h2 go (fun _ _ z => z) (fun _ _ z => z) go⟩
@[simp] theorem s_aug {i : Nat} : wsx E (gAug i a env ah) N R B C = match env[i]? with
    | some (some (.int v)) => wx (fun e h => E e env h) (a env ah) fun w ah1 => onI w fun z => N (env.set i (some (.int (v + z)))) ah1
    | _ => False := by
  unfold gAug
  cases h : env[i]? with
  | none => rfl
  | some o =>
    cases o with
    | none => rfl
    | some u =>
      cases u <;> first | rfl | skip
      simp only [ws_sb]
      congr 1; funext w ah1
      cases w <;> rfl
@[simp] theorem s_raise {x : Str} : wsx E (gRaise x env ah) N R B C = E ⟨x, []⟩ env ah := rfl
theorem s_try {t : RelTab} {c : Str} {i : Nat} {fs : EV → GS} : wsx E (gTry f t c i fs env ah) N R B C = wsx (fun ev env1 ah1 => match relO t ev.cls c with
    | some true => i < env1.length ∧ wsx noES (fs ev (env1.set i none) ah1) (fun env2 => N (env2.set i none)) R (fun env2 => B (env2.set i none)) (fun env2 => C (env2.set i none))
    | some false => E ev env1 ah1
    | none => False) (f env ah) N R B C := by
  unfold gTry
  cases f env ah <;> first | rfl | skip
  rename_i ev env1 ah1
  simp only [ws_exc]
  cases relO t ev.cls c with
  | none => rfl
  | some b =>
    cases b with
    | false => rfl
    | true =>
      by_cases h : i < env1.length
      · simp only [h, if_true, true_and]
        cases fs ev (env1.set i none) ah1 <;> rfl
      · simp only [h, if_false, false_and]; rfl
@[simp] theorem w_isX {t : RelTab} {ys : List Str} {ev : EV} {E : ErrP} : wx E (gIsX t ys ev env ah) R = (ys ≠ [] ∧ ys.all (fun y => (relO t ev.cls y).isSome) = true ∧ wx E (lift1 ((isX t ev ys).map AV.bl) ah) R) := by
  unfold gIsX
  split
  · rename_i h; simp [h]
  · rename_i h
    apply propext
    exact ⟨fun z => z.elim, fun z => h ⟨z.1, z.2.1⟩⟩
@[simp] theorem w_callE {den : DenE} {ev : EV} {E : ErrP} : wx E (gCallE den ev env ah) R = wp (den ev ah) R := by
  unfold gCallE; exact wp_noX
theorem w_funE {n : Nat} {body : EV → GS} {ev : EV} {E : ErrP} (h : ws (body ev (List.replicate n none) ah) (fun _ ah1 => R .non ah1) R (fun _ _ => False) (fun _ _ => False)) : wx E (gFunE n body ev ah) R := by
  unfold gFunE
  revert h
  generalize body ev (List.replicate n none) ah = r
  intro h
  cases r <;> first | exact h | exact h.elim
theorem w_fun {E : ErrP} {np n : Nat} {l : List AV} (hl : l.length = np) (h : wsx (fun e _ h => E e h) (f (l.map some ++ List.replicate (n - l.length) none) ah) (fun _ ah1 => R .non ah1) R (fun _ _ => False) (fun _ _ => False)) : wx E (gFun np n f l ah) R := by
  unfold gFun
  rw [if_pos hl]
  revert h
  generalize f (l.map some ++ List.replicate (n - l.length) none) ah = r
  intro h
  cases r <;> first | exact h | exact h.elim
end
section
variable {ah : AH} {E : ErrP}
@[simp] theorem dr_non : dr ah .non = .non := rfl
@[simp] theorem dr_bl {b : Bool} : dr ah (.bl b) = .bl b := rfl
@[simp] theorem dr_int {i : Int} : dr ah (.int i) = .int i := rfl
@[simp] theorem dr_str {s : List Nat} : dr ah (.str s) = .str s := rfl
@[simp] theorem dr_tup {l : List AV} : dr ah (.tup l) = .tup l := rfl
@[simp] theorem dr_lst {l : List AV} : dr ah (.lst l) = .lst l := rfl
@[simp] theorem dr_dk {l : List (AK × AV)} : dr ah (.dk l) = .dk l := rfl
@[simp] theorem dr_fl {l : List AV} : dr ah (.fl l) = .fl l := rfl
@[simp] theorem o_add {i j : Int} : addO ah (.int i) (.int j) = some (.int (i + j)) := rfl
@[simp] theorem o_addS {s t : List Nat} : addO ah (.str s) (.str t) = if s.length + t.length ≤ 1000000 then some (.str (s ++ t)) else none := rfl
@[simp] theorem o_addT {s t : List AV} : addO ah (.tup s) (.tup t) = if s.length + t.length ≤ 1000000 then some (.tup (s ++ t)) else none := rfl
@[simp] theorem o_addL {s t : List AV} : addO ah (.lst s) (.lst t) = if s.length + t.length ≤ 1000000 then some (.lst (s ++ t)) else none := rfl
@[simp] theorem o_sub {i j : Int} : subO ah (.int i) (.int j) = some (.int (i - j)) := rfl
@[simp] theorem o_mul {i j : Int} : mulO ah (.int i) (.int j) = if (-18446744073709551616 < i ∧ i < 18446744073709551616) ∨ (-18446744073709551616 < j ∧ j < 18446744073709551616) then some (.int (i * j)) else none := rfl
@[simp] theorem o_mulT {s : List AV} {k : Int} : mulO ah (.tup s) (.int k) = if s ≠ [] ∧ 2 ≤ k ∧ k ≤ 1000 ∧ s.length ≤ 1000 then some (.tup (List.replicate k.toNat s).flatten) else none := rfl
@[simp] theorem o_mulS {s : List Nat} {k : Int} : mulO ah (.str s) (.int k) = if 0 ≤ k ∧ k ≤ 1000000 ∧ s.length * k.toNat ≤ 1000000 then some (.str (List.replicate k.toNat s).flatten) else none := rfl
@[simp] theorem o_mulL {s : List AV} {k : Int} : mulO ah (.lst s) (.int k) = if 0 ≤ k ∧ k ≤ 1000000 ∧ s.length * k.toNat ≤ 1000000 then some (.lst (List.replicate k.toNat s).flatten) else none := rfl
theorem o_addR {n : Nat} {s t : List AV} (h : ah[n]? = some (.lst s)) : addO ah (.ref n) (.lst t) = if s.length + t.length ≤ 1000000 then some (.lst (s ++ t)) else none := by
  show (match dr ah (.ref n), dr ah (.lst t) with | .lst s, .lst t => if s.length + t.length ≤ 1000000 then some (AV.lst (s ++ t)) else none | _, _ => none) = _
  rw [dr_ref h]; rfl
@[simp] theorem o_intS {s : List Nat} : intO ah [.str s] = if s ≠ [] ∧ s.all (fun c => decide (48 ≤ c ∧ c ≤ 57)) = true ∧ s.length ≤ 640 then some (.int (PySem.NumText.digitsVal s : Nat)) else none := rfl
@[simp] theorem o_joinL {s : List Nat} {l : List AV} : joinO s ah (.lst l) = (strsA l).bind fun ss => if (ss.map List.length).sum + ss.length * s.length ≤ 1000000 then some (.str (joinA s ss)) else none := by
  show (match (some l).bind strsA with | some ss => _ | none => none) = _
  rw [Option.bind_some]
  cases strsA l <;> rfl
theorem strs_map (ss : List (List Nat)) : strsA (ss.map AV.str) = some ss := by
  induction ss with
  | nil => rfl
  | cons s ss ih =>
    show (strsA (ss.map AV.str)).map (s :: ·) = _
    rw [ih]; rfl
@[simp] theorem o_lu {ss : List (List Nat)} (h : ss.length < 2000) : luO ah (.lst (ss.map .str)) = some (.int (uniqA ss).length) := by
  show (match strsA (ss.map AV.str) with | some ss => if ss.length < 2000 then some (AV.int (uniqA ss).length) else none | none => none) = _
  rw [strs_map]
  show (if ss.length < 2000 then _ else none) = _
  rw [if_pos h]
@[simp] theorem o_revT {l : List AV} : revTO ah (.tup l) = some (.tup l.reverse) := rfl
theorem ints_of {α : Type} (f : α → Int) (l : List α) : intsA (l.map fun v => .int (f v)) = some (l.map f) := by
  induction l with
  | nil => rfl
  | cons v l ih =>
    show (intsA (l.map fun v => .int (f v))).map (f v :: ·) = _
    rw [ih]; rfl
theorem o_max1 {n : Int} {ns : List Int} {l : List AV} (h : intsA l = some (n :: ns)) : max1O ah [.lst l] = some (.int (maxI (n :: ns))) := by
  show (match intsA l with | some (n :: ns) => some (AV.int (maxI (n :: ns))) | _ => none) = _
  rw [h]
theorem o_inRs {s : List Nat} {n : Nat} {l : List AV} (g : ah[n]? = some (.lst l)) (h : l.all flatA = true) : inO ah (.str s) (.ref n) = some (.bl (l.any fun y => eqA y (.str s))) := by
  rcases s with _ | ⟨c, _ | ⟨d, t⟩⟩ <;> (unfold inO; rw [dr_ref g]; simp only [objV]; show (if (true && l.all flatA) = true then _ else if _ then _ else none) = _; rw [h]; rfl)
@[simp] theorem o_inD {s : List Nat} {l : List (AK × AV)} : inO ah (.str s) (.dk l) = some (.bl (lookK l (.inr s)).isSome) := by
  rcases s with _ | ⟨c, _ | ⟨d, t⟩⟩ <;> rfl
@[simp] theorem o_mod {i j : Int} : modO ah (.int i) (.int j) = if 0 < j then some (.int (i % j)) else none := rfl
@[simp] theorem o_fdiv {i j : Int} : fdivO ah (.int i) (.int j) = if 0 < j ∧ j < 10 ^ 100 then some (.int (i / j)) else none := rfl
@[simp] theorem o_pow {i j : Int} : powO ah (.int i) (.int j) = if 0 ≤ j ∧ j ≤ 1000000 ∧ i.natAbs < 18446744073709551616 then some (.int (i ^ j.toNat)) else none := rfl
@[simp] theorem o_lt {i j : Int} : ltO ah (.int i) (.int j) = some (.bl (decide (i < j))) := rfl
@[simp] theorem o_le {i j : Int} : leO ah (.int i) (.int j) = some (.bl (decide (i ≤ j))) := rfl
@[simp] theorem o_gt {i j : Int} : gtO ah (.int i) (.int j) = some (.bl (decide (j < i))) := rfl
@[simp] theorem o_ge {i j : Int} : geO ah (.int i) (.int j) = some (.bl (decide (j ≤ i))) := rfl
@[simp] theorem o_eqI {i j : Int} : eqO ah (.int i) (.int j) = some (.bl (decide (i = j))) := rfl
@[simp] theorem o_eqS {i j : List Nat} : eqO ah (.str i) (.str j) = some (.bl (decide (i = j))) := rfl
@[simp] theorem o_eqB {i j : Bool} : eqO ah (.bl i) (.bl j) = some (.bl (decide (i = j))) := rfl
theorem o_eqL {i j : List AV} : eqO ah (.lst i) (.lst j) = if decide (i.length ≠ j.length) then some (.bl false) else if shA (.lst i) && shA (.lst j) then some (.bl (eqA (.lst i) (.lst j))) else none := rfl
theorem o_eqT {i j : List AV} : eqO ah (.tup i) (.tup j) = if i.isEmpty != j.isEmpty then some (.bl false) else if shA (.tup i) && shA (.tup j) then some (.bl (eqA (.tup i) (.tup j))) else none := rfl
@[simp] theorem o_eqLe {l : List AV} : eqO ah (.lst l) (.lst []) = some (.bl l.isEmpty) := by
  cases l with
  | nil => rfl
  | cons a l => rw [o_eqL, if_pos (by simp)]; rfl
@[simp] theorem o_eqTe {l : List AV} : eqO ah (.tup l) (.tup []) = some (.bl l.isEmpty) := by
  cases l with
  | nil => rfl
  | cons a l => rw [o_eqT, if_pos (by simp)]; rfl
@[simp] theorem o_not {f : O2} {v w : AV} {b : Bool} (h : f ah v w = some (.bl b)) : notO f ah v w = some (.bl (!b)) := by unfold notO; rw [h]
@[simp] theorem wp_not {f : O2} {v w : AV} {P : AV → AH → Prop} : wx E (lift1 (notO f ah v w) ah) P = wx E (lift1 (f ah v w) ah) fun z h => onB z fun b => P (.bl (!b)) h := by
  unfold notO
  cases e : f ah v w with
  | none => rfl
  | some z => cases z <;> rfl
@[simp] theorem o_inS {c : Nat} {t : List Nat} : inO ah (.str [c]) (.str t) = some (.bl (decide (c ∈ t))) := rfl
theorem o_inSt {s : List Nat} {l : List AV} (h : l.all flatA = true) : inO ah (.str s) (.tup l) = some (.bl (l.any fun y => eqA y (.str s))) := by
  rcases s with _ | ⟨c, _ | ⟨d, t⟩⟩ <;> (show (if (true && l.all flatA) = true then _ else none) = _; rw [h]; rfl)
theorem o_inSl {s : List Nat} {l : List AV} (h : l.all flatA = true) : inO ah (.str s) (.lst l) = some (.bl (l.any fun y => eqA y (.str s))) := by
  rcases s with _ | ⟨c, _ | ⟨d, t⟩⟩ <;> (show (if (true && l.all flatA) = true then _ else if _ then _ else none) = _; rw [h]; rfl)
theorem o_inIl {i : Int} {l : List AV} (h : l.all flatA = true) : inO ah (.int i) (.lst l) = some (.bl (l.any fun y => eqA y (.int i))) := by
  show (if (true && l.all flatA) = true then _ else if _ then _ else none) = _
  rw [h]; rfl
theorem o_inTl {a l : List AV} (h : shA (.tup a) = true) (h2 : shA (.lst l) = true) : inO ah (.tup a) (.lst l) = some (.bl (l.any fun y => eqA y (.tup a))) := by
  show (if (false && l.all flatA) = true then some (AV.bl (l.any fun y => eqA y (.tup a))) else if (shA (.tup a) && shA (.lst l)) = true then some (AV.bl (l.any fun y => eqA y (.tup a))) else none) = _
  rw [h, h2]; rfl
@[simp] theorem tr_non : trA ah .non = some false := rfl
@[simp] theorem tr_int {i : Int} : trA ah (.int i) = some (i != 0) := rfl
@[simp] theorem tr_str {s : List Nat} : trA ah (.str s) = if s.length ≤ 1000000 then some (!s.isEmpty) else none := rfl
@[simp] theorem tr_tup {l : List AV} : trA ah (.tup l) = some (!l.isEmpty) := rfl
@[simp] theorem tr_lst {l : List AV} : trA ah (.lst l) = some (!l.isEmpty) := rfl
@[simp] theorem o_ixT {l : List AV} {i : Int} : ixO ah (.tup l) (.int i) = atI l i := rfl
@[simp] theorem o_ixL {l : List AV} {i : Int} : ixO ah (.lst l) (.int i) = atI l i := rfl
@[simp] theorem o_ixF {l : List AV} {i : Int} : ixO ah (.fl l) (.int i) = atI l i := rfl
@[simp] theorem o_ixS {s : List Nat} {i : Int} : ixO ah (.str s) (.int i) = if s.length ≤ 1000000 then (atI s i).map fun c => .str [c] else none := rfl
theorem o_ixR {n : Nat} {l : List AV} {i : Int} (h : ah[n]? = some (.lst l)) : ixO ah (.ref n) (.int i) = atI l i := by
  show (match dr ah (.ref n), (AV.int i) with | .tup l, .int i => atI l i | .lst l, .int i => atI l i | .fl l, .int i => atI l i | .str s, .int i => if s.length ≤ 1000000 then (atI s i).map fun c => .str [c] else none | .dk l, .int i => lookK l (.inl i) | .dk l, .str s => lookK l (.inr s) | _, _ => none) = _
  rw [dr_ref h]; rfl
theorem o_stR {n : Nat} {l : List AV} {i : Int} {v : AV} (h : ah[n]? = some (.lst l)) : stA ah (.ref n) (.int i) v = (ixN l.length i).map fun j => ah.set n (.lst (l.set j v)) := by
  show (match ah[n]? with | some (.lst l) => (stL l (.int i) v).map fun l' => ah.set n (.lst l') | some (.dk l) => (stD l (.int i) v).map fun l' => ah.set n (.dk l') | none => none) = _
  rw [h]
  show ((ixN l.length i).map fun j => l.set j v).map _ = _
  rw [Option.map_map]; rfl
@[simp] theorem o_lenT {l : List AV} : lenO ah [.tup l] = some (.int l.length) := rfl
@[simp] theorem o_lenL {l : List AV} : lenO ah [.lst l] = some (.int l.length) := rfl
@[simp] theorem o_lenF {l : List AV} : lenO ah [.fl l] = some (.int l.length) := rfl
@[simp] theorem o_lenS {l : List Nat} : lenO ah [.str l] = if l.length ≤ 1000000 then some (.int l.length) else none := rfl
@[simp] theorem o_max {i j : Int} : maxO ah [.int i, .int j] = some (.int (if j > i then j else i)) := rfl
@[simp] theorem o_min {i j : Int} : minO ah [.int i, .int j] = some (.int (if j < i then j else i)) := rfl
@[simp] theorem o_int {i : Int} : intO ah [.int i] = some (.int i) := rfl
@[simp] theorem o_intB {b : Bool} : intO ah [.bl b] = some (.int (if b then 1 else 0)) := rfl
@[simp] theorem o_str {i : Int} : strO ah [.int i] = if i.natAbs.log2 < 1920 then some (.str (digA i)) else none := rfl
@[simp] theorem o_tupL {l : List AV} : tupO ah [.lst l] = some (.tup l) := rfl
@[simp] theorem o_tupT {l : List AV} : tupO ah [.tup l] = some (.tup l) := rfl
@[simp] theorem o_lisT {l : List AV} : lisO ah [.tup l] = some l := rfl
@[simp] theorem o_lisL {l : List AV} : lisO ah [.lst l] = some l := rfl
@[simp] theorem o_all {l : List AV} : allO ah [.lst l] = (blsA l).map fun bs => .bl (bs.all id) := rfl
@[simp] theorem o_any {l : List AV} : anyO ah [.lst l] = (blsA l).map fun bs => .bl (bs.any id) := rfl
@[simp] theorem o_slT {l : List AV} {lo hi : Option Int} : slO ah (.tup l) lo hi = some (.tup (cutA l lo hi)) := rfl
@[simp] theorem o_slL {l : List AV} {lo hi : Option Int} : slO ah (.lst l) lo hi = some (.lst (cutA l lo hi)) := rfl
@[simp] theorem o_slS {s : List Nat} {lo hi : Option Int} : slO ah (.str s) lo hi = if s.length ≤ 1000000 then some (.str (cutA s lo hi)) else none := rfl
@[simp] theorem o_up {s : List Nat} : upO ah (.str s) = if s.length ≤ 1000000 then some (.str (upA s)) else none := rfl
@[simp] theorem o_isB {i j : Bool} : isO ah (.bl i) (.bl j) = some (.bl (decide (i = j))) := rfl
@[simp] theorem it_tup {l : List AV} : itA ah (.tup l) = some (none, l) := rfl
@[simp] theorem it_lst {l : List AV} : itA ah (.lst l) = some (none, l) := rfl
@[simp] theorem it_fl {l : List AV} : itA ah (.fl l) = some (none, l) := rfl
@[simp] theorem it_dk {l : List (AK × AV)} : itA ah (.dk l) = some (none, l.map fun p => keyV p.1) := rfl
@[simp] theorem it_str {l : List Nat} : itA ah (.str l) = some (none, l.map fun c => .str [c]) := rfl
@[simp] theorem nm_eq {i : Nat} {env : Env} {v : AV} : gNm i env v = some (env.set i (some v)) := rfl
theorem filter_yes {α : Type} (l : List α) : l.filter (fun _ => true) = l := by simp
theorem bls_map' {γ : Type} (l : List γ) (f : γ → Bool) : blsA (l.map fun v => .bl (f v)) = some (l.map f) := by
  induction l with
  | nil => rfl
  | cons v l ih =>
    show (blsA (l.map fun v => .bl (f v))).map (f v :: ·) = _
    rw [ih]; rfl
theorem bls_map (l : List AV) (f : AV → Bool) : blsA (l.map fun v => .bl (f v)) = some (l.map f) := by
  induction l with
  | nil => rfl
  | cons v l ih =>
    show (blsA (l.map fun v => .bl (f v))).map (f v :: ·) = _
    rw [ih]; rfl
theorem atI_nat {α : Type} (l : List α) (i : Int) (h0 : 0 ≤ i) (h1 : i < l.length) : ∃ v, atI l i = some v ∧ v ∈ l ∧ l[i.toNat]? = some v := by
  have hj : i.toNat < l.length := by omega
  refine ⟨l[i.toNat], ?_, List.getElem_mem hj, List.getElem?_eq_getElem hj⟩
  unfold L2.atI
  have : ixN l.length i = some i.toNat := by
    unfold ixN
    simp [h0, h1]
  rw [this]
  exact List.getElem?_eq_getElem hj
theorem wp_at {α : Type} {l : List α} {i : Int} {P : α → AH → Prop} (h0 : 0 ≤ i) (h1 : i < l.length) (h : ∀ v ∈ l, P v ah) : wx E (lift1 (atI l i) ah) P := by
  obtain ⟨v, e, hm, _⟩ := atI_nat l i h0 h1
  rw [e]; exact h v hm
theorem at0 {α : Type} {a : α} {l : List α} : atI (a :: l) 0 = some a := by
  obtain ⟨v, e, _, q⟩ := atI_nat (a :: l) 0 (by omega) (by simp)
  rw [e]; simpa using q.symm
theorem at1 {α : Type} {a b : α} {l : List α} : atI (a :: b :: l) 1 = some b := by
  obtain ⟨v, e, _, q⟩ := atI_nat (a :: b :: l) 1 (by omega) (by simp; omega)
  rw [e]; simpa using q.symm
end
def Pot (n : Nat) (rest : List AV) (ah : AH) : Prop := ∃ a b : Int, ah[n]? = some (.lst (.int a :: .int b :: rest))
def Same (n : Nat) (ah ah' : AH) : Prop := ah'.length = ah.length ∧ ∀ i, i ≠ n → ah'[i]? = ah[i]?
theorem Same.refl (n : Nat) (ah : AH) : Same n ah ah := ⟨rfl, fun _ _ => rfl⟩
theorem Same.trans {n : Nat} {a b c : AH} (h : Same n a b) (k : Same n b c) : Same n a c := ⟨k.1.trans h.1, fun i hi => (k.2 i hi).trans (h.2 i hi)⟩
theorem Same.set {n : Nat} {ah : AH} {o : HObj} : Same n ah (ah.set n o) := ⟨by simp, fun i hi => by rw [List.getElem?_set_ne (Ne.symm hi)]⟩
noncomputable def takeBody : GS := gSeq (gIf (gTB (gOp gtO (gOp ixO (gVar 0) (gC (.int 0))) (gC (.int 0)))) (gSeq (gSet 2 (gOp modO (gOp ixO (gVar 0) (gC (.int 0))) (gVar 1))) (gSeq (gStore (gOp fdivO (gOp ixO (gVar 0) (gC (.int 0))) (gVar 1)) (gVar 0) (gC (.int 0))) (gRet (gVar 2)))) (gSkip)) (gSeq (gStore (gOp modO (gOp addO (gOp mulO (gOp ixO (gVar 0) (gC (.int 1))) (gC (.int 39373))) (gC (.int 7919))) (gC (.int 2147483629))) (gVar 0) (gC (.int 1))) (gRet (gOp modO (gOp fdivO (gOp modO (gOp mulO (gOp ixO (gVar 0) (gC (.int 1))) (gOp ixO (gVar 0) (gC (.int 1)))) (gC (.int 2147483563))) (gC (.int 11))) (gVar 1))))
noncomputable def takeDen : Den := gFun 2 3 takeBody
theorem w_take {E : ErrP} {n : Nat} {rest : List AV} {ah : AH} {k : Int} {P : AV → AH → Prop} (hp : Pot n rest ah) (hk : 0 < k) (hk2 : k < 10 ^ 100)
    (h : ∀ r ah', 0 ≤ r → r < k → Pot n rest ah' → Same n ah ah' → P (.int r) ah') : wx E (takeDen [.ref n, .int k] ah) P := by
  obtain ⟨a, b, q⟩ := hp
  have hn : n < ah.length := by
    rcases Nat.lt_or_ge n ah.length with h | h
    · exact h
    · rw [List.getElem?_eq_none h] at q; cases q
  refine w_fun rfl ?_
  have i0 : ixN (rest.length + 1 + 1) 0 = some 0 := by unfold ixN; simp; omega
  have i1 : ixN (rest.length + 1 + 1) 1 = some 1 := by unfold ixN; simp; omega
  unfold takeBody
  simp [o_ixR q, at0, at1, o_stR q, hk, hk2, i0, i1]
  by_cases ha : 0 < a
  · simp only [ha, if_true]
    refine ⟨by simpa using hk2, ?_⟩
    exact h _ _ (Int.emod_nonneg _ (by omega)) (Int.emod_lt_of_pos _ hk) ⟨a / k, b, List.getElem?_set_self hn⟩ Same.set
  · simp only [ha, if_false]
    have q2 : (ah.set n (.lst (.int a :: .int ((b * 39373 + 7919) % 2147483629) :: rest)))[n]? = some (.lst (.int a :: .int ((b * 39373 + 7919) % 2147483629) :: rest)) := by simp [hn]
    simp [o_ixR q2, at1, hk]
    refine ⟨by omega, ?_⟩
    exact h _ _ (Int.emod_nonneg _ (by omega)) (Int.emod_lt_of_pos _ hk) ⟨a, _, q2⟩ Same.set
section
variable {E : ErrP} {P : AV → AH → Prop} {PI : Src → AH → Prop} {ah : AH} {env : Env} {fr : GA}
theorem w_callV {t : FTab} {i : Nat} : wx E (gCallV t i fr env ah) P = match env[i]? with
    | some (some (.fn x)) => (match lookF t x with
      | some den => wx E (fr env ah) fun l ah1 => wx E (den l ah1) P
      | none => False)
    | _ => False := by
  unfold gCallV
  rcases h : env[i]? with _ | _ | v
  · rfl
  · rfl
  · cases v <;> first | rfl | skip
    rename_i x
    simp only
    cases lookF t x <;> simp
@[simp] theorem lookF_hd {x : Str} {d : Den} {l : FTab} : lookF ((x, d) :: l) x = some d := by unfold lookF; rw [if_pos rfl]
@[simp] theorem w_enumS : wx E (gEnumS fr env ah) PI = wx E (fr env ah) fun l ah1 => wx E (enSR l ah1) PI := by simp [gEnumS]
@[simp] theorem w_enumSs {s : List Nat} : wx E (enSR [.str s] ah) PI = PI (none, enA 0 (s.map fun c => .str [c])) ah := rfl
@[simp] theorem w_zipX : wx E (gZipX fr env ah) PI = wx E (fr env ah) fun l ah1 => wx E (zipXR l ah1) PI := by simp [gZipX]
end
section
variable {E : ErrS} {N B C : Env → AH → Prop} {R : AV → AH → Prop} {ah : AH} {env : Env} {f g : GS}
theorem s_tryO {t : RelTab} {c : Str} : wsx E (gTryO f t c g env ah) N R B C = wsx (fun ev env1 ah1 => match relO t ev.cls c with
    | some true => wsx noES (g env1 ah1) N R B C
    | some false => E ev env1 ah1
    | none => False) (f env ah) N R B C := by
  unfold gTryO
  cases f env ah with
  | exc ev env1 ah1 =>
    simp only [ws_exc]
    cases relO t ev.cls c with
    | none => rfl
    | some b =>
      cases b with
      | false => rfl
      | true =>
        simp only
        cases g env1 ah1 <;> rfl
  | _ => rfl
end
section
variable {E : ErrP} {P : AV → AH → Prop} {ah : AH} {env : Env} {a : GE}
@[simp] theorem w_litems : wx E (gLItems a env ah) P = wx E (a env ah) fun v ah1 => wx E (lift1 (liA ah1 v) ah1) fun l _ => P (.lst l) ah1 := by
  simp only [gLItems, wp_rb]
  congr 1; funext v ah1
  cases liA ah1 v <;> simp
@[simp] theorem o_liD {l : List (AK × AV)} : liA ah (.dk l) = some (l.map fun p => .tup [keyV p.1, p.2]) := rfl
@[simp] theorem o_abs {i : Int} : absO ah [.int i] = some (.int (if i < 0 then -i else i)) := rfl
theorem w_eattr {t : FldTab} {f : Str} {ev : EV} : wx E (gEAttr t f ev env ah) P = ((ev.cls, f) ∈ t ∧ match ev.fs.lookup f with
    | some v => P v ah
    | none => False) := by
  unfold gEAttr
  split
  · rename_i h
    cases ev.fs.lookup f <;> simp [h]
  · rename_i h; simp [h]
@[simp] theorem w_callH {den : Den} {f : EV → GE} {ev : EV} : wx E (gCallH den f ev env ah) P = wx E (f ev env ah) fun v ah1 => wp (den [v] ah1) P := by
  unfold gCallH
  simp only [wp_rb]
  congr 1; funext v ah1
  exact wp_noX
end
section
variable {E : ErrS} {N B C : Env → AH → Prop} {R : AV → AH → Prop} {ah : AH} {env : Env} {fr : GA} {a b : GE}
@[simp] theorem s_raiseI {x : Str} {fl : List Str} : wsx E (gRaiseI x fl fr env ah) N R B C = wx (fun e h => E e env h) (fr env ah) fun l ah1 => (l.length = fl.length ∧ l.length ≤ 1000) ∧ E ⟨x, fieldsR fl l []⟩ env ah1 := by
  simp only [gRaiseI, ws_sb]
  congr 1; funext l ah1
  split
  · rename_i h
    exact propext ⟨fun z => ⟨h, z⟩, fun z => z.2⟩
  · rename_i h
    show False = _
    simp only [eq_iff_iff, false_iff]
    exact fun z => h z.1
theorem s_divS {i : Nat} : wsx E (gDivS fr a b i env ah) N R B C = wx (fun e h => E e env h) (fr env ah) fun l ah1 => ∃ x y, l = [.int x, .int y] ∧ (0 < y ∧ y < 10 ^ 100) ∧ wx (fun e h => E e env h) (a env ah1) fun o ah2 => wx (fun e h => E e env h) (b env ah2) fun k ah3 => wx (fun e h => E e env h) (lift1 (stA ah3 o k (.int (x / y))) ah3) fun ah4 _ => N (env.set i (some (.int (x % y)))) ah4 := by
  simp only [gDivS, ws_sb]
  congr 1; funext l ah1
  split
  · rename_i x y
    split
    · rename_i h
      simp only [ws_sb]
      apply propext
      constructor
      · intro z
        refine ⟨x, y, rfl, h, ?_⟩
        revert z
        refine fun z => ?_
        refine Eq.mp ?_ z
        congr 1; funext o ah2
        congr 1; funext k ah3
        cases stA ah3 o k (.int (x / y)) <;> rfl
      · rintro ⟨x', y', e, _, z⟩
        cases e
        refine Eq.mp ?_ z
        congr 1; funext o ah2
        congr 1; funext k ah3
        cases stA ah3 o k (.int (x / y)) <;> rfl
    · rename_i h
      show False = _
      simp only [eq_iff_iff, false_iff]
      rintro ⟨x', y', e, z, _⟩
      cases e
      exact h z
  · rename_i h
    show False = _
    simp only [eq_iff_iff, false_iff]
    rintro ⟨x', y', e, _⟩
    exact h _ _ e
end
end G
namespace G
open PySem L2
set_option autoImplicit false
theorem log2_lt' {n k : Nat} (hk : 0 < k) (h : n < 2 ^ k) : n.log2 < k := by
  by_cases e : n = 0
  · subst e; simpa using hk
  · exact (Nat.log2_lt e).mpr h
theorem dig_all (i : Int) : (digA i).all (· < 0x110000) = true := by
  unfold digA
  rw [Str.ofString_eq_toList]
  simp only [List.all_map, List.all_eq_true, Function.comp]
  intro c _
  have := c.valid
  have h2 : c.toNat.isValidChar := this
  unfold Nat.isValidChar at h2
  simp
  omega
theorem dig_len {i : Int} (h : i.natAbs.log2 < 1920) : (digA i).length ≤ i.natAbs.log2 + 2 := by
  have := shown_int_len i h
  simpa [digA, PyData.shown, Str.length] using this
mutual
def tdp : AV → Nat
  | .tup l => tdps l + 1
  | .lst l => tdps l + 1
  | _ => 0
def tdps : List AV → Nat
  | [] => 0
  | v :: l => max (tdp v) (tdps l)
end
theorem tdps_mem {l : List AV} {n : Nat} (h : tdps l < n) : ∀ v ∈ l, tdp v < n := by
  induction l with
  | nil => simp
  | cons v l ih =>
    rw [tdps] at h
    intro w hw
    rcases List.mem_cons.mp hw with rfl | hw
    · omega
    · exact ih (by omega) w hw
theorem tdps_le {l : List AV} {n : Nat} (h : ∀ v ∈ l, tdp v ≤ n) : tdps l ≤ n := by
  induction l with
  | nil => simp [tdps]
  | cons v l ih =>
    rw [tdps]
    have := h v (by simp)
    have := ih fun w hw => h w (by simp [hw])
    omega
mutual
/-- texts of at most k signs, tuples and lists of at most k parts, nothing of ours -/
def okN (k : Nat) : AV → Bool
  | .str s => decide (s.length ≤ k)
  | .tup l => decide (l.length ≤ k) && okNs k l
  | .lst l => decide (l.length ≤ k) && okNs k l
  | .ref _ => false
  | .fn _ => false
  | .fl _ => false
  | _ => true
def okNs (k : Nat) : List AV → Bool
  | [] => true
  | v :: l => okN k v && okNs k l
end
theorem okNs_mem {k : Nat} {l : List AV} (h : okNs k l = true) : ∀ v ∈ l, okN k v = true := by
  induction l with
  | nil => simp
  | cons v l ih =>
    rw [okNs, Bool.and_eq_true] at h
    intro w hw
    rcases List.mem_cons.mp hw with rfl | hw
    · exact h.1
    · exact ih h.2 w hw
theorem okNs_of {k : Nat} {l : List AV} (h : ∀ v ∈ l, okN k v = true) : okNs k l = true := by
  induction l with
  | nil => rfl
  | cons v l ih => rw [okNs, h v (by simp), ih fun w hw => h w (by simp [hw])]; rfl
def mdB (c : Bool) : Md := if c then .m else .l
@[simp] theorem mdB_lst {c : Bool} : (mdB c).lst = true := by cases c <;> rfl
/-- c: whether dicts stand in it -/
structure Sz (c : Bool) (k L d : Nat) (v : AV) : Prop where
  ok : okR (mdB c) v = true
  len : lenR v ≤ L
  dep : depR v ≤ d
  okn : okN k v = true
  td : tdp v ≤ d
theorem Sz.mono {c : Bool} {k L d L' d' : Nat} {v : AV} (h : Sz c k L d v) (hL : L ≤ L') (hd : d ≤ d') : Sz c k L' d' v := ⟨h.ok, Nat.le_trans h.len hL, Nat.le_trans h.dep hd, h.okn, Nat.le_trans h.td hd⟩
theorem Sz.rep {c : Bool} {k L d : Nat} {v : AV} (h : Sz c k L d v) (hL : L ≤ 16000000) (hd : d ≤ 150) : repOk v = true := by
  unfold repOk
  have h1 := Nat.le_trans h.len hL
  have h2 := Nat.le_trans h.dep hd
  have h3 : okR .m v = true := okR_m _ v h.ok
  simp [h1, h2, h3]
theorem Sz.int {c : Bool} {k L d : Nat} {i : Int} (h : i.natAbs < 2 ^ 200) (hL : 210 ≤ L) : Sz c k L d (.int i) := by
  have := log2_lt' (by decide) h
  exact ⟨decide_eq_true (by omega), by simp [lenR]; omega, by simp [depR], rfl, by simp [tdp]⟩
theorem Sz.bl {c : Bool} {k L d : Nat} {b : Bool} (hL : 5 ≤ L) : Sz c k L d (.bl b) := ⟨rfl, by simpa [lenR] using hL, by simp [depR], rfl, by simp [tdp]⟩
theorem Sz.non {c : Bool} {k L d : Nat} (hL : 5 ≤ L) : Sz c k L d .non := ⟨rfl, by simp [lenR]; omega, by simp [depR], rfl, by simp [tdp]⟩
theorem Sz.str {c : Bool} {k L d : Nat} {s : List Nat} (h : s.all (· < 0x110000) = true) (hk : s.length ≤ k) (hL : 10 * s.length + 2 ≤ L) : Sz c k L d (.str s) := ⟨h, by simpa [lenR] using hL, by simp [depR], decide_eq_true hk, by simp [tdp]⟩
theorem Sz.dk0 {k L d : Nat} (hL : 3 ≤ L) (hd : 1 ≤ d) : Sz true k L d (.dk []) := ⟨rfl, by simpa [lenR, lenRk] using hL, by simpa [depR, depRk] using hd, rfl, by simp [tdp]⟩
theorem szs {c : Bool} {k L d : Nat} {l : List AV} (h : ∀ v ∈ l, Sz c k L d v) : okRs (mdB c) l = true ∧ lenRs l ≤ l.length * (L + 2) ∧ depRs l ≤ d := by
  induction l with
  | nil => exact ⟨rfl, by simp [lenRs], by simp [depRs]⟩
  | cons v l ih =>
    obtain ⟨h1, h2, h3⟩ := ih fun w hw => h w (by simp [hw])
    have := h v (by simp)
    refine ⟨by rw [okRs, this.ok, h1]; rfl, ?_, ?_⟩
    · rw [lenRs, List.length_cons, Nat.succ_mul]
      have := this.len
      omega
    · rw [depRs]
      have := this.dep
      omega
theorem Sz.tup {c : Bool} {k L d n L' : Nat} {l : List AV} (h : ∀ v ∈ l, Sz c k L d v) (hn : l.length ≤ n) (hk : n ≤ k) (hL : n * (L + 2) + 3 ≤ L') : Sz c k L' (d + 1) (.tup l) := by
  obtain ⟨h1, h2, h3⟩ := szs h
  have h4 : l.length * (L + 2) ≤ n * (L + 2) := Nat.mul_le_mul_right _ hn
  refine ⟨h1, by rw [lenR]; omega, by rw [depR]; omega, ?_, ?_⟩
  · rw [okN, okNs_of fun v hv => (h v hv).okn, decide_eq_true (by omega)]; rfl
  · rw [tdp]
    have := tdps_le fun v hv => (h v hv).td
    omega
theorem Sz.lst {c : Bool} {k L d n L' : Nat} {l : List AV} (h : ∀ v ∈ l, Sz c k L d v) (hn : l.length ≤ n) (hk : n ≤ k) (hL : n * (L + 2) + 3 ≤ L') : Sz c k L' (d + 1) (.lst l) := by
  obtain ⟨h1, h2, h3⟩ := szs h
  have h4 : l.length * (L + 2) ≤ n * (L + 2) := Nat.mul_le_mul_right _ hn
  refine ⟨by rw [okR, h1, mdB_lst]; rfl, by rw [lenR]; omega, by rw [depR]; omega, ?_, ?_⟩
  · rw [okN, okNs_of fun v hv => (h v hv).okn, decide_eq_true (by omega)]; rfl
  · rw [tdp]
    have := tdps_le fun v hv => (h v hv).td
    omega
theorem Sz.pair {c : Bool} {k L1 L2 d : Nat} {a b : AV} (h1 : Sz c k L1 d a) (h2 : Sz c k L2 d b) (hk : 2 ≤ k) : Sz c k (L1 + L2 + 7) (d + 1) (.tup [a, b]) := by
  have e1 := h1.len
  have e2 := h2.len
  have e3 := h1.dep
  have e4 := h2.dep
  have e5 := h1.td
  have e6 := h2.td
  exact ⟨by simp [okR, okRs, h1.ok, h2.ok], by simp [lenR, lenRs]; omega, by simp [depR, depRs]; omega, by simp [okN, okNs, h1.okn, h2.okn]; omega, by simp [tdp, tdps]; omega⟩
theorem Sz.one {c : Bool} {k L d : Nat} {a : AV} (h1 : Sz c k L d a) (hk : 1 ≤ k) : Sz c k (L + 5) (d + 1) (.tup [a]) := by
  have e1 := h1.len
  have e3 := h1.dep
  have e5 := h1.td
  exact ⟨by simp [okR, okRs, h1.ok], by simp [lenR, lenRs]; omega, by simp [depR, depRs]; omega, by simp [okN, okNs, h1.okn]; omega, by simp [tdp, tdps]; omega⟩
theorem dr_okN {ah : AH} {k : Nat} {v : AV} (h : okN k v = true) : dr ah v = v := by
  cases v <;> first | rfl | (have h' : false = true := h; exact (nomatch h'))
theorem Pot.lt {n : Nat} {r : List AV} {ah : AH} (h : Pot n r ah) : n < ah.length := by
  obtain ⟨a, b, q⟩ := h
  rcases Nat.lt_or_ge n ah.length with h | h
  · exact h
  · rw [List.getElem?_eq_none h] at q; cases q
theorem Pot.app {n : Nat} {r : List AV} {ah x : AH} (h : Pot n r ah) : Pot n r (ah ++ x) := by
  have hl := h.lt
  obtain ⟨a, b, q⟩ := h
  exact ⟨a, b, by rw [List.getElem?_append_left hl]; exact q⟩
theorem Pot.set {n m : Nat} {r : List AV} {ah : AH} {o : HObj} (h : Pot n r ah) (hm : m ≠ n) : Pot n r (ah.set m o) := by
  obtain ⟨a, b, q⟩ := h
  exact ⟨a, b, by rw [List.getElem?_set_ne hm]; exact q⟩
theorem o_eqR {ah : AH} {n : Nat} {l l' : List AV} (h : ah[n]? = some (.lst l)) : eqO ah (.ref n) (.lst l') = eqO ah (.lst l) (.lst l') := by
  show (match dkE (dr ah (.ref n)) (.lst l') with | some b => some (AV.bl b) | none => if lenNe (dr ah (.ref n)) (.lst l') = true then some (AV.bl false) else if (shA (dr ah (.ref n)) && shA (.lst l')) = true then some (AV.bl (eqA (dr ah (.ref n)) (.lst l'))) else none) = _
  rw [dr_ref h]; rfl
theorem isi_refL {ah : AH} {n : Nat} {l : List AV} (h : ah[n]? = some (.lst l)) : isiA ah (.ref n) .list = some true := by
  unfold isiA
  rw [dr_ref h]; rfl
mutual
theorem eqA_refl : ∀ v : AV, okA v = true → eqA v v = true
  | .non, _ => rfl
  | .bl b, _ => by simp [eqA]
  | .int i, _ => by simp [eqA]
  | .str s, _ => by simp [eqA]
  | .tup l, h => by rw [eqA]; exact eqAs_refl l h
  | .lst l, h => by rw [eqA]; exact eqAs_refl l h
  | .dk _, h => (nomatch (show false = true from h))
  | .fl _, h => (nomatch (show false = true from h))
  | .ref _, h => (nomatch (show false = true from h))
  | .fn _, h => (nomatch (show false = true from h))
theorem eqAs_refl : ∀ l : List AV, okAs l = true → eqAs l l = true
  | [], _ => rfl
  | v :: l, h => by
    rw [okAs, Bool.and_eq_true] at h
    rw [eqAs, eqA_refl v h.1, eqAs_refl l h.2]; rfl
end
mutual
theorem okA_of : ∀ v : AV, okR .l v = true → okA v = true
  | .non, _ => rfl
  | .bl b, _ => rfl
  | .int i, _ => rfl
  | .str s, h => h
  | .tup l, h => okAs_of l h
  | .lst l, h => okAs_of l (by rw [okR, Bool.and_eq_true] at h; exact h.2)
  | .dk _, h => by rw [okR] at h; exact absurd h (by simp [Md.dk])
  | .fl _, h => (nomatch (show false = true from h))
  | .ref _, h => (nomatch (show false = true from h))
  | .fn _, h => (nomatch (show false = true from h))
theorem okAs_of : ∀ l : List AV, okRs .l l = true → okAs l = true
  | [], _ => rfl
  | v :: l, h => by
    rw [okRs, Bool.and_eq_true] at h
    rw [okAs, okA_of v h.1, okAs_of l h.2]; rfl
end
mutual
theorem depA_le : ∀ v : AV, depthA v ≤ depR v
  | .non => by simp [depthA]
  | .bl b => by simp [depthA]
  | .int i => by simp [depthA]
  | .str s => by simp [depthA]
  | .tup l => by rw [depthA, depR]; have := depAs_le l; omega
  | .lst l => by rw [depthA, depR]; have := depAs_le l; omega
  | .dk _ => by simp [depthA]
  | .fl _ => by simp [depthA]
  | .ref _ => by simp [depthA]
  | .fn _ => by simp [depthA]
theorem depAs_le : ∀ l : List AV, depthAs l ≤ depRs l
  | [] => by simp [depthAs]
  | v :: l => by rw [depthAs, depRs]; have := depA_le v; have := depAs_le l; omega
end
theorem Sz.sh {k L d : Nat} {v : AV} (h : Sz false k L d v) (hd : d ≤ 64) : shA v = true := by
  unfold shA
  have h1 := okA_of v h.ok
  have h2 := depA_le v
  have h3 := h.dep
  rw [h1, decide_eq_true (by omega)]; rfl
theorem eqO_same {ah : AH} {l : List AV} (h : shA (.lst l) = true) : eqO ah (.lst l) (.lst l) = some (.bl true) := by
  show (if lenNe (.lst l) (.lst l) = true then some (AV.bl false) else if (shA (.lst l) && shA (.lst l)) = true then some (AV.bl (eqA (.lst l) (.lst l))) else none) = _
  have e : okA (.lst l) = true := by unfold shA at h; rw [Bool.and_eq_true] at h; exact h.1
  rw [h, eqA_refl _ e]
  simp [lenNe]
/-- a comprehension without a test, what is made so far in hand -/
theorem w_lcY {src : Src} (hs : src.1 = none) {h : GG} {e : GE} {env : Env} {I : List AV → AH → Prop} {m : Nat} : ∀ (l acc : List AV) (ah : AH) (P : List AV → AH → Prop), acc.length + l.length = m → I acc ah →
    (∀ v ∈ l, ∀ acc ah, acc.length < m → I acc ah → ∃ env1, h env v = some env1 ∧ wp (e env1 ah) fun x ah2 => I (acc ++ [x]) ah2) →
    (∀ r ah', r.length = l.length → I (acc ++ r) ah' → P r ah') → wp (lcL src h gYes e env l ah) P
  | [], acc, ah, P, hm, hI, hstep, hP => by
    have : ckS src ah := by unfold ckS; rw [hs]; trivial
    rw [lcL, if_pos this]
    exact hP [] ah rfl (by simpa using hI)
  | v :: l, acc, ah, P, hm, hI, hstep, hP => by
    have : ckS src ah := by unfold ckS; rw [hs]; trivial
    rw [lcL, if_pos this]
    rw [List.length_cons] at hm
    obtain ⟨env1, h1, h2⟩ := hstep v (by simp) acc ah (by omega) hI
    rw [h1]
    simp only [wp_rb, w_yes, if_true]
    refine wp_mono h2 fun x ah2 q => ?_
    refine w_lcY hs l (acc ++ [x]) ah2 _ (by simp; omega) q (fun w hw => hstep w (by simp [hw])) fun r ah' hr hI' => ?_
    exact hP (x :: r) ah' (by simp [hr]) (by simpa using hI')
theorem wp_ok' {α : Type} {r : Res α} {P : α → AH → Prop} (h : wp r P) : wp r P := h
@[simp] theorem o_rep {ah : AH} {v : AV} : repO ah [v] = if repOk (dr ah v) then some (.str (repA (dr ah v))) else none := rfl
@[simp] theorem rngA_len {lo : Int} {n : Nat} : (rngA lo n).length = n := by simp [rngA]
theorem rngA_mem {lo : Int} {n : Nat} {v : AV} (h : v ∈ rngA lo n) : ∃ i : Int, v = .int i ∧ lo ≤ i ∧ i < lo + n := by
  unfold rngA at h
  obtain ⟨i, hi, rfl⟩ := List.mem_map.mp h
  have := List.mem_range.mp hi
  exact ⟨_, rfl, by omega, by omega⟩
end G
namespace G
open PySem L2
set_option autoImplicit false
theorem digA_nat (m : Nat) : digA ((m : Nat) : Int) = (Nat.toDigits 10 m).map Char.toNat := PySem.W.KIN.signs_num m
theorem digA_eq {i : Int} (h : 0 ≤ i) : digA i = (Nat.toDigits 10 i.toNat).map Char.toNat := by
  rw [← digA_nat, Int.toNat_of_nonneg h]
theorem digA_figs {i : Int} (h : 0 ≤ i) : ∀ c ∈ digA i, 48 ≤ c ∧ c ≤ 57 := by
  intro c hc
  rw [digA_eq h] at hc
  obtain ⟨ch, hch, rfl⟩ := List.mem_map.mp hc
  exact PyProof.Rows.digit_range (Nat.isDigit_of_mem_toDigits (by decide) (by decide) hch)
theorem digA_val {i : Int} (h : 0 ≤ i) : PySem.NumText.digitsVal (digA i) = i.toNat := by
  rw [digA_eq h]
  exact PySem.W.KIN.val_back _
theorem digA_ne {i : Int} (h : 0 ≤ i) : digA i ≠ [] := by
  rw [digA_eq h]
  intro e
  exact Nat.toDigits_ne_nil (List.map_eq_nil_iff.mp e)
theorem digA_inj {i j : Int} (hi : 0 ≤ i) (hj : 0 ≤ j) (h : digA i = digA j) : i = j := by
  have := digA_val hi
  rw [h, digA_val hj] at this
  omega
/-- signs that stand in a repr as they are -/
def simC (c : Nat) : Bool := decide (32 ≤ c) && decide (c ≤ 126) && decide (c ≠ 39) && decide (c ≠ 92)
theorem simC_print : ∀ c, c < 127 → simC c = true → Builtin.Str.reprChar 39 c = [c] := by decide +kernel
theorem sim_repr {c : Nat} (h : simC c = true) : Builtin.Str.reprChar 39 c = [c] := simC_print c (by simp [simC] at h; omega) h
theorem sim_fold : ∀ (s : List Nat) (acc : Array Nat), s.all simC = true → (s.foldl (fun out c => out ++ (Builtin.Str.reprChar 39 c).toArray) acc).toList = acc.toList ++ s
  | [], acc, _ => by simp
  | c :: s, acc, h => by
    rw [List.all_cons, Bool.and_eq_true] at h
    rw [List.foldl_cons, sim_fold s _ h.2, sim_repr h.1]
    simp
theorem shown_sim {s : List Nat} (h : s.all simC = true) : (PyData.shown (.str (mkS s))).cps.toList = 39 :: s ++ [39] := by
  have q : reprQuote (mkS s) = 39 := by
    unfold reprQuote
    have : (mkS s).cps.contains 39 = false := by
      have : ¬ 39 ∈ s := fun z => by
        have := List.all_eq_true.mp h 39 z
        revert this; decide
      simpa [mkS] using this
    rw [this]; rfl
  show (Array.push ((mkS s).cps.foldl (fun out c => out ++ (Builtin.Str.reprChar (reprQuote (mkS s)) c).toArray) #[reprQuote (mkS s)]) (reprQuote (mkS s))).toList = _
  rw [q, Array.toList_push, ← Array.foldl_toList]
  rw [mkS_list, sim_fold s _ h]
  simp
mutual
/-- plain data: numbers from 0 on, truths, texts of simple signs, tuples of such -/
def plA : AV → Bool
  | .int i => decide (0 ≤ i)
  | .bl _ => true
  | .str s => s.all simC
  | .tup l => plAs l
  | _ => false
def plAs : List AV → Bool
  | [] => true
  | v :: l => plA v && plAs l
end
theorem plAs_all {l : List AV} : plAs l = true ↔ ∀ v ∈ l, plA v = true := by
  induction l with
  | nil => simp [plAs]
  | cons v l ih => rw [plAs, Bool.and_eq_true, ih]; simp
mutual
def shA' : AV → List Nat
  | .int i => digA i
  | .bl b => if b then [84, 114, 117, 101] else [70, 97, 108, 115, 101]
  | .str s => 39 :: (s ++ [39])
  | .tup l => 40 :: (shIn l ++ [41])
  | _ => []
def shIn : List AV → List Nat
  | [] => []
  | v :: l => shA' v ++ (if l.isEmpty then [44] else shMore l)
def shMore : List AV → List Nat
  | [] => []
  | v :: l => 44 :: 32 :: (shA' v ++ shMore l)
end
theorem apS (a b : Str) : (a ++ b).cps.toList = a.cps.toList ++ b.cps.toList := by
  show (Str.append a b).cps.toList = _
  simp [Str.append]
theorem sepS : ((", " : String) : Str).cps.toList = [44, 32] := by decide +kernel
theorem parL : (("(" : String) : Str).cps.toList = [40] := by decide +kernel
theorem parR : ((")" : String) : Str).cps.toList = [41] := by decide +kernel
theorem parR1 : ((",)" : String) : Str).cps.toList = [44, 41] := by decide +kernel
mutual
theorem shown_pl : ∀ v : AV, plA v = true → (toD v).shown.cps.toList = shA' v
  | .int i, _ => rfl
  | .bl true, _ => by decide +kernel
  | .bl false, _ => by decide +kernel
  | .str s, h => by rw [shA']; exact shown_sim h
  | .tup l, h => by
    show (tupleText (PyData.shownAll (toDs l))).cps.toList = _
    unfold tupleText
    rw [apS, apS]
    rw [parL]
    rw [shA']
    cases l with
    | nil => decide +kernel
    | cons v l =>
      rw [plA, plAs, Bool.and_eq_true] at h
      cases l with
      | nil =>
        show [40] ++ (toD v).shown.cps.toList ++ _ = _
        rw [shown_pl v h.1, shIn]
        show [40] ++ _ ++ (((",)" : String) : Str)).cps.toList = _
        rw [parR1]
        simp
      | cons w l =>
        have e := shown_more (v :: w :: l) (by rw [plAs, h.1, h.2]; rfl)
        show [40] ++ (Str.join ", " (PyData.shownAll (toDs (v :: w :: l)))).cps.toList ++ (((")" : String) : Str)).cps.toList = _
        rw [parR, shIn]
        rw [shMore] at e
        have e2 : (44 :: 32 :: (Str.join ", " (PyData.shownAll (toDs (v :: w :: l)))).cps.toList) = 44 :: 32 :: (shA' v ++ shMore (w :: l)) := e
        have e3 := (List.cons.inj (List.cons.inj e2).2).2
        rw [e3]
        simp
theorem shown_more : ∀ l : List AV, plAs l = true → (match l with | [] => [] | _ :: _ => 44 :: 32 :: (Str.join ", " (PyData.shownAll (toDs l))).cps.toList) = shMore l
  | [], _ => rfl
  | [v], h => by
    rw [plAs, Bool.and_eq_true] at h
    show 44 :: 32 :: (toD v).shown.cps.toList = _
    rw [shown_pl v h.1, shMore, shMore]
    simp
  | v :: w :: l, h => by
    rw [plAs, Bool.and_eq_true] at h
    have e : (44 :: 32 :: (Str.join ", " (PyData.shownAll (toDs (w :: l)))).cps.toList) = shMore (w :: l) := shown_more (w :: l) h.2
    show 44 :: 32 :: ((toD v).shown ++ ((", " : String) : Str) ++ Str.join ", " (PyData.shownAll (toDs (w :: l)))).cps.toList = _
    rw [apS, apS, sepS, shown_pl v h.1, shMore, ← e]
    simp
end
def stopL (s : List Nat) : Prop := s = [] ∨ (∃ t, s = 44 :: t) ∨ ∃ t, s = 41 :: t
theorem figs_cut : ∀ {a b s t : List Nat}, (∀ c ∈ a, 48 ≤ c ∧ c ≤ 57) → (∀ c ∈ b, 48 ≤ c ∧ c ≤ 57) → stopL s → stopL t → a ++ s = b ++ t → a = b ∧ s = t
  | [], [], _, _, _, _, _, _, h => ⟨rfl, h⟩
  | [], d :: b, s, t, _, hb, hs, _, h => by
    have := hb d (by simp)
    rcases hs with rfl | ⟨u, rfl⟩ | ⟨u, rfl⟩ <;> simp at h <;> omega
  | c :: a, [], s, t, ha, _, _, ht, h => by
    have := ha c (by simp)
    rcases ht with rfl | ⟨u, rfl⟩ | ⟨u, rfl⟩ <;> simp at h <;> omega
  | c :: a, d :: b, s, t, ha, hb, hs, ht, h => by
    rw [List.cons_append, List.cons_append] at h
    obtain ⟨e1, e2⟩ := List.cons.inj h
    obtain ⟨q1, q2⟩ := figs_cut (fun x hx => ha x (by simp [hx])) (fun x hx => hb x (by simp [hx])) hs ht e2
    exact ⟨by rw [e1, q1], q2⟩
theorem quote_cut : ∀ {a b s t : List Nat}, 39 ∉ a → 39 ∉ b → a ++ 39 :: s = b ++ 39 :: t → a = b ∧ s = t
  | [], [], _, _, _, _, h => ⟨rfl, (List.cons.inj h).2⟩
  | [], d :: b, s, t, _, hb, h => by
    obtain ⟨e1, _⟩ := List.cons.inj h
    exact absurd (by rw [e1]; simp) hb
  | c :: a, [], s, t, ha, _, h => by
    obtain ⟨e1, _⟩ := List.cons.inj h
    exact absurd (by rw [e1]; simp) ha
  | c :: a, d :: b, s, t, ha, hb, h => by
    obtain ⟨e1, e2⟩ := List.cons.inj h
    obtain ⟨q1, q2⟩ := quote_cut (fun z => ha (by simp [z])) (fun z => hb (by simp [z])) e2
    exact ⟨by rw [e1, q1], q2⟩
theorem sim_no {s : List Nat} (h : s.all simC = true) : 39 ∉ s := fun z => by
  have := List.all_eq_true.mp h 39 z
  revert this; decide
/-- by its first sign one knows what it is -/
def kindOf : AV → Nat
  | .int _ => 0
  | .bl true => 1
  | .bl false => 2
  | .str _ => 3
  | .tup _ => 4
  | _ => 5
theorem sh_head {v : AV} (h : plA v = true) : ∃ c t, shA' v = c :: t ∧ (kindOf v = 0 → 48 ≤ c ∧ c ≤ 57) ∧ (kindOf v = 1 → c = 84) ∧ (kindOf v = 2 → c = 70) ∧ (kindOf v = 3 → c = 39) ∧ (kindOf v = 4 → c = 40) ∧ kindOf v < 5 := by
  cases v with
  | int i =>
    have h0 : 0 ≤ i := of_decide_eq_true h
    have := digA_ne h0
    have f := digA_figs h0
    rw [shA']
    cases q : digA i with
    | nil => exact absurd q this
    | cons c t => exact ⟨c, t, rfl, fun _ => f c (by rw [q]; simp), by simp [kindOf]⟩
  | bl b => cases b <;> exact ⟨_, _, rfl, by simp [kindOf]⟩
  | str s => exact ⟨39, _, rfl, by simp [kindOf]⟩
  | tup l => exact ⟨40, _, rfl, by simp [kindOf]⟩
  | _ => exact absurd h (by simp [plA])
mutual
theorem sh_uniq : ∀ (v w : AV) (s t : List Nat), plA v = true → plA w = true → stopL s → stopL t → shA' v ++ s = shA' w ++ t → v = w ∧ s = t
  | v, w, s, t, hv, hw, hs, ht, h => by
    obtain ⟨c, a, e1, k1⟩ := sh_head hv
    obtain ⟨d, b, e2, k2⟩ := sh_head hw
    have hk : kindOf v = kindOf w := by
      have hcd : c = d := by rw [e1, e2] at h; exact (List.cons.inj h).1
      omega
    clear k1 k2 e1 e2
    cases v with
    | int i =>
      cases w with
      | int j =>
        have hi : 0 ≤ i := of_decide_eq_true hv
        have hj : 0 ≤ j := of_decide_eq_true hw
        rw [shA', shA'] at h
        obtain ⟨q1, q2⟩ := figs_cut (digA_figs hi) (digA_figs hj) hs ht h
        exact ⟨by rw [digA_inj hi hj q1], q2⟩
      | bl b => cases b <;> exact absurd hk (by simp [kindOf])
      | _ => exact absurd hk (by simp [kindOf])
    | bl b =>
      cases w with
      | bl b' =>
        have e : b = b' := by cases b <;> cases b' <;> simp [kindOf] at hk ⊢
        subst e
        exact ⟨rfl, List.append_cancel_left h⟩
      | _ => cases b <;> exact absurd hk (by simp [kindOf])
    | str x =>
      cases w with
      | str y =>
        rw [shA', shA'] at h
        have h2 : x ++ 39 :: s = y ++ 39 :: t := by simpa using h
        obtain ⟨q1, q2⟩ := quote_cut (sim_no hv) (sim_no hw) h2
        exact ⟨by rw [q1], q2⟩
      | bl b => cases b <;> exact absurd hk (by simp [kindOf])
      | _ => exact absurd hk (by simp [kindOf])
    | tup l =>
      cases w with
      | tup l' =>
        rw [shA', shA'] at h
        have h2 : shIn l ++ 41 :: s = shIn l' ++ 41 :: t := by simpa using h
        have := sh_uniqs l l' s t hv hw h2
        exact ⟨by rw [this.1], this.2⟩
      | bl b => cases b <;> exact absurd hk (by simp [kindOf])
      | _ => exact absurd hk (by simp [kindOf])
    | _ => exact absurd hv (by simp [plA])
  termination_by v _ _ _ => (sizeOf v, 0)
theorem sh_uniqs : ∀ (l l' : List AV) (s t : List Nat), plAs l = true → plAs l' = true → shIn l ++ 41 :: s = shIn l' ++ 41 :: t → l = l' ∧ s = t
  | [], [], s, t, _, _, h => ⟨rfl, by simpa [shIn] using h⟩
  | [], w :: l', s, t, _, hw, h => by
    rw [plAs, Bool.and_eq_true] at hw
    obtain ⟨d, b, e2, k2⟩ := sh_head hw.1
    rw [shIn, shIn, e2] at h
    have := (List.cons.inj h).1
    omega
  | v :: l, [], s, t, hv, _, h => by
    rw [plAs, Bool.and_eq_true] at hv
    obtain ⟨d, b, e2, k2⟩ := sh_head hv.1
    rw [shIn, shIn, e2] at h
    have := (List.cons.inj h).1
    omega
  | v :: l, w :: l', s, t, hv, hw, h => by
    rw [plAs, Bool.and_eq_true] at hv hw
    rw [shIn, shIn, List.append_assoc, List.append_assoc] at h
    have st : ∀ (m : List AV) (u : List Nat), stopL ((if m.isEmpty then [44] else shMore m) ++ 41 :: u) := fun m u => by
      cases m with
      | nil => exact .inr (.inl ⟨_, rfl⟩)
      | cons a m => exact .inr (.inl ⟨_, by rw [shMore]; rfl⟩)
    obtain ⟨q1, q2⟩ := sh_uniq v w _ _ hv.1 hw.1 (st l s) (st l' t) h
    cases l with
    | nil =>
      cases l' with
      | nil => exact ⟨by rw [q1], by simpa using q2⟩
      | cons a m => simp [shMore] at q2
    | cons a m =>
      cases l' with
      | nil => simp [shMore] at q2
      | cons a' m' =>
        have := sh_uniqm (a :: m) (a' :: m') s t hv.2 hw.2 q2
        exact ⟨by rw [q1, this.1], this.2⟩
  termination_by l => (sizeOf l, 1)
theorem sh_uniqm : ∀ (l l' : List AV) (s t : List Nat), plAs l = true → plAs l' = true → shMore l ++ 41 :: s = shMore l' ++ 41 :: t → l = l' ∧ s = t
  | [], [], s, t, _, _, h => ⟨rfl, by simpa [shMore] using h⟩
  | [], w :: l', s, t, _, _, h => by simp [shMore] at h
  | v :: l, [], s, t, _, _, h => by simp [shMore] at h
  | v :: l, w :: l', s, t, hv, hw, h => by
    rw [plAs, Bool.and_eq_true] at hv hw
    rw [shMore, shMore] at h
    have h2 : shA' v ++ (shMore l ++ 41 :: s) = shA' w ++ (shMore l' ++ 41 :: t) := by simpa using h
    have st : ∀ (m : List AV) (u : List Nat), stopL (shMore m ++ 41 :: u) := fun m u => by
      cases m with
      | nil => exact .inr (.inr ⟨_, rfl⟩)
      | cons a m => exact .inr (.inl ⟨_, by rw [shMore]; rfl⟩)
    obtain ⟨q1, q2⟩ := sh_uniq v w _ _ hv.1 hw.1 (st l s) (st l' t) h2
    have := sh_uniqm l l' s t hv.2 hw.2 q2
    exact ⟨by rw [q1, this.1], this.2⟩
  termination_by l => (sizeOf l, 1)
end
theorem rep_inj {v w : AV} (hv : plA v = true) (hw : plA w = true) (h : repA v = repA w) : v = w := by
  unfold repA at h
  rw [shown_pl v hv, shown_pl w hw] at h
  exact (sh_uniq v w [] [] hv hw (.inl rfl) (.inl rfl) (by simpa using h)).1
theorem figs_sim {i : Int} (h : 0 ≤ i) : (digA i).all simC = true := by
  rw [List.all_eq_true]
  intro c hc
  have := digA_figs h c hc
  simp [simC]
  omega
theorem toD_len : ∀ (k m : Nat), m < 10 ^ (k + 1) → (Nat.toDigits 10 m).length ≤ k + 1
  | k, m, h => by
    by_cases h1 : m < 10
    · rw [Nat.toDigits_of_lt_base h1]; simp
    · cases k with
      | zero => simp at h; omega
      | succ k =>
        have t : Nat.toDigits 10 (m / 10) ++ Nat.toDigits 10 (m % 10) = Nat.toDigits 10 (10 * (m / 10) + m % 10) := Nat.toDigits_append_toDigits (by decide) (by omega) (Nat.mod_lt m (by decide))
        rw [Nat.div_add_mod] at t
        rw [← t, List.length_append, Nat.toDigits_of_lt_base (Nat.mod_lt m (by decide))]
        have := toD_len k (m / 10) (by rw [Nat.pow_succ] at h; exact Nat.div_lt_of_lt_mul (by omega))
        simp
        omega
theorem dig_len10 {i : Int} (k : Nat) (h0 : 0 ≤ i) (h : i < ((10 ^ (k + 1) : Nat) : Int)) : (digA i).length ≤ k + 1 := by
  rw [digA_eq h0, List.length_map]
  exact toD_len k i.toNat (by omega)
end G
namespace Law
open PySem L2 G
set_option autoImplicit false
abbrev c_MOST : AV := (.int 1000000000000)
abbrev c_FIGURES : AV := (.str [48, 49, 50, 51, 52, 53, 54, 55, 56, 57])
abbrev c_AHEAD : AV := (.int (-1))
abbrev c_fld : FldTab := [("Stuck", "name"), ("Stuck", "row")]
abbrev c_rel : RelTab := [(("Stuck", "ChangeError"), true), (("Stuck", "NoFit"), false), (("Stuck", "NoLead"), false), (("Stuck", "NotNow"), false), (("Stuck", "NotRight"), false), (("Stuck", "NoText"), false), (("Stuck", "Stuck"), true)]
theorem rel_Stuck_ChangeError : relO c_rel "Stuck" "ChangeError" = some true := by decide +kernel
theorem rel_Stuck_NoFit : relO c_rel "Stuck" "NoFit" = some false := by decide +kernel
theorem rel_Stuck_NoLead : relO c_rel "Stuck" "NoLead" = some false := by decide +kernel
theorem rel_Stuck_NotNow : relO c_rel "Stuck" "NotNow" = some false := by decide +kernel
theorem rel_Stuck_NotRight : relO c_rel "Stuck" "NotRight" = some false := by decide +kernel
theorem rel_Stuck_NoText : relO c_rel "Stuck" "NoText" = some false := by decide +kernel
theorem rel_Stuck_Stuck : relO c_rel "Stuck" "Stuck" = some true := by decide +kernel
noncomputable def body_are_figures : GS := gSeq (gIf (gOrT (gTB (gOp eqO (gVar 0) (gC (.str [])))) (gNotT (gTT (gB allO (gCons (gLcV (gIt (gVar 0)) (gNm 1) (gYes) (gOp inO (gVar 1) (gC c_FIGURES)) [1]) (gNil)))))) (gRet (gC (.bl false))) (gSkip)) (gRet (gOr (gOp eqO (gVar 0) (gC (.str [48]))) (gOp (notO eqO) (gOp ixO (gVar 0) (gC (.int 0))) (gC (.str [48])))))
noncomputable def den_are_figures : Den := gFun 1 2 body_are_figures
noncomputable def body_is_number : GS := gRet (gAnd (gIsi .int (gVar 0)) (gAnd (gNot (gIsi .bool (gVar 0))) (gChain leO ltO (gC (.int 0)) (gVar 0) (gC c_MOST))))
noncomputable def den_is_number : Den := gFun 1 1 body_is_number
noncomputable def body_is_ref : GS := gRet (gAnd (gIsi .str (gVar 0)) (gAnd (gOp eqO (gSl (gVar 0) (gNoP) (gP (gC (.int 1)))) (gC (.str [114]))) (gCall den_are_figures (gCons (gSl (gVar 0) (gP (gC (.int 1))) (gNoP)) (gNil)))))
noncomputable def den_is_ref : Den := gFun 1 1 body_is_ref
noncomputable def bodyR_is_of (den_is_of_ : Den) : GS := gSeq (gIf (gTB (gOp eqO (gOp ixO (gVar 0) (gC (.int 0))) (gC (.str [110, 117, 109, 98, 101, 114])))) (gRet (gCall den_is_number (gCons (gVar 1) (gNil)))) (gSkip)) (gSeq (gIf (gTB (gOp eqO (gOp ixO (gVar 0) (gC (.int 0))) (gC (.str [116, 114, 117, 116, 104])))) (gRet (gIsi .bool (gVar 1))) (gSkip)) (gSeq (gIf (gTB (gOp eqO (gOp ixO (gVar 0) (gC (.int 0))) (gC (.str [108, 105, 115, 116])))) (gRet (gAnd (gIsi .tuple (gVar 1)) (gB allO (gCons (gLcV (gIt (gVar 1)) (gNm 3) (gYes) (gCall den_is_of_ (gCons (gOp ixO (gVar 0) (gC (.int 1))) (gCons (gVar 3) (gCons (gVar 2) (gNil))))) [3]) (gNil))))) (gSkip)) (gRet (gAnd (gCall den_is_ref (gCons (gVar 1) (gNil))) (gAnd (gOp inO (gVar 1) (gVar 2)) (gOp eqO (gOp ixO (gOp ixO (gVar 2) (gVar 1)) (gC (.int 0))) (gOp ixO (gVar 0) (gC (.int 1)))))))))
noncomputable def den_is_of : Nat → Den
  | 0 => fun _ _ => .bad
  | n + 1 => gFun 3 4 (bodyR_is_of (den_is_of n))
noncomputable def body_begun : GS := gSeq (gIf (gTB (gOp (notO inO) (gVar 1) (gOp ixO (gVar 0) (gC (.int 2))))) (gRaiseI "Stuck" ["name", "row"] (gCons (gVar 1) (gCons (gC c_AHEAD) (gNil)))) (gSkip)) (gSeq (gSet 3 (gOp ixO (gOp ixO (gVar 0) (gC (.int 2))) (gVar 1))) (gSeq (gIf (gOrT (gTB (gOp (notO eqO) (gB lenO (gCons (gVar 2) (gNil))) (gB lenO (gCons (gOp ixO (gVar 3) (gC (.int 0))) (gNil))))) (gNotT (gTT (gB allO (gCons (gLcV (gZip (gCons (gOp ixO (gVar 3) (gC (.int 0))) (gCons (gVar 2) (gNil)))) (gTg 2 (gTc (gTg 2 (gTc (gNm 6) (gTc (gNm 7) (gTn)))) (gTc (gNm 8) (gTn)))) (gYes) (gCall (den_is_of 40) (gCons (gVar 7) (gCons (gVar 8) (gCons (gDk0) (gNil))))) [6, 7, 8]) (gNil)))))) (gRaiseI "Stuck" ["name", "row"] (gCons (gVar 1) (gCons (gC c_AHEAD) (gNil)))) (gSkip)) (gSeq (gSet 4 (gDictOfH (gCons (gLcV (gItems (gOp ixO (gVar 0) (gC (.int 1)))) (gTg 2 (gTc (gNm 9) (gTc (gTg 2 (gTc (gNm 7) (gTc (gNm 8) (gTn)))) (gTn)))) (gYes) (gTup (gCons (gVar 9) (gCons (gVar 8) (gNil)))) [9, 7, 8]) (gNil)))) (gSeq (gSet 5 (gDictOfH (gCons (gLcV (gZip (gCons (gOp ixO (gVar 3) (gC (.int 0))) (gCons (gVar 2) (gNil)))) (gTg 2 (gTc (gTg 2 (gTc (gNm 6) (gTc (gNm 7) (gTn)))) (gTc (gNm 8) (gTn)))) (gYes) (gTup (gCons (gVar 6) (gCons (gVar 8) (gNil)))) [6, 7, 8]) (gNil)))) (gRet (gTup (gCons (gVar 4) (gCons (gDk0H) (gCons (gTup (gCons (gTup (gCons (gVar 1) (gCons (gVar 3) (gCons (gC (.int 0)) (gCons (gVar 5) (gNil)))))) (gNil))) (gCons (gTup (gNil)) (gCons (gC .non) (gNil))))))))))))
noncomputable def den_begun : Den := gFun 3 10 body_begun
noncomputable def body__law_nth : GS := gRet (gIfE (gTB (gOp ltO (gVar 1) (gB lenO (gCons (gVar 0) (gNil))))) (gOp ixO (gVar 0) (gVar 1)) (gC (.int 0)))
noncomputable def den__law_nth : Den := gFun 2 2 body__law_nth
noncomputable def body__law_pot : GS := gRet (gLstH (gCons (gOp mulO (gVar 0) (gB intO (gCons (gOp geO (gVar 0) (gOp powO (gC (.int 10)) (gC (.int 18)))) (gNil)))) (gCons (gOp modO (gOp addO (gOp mulO (gVar 0) (gC (.int 48271))) (gC (.int 977))) (gC (.int 2147483647))) (gNil))))
noncomputable def den__law_pot : Den := gFun 1 1 body__law_pot
noncomputable def body__law_take : GS := gSeq (gIf (gTB (gOp gtO (gOp ixO (gVar 0) (gC (.int 0))) (gC (.int 0)))) (gSeq (gSet 2 (gOp modO (gOp ixO (gVar 0) (gC (.int 0))) (gVar 1))) (gSeq (gStore (gOp fdivO (gOp ixO (gVar 0) (gC (.int 0))) (gVar 1)) (gVar 0) (gC (.int 0))) (gRet (gVar 2)))) (gSkip)) (gSeq (gStore (gOp modO (gOp addO (gOp mulO (gOp ixO (gVar 0) (gC (.int 1))) (gC (.int 39373))) (gC (.int 7919))) (gC (.int 2147483629))) (gVar 0) (gC (.int 1))) (gRet (gOp modO (gOp fdivO (gOp modO (gOp mulO (gOp ixO (gVar 0) (gC (.int 1))) (gOp ixO (gVar 0) (gC (.int 1)))) (gC (.int 2147483563))) (gC (.int 11))) (gVar 1))))
noncomputable def den__law_take : Den := gFun 2 3 body__law_take
noncomputable def body__law_is_number : GS := gRet (gAnd (gIsi .int (gVar 0)) (gNot (gIsi .bool (gVar 0))))
noncomputable def den__law_is_number : Den := gFun 1 1 body__law_is_number
noncomputable def bodyR__law_kind (den__law_kind_ : Den) : GS := gSeq (gSet 2 (gCall den__law_take (gCons (gVar 0) (gCons (gC (.int 5)) (gNil))))) (gSeq (gIf (gTB (gOp eqO (gVar 2) (gC (.int 0)))) (gRet (gTup (gCons (gC (.str [116, 114, 117, 116, 104])) (gNil)))) (gSkip)) (gSeq (gIf (gAndT (gTB (gOp eqO (gVar 2) (gC (.int 1)))) (gTB (gOp eqO (gCall den__law_take (gCons (gVar 0) (gCons (gC (.int 4)) (gNil)))) (gC (.int 0))))) (gRet (gTup (gCons (gC (.str [114, 101, 99, 111, 114, 100])) (gCons (gOp ixO (gLst (gCons (gC (.str [107])) (gCons (gC (.str [103, 111, 110, 101])) (gNil)))) (gCall den__law_take (gCons (gVar 0) (gCons (gC (.int 2)) (gNil))))) (gNil))))) (gSkip)) (gSeq (gIf (gAndT (gTB (gOp gtO (gVar 2) (gC (.int 2)))) (gTB (gOp gtO (gVar 1) (gC (.int 0))))) (gRet (gTup (gCons (gC (.str [108, 105, 115, 116])) (gCons (gCall den__law_kind_ (gCons (gVar 0) (gCons (gOp subO (gVar 1) (gC (.int 1))) (gNil)))) (gNil))))) (gSkip)) (gRet (gTup (gCons (gC (.str [110, 117, 109, 98, 101, 114])) (gNil)))))))
noncomputable def den__law_kind : Nat → Den
  | 0 => fun _ _ => .bad
  | n + 1 => gFun 2 3 (bodyR__law_kind (den__law_kind n))
noncomputable def bodyR__law_plain (den__law_plain_ : Den) : GS := gSeq (gIf (gTB (gOp eqO (gOp ixO (gVar 1) (gC (.int 0))) (gC (.str [110, 117, 109, 98, 101, 114])))) (gRet (gOp ixO (gLst (gCons (gCall den__law_take (gCons (gVar 0) (gCons (gC (.int 3)) (gNil)))) (gCons (gCall den__law_take (gCons (gVar 0) (gCons (gOp powO (gC (.int 10)) (gC (.int 12))) (gNil)))) (gCons (gOp subO (gOp powO (gC (.int 10)) (gC (.int 12))) (gC (.int 1))) (gNil))))) (gCall den__law_take (gCons (gVar 0) (gCons (gC (.int 3)) (gNil)))))) (gSkip)) (gSeq (gIf (gTB (gOp eqO (gOp ixO (gVar 1) (gC (.int 0))) (gC (.str [116, 114, 117, 116, 104])))) (gRet (gOp eqO (gCall den__law_take (gCons (gVar 0) (gCons (gC (.int 2)) (gNil)))) (gC (.int 1)))) (gSkip)) (gSeq (gIf (gTB (gOp eqO (gOp ixO (gVar 1) (gC (.int 0))) (gC (.str [114, 101, 99, 111, 114, 100])))) (gRet (gC (.str [114, 48]))) (gSkip)) (gSeq (gSet 2 (gOp mulO (gCall den__law_take (gCons (gVar 0) (gCons (gC (.int 4)) (gNil)))) (gB intO (gCons (gOp (notO eqO) (gOp ixO (gOp ixO (gVar 1) (gC (.int 1))) (gC (.int 0))) (gC (.str [114, 101, 99, 111, 114, 100]))) (gNil))))) (gRet (gB tupO (gCons (gLcV (gR1 (gCons (gVar 2) (gNil))) (gNm 3) (gYes) (gCall den__law_plain_ (gCons (gVar 0) (gCons (gOp ixO (gVar 1) (gC (.int 1))) (gNil)))) [3]) (gNil)))))))
noncomputable def den__law_plain : Nat → Den
  | 0 => fun _ _ => .bad
  | n + 1 => gFun 2 4 (bodyR__law_plain (den__law_plain n))
noncomputable def bodyR__law_fit (den__law_fit_ : Den) : GS := gSeq (gIf (gTB (gOp eqO (gOp ixO (gVar 0) (gC (.int 0))) (gC (.str [114, 101, 99, 111, 114, 100])))) (gRet (gC (.bl false))) (gSkip)) (gSeq (gIf (gTB (gOp eqO (gOp ixO (gVar 0) (gC (.int 0))) (gC (.str [108, 105, 115, 116])))) (gRet (gAnd (gIsi .tuple (gVar 1)) (gB allO (gCons (gLcV (gIt (gVar 1)) (gNm 2) (gYes) (gCall den__law_fit_ (gCons (gOp ixO (gVar 0) (gC (.int 1))) (gCons (gVar 2) (gNil)))) [2]) (gNil))))) (gSkip)) (gSeq (gIf (gTB (gOp eqO (gOp ixO (gVar 0) (gC (.int 0))) (gC (.str [116, 114, 117, 116, 104])))) (gRet (gIsi .bool (gVar 1))) (gSkip)) (gRet (gCall den__law_is_number (gCons (gVar 1) (gNil))))))
noncomputable def den__law_fit : Nat → Den
  | 0 => fun _ _ => .bad
  | n + 1 => gFun 2 3 (bodyR__law_fit (den__law_fit n))
noncomputable def bodyR__law_same (den__law_same_ : Den) : GS := gSeq (gIf (gAndT (gTT (gIsi .tuple (gVar 0))) (gTT (gIsi .tuple (gVar 1)))) (gRet (gAnd (gOp eqO (gB lenO (gCons (gVar 0) (gNil))) (gB lenO (gCons (gVar 1) (gNil)))) (gB allO (gCons (gLcV (gZip (gCons (gVar 0) (gCons (gVar 1) (gNil)))) (gTg 2 (gTc (gNm 2) (gTc (gNm 3) (gTn)))) (gYes) (gCall den__law_same_ (gCons (gVar 2) (gCons (gVar 3) (gNil)))) [2, 3]) (gNil))))) (gSkip)) (gRet (gAnd (gOp eqO (gIsi .bool (gVar 0)) (gIsi .bool (gVar 1))) (gOp eqO (gVar 0) (gVar 1))))
noncomputable def den__law_same : Nat → Den
  | 0 => fun _ _ => .bad
  | n + 1 => gFun 2 4 (bodyR__law_same (den__law_same n))
noncomputable def body__law_things : GS := gSeq (gSet 2 (gDk0H)) (gSeq (gFor (gIt (gSl (gVar 1) (gNoP) (gP (gCall den__law_take (gCons (gVar 0) (gCons (gOp addO (gB lenO (gCons (gVar 1) (gNil))) (gC (.int 1))) (gNil))))))) (gNm 3) (gStore (gCall (den__law_kind 40) (gCons (gVar 0) (gCons (gC (.int 3)) (gNil)))) (gVar 2) (gOp addO (gVar 3) (gSl (gC (.str [97, 98, 99])) (gNoP) (gP (gCall den__law_take (gCons (gVar 0) (gCons (gC (.int 4)) (gNil))))))))) (gRet (gVar 2)))
noncomputable def den__law_things : Den := gFun 2 4 body__law_things
noncomputable def body__law_program : GS := gSeq (gSet 1 (gDisp [(gC (.str [107]), gTup (gCons (gTup (gCons (gC (.str [97])) (gCons (gTup (gCons (gC (.str [110, 117, 109, 98, 101, 114])) (gNil))) (gNil)))) (gNil)))])) (gSeq (gSet 2 (gDk0H)) (gSeq (gFor (gItems (gCall (own1 den__law_things) (gCons (gVar 0) (gCons (gC (.str [113, 112, 100, 115])) (gNil))))) (gTg 2 (gTc (gNm 3) (gTc (gNm 4) (gTn)))) (gSeq (gWhile (gTB (gOp eqO (gOp ixO (gVar 4) (gC (.int 0))) (gC (.str [114, 101, 99, 111, 114, 100])))) (gSet 4 (gTup (gCons (gC (.str [108, 105, 115, 116])) (gCons (gVar 4) (gNil)))))) (gStore (gTup (gCons (gVar 4) (gCons (gCall (den__law_plain 40) (gCons (gVar 0) (gCons (gVar 4) (gNil)))) (gNil)))) (gVar 2) (gVar 3)))) (gSeq (gSet 5 (gB tupO (gCons (gLItems (gCall (own1 den__law_things) (gCons (gVar 0) (gCons (gC (.str [122, 121, 120, 119, 118, 117])) (gNil))))) (gNil)))) (gSeq (gSet 6 (gCall (den__law_kind 40) (gCons (gVar 0) (gCons (gC (.int 2)) (gNil))))) (gRet (gTup (gCons (gVar 1) (gCons (gVar 2) (gCons (gDisp [(gC (.str [109, 97, 105, 110]), gTup (gCons (gVar 5) (gCons (gVar 6) (gCons (gTup (gCons (gTup (gCons (gC (.str [103, 111])) (gCons (gC (.int 0)) (gNil)))) (gNil))) (gNil))))), (gC (.str [109]), gTup (gCons (gTup (gNil)) (gCons (gVar 6) (gCons (gTup (gCons (gTup (gCons (gC (.str [103, 111])) (gCons (gC (.int 0)) (gNil)))) (gNil))) (gNil)))))]) (gNil))))))))))
noncomputable def den__law_program : Den := gFun 1 7 body__law_program
noncomputable def body__law_values : GS := gSeq (gSet 2 (gLcH (gIt (gVar 1)) (gTg 2 (gTc (gNm 4) (gTc (gNm 5) (gTn)))) (gYes) (gCall (den__law_plain 40) (gCons (gVar 0) (gCons (gVar 5) (gNil)))) [4, 5])) (gSeq (gSet 3 (gCall den__law_take (gCons (gVar 0) (gCons (gC (.int 8)) (gNil))))) (gSeq (gIf (gAndT (gTB (gOp eqO (gVar 3) (gC (.int 1)))) (gTB (gOp (notO eqO) (gVar 2) (gLst (gNil))))) (gStore (gCall (den__law_plain 40) (gCons (gVar 0) (gCons (gCall (den__law_kind 40) (gCons (gVar 0) (gCons (gC (.int 2)) (gNil)))) (gNil)))) (gVar 2) (gCall den__law_take (gCons (gVar 0) (gCons (gB lenO (gCons (gVar 2) (gNil))) (gNil))))) (gSkip)) (gSeq (gIf (gTB (gOp eqO (gVar 3) (gC (.int 2)))) (gSet 2 (gSl (gVar 2) (gP (gC (.int 1))) (gNoP))) (gSkip)) (gSeq (gIf (gTB (gOp eqO (gVar 3) (gC (.int 3)))) (gSet 2 (gAddR (gVar 2) (gLst (gCons (gCall (den__law_plain 40) (gCons (gVar 0) (gCons (gTup (gCons (gC (.str [110, 117, 109, 98, 101, 114])) (gNil))) (gNil)))) (gNil))))) (gSkip)) (gSeq (gIf (gAndT (gTB (gOp eqO (gVar 3) (gC (.int 4)))) (gTB (gOp (notO eqO) (gVar 2) (gLst (gNil))))) (gStore (gOp ixO (gLst (gCons (gC (.str [114, 48])) (gCons (gTup (gCons (gC (.str [114, 49])) (gNil))) (gCons (gTup (gCons (gTup (gCons (gC (.str [114, 48])) (gNil))) (gCons (gTup (gNil)) (gNil)))) (gNil))))) (gCall den__law_take (gCons (gVar 0) (gCons (gC (.int 3)) (gNil))))) (gVar 2) (gCall den__law_take (gCons (gVar 0) (gCons (gB lenO (gCons (gVar 2) (gNil))) (gNil))))) (gSkip)) (gRet (gB tupO (gCons (gVar 2) (gNil)))))))))
noncomputable def den__law_values : Den := gFun 2 6 body__law_values
noncomputable def body__law_right : GS := gSeq (gIf (gOrT (gNotT (gTT (gIsi .tuple (gVar 0)))) (gOrT (gTB (gOp (notO eqO) (gB lenO (gCons (gVar 0) (gNil))) (gC (.int 5)))) (gOrT (gTB (gOp (notO eqO) (gOp ixO (gVar 0) (gC (.int 1))) (gDk0))) (gOrT (gTB (gOp (notO eqO) (gOp ixO (gVar 0) (gC (.int 3))) (gTup (gNil)))) (gTB (gOp (notO isO) (gOp ixO (gVar 0) (gC (.int 4))) (gC .non))))))) (gRet (gC (.bl false))) (gSkip)) (gSeq (gSet 4 (gOp ixO (gVar 1) (gC (.int 1)))) (gSeq (gIf (gOrT (gTB (gOp (notO eqO) (gB sorO (gCons (gOp ixO (gVar 0) (gC (.int 0))) (gNil))) (gB sorO (gCons (gVar 4) (gNil))))) (gNotT (gTT (gB allO (gCons (gLcV (gIt (gVar 4)) (gNm 7) (gYes) (gCall (den__law_same 40) (gCons (gOp ixO (gOp ixO (gVar 0) (gC (.int 0))) (gVar 7)) (gCons (gOp ixO (gOp ixO (gVar 4) (gVar 7)) (gC (.int 1))) (gNil)))) [7]) (gNil)))))) (gRet (gC (.bl false))) (gSkip)) (gSeq (gIf (gOrT (gTB (gOp (notO eqO) (gB lenO (gCons (gOp ixO (gVar 0) (gC (.int 2))) (gNil))) (gC (.int 1)))) (gTB (gOp (notO eqO) (gSl (gOp ixO (gOp ixO (gVar 0) (gC (.int 2))) (gC (.int 0))) (gNoP) (gP (gC (.int 3)))) (gTup (gCons (gVar 2) (gCons (gOp ixO (gOp ixO (gVar 1) (gC (.int 2))) (gVar 2)) (gCons (gC (.int 0)) (gNil)))))))) (gRet (gC (.bl false))) (gSkip)) (gSeq (gSet 5 (gOp ixO (gOp ixO (gOp ixO (gVar 0) (gC (.int 2))) (gC (.int 0))) (gC (.int 3)))) (gSeq (gSet 6 (gOp ixO (gOp ixO (gOp ixO (gVar 1) (gC (.int 2))) (gVar 2)) (gC (.int 0)))) (gSeq (gIf (gTB (gOp (notO eqO) (gB sorO (gCons (gVar 5) (gNil))) (gB sorO (gCons (gLcV (gIt (gVar 6)) (gTg 2 (gTc (gNm 8) (gTc (gNm 9) (gTn)))) (gYes) (gVar 8) [8, 9]) (gNil))))) (gRet (gC (.bl false))) (gSkip)) (gRet (gB allO (gCons (gLcV (gZip (gCons (gVar 6) (gCons (gVar 3) (gNil)))) (gTg 2 (gTc (gTg 2 (gTc (gNm 8) (gTc (gNm 9) (gTn)))) (gTc (gNm 10) (gTn)))) (gYes) (gCall (den__law_same 40) (gCons (gOp ixO (gVar 5) (gVar 8)) (gCons (gVar 10) (gNil)))) [8, 9, 10]) (gNil))))))))))
noncomputable def den__law_right : Den := gFun 4 11 body__law_right
noncomputable def body__law_refused : GS := gSeq (gTry (gDrop (gCall den_begun (gCons (gVar 0) (gCons (gVar 1) (gCons (gVar 2) (gNil)))))) c_rel "ChangeError" 3 (fun ev => gSeq (gIf (gOrT (gNotT (gTB (gIsX c_rel ["Stuck"] ev))) (gTB (gIsX c_rel ["NoFit", "NoLead", "NotNow", "NotRight", "NoText"] ev))) (gRet (gC (.bl false))) (gSkip)) (gRet (gAnd (gOp eqO (gEAttr c_fld "name" ev) (gVar 1)) (gAnd (gCallH den__law_is_number (fun ev => gEAttr c_fld "row" ev) ev) (gOp eqO (gEAttr c_fld "row" ev) (gNeg (gC (.int 1))))))))) (gRet (gC (.bl false)))
noncomputable def den__law_refused : Den := gFun 3 4 body__law_refused
noncomputable def body_law : GS := gSeq (gSet 1 (gCall den__law_pot (gCons (gCall den__law_nth (gCons (gVar 0) (gCons (gC (.int 0)) (gNil)))) (gNil)))) (gSeq (gSet 2 (gCall (own1 den__law_program) (gCons (gVar 1) (gNil)))) (gSeq (gFor (gR2 (gCons (gC (.int 1)) (gCons (gB maxO (gCons (gC (.int 3)) (gCons (gB minO (gCons (gC (.int 7)) (gCons (gB lenO (gCons (gVar 0) (gNil))) (gNil)))) (gNil)))) (gNil)))) (gNm 3) (gSeq (gSet 4 (gCall den__law_pot (gCons (gOp addO (gCall den__law_nth (gCons (gVar 0) (gCons (gVar 3) (gNil)))) (gOp mulO (gVar 3) (gB intO (gCons (gOp ltO (gB absO (gCons (gCall den__law_nth (gCons (gVar 0) (gCons (gVar 3) (gNil)))) (gNil))) (gOp powO (gC (.int 10)) (gC (.int 18)))) (gNil))))) (gNil)))) (gSeq (gSet 5 (gOp ixO (gLst (gCons (gC (.str [109, 97, 105, 110])) (gCons (gC (.str [109, 97, 105, 110])) (gCons (gC (.str [109, 97, 105, 110])) (gCons (gC (.str [109, 97, 105, 110])) (gCons (gC (.str [109])) (gCons (gC (.str [108, 111, 115, 116])) (gNil)))))))) (gCall den__law_take (gCons (gVar 4) (gCons (gC (.int 6)) (gNil)))))) (gSeq (gSet 6 (gOp ixO (gGetX (gOp ixO (gVar 2) (gC (.int 2))) (gVar 5) (gTup (gCons (gTup (gNil)) (gCons (gTup (gNil)) (gCons (gTup (gNil)) (gNil)))))) (gC (.int 0)))) (gSeq (gSet 7 (gCall den__law_values (gCons (gVar 4) (gCons (gVar 6) (gNil))))) (gSeq (gSet 8 (gOp eqO (gB lenO (gCons (gVar 7) (gNil))) (gB lenO (gCons (gVar 6) (gNil))))) (gSeq (gFor (gZip (gCons (gVar 6) (gCons (gVar 7) (gNil)))) (gTg 2 (gTc (gTg 2 (gTc (gNm 9) (gTc (gNm 10) (gTn)))) (gTc (gNm 11) (gTn)))) (gSet 8 (gAnd (gVar 8) (gCall (den__law_fit 40) (gCons (gVar 10) (gCons (gVar 11) (gNil))))))) (gIf (gOrT (gTB (gOp eqO (gVar 5) (gC (.str [108, 111, 115, 116])))) (gNotT (gTT (gVar 8)))) (gIf (gNotT (gTT (gCall den__law_refused (gCons (gVar 2) (gCons (gVar 5) (gCons (gVar 7) (gNil))))))) (gRet (gC (.bl false))) (gSkip)) (gFor (gR1 (gCons (gC (.int 2)) (gNil))) (gNm 12) (gSeq (gSet 13 (gCall den_begun (gCons (gVar 2) (gCons (gVar 5) (gCons (gVar 7) (gNil)))))) (gSeq (gIf (gNotT (gTT (gCall den__law_right (gCons (gVar 13) (gCons (gVar 2) (gCons (gVar 5) (gCons (gVar 7) (gNil)))))))) (gRet (gC (.bl false))) (gSkip)) (gSeq (gDrop (gClr (gOp ixO (gVar 13) (gC (.int 0))))) (gSeq (gStore (gTup (gCons (gC (.str [107])) (gCons (gTup (gCons (gTup (gCons (gC (.str [97])) (gCons (gC (.int 1)) (gNil)))) (gNil))) (gNil)))) (gOp ixO (gVar 13) (gC (.int 1))) (gC (.str [114, 48]))) (gDrop (gClr (gOp ixO (gOp ixO (gOp ixO (gVar 13) (gC (.int 2))) (gC (.int 0))) (gC (.int 3)))))))))))))))))) (gRet (gC (.bl true)))))
noncomputable def den_law : Den := gFun 1 14 body_law
end Law
namespace Law
open PySem L2 G
set_option autoImplicit false
def Fx (n : Nat) (a b : AH) : Prop := List.length a ≤ List.length b ∧ ∀ i, i < List.length a → i ≠ n → b[i]? = a[i]?
theorem Fx.refl (n : Nat) (a : AH) : Fx n a a := ⟨Nat.le_refl _, fun _ _ _ => rfl⟩
theorem Fx.trans {n : Nat} {a b c : AH} (h : Fx n a b) (k : Fx n b c) : Fx n a c := ⟨Nat.le_trans h.1 k.1, fun i hi hn => (k.2 i (Nat.lt_of_lt_of_le hi h.1) hn).trans (h.2 i hi hn)⟩
theorem Fx.same {n : Nat} {a b : AH} (h : Same n a b) : Fx n a b := ⟨Nat.le_of_eq h.1.symm, fun i _ hn => h.2 i hn⟩
theorem Fx.app {n : Nat} {a x : AH} : Fx n a (a ++ x) := ⟨by simp, fun i hi _ => List.getElem?_append_left hi⟩
theorem Fx.set {n : Nat} {a : AH} {o : HObj} : Fx n a (a.set n o) := ⟨by simp, fun i _ hn => List.getElem?_set_ne (Ne.symm hn)⟩
theorem Fx.setHi {n r : Nat} {a b : AH} {o : HObj} (h : Fx n a b) (hr : List.length a ≤ r) : Fx n a (b.set r o) := ⟨by rw [List.length_set]; exact h.1, fun i hi hn => by rw [List.getElem?_set_ne (by omega)]; exact h.2 i hi hn⟩
def Pt (n : Nat) (ah : AH) : Prop := Pot n [] ah
theorem Pt.lt {n : Nat} {ah : AH} (h : Pt n ah) : n < List.length ah := G.Pot.lt h
theorem Pt.app {n : Nat} {ah x : AH} (h : Pt n ah) : Pt n (ah ++ x) := G.Pot.app h
theorem Pt.set {n m : Nat} {ah : AH} {o : HObj} (h : Pt n ah) (hm : m ≠ n) : Pt n (ah.set m o) := G.Pot.set h hm
theorem at2 {α : Type} {a b c : α} {l : List α} : atI (a :: b :: c :: l) 2 = some c := by
  obtain ⟨v, e, _, q⟩ := atI_nat (a :: b :: c :: l) 2 (by omega) (by simp; omega)
  rw [e]; simpa using q.symm
section
variable {ah : AH} {P : AV → AH → Prop} {E : ErrP} {n : Nat}
theorem tk {k : Int} (hp : Pt n ah) (hk : 0 < k) (hk2 : k < 10 ^ 100)
    (h : ∀ r ah', 0 ≤ r → r < k → Pt n ah' → Fx n ah ah' → P (.int r) ah') : wx E (den__law_take [.ref n, .int k] ah) P :=
  w_take hp hk hk2 fun r ah' a b p s => h r ah' a b p (.same s)
end
inductive Kn where
  | num | tru
  | rcd (s : List Nat)
  | lst (k : Kn)
deriving DecidableEq
def wNum : List Nat := [110, 117, 109, 98, 101, 114]
def wTru : List Nat := [116, 114, 117, 116, 104]
def wLst : List Nat := [108, 105, 115, 116]
def wRec : List Nat := [114, 101, 99, 111, 114, 100]
def Kn.av : Kn → AV
  | .num => .tup [.str wNum]
  | .tru => .tup [.str wTru]
  | .rcd s => .tup [.str wRec, .str s]
  | .lst k => .tup [.str wLst, k.av]
def Kn.dep : Kn → Nat
  | .lst k => k.dep + 1
  | _ => 0
def Kn.ok : Kn → Prop
  | .rcd s => s.all (· < 0x110000) = true
  | .lst k => k.ok
  | _ => True
def Kn.base : Kn → Kn
  | .lst k => k.base
  | k => k
theorem Kn.okA : ∀ k : Kn, k.ok → okA k.av = true
  | .num, _ => by decide
  | .tru, _ => by decide
  | .rcd s, h => by
    have h : s.all (· < 0x110000) = true := h
    simp only [Kn.av, G.okA, okAs, h]
    decide
  | .lst k, h => by
    have := Kn.okA k h
    simp only [Kn.av, G.okA, okAs, this]
    decide
theorem Kn.depA : ∀ k : Kn, depthA k.av = k.dep + 1
  | .num => rfl
  | .tru => rfl
  | .rcd s => rfl
  | .lst k => by
    have := Kn.depA k
    simp only [Kn.av, depthA, depthAs, this, Kn.dep]
    omega
theorem eq_two (a b : List Nat) (x y : AV) : G.eqA (.tup [.str a, x]) (.tup [.str b, y]) = (decide (a = b) && G.eqA x y) := by
  rw [G.eqA, eqAs, eqAs, eqAs, Bool.and_true, G.eqA]
theorem eq_one_two (a b : List Nat) (y : AV) : G.eqA (.tup [.str a]) (.tup [.str b, y]) = false := by
  simp [G.eqA, eqAs]
theorem eq_two_one (a b : List Nat) (y : AV) : G.eqA (.tup [.str a, y]) (.tup [.str b]) = false := by
  simp [G.eqA, eqAs]
theorem Kn.eqA (a : Kn) : ∀ b : Kn, G.eqA a.av b.av = decide (a = b) := by
  induction a with
  | num =>
    intro b
    cases b with
    | num => decide
    | tru => decide
    | rcd s => exact (eq_one_two _ _ _).trans (by simp)
    | lst k => exact (eq_one_two _ _ _).trans (by simp)
  | tru =>
    intro b
    cases b with
    | num => decide
    | tru => decide
    | rcd s => exact (eq_one_two _ _ _).trans (by simp)
    | lst k => exact (eq_one_two _ _ _).trans (by simp)
  | rcd s =>
    intro b
    cases b with
    | num => exact (eq_two_one _ _ _).trans (by simp)
    | tru => exact (eq_two_one _ _ _).trans (by simp)
    | rcd t =>
      refine (eq_two _ _ _ _).trans ?_
      show (true && decide (s = t)) = _
      simp
    | lst k =>
      refine (eq_two _ _ _ _).trans ?_
      have : decide (wRec = wLst) = false := by decide
      rw [this]; simp
  | lst k ih =>
    intro b
    cases b with
    | num => exact (eq_two_one _ _ _).trans (by simp)
    | tru => exact (eq_two_one _ _ _).trans (by simp)
    | rcd t =>
      refine (eq_two _ _ _ _).trans ?_
      have : decide (wLst = wRec) = false := by decide
      rw [this]; simp
    | lst k' =>
      refine (eq_two _ _ _ _).trans ?_
      rw [ih k']; simp
/-- a kind, or none -/
def ov : Option Kn → AV
  | none => .non
  | some k => k.av
/-- right signs, not too deep -/
def kOk (d : Nat) (k : Kn) : Prop := k.ok ∧ k.dep ≤ d
def oOk (d : Nat) : Option Kn → Prop
  | none => True
  | some k => kOk d k
theorem ov_eqA : ∀ a b : Option Kn, G.eqA (ov a) (ov b) = decide (a = b)
  | none, none => by decide
  | none, some b => by cases b <;> simp [ov, Kn.av, G.eqA]
  | some a, none => by cases a <;> simp [ov, Kn.av, G.eqA]
  | some a, some b => by rw [show ov (some a) = a.av from rfl, show ov (some b) = b.av from rfl, Kn.eqA]; simp
theorem ov_okA {d : Nat} : ∀ {o : Option Kn}, oOk d o → okA (ov o) = true
  | none, _ => rfl
  | some k, h => Kn.okA k h.1
theorem ov_dep {d : Nat} : ∀ {o : Option Kn}, oOk d o → depthA (ov o) ≤ d + 1
  | none, _ => by simp [ov, depthA]
  | some k, h => by rw [show ov (some k) = k.av from rfl, Kn.depA]; have := h.2; omega
theorem ov_sh {d : Nat} {o : Option Kn} (h : oOk d o) (hd : d ≤ 60) : shA (ov o) = true := by
  unfold shA
  rw [ov_okA h, decide_eq_true (by have := ov_dep h; omega)]; rfl
theorem eqO_nt (ah : AH) (l : List AV) : eqO ah .non (.tup l) = if shA .non && shA (.tup l) then some (.bl (G.eqA .non (.tup l))) else none := rfl
theorem eqO_tn (ah : AH) (l : List AV) : eqO ah (.tup l) .non = if shA (.tup l) && shA .non then some (.bl (G.eqA (.tup l) .non)) else none := rfl
theorem kn_tup (k : Kn) : ∃ a l, k.av = .tup (a :: l) := by cases k <;> exact ⟨_, _, rfl⟩
theorem o_eqO {ah : AH} {d e : Nat} {a b : Option Kn} (ha : oOk d a) (hb : oOk e b) (hd : d ≤ 60) (he : e ≤ 60) : eqO ah (ov a) (ov b) = some (.bl (decide (a = b))) := by
  have h1 := ov_sh ha hd
  have h2 := ov_sh hb he
  rw [← ov_eqA a b]
  cases a with
  | none =>
    cases b with
    | none => rfl
    | some b =>
      obtain ⟨x, l, e⟩ := kn_tup b
      have h2 : shA b.av = true := h2
      show eqO ah .non b.av = some (.bl (G.eqA .non b.av))
      rw [e] at h2 ⊢
      rw [eqO_nt, h2]; rfl
  | some a =>
    obtain ⟨x, l, e1⟩ := kn_tup a
    have h1 : shA a.av = true := h1
    cases b with
    | none =>
      show eqO ah a.av .non = some (.bl (G.eqA a.av .non))
      rw [e1] at h1 ⊢
      rw [eqO_tn, h1]; rfl
    | some b =>
      obtain ⟨y, l', e2⟩ := kn_tup b
      have h2 : shA b.av = true := h2
      show eqO ah a.av b.av = some (.bl (G.eqA a.av b.av))
      rw [e1] at h1 ⊢
      rw [e2] at h2 ⊢
      rw [o_eqT, h1, h2]; rfl
theorem o_kk {ah : AH} {d e : Nat} {a b : Kn} (ha : kOk d a) (hb : kOk e b) (hd : d ≤ 60) (he : e ≤ 60) : eqO ah a.av b.av = some (.bl (decide (a = b))) := by
  have : eqO ah a.av b.av = some (.bl (decide (some a = some b))) := o_eqO (ah := ah) (a := some a) (b := some b) ha hb hd he
  rw [this]; simp
def lk {β : Type} (l : List (List Nat × β)) (s : List Nat) : Option β := (l.find? fun p => decide (p.1 = s)).map (·.2)
theorem lookK_map {β : Type} (f : β → AV) (l : List (List Nat × β)) (s : List Nat) : lookK (l.map fun p => ((.inr p.1 : AK), f p.2)) (.inr s) = (lk l s).map f := by
  unfold lookK lk
  induction l with
  | nil => rfl
  | cons p l ih =>
    rw [List.map_cons, List.find?_cons, List.find?_cons]
    by_cases e : p.1 = s
    · simp [e]
    · simp only [Sum.inr.injEq, e, decide_false]
      exact ih
theorem lk_mem {β : Type} {l : List (List Nat × β)} {s : List Nat} {b : β} (h : lk l s = some b) : (s, b) ∈ l := by
  unfold lk at h
  obtain ⟨p, hp, rfl⟩ := Option.map_eq_some_iff.mp h
  have h1 := List.mem_of_find?_eq_some hp
  have h2 := List.find?_some hp
  have h2 : p.1 = s := of_decide_eq_true h2
  rw [← h2]; exact h1
abbrev Fds := List (List Nat × Kn)
def prs (fs : Fds) : List AV := fs.map fun p => .tup [.str p.1, p.2.av]
def fdsA (fs : Fds) : AV := .tup (prs fs)
def kdA (l : List (List Nat × Fds)) : List (AK × AV) := l.map fun p => (.inr p.1, fdsA p.2)
def bdA (l : List (List Nat × (Kn × AV))) : List (AK × AV) := l.map fun p => (.inr p.1, .tup [p.2.1.av, p.2.2])
def hdA (l : Fds) : List (AK × AV) := l.map fun p => (.inr p.1, p.2.av)
theorem prsA_prs : ∀ fs : Fds, prsA (prs fs) = some (hdA fs)
  | [] => rfl
  | p :: fs => by
    show (match prA (.tup [.str p.1, p.2.av]), prsA (prs fs) with
      | some p, some ps => some (p :: ps)
      | _, _ => none) = _
    rw [prsA_prs fs]; rfl
theorem putA_new {l : List (AK × AV)} {k : AK} {v : AV} (h : k ∉ l.map (·.1)) : putA l k v = l ++ [(k, v)] := by
  unfold putA
  rw [if_neg]
  simp only [List.any_eq_true, decide_eq_true_eq, not_exists, not_and]
  intro p hp e
  exact h (by rw [← e]; exact List.mem_map.mpr ⟨p, hp, rfl⟩)
theorem merge_new : ∀ (ps l : List (AK × AV)), (l.map (·.1) ++ ps.map (·.1)).Nodup → mergeA l ps = l ++ ps
  | [], l, _ => by simp [mergeA]
  | p :: ps, l, h => by
    have hk : p.1 ∉ l.map (·.1) := fun hm => by
      rw [List.nodup_append] at h
      exact h.2.2 p.1 hm p.1 (by simp) rfl
    show mergeA (putA l p.1 p.2) ps = _
    rw [putA_new hk, merge_new ps (l ++ [(p.1, p.2)]) (by simpa using h)]
    simp
theorem merge_nil {ps : List (AK × AV)} (h : (ps.map (·.1)).Nodup) : mergeA [] ps = ps := by
  have := merge_new ps [] (by simpa using h)
  simpa using this
theorem hd_keys (fs : Fds) : (hdA fs).map (·.1) = fs.map fun p => (.inr p.1 : AK) := by simp [hdA]
theorem hd_nodup {fs : Fds} (h : (fs.map (·.1)).Nodup) : ((hdA fs).map (·.1)).Nodup := by
  rw [hd_keys]
  have : (fs.map fun p => (.inr p.1 : AK)) = (fs.map (·.1)).map (.inr · : List Nat → AK) := by simp
  rw [this]
  exact List.Pairwise.map _ (fun a b hab e => hab (by injection e)) h
theorem dict_prs {ah : AH} {fs : Fds} (h : (fs.map (·.1)).Nodup) : dcR [fdsA fs] ah = .ok (hdA fs) ah := by
  show lift1 ((prsA (prs fs)).map fun ps => mergeA [] ps) ah = _
  rw [prsA_prs]
  show Res.ok (mergeA [] (hdA fs)) ah = _
  rw [merge_nil (hd_nodup h)]
end Law
namespace Law
open PySem L2 G
set_option autoImplicit false
inductive GV : Nat → AV → Prop
  | int {n : Nat} {i : Int} : 0 ≤ i → i < 1000000000000 → GV n (.int i)
  | bl {n : Nat} {b : Bool} : GV n (.bl b)
  | str {n : Nat} {s : List Nat} : s = [114, 48] ∨ s = [114, 49] → GV n (.str s)
  | tup {n : Nat} {l : List AV} : l.length ≤ 4 → (∀ x ∈ l, GV n x) → GV (n + 1) (.tup l)
theorem GV.up {n : Nat} {v : AV} (h : GV n v) : GV (n + 1) v := by
  induction h with
  | int h1 h2 => exact .int h1 h2
  | bl => exact .bl
  | str h => exact .str h
  | tup h1 _ ih => exact .tup h1 ih
theorem GV.mono {n m : Nat} {v : AV} (h : GV n v) (hm : n ≤ m) : GV m v := by
  obtain ⟨k, rfl⟩ := Nat.exists_eq_add_of_le hm
  induction k with
  | zero => exact h
  | succ k ih => exact (ih (by omega)).up
theorem GVs.ok {n : Nat} : ∀ {l : List AV}, (∀ x ∈ l, okA x = true ∧ depthA x ≤ n) → okAs l = true ∧ depthAs l ≤ n
  | [], _ => ⟨rfl, by simp [depthAs]⟩
  | v :: l, h => by
    obtain ⟨h1, h2⟩ := GVs.ok (l := l) fun x hx => h x (List.mem_cons_of_mem _ hx)
    obtain ⟨h3, h4⟩ := h v List.mem_cons_self
    exact ⟨by simp [okAs, h1, h3], by simp only [depthAs]; omega⟩
theorem GV.ok {n : Nat} {v : AV} (h : GV n v) : okA v = true ∧ depthA v ≤ n + 1 := by
  induction h with
  | int h1 h2 => exact ⟨rfl, by simp [depthA]⟩
  | bl => exact ⟨rfl, by simp [depthA]⟩
  | str h => rcases h with rfl | rfl <;> exact ⟨by decide, by simp [depthA]⟩
  | tup h1 _ ih =>
    obtain ⟨h3, h4⟩ := GVs.ok ih
    exact ⟨by rw [G.okA]; exact h3, by simp only [depthA]; omega⟩
def isOf : Kn → AV → Bool
  | .num, .int i => decide (0 ≤ i ∧ i < 1000000000000)
  | .tru, .bl _ => true
  | .lst k, .tup l => l.all (isOf k)
  | _, _ => false
section
variable {ah : AH} {i : Int} {b : Bool} {s : List Nat} {l : List AV}
@[simp] theorem isi_int_int : isiA ah (.int i) .int = some true := rfl
@[simp] theorem isi_int_bool : isiA ah (.int i) .bool = some false := rfl
@[simp] theorem isi_int_str : isiA ah (.int i) .str = some false := rfl
@[simp] theorem isi_int_tuple : isiA ah (.int i) .tuple = some false := rfl
@[simp] theorem isi_bl_int : isiA ah (.bl b) .int = some true := rfl
@[simp] theorem isi_bl_bool : isiA ah (.bl b) .bool = some true := rfl
@[simp] theorem isi_bl_str : isiA ah (.bl b) .str = some false := rfl
@[simp] theorem isi_bl_tuple : isiA ah (.bl b) .tuple = some false := rfl
@[simp] theorem isi_str_int : isiA ah (.str s) .int = some false := rfl
@[simp] theorem isi_str_bool : isiA ah (.str s) .bool = some false := rfl
@[simp] theorem isi_str_str : isiA ah (.str s) .str = some true := rfl
@[simp] theorem isi_str_tuple : isiA ah (.str s) .tuple = some false := rfl
@[simp] theorem isi_tup_int : isiA ah (.tup l) .int = some false := rfl
@[simp] theorem isi_tup_bool : isiA ah (.tup l) .bool = some false := rfl
@[simp] theorem isi_tup_str : isiA ah (.tup l) .str = some false := rfl
@[simp] theorem isi_tup_tuple : isiA ah (.tup l) .tuple = some true := rfl
end
section
variable {ah : AH} {P : AV → AH → Prop} {E : ErrP}
theorem w_isn {n : Nat} {v : AV} (hv : GV n v) (h : P (.bl (isOf .num v)) ah) : wx E (den_is_number [v] ah) P := by
  refine w_fun rfl ?_
  unfold body_is_number
  cases hv with
  | int h1 h2 => simpa [isOf, h1, h2] using h
  | bl => simpa [isOf] using h
  | str hs => simpa [isOf] using h
  | tup h1 h2 => simpa [isOf] using h
theorem cut1g {α : Type} (s : List α) : cutA s none (some 1) = s.take 1 := by
  unfold cutA
  rw [HT.sIx_none, show (1 : Int) = ((1 : Nat) : Int) from rfl, HT.sIx_nat]
  cases s <;> simp
theorem cutDg {α : Type} (s : List α) : cutA s (some 1) none = s.drop 1 := by
  unfold cutA
  rw [HT.sIx_none, show (1 : Int) = ((1 : Nat) : Int) from rfl, HT.sIx_nat]
  cases s with
  | nil => rfl
  | cons c t => simp
theorem w_fig1 {c : Nat} (hc : c = 48 ∨ c = 49) (h : ∀ b, P (.bl b) ah) : wx E (den_are_figures [.str [c]] ah) P := by
  refine w_fun rfl ?_
  unfold body_are_figures
  rcases hc with rfl | rfl
  · simp
    refine w_lcM rfl (m := fun c : Nat => AV.str [c]) (f := fun _ => true) (g := fun _ => .bl true) [48] _ _ (fun c hc => ?_) ?_
    · simp at hc; subst hc
      exact ⟨_, rfl, by simp [wipeE]⟩
    · simp
      exact h true
  · simp
    refine w_lcM rfl (m := fun c : Nat => AV.str [c]) (f := fun _ => true) (g := fun _ => .bl true) [49] _ _ (fun c hc => ?_) ?_
    · simp at hc; subst hc
      exact ⟨_, rfl, by simp [wipeE]⟩
    · simp [at0]
      exact h true
theorem w_isref {n : Nat} {v : AV} (hv : GV n v) (h : ∀ b, (b = true → ∃ s, v = .str s) → P (.bl b) ah) : wx E (den_is_ref [v] ah) P := by
  refine w_fun rfl ?_
  unfold body_is_ref
  cases hv with
  | int h1 h2 => simpa using h false (by simp)
  | bl => simpa using h false (by simp)
  | tup h1 h2 => simpa using h false (by simp)
  | str hs =>
    rcases hs with rfl | rfl
    · simp [cut1g, cutDg]
      exact w_fig1 (.inl rfl) fun b => h b fun _ => ⟨_, rfl⟩
    · simp [cut1g, cutDg]
      exact w_fig1 (.inr rfl) fun b => h b fun _ => ⟨_, rfl⟩
theorem o_inS0 {s : List Nat} : inO ah (.str s) (.dk []) = some (.bl false) := by
  rcases s with _ | ⟨c, _ | ⟨d, t⟩⟩ <;> rfl
end
theorem all_id {α : Type} (l : List α) (f : α → Bool) : (l.map f).all id = l.all f := by simp
theorem w_isof : ∀ (k : Kn) (n m : Nat) (v : AV) (ah : AH) (P : AV → AH → Prop) (E : ErrP), k.dep < m → GV n v → P (.bl (isOf k v)) ah → wx E (den_is_of m [k.av, v, .dk []] ah) P
  | k, n, 0, v, ah, P, E, hm, hv, hP => by omega
  | .num, n, m + 1, v, ah, P, E, hm, hv, hP => by
    refine w_fun rfl ?_
    unfold bodyR_is_of
    simp [Kn.av, at0, wNum]
    exact w_isn hv hP
  | .tru, n, m + 1, v, ah, P, E, hm, hv, hP => by
    refine w_fun rfl ?_
    unfold bodyR_is_of
    simp [Kn.av, at0, wTru]
    cases hv <;> simpa [isOf] using hP
  | .lst k, n, m + 1, v, ah, P, E, hm, hv, hP => by
    refine w_fun rfl ?_
    unfold bodyR_is_of
    simp [Kn.av, at0, wLst]
    cases hv with
    | int _ _ => simpa [isOf] using hP
    | bl => simpa [isOf] using hP
    | str _ => simpa [isOf] using hP
    | tup h1 h2 =>
      rename_i n l
      simp
      refine ⟨by omega, w_lcX rfl (f := fun _ => true) (g := fun v => .bl (isOf k v)) l _ _ (fun w hw => ⟨_, rfl, ?_⟩) ?_⟩
      · simp [wipeE, at1]
        exact w_isof k n m w _ _ _ (by simp [Kn.dep] at hm; omega) (h2 w hw) ⟨rfl, rfl⟩
      · rw [filter_yes]
        refine wp_eq (bls_map l _) ?_
        rw [all_id]
        exact hP
  | .rcd s, n, m + 1, v, ah, P, E, hm, hv, hP => by
    refine w_fun rfl ?_
    unfold bodyR_is_of
    simp [Kn.av, at0, wRec]
    have hP : P (.bl false) ah := by cases hv <;> exact hP
    refine w_isref hv fun b hb => ?_
    cases b with
    | false => simpa using hP
    | true =>
      obtain ⟨s, rfl⟩ := hb rfl
      simp [o_inS0]
      exact hP
end Law
namespace Law
open PySem L2 G
set_option autoImplicit false
section
variable {ah : AH} {P : AV → AH → Prop} {E : ErrP}
theorem w_lisn {n : Nat} {v : AV} (hv : GV n v) (h : P (.bl (isOf .num v)) ah) : wx E (den__law_is_number [v] ah) P := by
  refine w_fun rfl ?_
  unfold body__law_is_number
  cases hv with
  | int h1 h2 => simpa [isOf, h1, h2] using h
  | bl => simpa [isOf] using h
  | str hs => simpa [isOf] using h
  | tup h1 h2 => simpa [isOf] using h
end
theorem w_fit : ∀ (k : Kn) (n m : Nat) (v : AV) (ah : AH) (P : AV → AH → Prop) (E : ErrP), k.dep < m → GV n v → P (.bl (isOf k v)) ah → wx E (den__law_fit m [k.av, v] ah) P
  | k, n, 0, v, ah, P, E, hm, hv, hP => by omega
  | .num, n, m + 1, v, ah, P, E, hm, hv, hP => by
    refine w_fun rfl ?_
    unfold bodyR__law_fit
    simp [Kn.av, at0, wNum]
    exact w_lisn hv hP
  | .tru, n, m + 1, v, ah, P, E, hm, hv, hP => by
    refine w_fun rfl ?_
    unfold bodyR__law_fit
    simp [Kn.av, at0, wTru]
    cases hv <;> simpa [isOf] using hP
  | .lst k, n, m + 1, v, ah, P, E, hm, hv, hP => by
    refine w_fun rfl ?_
    unfold bodyR__law_fit
    simp [Kn.av, at0, wLst]
    cases hv with
    | int _ _ => simpa [isOf] using hP
    | bl => simpa [isOf] using hP
    | str _ => simpa [isOf] using hP
    | tup h1 h2 =>
      rename_i n l
      simp
      refine ⟨by omega, w_lcX rfl (f := fun _ => true) (g := fun v => .bl (isOf k v)) l _ _ (fun w hw => ⟨_, rfl, ?_⟩) ?_⟩
      · simp [wipeE, at1]
        exact w_fit k n m w _ _ _ (by simp [Kn.dep] at hm; omega) (h2 w hw) ⟨rfl, rfl⟩
      · rw [filter_yes]
        refine wp_eq (bls_map l _) ?_
        rw [all_id]
        exact hP
  | .rcd s, n, m + 1, v, ah, P, E, hm, hv, hP => by
    refine w_fun rfl ?_
    unfold bodyR__law_fit
    simp [Kn.av, at0, wRec]
    cases hv <;> exact hP
theorem zip_self : ∀ l : List AV, zipA l l = l.map fun v => .tup [v, v]
  | [] => rfl
  | v :: l => by
    show AV.tup [v, v] :: zipA l l = _
    rw [zip_self l]; rfl
theorem w_same : ∀ (n m : Nat) (v : AV) (ah : AH) (P : AV → AH → Prop) (E : ErrP), n < m → GV n v → P (.bl true) ah → wx E (den__law_same m [v, v] ah) P
  | n, 0, v, ah, P, E, hm, hv, hP => by omega
  | n, m + 1, v, ah, P, E, hm, hv, hP => by
    refine w_fun rfl ?_
    unfold bodyR__law_same
    cases hv with
    | int _ _ => simp; exact hP
    | bl => simp; exact hP
    | str _ => simp; exact hP
    | tup h1 h2 =>
      rename_i n l
      simp [zip_self]
      refine ⟨by omega, w_lcM rfl (m := fun v => AV.tup [v, v]) (f := fun _ => true) (g := fun _ => .bl true) l _ _ (fun w hw => ⟨_, rfl, ?_⟩) ?_⟩
      · simp [wipeE]
        exact w_same n m w _ _ _ (by omega) (h2 w hw) ⟨rfl, rfl⟩
      · rw [filter_yes]
        refine wp_eq (bls_map l _) ?_
        rw [all_id, show l.all (fun _ => true) = true from List.all_eq_true.mpr fun _ _ => rfl]
        exact hP
section
variable {n : Nat}
theorem w_kind : ∀ (m d : Nat) (ah : AH) (P : AV → AH → Prop) (E : ErrP), d < m → Pt n ah → (∀ k ah', kOk d k → Pt n ah' → Fx n ah ah' → P k.av ah') → wx E (den__law_kind m [.ref n, .int d] ah) P
  | 0, d, ah, P, E, hd, hp, h => by omega
  | m + 1, d, ah, P, E, hd, hp, h => by
    refine w_fun rfl ?_
    unfold bodyR__law_kind
    simp
    refine tk hp (by decide) (by decide) fun r a1 r0 r1 p1 f1 => ?_
    simp
    have hN : P Kn.num.av a1 := h .num a1 ⟨trivial, by simp [Kn.dep]⟩ p1 f1
    by_cases hr0 : r = 0
    · simp only [hr0, if_true]
      exact h .tru a1 ⟨trivial, by simp [Kn.dep]⟩ p1 f1
    · simp only [hr0, if_false]
      have rest : ∀ a', Pt n a' → Fx n ah a' → (if 2 < r then
              if 0 < d then
                wx (fun e h => E e h) (den__law_kind m [AV.ref n, AV.int ((d : Int) - 1)] a') fun v ah1 =>
                  P (AV.tup [AV.str [108, 105, 115, 116], v]) ah1
              else P (AV.tup [AV.str [110, 117, 109, 98, 101, 114]]) a'
            else P (AV.tup [AV.str [110, 117, 109, 98, 101, 114]]) a') := fun a' p f => by
        have hN : P (AV.tup [AV.str [110, 117, 109, 98, 101, 114]]) a' := h .num a' ⟨trivial, by simp [Kn.dep]⟩ p f
        split
        · split
          · rename_i hd0
            obtain ⟨d', rfl⟩ : ∃ d', d = d' + 1 := ⟨d - 1, by omega⟩
            rw [show ((d' + 1 : Nat) : Int) - 1 = (d' : Nat) by omega]
            refine w_kind m d' a' _ _ (by omega) p fun k ah2 hk p2 f2 => ?_
            exact h (.lst k) ah2 ⟨hk.1, by have := hk.2; simp [Kn.dep]; omega⟩ p2 (f.trans f2)
          · exact hN
        · exact hN
      split
      · refine tk p1 (by decide) (by decide) fun q a2 q0 q1 p2 f2 => ?_
        simp
        split
        · refine tk p2 (by decide) (by decide) fun z a3 z0 z1 p3 f3 => ?_
          rcases (show z = 0 ∨ z = 1 by omega) with rfl | rfl
          · simp [at0]
            exact h (.rcd [107]) a3 ⟨(by decide : ([107] : List Nat).all (· < 0x110000) = true), by simp [Kn.dep]⟩ p3 ((f1.trans f2).trans f3)
          · simp [at1]
            exact h (.rcd [103, 111, 110, 101]) a3 ⟨(by decide : ([103, 111, 110, 101] : List Nat).all (· < 0x110000) = true), by simp [Kn.dep]⟩ p3 ((f1.trans f2).trans f3)
        · exact rest a2 p2 (f1.trans f2)
      · exact rest a1 p1 f1
theorem w_plain : ∀ (k : Kn) (m : Nat) (ah : AH) (P : AV → AH → Prop) (E : ErrP), k.dep < m → Pt n ah → (∀ v ah', GV k.dep v → Pt n ah' → Fx n ah ah' → P v ah') → wx E (den__law_plain m [.ref n, k.av] ah) P
  | k, 0, ah, P, E, hd, hp, h => by omega
  | .num, m + 1, ah, P, E, hd, hp, h => by
    refine w_fun rfl ?_
    unfold bodyR__law_plain
    simp [Kn.av, at0, wNum]
    refine tk hp (by decide) (by decide) fun r a1 r0 r1 p1 f1 => ?_
    refine tk p1 (by decide) (by decide) fun q a2 q0 q1 p2 f2 => ?_
    refine tk p2 (by decide) (by decide) fun z a3 z0 z1 p3 f3 => ?_
    have f4 := (f1.trans f2).trans f3
    rcases (show z = 0 ∨ z = 1 ∨ z = 2 by omega) with rfl | rfl | rfl
    · simp [at0]; exact h _ a3 (.int r0 (by omega)) p3 f4
    · simp [at1]; exact h _ a3 (.int q0 (by omega)) p3 f4
    · simp [at2]; exact h _ a3 (.int (by decide) (by decide)) p3 f4
  | .tru, m + 1, ah, P, E, hd, hp, h => by
    refine w_fun rfl ?_
    unfold bodyR__law_plain
    simp [Kn.av, at0, wTru]
    refine tk hp (by decide) (by decide) fun r a1 r0 r1 p1 f1 => ?_
    simp
    exact h _ a1 .bl p1 f1
  | .rcd s, m + 1, ah, P, E, hd, hp, h => by
    refine w_fun rfl ?_
    unfold bodyR__law_plain
    simp [Kn.av, at0, wRec]
    exact h _ ah (.str (.inl rfl)) hp (.refl _ _)
  | .lst k, m + 1, ah, P, E, hd, hp, h => by
    refine w_fun rfl ?_
    unfold bodyR__law_plain
    simp [Kn.av, at0, wLst]
    refine tk hp (by decide) (by decide) fun r a1 r0 r1 p1 f1 => ?_
    obtain ⟨w, rest, hw⟩ : ∃ w rest, k.av = .tup (.str w :: rest) := by cases k <;> exact ⟨_, _, rfl⟩
    have e1 : ixO a1 k.av (.int 0) = some (.str w) := by rw [hw]; simp [at0]
    simp [at1, e1]
    refine ⟨.inl ⟨by omega, by omega⟩, ?_⟩
    have hj : 0 ≤ (r * if w = [114, 101, 99, 111, 114, 100] then 0 else 1) ∧ (r * if w = [114, 101, 99, 111, 114, 100] then 0 else 1) ≤ 3 := by split <;> omega
    generalize (r * if w = [114, 101, 99, 111, 114, 100] then 0 else 1) = j at hj ⊢
    refine ⟨by omega, by omega, w_lcY rfl (m := j.toNat) (I := fun acc a => Pt n a ∧ Fx n ah a ∧ ∀ v ∈ acc, GV k.dep v) (rngA 0 j.toNat) [] a1 _ (by simp) ⟨p1, f1, by simp⟩ (fun v hv acc a hacc hI => ?_) fun l a hl hI => ?_⟩
    · obtain ⟨i, rfl, _⟩ := rngA_mem hv
      refine ⟨_, rfl, ?_⟩
      simp [wipeE, at1]
      refine w_plain k m a _ _ (by simp [Kn.dep] at hd; omega) hI.1 fun v a' hv p2 f2 => ?_
      refine ⟨p2, hI.2.1.trans f2, fun x hx => ?_⟩
      rcases hx with z | rfl
      · exact hI.2.2 x z
      · exact hv
    · rw [rngA_len] at hl
      exact h _ a (.tup (by omega) fun x hx => hI.2.2 x (by simpa using hx)) hI.1 hI.2.1
end
end Law
namespace Law
open PySem L2 G
set_option autoImplicit false
abbrev okS (s : List Nat) : Prop := s.all (· < 0x110000) = true
theorem o_ixD (ah : AH) {l : List (AK × AV)} {s : List Nat} : ixO ah (.dk l) (.str s) = lookK l (.inr s) := rfl
mutual
theorem frz_ok {res : Nat → Option AV} : ∀ v : AV, okA v = true → frzV res v = some v
  | .tup l, h => by rw [frzV, frzs_ok l (by rw [G.okA] at h; exact h)]; rfl
  | .lst l, h => by rw [frzV, frzs_ok l (by rw [G.okA] at h; exact h)]; rfl
  | .non, _ => rfl
  | .bl _, _ => rfl
  | .int _, _ => rfl
  | .str _, _ => rfl
  | .dk _, h => by cases h
  | .fl _, h => by cases h
  | .ref _, h => by cases h
  | .fn _, h => by cases h
theorem frzs_ok {res : Nat → Option AV} : ∀ l : List AV, okAs l = true → frzVs res l = some l
  | [], _ => rfl
  | v :: l, h => by
    rw [okAs, Bool.and_eq_true] at h
    rw [frzVs, frz_ok v h.1, frzs_ok l h.2]
end
theorem frzk_ok {res : Nat → Option AV} : ∀ l : List (AK × AV), (∀ p ∈ l, okA p.2 = true) → frzVk res l = some l
  | [], _ => rfl
  | (k, v) :: l, h => by
    rw [frzVk, frz_ok v (h (k, v) (by simp)), frzk_ok l fun p hp => h p (by simp [hp])]
theorem Pt.take {n L : Nat} {ah : AH} (h : Pt n ah) (hn : n < L) : Pt n (ah.take L) := by
  obtain ⟨a, b, q⟩ := h
  exact ⟨a, b, by rw [List.getElem?_take_of_lt hn]; exact q⟩
/-- what a function of its own heap leaves -/
theorem w_own1 {den : Den} {l : List AV} {ah : AH} {P : AV → AH → Prop} {E : ErrP} {n : Nat} (hn : n < List.length ah) (h : wp (den l ah) fun v ah' => Pt n ah' ∧ Fx n ah ah' ∧ ∃ v', frzV (resF ah.length ah' (ah'.length + 1)) v = some v' ∧ ∀ ah'', Pt n ah'' → Fx n ah ah'' → P v' ah'') : wx E (own1 den l ah) P := by
  refine wp_lift ?_
  obtain ⟨v, ah', e, pt, fx, v', e3, hP⟩ := wp_get h
  have ku : keepsUp ah ah' := by
    refine ⟨fx.1, fun i hi => ?_⟩
    by_cases z : i = n
    · subst z
      obtain ⟨a, b, q⟩ := pt
      exact .inr ⟨_, q, rfl⟩
    · exact .inl (fx.2 i hi z)
  unfold own1
  rw [e]
  show wp (@ite _ (keepsUp ah ah') (Classical.propDecidable _) _ _) P
  rw [if_pos ku, e3]
  refine hP _ (pt.take hn) ⟨by rw [List.length_take]; have := fx.1; omega, fun i hi hne => ?_⟩
  rw [List.getElem?_take_of_lt hi]; exact fx.2 i hi hne
theorem fr_dk {L j : Nat} {ah' : AH} {l : List (AK × AV)} (hj : L ≤ j) (g : ah'[j]? = some (.dk l)) (hl : ∀ p ∈ l, okA p.2 = true) : resF L ah' (ah'.length + 1) j = some (.dk l) := by
  rw [resF, if_neg (by omega), g]
  show (frzVk _ _).map AV.dk = _
  rw [frzk_ok _ hl]; rfl
theorem st_dk {ah : AH} {n : Nat} {l : List (AK × AV)} {k : List Nat} {v : AV} (h : ah[n]? = some (.dk l)) (hl : l.length < 1000000) : stA ah (.ref n) (.str k) v = some (ah.set n (.dk (putA l (.inr k) v))) := by
  show (match ah[n]? with | some (.lst l) => (stL l (.str k) v).map fun l' => ah.set n (.lst l') | some (.dk l) => (stD l (.str k) v).map fun l' => ah.set n (.dk l') | none => none) = _
  rw [h]
  show ((if l.length < 1000000 then some (putA l (.inr k) v) else none).map _) = _
  rw [if_pos hl]; rfl
def dkM {β : Type} (f : β → AV) (l : List (List Nat × β)) : List (AK × AV) := l.map fun p => (.inr p.1, f p.2)
theorem dkM_put {β : Type} {f : β → AV} {l : List (List Nat × β)} {s : List Nat} {b : β} (h : s ∉ l.map (·.1)) : putA (dkM f l) (.inr s) (f b) = dkM f (l ++ [(s, b)]) := by
  rw [putA_new]
  · simp [dkM]
  · intro z
    obtain ⟨p, hp, e⟩ := List.mem_map.mp z
    obtain ⟨q, hq, rfl⟩ := List.mem_map.mp hp
    injection e with e
    exact h (List.mem_map.mpr ⟨q, hq, e⟩)
theorem lk_nd {β : Type} : ∀ {l : List (List Nat × β)}, (l.map (·.1)).Nodup → ∀ p ∈ l, lk l p.1 = some p.2
  | [], _, p, h => by cases h
  | q :: l, nd, p, h => by
    rw [List.map_cons, List.nodup_cons] at nd
    unfold lk
    rw [List.find?_cons]
    rcases List.mem_cons.mp h with rfl | h
    · simp
    · have : ¬ q.1 = p.1 := fun z => nd.1 (List.mem_map.mpr ⟨p, h, z.symm⟩)
      simp only [this, decide_false]
      exact lk_nd nd.2 p h
theorem ix_dkM {β : Type} {f : β → AV} {ah : AH} {l : List (List Nat × β)} (nd : (l.map (·.1)).Nodup) {p : List Nat × β} (hp : p ∈ l) : ixO ah (.dk (dkM f l)) (.str p.1) = some (f p.2) := by
  rw [o_ixD]
  rw [show lookK (dkM f l) (.inr p.1) = (lk l p.1).map f from lookK_map f l p.1, lk_nd nd p hp]; rfl
theorem keys_dkM {β : Type} {f : β → AV} (l : List (List Nat × β)) : (dkM f l).map (fun p => keyV p.1) = l.map fun p => AV.str p.1 := by
  simp only [dkM, List.map_map, Function.comp_def]
  rfl
/-- a heap dict that grows -/
structure Grow {β : Type} (n f : Nat) (F : β → AV) (ah : AH) (L : List (List Nat × β)) (a : AH) : Prop where
  pt : Pt n a
  at' : a[f]? = some (.dk (dkM F L))
  len : List.length ah ≤ List.length a
  old : ∀ i, i < List.length ah → i ≠ n → i ≠ f → a[i]? = ah[i]?
section
variable {P : AV → AH → Prop} {n : Nat}
theorem Grow.put {β : Type} {f : Nat} {F : β → AV} {ah a b : AH} {L : List (List Nat × β)} (h : Grow n f F ah L a) (hfn : f ≠ n) (p : Pt n b) (x : Fx n a b) {s : List Nat} {v : β} (hs : s ∉ L.map (·.1)) (hl : L.length < 1000) {w : AV} (hw : w = F v) :
    ∃ b', stA b (.ref f) (.str s) w = some b' ∧ Grow n f F ah (L ++ [(s, v)]) b' := by
  subst hw
  have lf := (List.getElem?_eq_some_iff.mp h.at').1
  have g1 : b[f]? = some (.dk (dkM F L)) := by rw [x.2 f lf hfn]; exact h.at'
  have lf1 := (List.getElem?_eq_some_iff.mp g1).1
  refine ⟨_, st_dk g1 (by simp [dkM]; omega), ?_⟩
  rw [dkM_put hs]
  refine ⟨p.set hfn, List.getElem?_set_self lf1, by rw [List.length_set]; exact Nat.le_trans h.len x.1, fun i hi h1 h2 => ?_⟩
  rw [List.getElem?_set_ne (Ne.symm h2), x.2 i (Nat.lt_of_lt_of_le hi h.len) h1]
  exact h.old i hi h1 h2
end

section
variable {n f : Nat} {E : ErrS} {N B C : G.Env → AH → Prop} {R : AV → AH → Prop}
def hd0 (p : List Nat × Kn) : Nat := p.1.headD 0
theorem hd0_mem {c : Nat} {s : List Nat} {L : List (List Nat × Kn)} (hL : ∀ p ∈ L, p.1 ≠ []) (h : c ∉ L.map hd0) : (c :: s) ∉ L.map (·.1) := fun z => by
  obtain ⟨p, hp, e⟩ := List.mem_map.mp z
  exact h (List.mem_map.mpr ⟨p, hp, by simp [hd0, e]⟩)
structure TOk (L : List (List Nat × Kn)) : Prop where
  ne : ∀ p ∈ L, p.1 ≠ []
  nd : (L.map (·.1)).Nodup
  ok : ∀ p ∈ L, okS p.1 ∧ kOk 3 p.2
theorem w_tl {src : Src} (hs : src.1 = none) (hfn : f ≠ n) (ah : AH) {x1 : Option AV} : ∀ (l : List Nat) (L : List (List Nat × Kn)) (a : AH) (x3 : Option AV), Grow n f Kn.av ah L a → TOk L → (L.map hd0 ++ l).Nodup → (∀ c ∈ l, c < 0x110000) → L.length + l.length ≤ 100 →
    (∀ L' a x3, Grow n f Kn.av ah L' a → TOk L' → L'.length = L.length + l.length → N [some (.ref n), x1, some (.ref f), x3] a) →
    wsx E (forL src (gNm 3) (gStore (gCall (den__law_kind 40) (G.gCons (gVar 0) (G.gCons (gC (.int 3)) (gNil)))) (gVar 2) (gOp addO (gVar 3) (gSl (gC (.str [97, 98, 99])) (gNoP) (gP (gCall den__law_take (G.gCons (gVar 0) (G.gCons (gC (.int 4)) (gNil)))))))) (l.map fun c => AV.str [c]) [some (.ref n), x1, some (.ref f), x3] a) N R B C
  | [], L, a, x3, g, t, nd, hc, hl, h => by
    rw [List.map_nil, s_forN hs]
    exact h L a x3 g t (by simp)
  | c :: l, L, a, x3, g, t, nd, hc, hl, h => by
    rw [List.map_cons, s_forC hs]
    refine ⟨_, rfl, ?_⟩
    simp only [s_store, w_call, w_var, w_c, w_cons, w_nil]
    simp
    refine w_kind 40 3 a _ _ (by omega) g.pt fun k a1 hk p1 f1 => ?_
    refine tk p1 (by decide) (by decide) fun r a2 r0 r1 p2 f2 => ?_
    obtain ⟨s, es, ls, os⟩ : ∃ s, cutA [97, 98, 99] none (some r) = s ∧ s.length ≤ 3 ∧ okS s := by
      rcases (show r = 0 ∨ r = 1 ∨ r = 2 ∨ r = 3 by omega) with rfl | rfl | rfl | rfl <;> exact ⟨_, rfl, by decide, by decide⟩
    show 1 + (cutA [97, 98, 99] none (some r)).length ≤ 1000000 ∧ _
    rw [es]
    refine ⟨by omega, ?_⟩
    have hcL : c ∉ L.map hd0 := fun z => by
      rw [List.nodup_append] at nd
      exact nd.2.2 c z c (by simp) rfl
    obtain ⟨b', q1, q2⟩ := g.put hfn p2 (f1.trans f2) (hd0_mem (s := s) t.ne hcL) (v := k) (w := k.av) (by omega) rfl
    rw [q1]
    have okc : okS (c :: s) := by
      show (c :: s).all (· < 0x110000) = true
      simp only [List.all_cons, Bool.and_eq_true]
      exact ⟨by simpa using hc c (by simp), os⟩
    refine w_tl hs hfn ah l (L ++ [(c :: s, k)]) b' _ q2 ⟨fun p hp => ?_, ?_, fun p hp => ?_⟩ ?_ (fun d hd => hc d (by simp [hd])) (by simp at hl ⊢; omega) fun L' a x3 g' t' hl' => h L' a x3 g' t' (by simp at hl' ⊢; omega)
    · rcases List.mem_append.mp hp with z | z
      · exact t.ne p z
      · simp at z; subst z; simp
    · rw [List.map_append, List.nodup_append]
      refine ⟨t.nd, by simp, fun x hx y hy e => ?_⟩
      simp at hy
      subst hy; subst e
      exact hd0_mem t.ne hcL hx
    · rcases List.mem_append.mp hp with z | z
      · exact t.ok p z
      · simp at z; subst z; exact ⟨okc, hk⟩
    · rw [List.map_append, List.append_assoc]
      exact nd
theorem cutTk {α : Type} (s : List α) (j : Nat) : cutA s none (some (j : Int)) = s.take j := by
  unfold cutA
  rw [HT.sIx_none, HT.sIx_nat]
  simp
theorem w_things {P : AV → AH → Prop} {E : ErrP} {ah : AH} {cs : List Nat} (hcs : cs.Nodup) (hl : cs.length ≤ 10) (hok : ∀ c ∈ cs, c < 0x110000) (hp : Pt n ah)
    (h : ∀ L ah', TOk L → L.length ≤ 10 → Pt n ah' → Fx n ah ah' → P (.dk (dkM Kn.av L)) ah') : wx E (own1 den__law_things [.ref n, .str cs] ah) P := by
  have hn := hp.lt
  refine w_own1 hn ?_
  refine w_fun rfl ?_
  unfold body__law_things
  simp
  refine ⟨by omega, tk hp.app (by omega) (Int.lt_of_le_of_lt (show (cs.length : Int) + 1 ≤ 11 by omega) (by decide)) fun r a1 r0 r1 p1 f1 => ?_⟩
  obtain ⟨j, rfl⟩ := Int.eq_ofNat_of_zero_le r0
  show _ ∧ _
  refine ⟨by omega, ?_⟩
  rw [cutTk]
  have g0 : Grow n (List.length ah) Kn.av (ah ++ [HObj.dk []]) [] a1 := by
    refine ⟨p1, ?_, f1.1, fun i hi h1 h2 => f1.2 i hi h1⟩
    rw [f1.2 _ (by simp) (by omega), List.getElem?_append_right (Nat.le_refl _), Nat.sub_self]; rfl
  have sb := List.take_sublist j cs
  refine w_tl rfl (by omega) (ah ++ [HObj.dk []]) (cs.take j) [] a1 none g0 ⟨by simp, by simp, by simp⟩ (by simpa using sb.nodup hcs) (fun c hc => hok c (sb.subset hc)) (by have := sb.length_le; simp; omega) fun L a x3 g t hL => ?_
  have l1 := g.len
  simp at l1
  refine ⟨g.pt, ⟨by omega, fun i hi hne => ?_⟩, .dk (dkM Kn.av L), ?_, fun ah'' p'' f'' => h L ah'' t (by rw [hL]; have := sb.length_le; simp; omega) p'' f''⟩
  · rw [g.old i (by simp; omega) hne (by omega)]; exact List.getElem?_append_left hi
  · exact fr_dk (L := List.length ah) (Nat.le_refl _) g.at' fun p hp' => by
      obtain ⟨q, hq, rfl⟩ := List.mem_map.mp hp'
      exact Kn.okA q.2 (t.ok q hq).2.1
end
end Law
namespace Law
open PySem L2 G
set_option autoImplicit false
def bxA (p : Kn × AV) : AV := .tup [p.1.av, p.2]
def bOk (p : Kn × AV) : Prop := kOk 3 p.1 ∧ GV 3 p.2
theorem bxA_ok {p : Kn × AV} (h : bOk p) : okA (bxA p) = true ∧ depthA (bxA p) ≤ 20 := by
  have h5 := Kn.okA p.1 h.1.1
  have h6 := Kn.depA p.1
  have h7 := h.1.2
  have h8 := h.2.ok
  exact ⟨by simp [bxA, G.okA, okAs, h5, h8.1], by simp only [bxA, depthA, depthAs, h6]; omega⟩
structure BOk (L : List (List Nat × (Kn × AV))) : Prop where
  nd : (L.map (·.1)).Nodup
  ok : ∀ p ∈ L, okS p.1 ∧ bOk p.2
section
variable {n f : Nat} {E : ErrS} {N B C : G.Env → AH → Prop} {R : AV → AH → Prop}
noncomputable def bxB : GS := gSeq (gWhile (gTB (gOp eqO (gOp ixO (gVar 4) (gC (.int 0))) (gC (.str [114, 101, 99, 111, 114, 100])))) (gSet 4 (gTup (G.gCons (gC (.str [108, 105, 115, 116])) (G.gCons (gVar 4) (gNil)))))) (gStore (gTup (G.gCons (gVar 4) (G.gCons (gCall (den__law_plain 40) (G.gCons (gVar 0) (G.gCons (gVar 4) (gNil)))) (gNil)))) (gVar 2) (gVar 3))
theorem w_bxB {x1 x5 x6 : Option AV} {a : AH} {s : List Nat} {k : Kn} (hk : kOk 3 k) (hp : Pt n a) (h : ∀ k' v a1, bOk (k', v) → Pt n a1 → Fx n a a1 → wx (fun e h => E e [some (.ref n), x1, some (.ref f), some (.str s), some k'.av, x5, x6] h) (lift1 (stA a1 (.ref f) (.str s) (bxA (k', v))) a1) fun ah4 _ => N [some (.ref n), x1, some (.ref f), some (.str s), some k'.av, x5, x6] ah4) :
    wsx E (bxB [some (.ref n), x1, some (.ref f), some (.str s), some k.av, x5, x6] a) N R B C := by
  have fin : ∀ k' : Kn, kOk 3 k' → wsx E (gStore (gTup (G.gCons (gVar 4) (G.gCons (gCall (den__law_plain 40) (G.gCons (gVar 0) (G.gCons (gVar 4) (gNil)))) (gNil)))) (gVar 2) (gVar 3) [some (.ref n), x1, some (.ref f), some (.str s), some k'.av, x5, x6] a) N R B C := fun k' hk' => by
    simp only [s_store, w_tup, w_cons, w_var, w_nil, w_call, List.getElem?_cons_zero, List.getElem?_cons_succ]
    refine w_plain k' 40 a _ _ (by have := hk'.2; omega) hp fun v a1 hv p1 f1 => ?_
    simp
    exact h k' v a1 ⟨hk', hv.mono hk'.2⟩ p1 f1
  unfold bxB
  rw [s_seq, s_while]
  cases k with
  | rcd r =>
    simp [Kn.av, at0, wRec]
    rw [s_while]
    simp [at0]
    have := fin (.lst (.rcd r)) ⟨hk.1, by simp [Kn.dep]⟩
    simp [Kn.av, wRec, wLst] at this
    exact this
  | num =>
    simp [Kn.av, at0, wNum]
    have := fin .num hk
    simp [Kn.av, wNum] at this
    exact this
  | tru =>
    simp [Kn.av, at0, wTru]
    have := fin .tru hk
    simp [Kn.av, wTru] at this
    exact this
  | lst k =>
    simp [Kn.av, at0, wLst]
    have := fin (.lst k) hk
    simp [Kn.av, wLst] at this
    exact this
theorem w_bl {src : Src} (hs : src.1 = none) (hfn : f ≠ n) (ah : AH) {x1 x5 x6 : Option AV} : ∀ (l : List (List Nat × Kn)) (L : List (List Nat × (Kn × AV))) (a : AH) (x3 x4 : Option AV), Grow n f bxA ah L a → BOk L → (L.map (·.1) ++ l.map (·.1)).Nodup → (∀ p ∈ l, okS p.1 ∧ kOk 3 p.2) → L.length + l.length ≤ 100 →
    (∀ L' a x3 x4, Grow n f bxA ah L' a → BOk L' → L'.length = L.length + l.length → N [some (.ref n), x1, some (.ref f), x3, x4, x5, x6] a) →
    wsx E (forL src (gTg 2 (gTc (gNm 3) (gTc (gNm 4) (gTn)))) bxB (l.map fun p => .tup [keyV (.inr p.1), p.2.av]) [some (.ref n), x1, some (.ref f), x3, x4, x5, x6] a) N R B C
  | [], L, a, x3, x4, g, t, nd, hc, hl, h => by
    rw [List.map_nil, s_forN hs]
    exact h L a x3 x4 g t (by simp)
  | p :: l, L, a, x3, x4, g, t, nd, hc, hl, h => by
    rw [List.map_cons, s_forC hs]
    refine ⟨_, rfl, ?_⟩
    refine w_bxB (n := n) (f := f) (hc p (by simp)).2 g.pt fun k v a1 hb p1 f1 => ?_
    have hpL : p.1 ∉ L.map (·.1) := fun z => by
      rw [List.nodup_append] at nd
      exact nd.2.2 p.1 z p.1 (by simp) rfl
    obtain ⟨b', q1, q2⟩ := g.put hfn p1 f1 hpL (v := (k, v)) (w := bxA (k, v)) (by omega) rfl
    rw [q1]
    simp
    refine w_bl hs hfn ah l (L ++ [(p.1, (k, v))]) b' _ _ q2 ⟨?_, fun q hq => ?_⟩ ?_ (fun q hq => hc q (by simp [hq])) (by simp at hl ⊢; omega) fun L' a x3 x4 g' t' hl' => h L' a x3 x4 g' t' (by simp at hl' ⊢; omega)
    · rw [List.map_append, List.nodup_append]
      refine ⟨t.nd, by simp, fun x hx y hy e => ?_⟩
      simp at hy
      subst hy; subst e
      exact hpL hx
    · rcases List.mem_append.mp hq with z | z
      · exact t.ok q z
      · simp at z; subst z; exact ⟨(hc p (by simp)).1, hb⟩
    · rw [List.map_append, List.append_assoc]
      exact nd
def goA : AV := .tup [.tup [.str [103, 111], .int 0]]
def ptA (T : Fds) (g : Kn) : AV := .tup [fdsA T, g.av, goA]
def pdA (T : Fds) (g : Kn) : List (AK × AV) := [(.inr [109, 97, 105, 110], ptA T g), (.inr [109], ptA [] g)]
def kk0 : List (AK × AV) := [(.inr [107], .tup [.tup [.str [97], .tup [.str wNum]]])]
theorem fds_ok {d : Nat} : ∀ {fs : Fds}, (∀ q ∈ fs, okS q.1 ∧ kOk d q.2) → okAs (prs fs) = true ∧ depthAs (prs fs) ≤ d + 2
  | [], _ => ⟨rfl, by simp [prs, depthAs]⟩
  | p :: fs, h => by
    obtain ⟨h1, h2⟩ := fds_ok (fs := fs) fun q hq => h q (List.mem_cons_of_mem _ hq)
    obtain ⟨h3, h4⟩ := h p (by simp)
    have h5 := Kn.okA p.2 h4.1
    have h6 := Kn.depA p.2
    have h3 : p.1.all (· < 0x110000) = true := h3
    have h7 := h4.2
    refine ⟨?_, ?_⟩
    · show okAs (AV.tup [.str p.1, p.2.av] :: prs fs) = true
      simp [okAs, G.okA, h1, h5]
      simpa using h3
    · show depthAs (AV.tup [.str p.1, p.2.av] :: prs fs) ≤ _
      simp only [depthAs, depthA, h6]
      omega
theorem ptA_ok {d : Nat} {T : Fds} {g : Kn} (h : ∀ q ∈ T, okS q.1 ∧ kOk d q.2) (hd : d ≤ 5) (hg : kOk 5 g) : okA (ptA T g) = true ∧ depthA (ptA T g) ≤ 20 := by
  have h1 := fds_ok h
  have h5 := Kn.okA g hg.1
  have h6 := Kn.depA g
  have h7 := hg.2
  have h9 : okA goA = true := by decide
  have h10 : depthA goA = 2 := by decide
  refine ⟨by simp [ptA, fdsA, G.okA, okAs, h5, h1.1, h9], ?_⟩
  simp only [ptA, fdsA, depthA, depthAs, h6, h10]; omega
theorem w_prog {P : AV → AH → Prop} {E : ErrP} {ah : AH} (hp : Pt n ah)
    (h : ∀ BD T g ah', BOk BD → BD.length ≤ 10 → TOk T → T.length ≤ 10 → kOk 2 g → Pt n ah' → Fx n ah ah' → P (.tup [.dk kk0, .dk (dkM bxA BD), .dk (pdA T g)]) ah') : wx E (own1 den__law_program [.ref n] ah) P := by
  have hn := hp.lt
  refine w_own1 hn ?_
  refine w_fun rfl ?_
  unfold body__law_program
  simp
  refine w_things (by decide) (by decide) (by decide) hp.app fun L a1 tL lL p1 f1 => ?_
  rw [show mergeA [] [((Sum.inr [107] : AK), AV.tup [AV.tup [AV.str [97], AV.tup [AV.str [110, 117, 109, 98, 101, 114]]]])] = kk0 from rfl]
  rw [show itmA (AV.dk (dkM Kn.av L)) = some (none, L.map fun p => AV.tup [keyV (.inr p.1), p.2.av]) from by simp [itmA, dkM, Function.comp_def]]
  have g0 : Grow n (List.length ah) bxA (ah ++ [HObj.dk []]) [] a1 := by
    refine ⟨p1, ?_, f1.1, fun i hi h1 h2 => f1.2 i hi h1⟩
    rw [f1.2 _ (by simp) (by omega), List.getElem?_append_right (Nat.le_refl _), Nat.sub_self]; rfl
  refine w_bl (n := n) (f := List.length ah) (src := (none, L.map fun p => AV.tup [keyV (.inr p.1), p.2.av])) rfl (by omega) (ah ++ [HObj.dk []]) L [] a1 none none g0 ⟨by simp, by simp⟩ (by simpa using tL.nd) tL.ok (by simp; omega) fun BD a2 x3 x4 g t hBD => ?_
  simp
  have l1 := g.len
  simp at l1
  refine w_things (by decide) (by decide) (by decide) g.pt fun T a3 tT lT p3 f3 => ?_
  simp
  refine w_kind 40 2 a3 _ _ (by omega) p3 fun gv a4 hg p4 f4 => ?_
  have e1 : (dkM Kn.av T).map (fun p => AV.tup [keyV p.1, p.2]) = prs T := by
    simp [dkM, prs, Function.comp_def]
    exact fun _ _ _ => rfl
  rw [e1]
  have f5 := f3.trans f4
  have q0 : a4[List.length ah]? = some (.dk (dkM bxA BD)) := by rw [f5.2 _ (by omega) (by omega)]; exact g.at'
  have fAll : Fx n ah a4 := by
    refine ⟨by have := f5.1; omega, fun i hi hne => ?_⟩
    rw [f5.2 i (by omega) hne, g.old i (by simp; omega) hne (by omega)]; exact List.getElem?_append_left hi
  refine ⟨p4, fAll, .tup [.dk kk0, .dk (dkM bxA BD), .dk (pdA T gv)], ?_, fun ah'' p'' f'' => h BD T gv ah'' t (by simp at hBD; omega) tT lT hg p'' f''⟩
  have q1 := fr_dk (L := List.length ah) (Nat.le_refl _) q0 (fun p hp' => by
    obtain ⟨q, hq, rfl⟩ := List.mem_map.mp hp'
    exact (bxA_ok (t.ok q hq).2).1)
  have q2 : frzVk (resF (List.length ah) a4 (List.length a4 + 1)) kk0 = some kk0 := frzk_ok _ (by decide)
  have q3 : frzVk (resF (List.length ah) a4 (List.length a4 + 1)) (pdA T gv) = some (pdA T gv) := frzk_ok _ fun p hp' => by
    simp only [pdA, List.mem_cons, List.not_mem_nil, or_false] at hp'
    rcases hp' with rfl | rfl
    · exact (ptA_ok (d := 3) tT.ok (by omega) ⟨hg.1, by have := hg.2; omega⟩).1
    · exact (ptA_ok (d := 3) (T := []) (by simp) (by omega) ⟨hg.1, by have := hg.2; omega⟩).1
  show frzV _ (.tup [.dk kk0, .ref (List.length ah), .dk (pdA T gv)]) = _
  simp only [frzV, frzVs, q1, q2, q3]
  rfl
end
end Law
namespace Law
open PySem L2 G
set_option autoImplicit false
noncomputable def vR : GS := gSeq (gIf (gAndT (gTB (gOp eqO (gVar 3) (gC (.int 1)))) (gTB (gOp (notO eqO) (gVar 2) (gLst (G.gNil))))) (gStore (gCall (den__law_plain 40) (G.gCons (gVar 0) (G.gCons (gCall (den__law_kind 40) (G.gCons (gVar 0) (G.gCons (gC (.int 2)) (G.gNil)))) (G.gNil)))) (gVar 2) (gCall den__law_take (G.gCons (gVar 0) (G.gCons (gB lenO (G.gCons (gVar 2) (G.gNil))) (G.gNil))))) (gSkip)) (gSeq (gIf (gTB (gOp eqO (gVar 3) (gC (.int 2)))) (gSet 2 (gSl (gVar 2) (gP (gC (.int 1))) (gNoP))) (gSkip)) (gSeq (gIf (gTB (gOp eqO (gVar 3) (gC (.int 3)))) (gSet 2 (gAddR (gVar 2) (gLst (G.gCons (gCall (den__law_plain 40) (G.gCons (gVar 0) (G.gCons (G.gTup (G.gCons (gC (.str [110, 117, 109, 98, 101, 114])) (G.gNil))) (G.gNil)))) (G.gNil))))) (gSkip)) (gSeq (gIf (gAndT (gTB (gOp eqO (gVar 3) (gC (.int 4)))) (gTB (gOp (notO eqO) (gVar 2) (gLst (G.gNil))))) (gStore (gOp ixO (gLst (G.gCons (gC (.str [114, 48])) (G.gCons (G.gTup (G.gCons (gC (.str [114, 49])) (G.gNil))) (G.gCons (G.gTup (G.gCons (G.gTup (G.gCons (gC (.str [114, 48])) (G.gNil))) (G.gCons (G.gTup (G.gNil)) (G.gNil)))) (G.gNil))))) (gCall den__law_take (G.gCons (gVar 0) (G.gCons (gC (.int 3)) (G.gNil))))) (gVar 2) (gCall den__law_take (G.gCons (gVar 0) (G.gCons (gB lenO (G.gCons (gVar 2) (G.gNil))) (G.gNil))))) (gSkip)) (gRet (gB tupO (G.gCons (gVar 2) (G.gNil)))))))
theorem values_body : body__law_values = gSeq (gSet 2 (gLcH (gIt (gVar 1)) (gTg 2 (gTc (gNm 4) (gTc (gNm 5) (gTn)))) (gYes) (gCall (den__law_plain 40) (G.gCons (gVar 0) (G.gCons (gVar 5) (G.gNil)))) [4, 5])) (gSeq (gSet 3 (gCall den__law_take (G.gCons (gVar 0) (G.gCons (gC (.int 8)) (G.gNil))))) vR) := rfl
section
variable {n f : Nat} {E : ErrS} {N B C : G.Env → AH → Prop} {R : AV → AH → Prop}
abbrev lA (vs : List AV) (d : Nat) : Prop := ∀ v ∈ vs, GV d v
theorem eq_lst0 {a : AH} {vs : List AV} (h : a[f]? = some (.lst vs)) : eqO a (.ref f) (.lst []) = some (.bl vs.isEmpty) := by
  rw [o_eqR h]
  cases vs <;> rfl
theorem o_tupR {a : AH} {vs : List AV} (h : a[f]? = some (.lst vs)) : tupO a [.ref f] = some (.tup vs) := by
  unfold tupO
  simp only [dr_ref h]
  rfl
theorem o_lenR {a : AH} {vs : List AV} (h : a[f]? = some (.lst vs)) : lenO a [.ref f] = some (.int vs.length) := by
  unfold lenO
  simp only [dr_ref h]
  rfl
theorem o_slR {a : AH} {vs : List AV} {lo hi : Option Int} (h : a[f]? = some (.lst vs)) : slO a (.ref f) lo hi = some (.lst (cutA vs lo hi)) := by
  unfold slO
  simp only [dr_ref h]
  rfl
theorem w_put {EE : ErrP} {v : AV} {vs : List AV} {b : AH} (hfn : f ≠ n) (hp : Pt n b) (hf : b[f]? = some (.lst vs)) (hv : lA vs 4) (hw : GV 4 v) (hl : vs.length ≤ 10) (h0 : vs ≠ []) (h : ∀ vs' b', lA vs' 4 → vs'.length ≤ 20 → Pt n b' → (∀ i, i < List.length b → i ≠ n → i ≠ f → b'[i]? = b[i]?) → List.length b ≤ List.length b' → R (.tup vs') b') :
    wx EE (lift1 (lenO b [.ref f]) b) fun w a1 => wx EE (den__law_take [.ref n, w] a1) fun k a3 => wx EE (lift1 (stA a3 (.ref f) k v) a3) fun a4 _ => wx EE (lift1 (tupO a4 [.ref f]) a4) R := by
  have h1 : 0 < vs.length := List.length_pos_iff.mpr h0
  rw [o_lenR hf]
  simp
  refine tk hp (by omega) (Int.lt_of_le_of_lt (show (vs.length : Int) ≤ 10 by omega) (by decide)) fun r b1 r0 r1 p1 f1 => ?_
  obtain ⟨j, rfl⟩ := Int.eq_ofNat_of_zero_le r0
  have lf := (List.getElem?_eq_some_iff.mp hf).1
  have g1 : b1[f]? = some (.lst vs) := by rw [f1.2 f lf hfn]; exact hf
  have lf1 := (List.getElem?_eq_some_iff.mp g1).1
  have ej : ixN vs.length (j : Int) = some j := by unfold ixN; simp; omega
  rw [o_stR g1]
  rw [ej]
  simp
  rw [o_tupR (List.getElem?_set_self lf1)]
  simp
  refine h _ _ (fun x hx => ?_) (by simp; omega) (p1.set hfn) (fun i hi h1 h2 => ?_) (by rw [List.length_set]; exact f1.1)
  · rcases List.mem_or_eq_of_mem_set hx with z | rfl
    · exact hv x z
    · exact hw
  · rw [List.getElem?_set_ne (Ne.symm h2)]; exact f1.2 i hi h1
theorem w_vR {T : AV} {r : Int} {vs : List AV} {a : AH} (hfn : f ≠ n) (hp : Pt n a) (hf : a[f]? = some (.lst vs)) (hv : lA vs 3) (hl : vs.length ≤ 10) (h : ∀ vs' a', lA vs' 4 → vs'.length ≤ 20 → Pt n a' → (∀ i, i < List.length a → i ≠ n → i ≠ f → a'[i]? = a[i]?) → List.length a ≤ List.length a' → R (.tup vs') a') :
    wsx E (vR [some (.ref n), some T, some (.ref f), some (.int r), none, none] a) N R B C := by
  have hv4 : lA vs 4 := fun v hx => (hv v hx).up
  have lf := (List.getElem?_eq_some_iff.mp hf).1
  have same : R (.tup vs) a := h vs a hv4 (by omega) hp (fun _ _ _ _ => rfl) (Nat.le_refl _)
  have keep : ∀ {b : AH}, Fx n a b → b[f]? = some (.lst vs) := fun x => by rw [x.2 f lf hfn]; exact hf
  have back : ∀ {b : AH}, Fx n a b → ∀ vs' b', lA vs' 4 → vs'.length ≤ 20 → Pt n b' → (∀ i, i < List.length b → i ≠ n → i ≠ f → b'[i]? = b[i]?) → List.length b ≤ List.length b' → R (.tup vs') b' := fun {b} x vs' b' q1 q2 q3 q4 q5 => h vs' b' q1 q2 q3 (fun i hi h1 h2 => by rw [q4 i (Nat.lt_of_lt_of_le hi x.1) h1 h2]; exact x.2 i hi h1) (Nat.le_trans x.1 q5)
  by_cases h1 : r = 1
  · subst h1
    unfold vR
    simp [eq_lst0 hf]
    split
    · rw [o_tupR hf]; simpa using same
    · rename_i h0
      refine w_kind 40 2 a _ _ (by omega) hp fun k a1 hk p1 f1 => ?_
      refine w_plain k 40 a1 _ _ (by have := hk.2; omega) p1 fun v a2 hw p2 f2 => ?_
      have f3 := f1.trans f2
      exact w_put hfn p2 (keep f3) hv4 (hw.mono (by have := hk.2; omega)) hl h0 (back f3)
  by_cases h2 : r = 2
  · subst h2
    unfold vR
    simp [o_slR hf, cutDg]
    refine h _ a (fun x hx => hv4 x (List.mem_of_mem_tail hx)) (by simp; omega) hp (fun _ _ _ _ => rfl) (Nat.le_refl _)
  by_cases h3 : r = 3
  · subst h3
    unfold vR
    simp
    refine w_plain .num 40 a _ _ (by simp [Kn.dep]) hp fun v a1 hw p1 f1 => ?_
    have e1 : addR a1 (.ref f) (.lst [v]) = some (vs ++ [v]) := by
      unfold addR
      simp only [dr_ref (keep f1)]
      show (if vs.length + 1 ≤ 1000000 then some (vs ++ [v]) else none) = _
      rw [if_pos (by omega)]
    rw [e1]
    simp
    rw [o_tupR (f := List.length a1) (vs := vs ++ [v]) (by rw [List.getElem?_append_right (Nat.le_refl _), Nat.sub_self]; rfl)]
    simp
    refine h _ _ (fun x hx => ?_) (by simp; omega) p1.app (fun i hi hn _ => ?_) (by simp; have := f1.1; omega)
    · rcases List.mem_append.mp hx with z | z
      · exact hv4 x z
      · simp at z; subst z; exact hw.mono (by simp [Kn.dep])
    · have := f1.1
      rw [List.getElem?_append_left (by omega)]; exact f1.2 i hi hn
  by_cases h4 : r = 4
  · subst h4
    unfold vR
    simp [eq_lst0 hf]
    split
    · rw [o_tupR hf]; simpa using same
    · rename_i h0
      refine tk hp (by decide) (by decide) fun q a1 q0 q1 p1 f1 => ?_
      have fin : ∀ v, GV 4 v → _ := fun v hw => w_put (EE := fun e h => E e [some (.ref n), some T, some (.ref f), some (.int 4), none, none] h) hfn p1 (keep f1) hv4 hw hl h0 (back f1)
      rcases (show q = 0 ∨ q = 1 ∨ q = 2 by omega) with rfl | rfl | rfl
      · simp [at0]
        exact fin _ (.str (.inl rfl))
      · simp [at1]
        exact fin _ (.tup (by decide) fun x hx => by simp at hx; subst hx; exact .str (.inr rfl))
      · simp [at2]
        refine fin _ (.tup (by decide) fun x hx => ?_)
        simp at hx
        rcases hx with rfl | rfl
        · exact .tup (by decide) fun x hx => by simp at hx; subst hx; exact .str (.inl rfl)
        · exact .tup (by decide) fun x hx => by cases hx
  · unfold vR
    simp [h1, h2, h3, h4]
    rw [o_tupR hf]; simpa using same
theorem w_values {P : AV → AH → Prop} {E : ErrP} {ah : AH} {T : Fds} (hT : ∀ p ∈ T, kOk 3 p.2) (hl : T.length ≤ 10) (hp : Pt n ah) (h : ∀ vs ah', lA vs 4 → vs.length ≤ 20 → Pt n ah' → Fx n ah ah' → P (.tup vs) ah') : wx E (den__law_values [.ref n, fdsA T] ah) P := by
  refine w_fun rfl ?_
  rw [values_body]
  rw [s_seq, s_set, w_lcH]
  simp [wipeE, fdsA, prs]
  have hn := hp.lt
  refine ⟨by omega, w_lcY rfl (m := T.length) (I := fun acc a => Pt n a ∧ Fx n ah a ∧ lA acc 3) (T.map fun p => AV.tup [AV.str p.1, p.2.av]) [] ah _ (by simp) ⟨hp, .refl _ _, by simp [lA]⟩ (fun v hv acc a hacc hI => ?_) fun l a hll hI => ?_⟩
  · obtain ⟨p, hpm, rfl⟩ := List.mem_map.mp hv
    refine ⟨_, rfl, ?_⟩
    simp
    refine w_plain p.2 40 a _ _ (by have := (hT p hpm).2; omega) hI.1 fun w a' hw p2 f2 => ?_
    refine ⟨p2, hI.2.1.trans f2, fun x hx => ?_⟩
    rcases List.mem_append.mp hx with z | z
    · exact hI.2.2 x z
    · simp at z; subst z; exact hw.mono (hT p hpm).2
  · rw [List.length_map] at hll
    have l1 := hI.2.1.1
    refine tk hI.1.app (by decide) (by decide) fun r a1 r0 r1 p1 f1 => ?_
    have l2 := f1.1
    simp at l2
    refine w_vR (n := n) (f := List.length a) (vs := l) (by omega) p1 (by rw [f1.2 _ (by simp) (by omega), List.getElem?_append_right (Nat.le_refl _), Nat.sub_self]; rfl) (fun x hx => hI.2.2 x (by simpa using hx)) (by omega) fun vs' a' q1 q2 q3 q4 q5 => ?_
    refine h vs' a' q1 q2 q3 ⟨by omega, fun i hi hne => ?_⟩
    rw [q4 i (by omega) hne (by omega), f1.2 i (by simp; omega) hne, List.getElem?_append_left (by omega)]
    exact hI.2.1.2 i hi hne
end
end Law
namespace Law
open PySem L2 G
set_option autoImplicit false
@[irreducible] noncomputable def bg5  : GS := gRet (G.gTup (G.gCons (gVar 4) (G.gCons (gDk0H) (G.gCons (G.gTup (G.gCons (G.gTup (G.gCons (gVar 1) (G.gCons (gVar 3) (G.gCons (gC (.int 0)) (G.gCons (gVar 5) (gNil)))))) (gNil))) (G.gCons (G.gTup (gNil)) (G.gCons (gC .non) (gNil)))))))
@[irreducible] noncomputable def bg4  : GS := gSeq (gSet 5 (gDictOfH (G.gCons (gLcV (gZip (G.gCons (gOp ixO (gVar 3) (gC (.int 0))) (G.gCons (gVar 2) (gNil)))) (gTg 2 (gTc (gTg 2 (gTc (gNm 6) (gTc (gNm 7) (gTn)))) (gTc (gNm 8) (gTn)))) (gYes) (G.gTup (G.gCons (gVar 6) (G.gCons (gVar 8) (gNil)))) [6, 7, 8]) (gNil)))) bg5
@[irreducible] noncomputable def bg3  : GS := gSeq (gSet 4 (gDictOfH (G.gCons (gLcV (gItems (gOp ixO (gVar 0) (gC (.int 1)))) (gTg 2 (gTc (gNm 9) (gTc (gTg 2 (gTc (gNm 7) (gTc (gNm 8) (gTn)))) (gTn)))) (gYes) (G.gTup (G.gCons (gVar 9) (G.gCons (gVar 8) (gNil)))) [9, 7, 8]) (gNil)))) bg4
@[irreducible] noncomputable def bg2  : GS := gSeq (gIf (gOrT (gTB (gOp (notO eqO) (gB lenO (G.gCons (gVar 2) (gNil))) (gB lenO (G.gCons (gOp ixO (gVar 3) (gC (.int 0))) (gNil))))) (gNotT (gTT (gB allO (G.gCons (gLcV (gZip (G.gCons (gOp ixO (gVar 3) (gC (.int 0))) (G.gCons (gVar 2) (gNil)))) (gTg 2 (gTc (gTg 2 (gTc (gNm 6) (gTc (gNm 7) (gTn)))) (gTc (gNm 8) (gTn)))) (gYes) (gCall (den_is_of 40) (G.gCons (gVar 7) (G.gCons (gVar 8) (G.gCons (gDk0) (gNil))))) [6, 7, 8]) (gNil)))))) (gRaiseI "Stuck" ["name", "row"] (G.gCons (gVar 1) (G.gCons (gC c_AHEAD) (gNil)))) (gSkip)) bg3
@[irreducible] noncomputable def bg1  : GS := gSeq (gSet 3 (gOp ixO (gOp ixO (gVar 0) (gC (.int 2))) (gVar 1))) bg2
@[irreducible] noncomputable def bg0  : GS := gSeq (gIf (gTB (gOp (notO inO) (gVar 1) (gOp ixO (gVar 0) (gC (.int 2))))) (gRaiseI "Stuck" ["name", "row"] (G.gCons (gVar 1) (G.gCons (gC c_AHEAD) (gNil)))) (gSkip)) bg1
theorem begun_eq : den_begun = gFun 3 10 bg0 := by
  unfold bg0 bg1 bg2 bg3 bg4 bg5
  rfl
abbrev Zt := (List Nat × Kn) × AV
def zv (q : Zt) : AV := .tup [.tup [.str q.1.1, q.1.2.av], q.2]
theorem zip_prs : ∀ (T : Fds) (vs : List AV), zipA (prs T) vs = (T.zip vs).map zv
  | [], _ => by simp [prs, zipA]
  | p :: T, [] => by simp [zipA]
  | p :: T, v :: vs => by
    have := zip_prs T vs
    show AV.tup [.tup [.str p.1, p.2.av], v] :: zipA (prs T) vs = _
    rw [this]; rfl
def fitB (T : Fds) (vs : List AV) : Bool := (T.zip vs).all fun q => isOf q.1.2 q.2
def pg (BD : List (List Nat × (Kn × AV))) (T : Fds) (g : Kn) : AV := .tup [.dk kk0, .dk (dkM bxA BD), .dk (pdA T g)]
theorem prsA_gen {β : Type} (f : β → AV) : ∀ l : List (List Nat × β), prsA (l.map fun p => AV.tup [.str p.1, f p.2]) = some (dkM f l)
  | [] => rfl
  | p :: l => by
    have := prsA_gen f l
    show (match prA (.tup [.str p.1, f p.2]), prsA (l.map fun p => AV.tup [.str p.1, f p.2]) with
      | some q, some qs => some (q :: qs)
      | _, _ => none) = _
    rw [this]; rfl
theorem dkM_nodup {β : Type} {f : β → AV} {l : List (List Nat × β)} (h : (l.map (·.1)).Nodup) : ((dkM f l).map (·.1)).Nodup := by
  have : (dkM f l).map (·.1) = (l.map (·.1)).map (.inr · : List Nat → AK) := by simp [dkM]
  rw [this]
  exact List.Pairwise.map _ (fun a b hab e => hab (by injection e)) h
theorem dict_gen {β : Type} {ah : AH} {f : β → AV} {l : List (List Nat × β)} (h : (l.map (·.1)).Nodup) : dcR [.lst (l.map fun p => AV.tup [.str p.1, f p.2])] ah = .ok (dkM f l) ah := by
  show lift1 ((prsA (l.map fun p => AV.tup [.str p.1, f p.2])).map fun ps => mergeA [] ps) ah = _
  rw [prsA_gen]
  show Res.ok (mergeA [] (dkM f l)) ah = _
  rw [merge_nil (dkM_nodup h)]
theorem o_inDk {ah : AH} {s : List Nat} {l : List (AK × AV)} : inO ah (.str s) (.dk l) = some (.bl (lookK l (.inr s)).isSome) := by
  rcases s with _ | ⟨c, _ | ⟨d, t⟩⟩ <;> rfl
theorem wx_okk {α : Type} {a : α} {ah : AH} {E : ErrP} {P : α → AH → Prop} : wx E (Res.ok a ah) P = P a ah := rfl
theorem lcM_g {γ : Type} {src : Src} (hs : src.1 = none) {h : GG} {e : GE} {env : G.Env} {m g : γ → AV} (l : List γ) (ah : AH) {P : List AV → AH → Prop} (hstep : ∀ v ∈ l, ∃ env1, h env (m v) = some env1 ∧ wp (e env1 ah) fun x a => x = g v ∧ a = ah) (hP : P (l.map g) ah) : wp (lcL src h gYes e env (l.map m) ah) P := by
  refine w_lcM hs (m := m) (f := fun _ => true) (g := g) l ah _ (fun v hv => ?_) ?_
  · obtain ⟨env1, h1, h2⟩ := hstep v hv
    refine ⟨env1, h1, ?_⟩
    simp
    refine wp_mono h2 fun x a q => ?_
    simpa using ⟨q.2, q.1⟩
  · rw [filter_yes]; exact hP
section
variable {P : AV → AH → Prop} {E : ErrP} {ah : AH} {BD : List (List Nat × (Kn × AV))} {T TT : Fds} {g : Kn} {s : List Nat} {vs : List AV}
def stuck (s : List Nat) : EV := ⟨"Stuck", [("row", .int (-1)), ("name", .str s)]⟩
theorem w_begun_lost (hs : lookK (pdA T g) (.inr s) = none) (h : E (stuck s) ah) : wx E (gFun 3 10 bg0 [pg BD T g, .str s, .tup vs] ah) P := by
  refine w_fun rfl ?_
  unfold bg0 pg
  simp [at2, o_inDk, hs]
  exact h
theorem w_begun (hs : lookK (pdA T g) (.inr s) = some (ptA TT g)) (hT : ∀ p ∈ TT, kOk 3 p.2) (hnd : (TT.map (·.1)).Nodup) (hBD : BOk BD) (hl : TT.length ≤ 10) (hbl : BD.length ≤ 10) (hv : lA vs 4)
    (hbad : ¬ (vs.length = TT.length ∧ fitB TT vs = true) → E (stuck s) ah)
    (h : vs.length = TT.length → fitB TT vs = true → P (.tup [.ref ah.length, .ref (ah.length + 2), .tup [.tup [.str s, ptA TT g, .int 0, .ref (ah.length + 1)]], .tup [], .non]) (ah ++ [.dk (dkM (fun p : Kn × AV => p.2) BD), .dk ((TT.zip vs).map fun q => (.inr q.1.1, q.2)), .dk []])) : wx E (gFun 3 10 bg0 [pg BD T g, .str s, .tup vs] ah) P := by
  have e0 : ∀ a, ixO a (ptA TT g) (.int 0) = some (fdsA TT) := fun a => by simp [ptA, at0]
  refine w_fun rfl ?_
  unfold bg0 pg
  simp [at2, o_inDk, hs]
  unfold bg1
  simp [at2, hs]
  unfold bg2
  have e1 : ixO ah (.dk (pdA T g)) (.str s) = some (ptA TT g) := by rw [o_ixD, hs]
  have lp : (prs TT).length = TT.length := by simp [prs]
  simp [e0, e1, fdsA, lp]
  by_cases hlen : vs.length = TT.length
  · rw [if_pos (show (vs.length : Int) = (TT.length : Int) by omega)]
    rw [zip_prs]
    simp
    refine ⟨by omega, w_lcM rfl (m := zv) (f := fun _ => true) (g := fun q => .bl (isOf q.1.2 q.2)) (TT.zip vs) ah _ (fun q hq => ⟨_, rfl, ?_⟩) ?_⟩
    · have hm := List.of_mem_zip hq
      simp [wipeE]
      exact w_isof q.1.2 4 40 q.2 _ _ _ (by have := (hT q.1 hm.1).2; omega) (hv q.2 hm.2) ⟨rfl, rfl⟩
    · rw [filter_yes]
      refine wp_eq (bls_map' (TT.zip vs) _) ?_
      by_cases hf : fitB TT vs = true
      · have nf : false ∉ (TT.zip vs).map fun q => isOf q.1.2 q.2 := fun z => by
          obtain ⟨q, hq, e⟩ := List.mem_map.mp z
          rw [List.all_eq_true.mp hf q hq] at e
          cases e
        rw [if_neg nf]
        unfold bg3
        simp [at1]
        rw [show (dkM bxA BD).map (fun p => AV.tup [keyV p.1, p.2]) = BD.map fun p => AV.tup [.str p.1, .tup [p.2.1.av, p.2.2]] from by simp [dkM, bxA, Function.comp_def]; exact fun _ _ _ _ => rfl]
        refine ⟨by simp [dkM]; omega, lcM_g rfl (g := fun p => AV.tup [.str p.1, p.2.2]) BD ah (fun p hp => ⟨_, rfl, ?_⟩) ?_⟩
        · simp [wipeE]
        rw [prsA_gen (fun p : Kn × AV => p.2) BD]
        simp
        rw [merge_nil (dkM_nodup hBD.nd)]
        unfold bg4
        simp [e0]
        rw [show zipR [fdsA TT, AV.tup vs] (ah ++ [HObj.dk (dkM (fun p : Kn × AV => p.2) BD)]) = .ok (none, (TT.zip vs).map zv) (ah ++ [HObj.dk (dkM (fun p : Kn × AV => p.2) BD)]) from by rw [← zip_prs]; rfl]
        simp
        have hz : (TT.zip vs).length ≤ 10 := by rw [List.length_zip]; omega
        refine ⟨by omega, lcM_g rfl (m := zv) (g := fun q : Zt => AV.tup [.str q.1.1, q.2]) (TT.zip vs) _ (fun q hq => ⟨_, rfl, ?_⟩) ?_⟩
        · simp [wipeE]
        have e2 : (TT.zip vs).map (fun q : Zt => AV.tup [.str q.1.1, q.2]) = ((TT.zip vs).map fun q : Zt => (q.1.1, q.2)).map fun p : List Nat × AV => AV.tup [.str p.1, p.2] := by rw [List.map_map]; rfl
        rw [e2, prsA_gen (fun v : AV => v)]
        rw [lift1_some, wx_okk]
        rw [merge_nil (dkM_nodup (by
          rw [List.map_map]
          show ((TT.zip vs).map fun q : Zt => q.1.1).Nodup
          have : (TT.zip vs).map (fun q : Zt => q.1.1) = (TT.map (·.1)) := by
            rw [show (fun q : Zt => q.1.1) = (fun p : List Nat × Kn => p.1) ∘ (fun q : Zt => q.1) from rfl, ← List.map_map, List.map_fst_zip (by omega)]
          rw [this]; exact hnd))]
        unfold bg5
        simp
        have e3 : dkM (fun v : AV => v) ((TT.zip vs).map fun q : Zt => (q.1.1, q.2)) = (TT.zip vs).map fun q : Zt => ((.inr q.1.1 : AK), q.2) := by simp [dkM, Function.comp_def]
        rw [e3]
        trace_state
        exact h hlen hf
      · have nf : false ∈ (TT.zip vs).map fun q => isOf q.1.2 q.2 := by
          apply Classical.byContradiction
          intro z
          refine hf (List.all_eq_true.mpr fun q hq => ?_)
          cases e : isOf q.1.2 q.2 with
          | true => rfl
          | false => exact absurd (List.mem_map.mpr ⟨q, hq, e⟩) z
        rw [if_pos nf]
        exact hbad fun z => hf z.2
  · rw [if_neg (show ¬ ((vs.length : Int) = (TT.length : Int)) by omega)]
    exact hbad fun z => hlen z.1
end
end Law
namespace Law
open PySem L2 G
set_option autoImplicit false
@[irreducible] noncomputable def rf0 : GS := body__law_refused
theorem refused_eq : den__law_refused = gFun 3 4 rf0 := by unfold rf0; rfl
section
variable {P : AV → AH → Prop} {E : ErrP} {ah : AH} {s : List Nat} {vs : List AV} {pr : AV}
theorem w_refused (hbeg : ∀ {E' : ErrP} {P' : AV → AH → Prop}, E' (stuck s) ah → wx E' (gFun 3 10 bg0 [pr, .str s, .tup vs] ah) P') (h : P (.bl true) ah) : wx E (gFun 3 4 rf0 [pr, .str s, .tup vs] ah) P := by
  refine w_fun rfl ?_
  unfold rf0 body__law_refused
  rw [s_seq, s_try]
  simp only [s_drop, w_call, w_cons, w_var, w_nil]
  simp
  rw [begun_eq]
  refine hbeg ?_
  simp only [stuck, rel_Stuck_ChangeError]
  have e1 : List.lookup ("name" : Str) [(("row" : Str), AV.int (-1)), ("name", AV.str s)] = some (.str s) := by rw [look_put, if_neg (by decide), look_put, if_pos rfl]
  have e2 : List.lookup ("row" : Str) [(("row" : Str), AV.int (-1)), ("name", AV.str s)] = some (.int (-1)) := by rw [look_put, if_pos rfl]
  simp [isX, rel_Stuck_NotRight, rel_Stuck_Stuck, rel_Stuck_NoFit, rel_Stuck_NoLead, rel_Stuck_NotNow, rel_Stuck_NoText, w_eattr, e1, e2]
  refine w_fun rfl ?_
  unfold body__law_is_number
  simp
  exact h
end
end Law
namespace Law
open PySem L2 G
set_option autoImplicit false
@[irreducible] noncomputable def rg7  : GS := gRet (gB allO (G.gCons (gLcV (gZip (G.gCons (gVar 6) (G.gCons (gVar 3) (gNil)))) (gTg 2 (gTc (gTg 2 (gTc (gNm 8) (gTc (gNm 9) (gTn)))) (gTc (gNm 10) (gTn)))) (gYes) (gCall (den__law_same 40) (G.gCons (gOp ixO (gVar 5) (gVar 8)) (G.gCons (gVar 10) (gNil)))) [8, 9, 10]) (gNil)))
@[irreducible] noncomputable def rg6  : GS := gSeq (gIf (gTB (gOp (notO eqO) (gB sorO (G.gCons (gVar 5) (gNil))) (gB sorO (G.gCons (gLcV (gIt (gVar 6)) (gTg 2 (gTc (gNm 8) (gTc (gNm 9) (gTn)))) (gYes) (gVar 8) [8, 9]) (gNil))))) (gRet (gC (.bl false))) (gSkip)) rg7
@[irreducible] noncomputable def rg5  : GS := gSeq (gSet 6 (gOp ixO (gOp ixO (gOp ixO (gVar 1) (gC (.int 2))) (gVar 2)) (gC (.int 0)))) rg6
@[irreducible] noncomputable def rg4  : GS := gSeq (gSet 5 (gOp ixO (gOp ixO (gOp ixO (gVar 0) (gC (.int 2))) (gC (.int 0))) (gC (.int 3)))) rg5
@[irreducible] noncomputable def rg3  : GS := gSeq (gIf (gOrT (gTB (gOp (notO eqO) (gB lenO (G.gCons (gOp ixO (gVar 0) (gC (.int 2))) (gNil))) (gC (.int 1)))) (gTB (gOp (notO eqO) (gSl (gOp ixO (gOp ixO (gVar 0) (gC (.int 2))) (gC (.int 0))) (gNoP) (gP (gC (.int 3)))) (G.gTup (G.gCons (gVar 2) (G.gCons (gOp ixO (gOp ixO (gVar 1) (gC (.int 2))) (gVar 2)) (G.gCons (gC (.int 0)) (gNil)))))))) (gRet (gC (.bl false))) (gSkip)) rg4
@[irreducible] noncomputable def rg2  : GS := gSeq (gIf (gOrT (gTB (gOp (notO eqO) (gB sorO (G.gCons (gOp ixO (gVar 0) (gC (.int 0))) (gNil))) (gB sorO (G.gCons (gVar 4) (gNil))))) (gNotT (gTT (gB allO (G.gCons (gLcV (gIt (gVar 4)) (gNm 7) (gYes) (gCall (den__law_same 40) (G.gCons (gOp ixO (gOp ixO (gVar 0) (gC (.int 0))) (gVar 7)) (G.gCons (gOp ixO (gOp ixO (gVar 4) (gVar 7)) (gC (.int 1))) (gNil)))) [7]) (gNil)))))) (gRet (gC (.bl false))) (gSkip)) rg3
@[irreducible] noncomputable def rg1  : GS := gSeq (gSet 4 (gOp ixO (gVar 1) (gC (.int 1)))) rg2
@[irreducible] noncomputable def rg0  : GS := gSeq (gIf (gOrT (gNotT (gTT (gIsi .tuple (gVar 0)))) (gOrT (gTB (gOp (notO eqO) (gB lenO (G.gCons (gVar 0) (gNil))) (gC (.int 5)))) (gOrT (gTB (gOp (notO eqO) (gOp ixO (gVar 0) (gC (.int 1))) (gDk0))) (gOrT (gTB (gOp (notO eqO) (gOp ixO (gVar 0) (gC (.int 3))) (G.gTup (gNil)))) (gTB (gOp (notO isO) (gOp ixO (gVar 0) (gC (.int 4))) (gC .non))))))) (gRet (gC (.bl false))) (gSkip)) rg1
theorem right_eq : den__law_right = gFun 4 11 rg0 := by
  unfold rg0 rg1 rg2 rg3 rg4 rg5 rg6 rg7
  rfl

theorem skeys_dkM {β : Type} {f : β → AV} : ∀ l : List (List Nat × β), skeys (dkM f l) = some (l.map (·.1))
  | [] => rfl
  | p :: l => by
    show (skeys (dkM f l)).map (p.1 :: ·) = _
    rw [skeys_dkM l]; rfl
theorem strsA_map : ∀ ss : List (List Nat), strsA (ss.map .str) = some ss
  | [] => rfl
  | s :: ss => by
    show (strsA (ss.map .str)).map (s :: ·) = _
    rw [strsA_map ss]; rfl
theorem sor_dk {β : Type} {f : β → AV} {ah : AH} {v : AV} {l : List (List Nat × β)} (h : dr ah v = .dk (dkM f l)) (hl : l.length < 64) : sorO ah [v] = some (.lst ((sortA (l.map (·.1))).map .str)) := by
  have : sorS ah [v] = some ((sortA (l.map (·.1))).map .str) := by
    unfold sorS
    simp only [h, skeys_dkM]
    rw [if_pos (by simpa using hl)]
  unfold sorO
  rw [this]; rfl
theorem sor_lst {ah : AH} {ss : List (List Nat)} (hl : ss.length < 64) : sorO ah [.lst (ss.map .str)] = some (.lst ((sortA ss).map .str)) := by
  have : sorS ah [.lst (ss.map .str)] = some ((sortA ss).map .str) := by
    show (match strsA (ss.map .str) with
      | some ss => if ss.length < 64 then some ((sortA ss).map AV.str) else none
      | none => none) = _
    rw [strsA_map]
    simp only
    rw [if_pos hl]
  unfold sorO
  rw [this]; rfl
theorem strs_sh {a : List (List Nat)} (h : ∀ s ∈ a, okS s) : shA (.lst (a.map .str)) = true := by
  have key : ∀ a : List (List Nat), (∀ s ∈ a, okS s) → okAs (a.map .str) = true ∧ depthAs (a.map .str) ≤ 1 := by
    intro a
    induction a with
    | nil => intro _; exact ⟨rfl, by simp [depthAs]⟩
    | cons s a ih =>
      intro h
      obtain ⟨h1, h2⟩ := ih fun s hs => h s (by simp [hs])
      have h3 : s.all (· < 0x110000) = true := h s (by simp)
      refine ⟨?_, ?_⟩
      · rw [List.map_cons, okAs, h1, Bool.and_true, G.okA]; exact h3
      · rw [List.map_cons]; simp only [depthAs, depthA]; omega
  obtain ⟨h1, h2⟩ := key a h
  unfold shA
  have e1 : okA (.lst (a.map .str)) = true := by rw [G.okA]; exact h1
  have e2 : depthA (.lst (a.map .str)) ≤ 2 := by rw [depthA]; omega
  rw [e1, decide_eq_true (by omega)]; rfl
theorem eqO_sameT {ah : AH} {l : List AV} (h : shA (.tup l) = true) : eqO ah (.tup l) (.tup l) = some (.bl true) := by
  show (if lenNe (.tup l) (.tup l) = true then some (AV.bl false) else if (shA (.tup l) && shA (.tup l)) = true then some (AV.bl (eqA (.tup l) (.tup l))) else none) = _
  have e : okA (.tup l) = true := by unfold shA at h; rw [Bool.and_eq_true] at h; exact h.1
  rw [h, eqA_refl _ e]
  simp [lenNe]
theorem at3 {α : Type} {a b c d : α} {l : List α} : atI (a :: b :: c :: d :: l) 3 = some d := by
  obtain ⟨v, e, _, q⟩ := atI_nat (a :: b :: c :: d :: l) 3 (by omega) (by simp; omega)
  rw [e]; simpa using q.symm
theorem at4 {α : Type} {a b c d e : α} {l : List α} : atI (a :: b :: c :: d :: e :: l) 4 = some e := by
  obtain ⟨v, e, _, q⟩ := atI_nat (a :: b :: c :: d :: e :: l) 4 (by omega) (by simp; omega)
  rw [e]; simpa using q.symm
theorem ix_ref {ah : AH} {n : Nat} {l : List (AK × AV)} {s : List Nat} (h : ah[n]? = some (.dk l)) : ixO ah (.ref n) (.str s) = lookK l (.inr s) := by
  unfold ixO
  rw [dr_ref h]; rfl
theorem look_dkM {β : Type} {f : β → AV} {l : List (List Nat × β)} (nd : (l.map (·.1)).Nodup) {p : List Nat × β} (hp : p ∈ l) : lookK (dkM f l) (.inr p.1) = some (f p.2) := by
  rw [show lookK (dkM f l) (.inr p.1) = (lk l p.1).map f from lookK_map f l p.1, lk_nd nd p hp]; rfl
abbrev Z2 (TT : Fds) (vs : List AV) : List (List Nat × AV) := (TT.zip vs).map fun q : Zt => (q.1.1, q.2)
theorem Z2_keys {TT : Fds} {vs : List AV} (h : vs.length = TT.length) : (Z2 TT vs).map (·.1) = TT.map (·.1) := by
  rw [List.map_map]
  show (TT.zip vs).map (fun q : Zt => q.1.1) = _
  rw [show (fun q : Zt => q.1.1) = (fun p : List Nat × Kn => p.1) ∘ (fun q : Zt => q.1) from rfl, ← List.map_map, List.map_fst_zip (by omega)]
section
variable {P : AV → AH → Prop} {E : ErrP} {ah : AH} {BD : List (List Nat × (Kn × AV))} {T TT : Fds} {g : Kn} {s : List Nat} {vs : List AV} {b e hd : Nat}
theorem w_right (hs : lookK (pdA T g) (.inr s) = some (ptA TT g)) (os : okS s) (hT : ∀ p ∈ TT, okS p.1 ∧ kOk 3 p.2) (hg : kOk 2 g) (hnd : (TT.map (·.1)).Nodup) (hBD : BOk BD) (hl : TT.length ≤ 10) (hbl : BD.length ≤ 10) (hv : lA vs 4) (hvl : vs.length = TT.length)
    (q1 : ah[b]? = some (.dk (dkM (fun p : Kn × AV => p.2) BD))) (q2 : ah[e]? = some (.dk [])) (q3 : ah[hd]? = some (.dk (dkM (fun v => v) (Z2 TT vs)))) (h : P (.bl true) ah) :
    wx E (gFun 4 11 rg0 [.tup [.ref b, .ref e, .tup [.tup [.str s, ptA TT g, .int 0, .ref hd]], .tup [], .non], pg BD T g, .str s, .tup vs] ah) P := by
  have eE : eqO ah (.ref e) (.dk []) = some (.bl true) := by
    show (match dkE (dr ah (.ref e)) (.dk []) with | some b => some (AV.bl b) | none => _) = _
    rw [dr_ref q2]; rfl
  have hz : (Z2 TT vs).length ≤ 10 := by simp; omega
  have s1 := sor_dk (ah := ah) (v := .ref b) (f := fun p : Kn × AV => p.2) (l := BD) (dr_ref q1) (by omega)
  have s2 := sor_dk (ah := ah) (v := .dk (dkM bxA BD)) (f := bxA) (l := BD) rfl (by omega)
  have s3 := sor_dk (ah := ah) (v := .ref hd) (f := fun v : AV => v) (l := Z2 TT vs) (dr_ref q3) (by omega)
  have s4 := sor_lst (ah := ah) (ss := TT.map (·.1)) (by simp; omega)
  rw [Z2_keys hvl] at s3
  have t1 : eqO ah (.lst ((sortA (BD.map (·.1))).map .str)) (.lst ((sortA (BD.map (·.1))).map .str)) = some (.bl true) := eqO_same (strs_sh fun s hs => by
    obtain ⟨p, hp, rfl⟩ := List.mem_map.mp ((sortA_perm _).mem_iff.mp hs)
    exact (hBD.ok p hp).1)
  have t2 : eqO ah (.lst ((sortA (TT.map (·.1))).map .str)) (.lst ((sortA (TT.map (·.1))).map .str)) = some (.bl true) := eqO_same (strs_sh fun s hs => by
    obtain ⟨p, hp, rfl⟩ := List.mem_map.mp ((sortA_perm _).mem_iff.mp hs)
    exact (hT p hp).1)
  have hp := ptA_ok hT (by omega) (⟨hg.1, by have := hg.2; omega⟩ : kOk 5 g)
  have t3 : eqO ah (.tup [.str s, ptA TT g, .int 0]) (.tup [.str s, ptA TT g, .int 0]) = some (.bl true) := eqO_sameT (by
    have o1 : okA (.tup [.str s, ptA TT g, .int 0]) = true := by simp [G.okA, okAs, hp.1]; simpa using os
    have o2 : depthA (.tup [.str s, ptA TT g, .int 0]) ≤ 30 := by have := hp.2; simp only [depthA, depthAs]; omega
    unfold shA
    rw [o1, decide_eq_true (by omega)]; rfl)
  refine w_fun rfl ?_
  unfold rg0
  have nn : isO ah .non .non = some (.bl true) := rfl
  simp [at0, at1, at2, at3, at4, eE, nn]
  unfold rg1
  simp [pg, at1]
  unfold rg2
  simp [at0, s1, s2, t1]
  have ek : (dkM bxA BD).map (fun p => keyV p.1) = BD.map fun p => AV.str p.1 := keys_dkM BD
  simp only [ek]
  have lB : (dkM bxA BD).length = BD.length := by simp [dkM]
  refine ⟨by omega, lcM_g rfl (g := fun _ => AV.bl true) BD ah (fun p hp => ⟨_, rfl, ?_⟩) ?_⟩
  · simp [wipeE, at0, ix_ref q1]
    rw [look_dkM (f := fun p : Kn × AV => p.2) hBD.nd hp]
    simp [o_ixD, look_dkM (f := bxA) hBD.nd hp, bxA, at1]
    exact w_same 3 40 p.2.2 _ _ _ (by omega) (hBD.ok p hp).2.2 ⟨rfl, rfl⟩
  rw [bls_map' BD fun _ => true]
  simp
  have c3 : cutA [AV.str s, ptA TT g, .int 0, .ref hd] none (some 3) = [AV.str s, ptA TT g, .int 0] := by
    rw [show (3 : Int) = ((3 : Nat) : Int) from rfl, cutTk]; rfl
  unfold rg3
  simp [at0, at2, c3, o_ixD, hs, t3]
  unfold rg4
  simp [at0, at2, at3]
  have e0 : ∀ a, ixO a (ptA TT g) (.int 0) = some (fdsA TT) := fun a => by simp [ptA, at0]
  unfold rg5
  simp [at2, o_ixD, hs, e0]
  unfold rg6
  simp [fdsA, s3]
  have lp : (prs TT).length = TT.length := by simp [prs]
  refine ⟨by omega, lcM_g rfl (m := fun p : List Nat × Kn => AV.tup [.str p.1, p.2.av]) (g := fun p => AV.str p.1) TT ah (fun p hp => ⟨_, rfl, ?_⟩) ?_⟩
  · simp [wipeE]
  rw [show TT.map (fun p => AV.str p.1) = (TT.map (·.1)).map AV.str from by rw [List.map_map]; rfl, s4]
  simp [t2]
  unfold rg7
  simp [zip_prs]
  have lz : (TT.zip vs).length ≤ 10 := by rw [List.length_zip]; omega
  refine ⟨by omega, lcM_g rfl (m := zv) (g := fun _ => AV.bl true) (TT.zip vs) ah (fun q hq => ⟨_, rfl, ?_⟩) ?_⟩
  · have hm := List.of_mem_zip hq
    have hq2 : (q.1.1, q.2) ∈ Z2 TT vs := List.mem_map.mpr ⟨q, hq, rfl⟩
    have hk := look_dkM (f := fun v : AV => v) (l := Z2 TT vs) (by rw [Z2_keys hvl]; exact hnd) hq2
    have hk : lookK (dkM (fun v : AV => v) (Z2 TT vs)) (.inr q.1.1) = some q.2 := hk
    simp [wipeE]
    rw [ix_ref q3, hk]
    simp
    exact w_same 4 40 q.2 _ _ _ (by omega) (hv q.2 hm.2) ⟨rfl, rfl⟩
  rw [bls_map' (TT.zip vs) fun _ => true]
  simp
  rw [show (TT.zip vs).all (fun _ => true) = true from List.all_eq_true.mpr fun _ _ => rfl]
  exact h
end
end Law
namespace Law
open PySem L2 G
set_option autoImplicit false
@[irreducible] noncomputable def lwI : GS := gSeq (gSet 13 (gCall den_begun (G.gCons (gVar 2) (G.gCons (gVar 5) (G.gCons (gVar 7) (G.gNil)))))) (gSeq (gIf (gNotT (gTT (gCall den__law_right (G.gCons (gVar 13) (G.gCons (gVar 2) (G.gCons (gVar 5) (G.gCons (gVar 7) (G.gNil)))))))) (gRet (gC (.bl false))) (gSkip)) (gSeq (gDrop (gClr (gOp ixO (gVar 13) (gC (.int 0))))) (gSeq (gStore (G.gTup (G.gCons (gC (.str [107])) (G.gCons (G.gTup (G.gCons (G.gTup (G.gCons (gC (.str [97])) (G.gCons (gC (.int 1)) (G.gNil)))) (G.gNil))) (G.gNil)))) (gOp ixO (gVar 13) (gC (.int 1))) (gC (.str [114, 48]))) (gDrop (gClr (gOp ixO (gOp ixO (gOp ixO (gVar 13) (gC (.int 2))) (gC (.int 0))) (gC (.int 3))))))))
@[irreducible] noncomputable def lw6 : GS := gIf (gOrT (gTB (gOp eqO (gVar 5) (gC (.str [108, 111, 115, 116])))) (gNotT (gTT (gVar 8)))) (gIf (gNotT (gTT (gCall den__law_refused (G.gCons (gVar 2) (G.gCons (gVar 5) (G.gCons (gVar 7) (G.gNil))))))) (gRet (gC (.bl false))) (gSkip)) (gFor (gR1 (G.gCons (gC (.int 2)) (G.gNil))) (gNm 12) lwI)
@[irreducible] noncomputable def lw5 : GS := gSeq (gFor (gZip (G.gCons (gVar 6) (G.gCons (gVar 7) (G.gNil)))) (gTg 2 (gTc (gTg 2 (gTc (gNm 9) (gTc (gNm 10) (gTn)))) (gTc (gNm 11) (gTn)))) (gSet 8 (gAnd (gVar 8) (gCall (den__law_fit 40) (G.gCons (gVar 10) (G.gCons (gVar 11) (G.gNil))))))) lw6
@[irreducible] noncomputable def lw0 : GS := gSeq (gSet 4 (gCall den__law_pot (G.gCons (gOp addO (gCall den__law_nth (G.gCons (gVar 0) (G.gCons (gVar 3) (G.gNil)))) (gOp mulO (gVar 3) (gB intO (G.gCons (gOp ltO (gB absO (G.gCons (gCall den__law_nth (G.gCons (gVar 0) (G.gCons (gVar 3) (G.gNil)))) (G.gNil))) (gOp powO (gC (.int 10)) (gC (.int 18)))) (G.gNil))))) (G.gNil)))) (gSeq (gSet 5 (gOp ixO (gLst (G.gCons (gC (.str [109, 97, 105, 110])) (G.gCons (gC (.str [109, 97, 105, 110])) (G.gCons (gC (.str [109, 97, 105, 110])) (G.gCons (gC (.str [109, 97, 105, 110])) (G.gCons (gC (.str [109])) (G.gCons (gC (.str [108, 111, 115, 116])) (G.gNil)))))))) (gCall den__law_take (G.gCons (gVar 4) (G.gCons (gC (.int 6)) (G.gNil)))))) (gSeq (gSet 6 (gOp ixO (gGetX (gOp ixO (gVar 2) (gC (.int 2))) (gVar 5) (G.gTup (G.gCons (G.gTup (G.gNil)) (G.gCons (G.gTup (G.gNil)) (G.gCons (G.gTup (G.gNil)) (G.gNil)))))) (gC (.int 0)))) (gSeq (gSet 7 (gCall den__law_values (G.gCons (gVar 4) (G.gCons (gVar 6) (G.gNil))))) (gSeq (gSet 8 (gOp eqO (gB lenO (G.gCons (gVar 7) (G.gNil))) (gB lenO (G.gCons (gVar 6) (G.gNil))))) (lw5)))))
theorem law_body : body_law = gSeq (gSet 1 (gCall den__law_pot (G.gCons (gCall den__law_nth (G.gCons (gVar 0) (G.gCons (gC (.int 0)) (G.gNil)))) (G.gNil)))) (gSeq (gSet 2 (gCall (own1 den__law_program) (G.gCons (gVar 1) (G.gNil)))) (gSeq (gFor (gR2 (G.gCons (gC (.int 1)) (G.gCons (gB maxO (G.gCons (gC (.int 3)) (G.gCons (gB minO (G.gCons (gC (.int 7)) (G.gCons (gB lenO (G.gCons (gVar 0) (G.gNil))) (G.gNil)))) (G.gNil)))) (G.gNil)))) (gNm 3) lw0) (gRet (gC (.bl true))))) := by
  unfold lw0 lw5 lw6 lwI
  rfl
section
variable {E : ErrS} {N B C : G.Env → AH → Prop} {R : AV → AH → Prop} {BD : List (List Nat × (Kn × AV))} {T TT : Fds} {g : Kn} {s : List Nat} {vs : List AV} {x0 x1 x3 x4 x8 x9 x10 x11 x12 x13 : Option AV} {a : AH}
structure Px (BD : List (List Nat × (Kn × AV))) (T : Fds) (g : Kn) : Prop where
  hBD : BOk BD
  hbl : BD.length ≤ 10
  tT : TOk T
  lT : T.length ≤ 10
  hg : kOk 2 g
structure Nx (T : Fds) (g : Kn) (s : List Nat) (TT : Fds) : Prop where
  hs : lookK (pdA T g) (.inr s) = some (ptA TT g)
  os : okS s
  tT : TOk TT
  lT : TT.length ≤ 10
theorem clr_ref {n : Nat} {l : List (AK × AV)} {P : AV → AH → Prop} {EE : ErrP} (h : a[n]? = some (.dk l)) : wx EE (clrA a (.ref n)) P = P .non (a.set n (.dk [])) := by
  unfold clrA
  simp only [h]
  rfl
theorem w_lwI (px : Px BD T g) (nx : Nx T g s TT) (hv : lA vs 4) (hlen : vs.length = TT.length) (hfit : fitB TT vs = true)
    (h : ∀ x13 a', N [x0, x1, some (pg BD T g), x3, x4, some (.str s), some (fdsA TT), some (.tup vs), x8, x9, x10, x11, x12, x13] a') :
    wsx E (lwI [x0, x1, some (pg BD T g), x3, x4, some (.str s), some (fdsA TT), some (.tup vs), x8, x9, x10, x11, x12, x13] a) N R B C := by
  unfold lwI
  rw [s_seq, s_set]
  simp only [w_call, w_cons, w_var, w_nil, List.getElem?_cons_zero, List.getElem?_cons_succ, List.set_cons_succ, List.set_cons_zero]
  rw [begun_eq]
  refine w_begun nx.hs (fun p hp => (nx.tT.ok p hp).2) nx.tT.nd px.hBD nx.lT px.hbl hv (fun z => absurd ⟨hlen, hfit⟩ z) fun _ _ => ?_
  rw [s_seq, s_if]
  simp
  rw [right_eq]
  have e3 : (TT.zip vs).map (fun q : Zt => ((.inr q.1.1 : AK), q.2)) = dkM (fun v : AV => v) (Z2 TT vs) := by simp [dkM, Function.comp_def]
  rw [e3]
  have q1 : (a ++ [HObj.dk (dkM (fun p : Kn × AV => p.2) BD), HObj.dk (dkM (fun v : AV => v) (Z2 TT vs)), HObj.dk []])[a.length]? = some (.dk (dkM (fun p : Kn × AV => p.2) BD)) := by
    rw [List.getElem?_append_right (Nat.le_refl _), Nat.sub_self]; rfl
  have q3 : (a ++ [HObj.dk (dkM (fun p : Kn × AV => p.2) BD), HObj.dk (dkM (fun v : AV => v) (Z2 TT vs)), HObj.dk []])[a.length + 1]? = some (.dk (dkM (fun v : AV => v) (Z2 TT vs))) := by
    rw [List.getElem?_append_right (by omega), show a.length + 1 - a.length = 1 by omega]; rfl
  have q2 : (a ++ [HObj.dk (dkM (fun p : Kn × AV => p.2) BD), HObj.dk (dkM (fun v : AV => v) (Z2 TT vs)), HObj.dk []])[a.length + 2]? = some (.dk []) := by
    rw [List.getElem?_append_right (by omega), show a.length + 2 - a.length = 2 by omega]; rfl
  generalize a ++ [HObj.dk (dkM (fun p : Kn × AV => p.2) BD), HObj.dk (dkM (fun v : AV => v) (Z2 TT vs)), HObj.dk []] = a1 at q1 q2 q3 ⊢
  refine w_right nx.hs nx.os nx.tT.ok px.hg nx.tT.nd px.hBD nx.lT px.hbl hv hlen q1 q2 q3 ?_
  simp [at0, at1, at2, at3]
  rw [clr_ref q1]
  have r2 : (a1.set a.length (.dk []))[a.length + 2]? = some (.dk []) := by rw [List.getElem?_set_ne (by omega)]; exact q2
  rw [st_dk r2 (by simp)]
  simp
  rw [clr_ref (l := dkM (fun v : AV => v) (Z2 TT vs)) (by rw [List.getElem?_set_ne (by omega), List.getElem?_set_ne (by omega)]; exact q3)]
  exact h _ _
/-- what the later part of a turn needs -/
def lostS : List Nat := [108, 111, 115, 116]
theorem w_lw6 (px : Px BD T g) (hn : (s = lostS ∧ TT = []) ∨ (s ≠ lostS ∧ Nx T g s TT)) (hv : lA vs 4) {c : Bool} (hc : c = (decide (vs.length = TT.length) && fitB TT vs))
    (h : ∀ x12 x13 a', N [x0, x1, some (pg BD T g), x3, x4, some (.str s), some (fdsA TT), some (.tup vs), some (.bl c), x9, x10, x11, x12, x13] a') :
    wsx E (lw6 [x0, x1, some (pg BD T g), x3, x4, some (.str s), some (fdsA TT), some (.tup vs), some (.bl c), x9, x10, x11, x12, x13] a) N R B C := by
  unfold lw6
  rw [s_if]
  have ref : ∀ (hb : ∀ {E' : ErrP} {P' : AV → AH → Prop}, E' (stuck s) a → wx E' (gFun 3 10 bg0 [pg BD T g, .str s, .tup vs] a) P'), wsx E (gIf (gNotT (gTT (gCall den__law_refused (G.gCons (gVar 2) (G.gCons (gVar 5) (G.gCons (gVar 7) (G.gNil))))))) (gRet (gC (.bl false))) (gSkip) [x0, x1, some (pg BD T g), x3, x4, some (.str s), some (fdsA TT), some (.tup vs), some (.bl c), x9, x10, x11, x12, x13] a) N R B C := fun hb => by
    rw [s_if]
    simp
    rw [refused_eq]
    refine w_refused hb ?_
    simp
    exact h _ _ _
  rcases hn with ⟨rfl, rfl⟩ | ⟨hns, nx⟩
  · simp [lostS]
    have := ref fun hb => w_begun_lost (by rfl) hb
    simp [lostS] at this
    exact this
  · have hns' : ¬ s = [108, 111, 115, 116] := hns
    simp [hns']
    cases c with
    | false =>
      simp
      have := ref fun hb => w_begun nx.hs (fun p hp => (nx.tT.ok p hp).2) nx.tT.nd px.hBD nx.lT px.hbl hv (fun _ => hb) fun h1 h2 => by
        rw [h2, decide_eq_true h1] at hc
        cases hc
      simp at this
      exact this
    | true =>
      simp
      have h2 := hc.symm
      rw [Bool.and_eq_true] at h2
      refine s_forL rfl (I := fun env _ => ∃ x12 x13, env = [x0, x1, some (pg BD T g), x3, x4, some (.str s), some (fdsA TT), some (.tup vs), some (.bl true), x9, x10, x11, x12, x13]) _ _ _ ⟨_, _, rfl⟩ (fun v hv' env b hI => ?_) fun env b hI => ?_
      · obtain ⟨x12, x13, rfl⟩ := hI
        refine ⟨_, rfl, ?_⟩
        exact w_lwI px nx hv (of_decide_eq_true h2.1) h2.2 fun x13 a' => ⟨_, _, rfl⟩
      · obtain ⟨x12, x13, rfl⟩ := hI
        exact h _ _ _
theorem w_fl {src : Src} (hs : src.1 = none) {x2 x5 x6 x7 : Option AV} : ∀ (l : List Zt) (c : Bool) (a : AH) (x9 x10 x11 : Option AV), (∀ q ∈ l, kOk 3 q.1.2 ∧ GV 4 q.2) →
    (∀ x9 x10 x11, N [x0, x1, x2, x3, x4, x5, x6, x7, some (.bl (c && l.all fun q => isOf q.1.2 q.2)), x9, x10, x11, x12, x13] a) →
    wsx E (forL src (gTg 2 (gTc (gTg 2 (gTc (gNm 9) (gTc (gNm 10) (gTn)))) (gTc (gNm 11) (gTn)))) (gSet 8 (gAnd (gVar 8) (gCall (den__law_fit 40) (G.gCons (gVar 10) (G.gCons (gVar 11) (G.gNil)))))) (l.map zv) [x0, x1, x2, x3, x4, x5, x6, x7, some (.bl c), x9, x10, x11, x12, x13] a) N R B C
  | [], c, a, x9, x10, x11, _, h => by
    rw [List.map_nil, s_forN hs]
    have := h x9 x10 x11
    simpa using this
  | q :: l, c, a, x9, x10, x11, hq, h => by
    rw [List.map_cons, s_forC hs]
    refine ⟨_, rfl, ?_⟩
    simp
    cases c with
    | false =>
      simp
      refine w_fl hs l false a _ _ _ (fun r hr => hq r (by simp [hr])) fun x9 x10 x11 => ?_
      have := h x9 x10 x11
      simpa using this
    | true =>
      simp
      refine w_fit q.1.2 4 40 q.2 _ _ _ (by have := (hq q (by simp)).1.2; omega) (hq q (by simp)).2 ?_
      refine w_fl hs l (isOf q.1.2 q.2) a _ _ _ (fun r hr => hq r (by simp [hr])) fun x9 x10 x11 => ?_
      have := h x9 x10 x11
      simpa using this
end
end Law
namespace Law
open PySem L2 G
set_option autoImplicit false
section
variable {E : ErrS} {N B C : G.Env → AH → Prop} {R : AV → AH → Prop} {BD : List (List Nat × (Kn × AV))} {T TT : Fds} {g : Kn} {s : List Nat} {vs : List AV} {x0 x1 x3 x4 x8 x9 x10 x11 x12 x13 : Option AV} {a : AH}
theorem w_lw5 (px : Px BD T g) (hn : (s = lostS ∧ TT = []) ∨ (s ≠ lostS ∧ Nx T g s TT)) (hT : ∀ p ∈ TT, kOk 3 p.2) (hv : lA vs 4) (hl : vs.length ≤ 20)
    (h : ∀ env a', env.length = 14 → env[0]? = some x0 → env[2]? = some (some (pg BD T g)) → N env a') :
    wsx E (lw5 [x0, x1, some (pg BD T g), x3, x4, some (.str s), some (fdsA TT), some (.tup vs), some (.bl (decide (vs.length = TT.length))), x9, x10, x11, x12, x13] a) N R B C := by
  unfold lw5
  rw [s_seq, s_for]
  simp [fdsA]
  rw [zip_prs]
  refine w_fl rfl (TT.zip vs) _ a _ _ _ (fun q hq => ?_) fun x9 x10 x11 => ?_
  · have hm := List.of_mem_zip hq
    exact ⟨hT q.1 hm.1, hv q.2 hm.2⟩
  · exact w_lw6 px hn hv rfl fun x12 x13 a' => h _ _ rfl rfl rfl
end
section
variable {ah : AH} {P : AV → AH → Prop} {E : ErrP}
theorem w_nth {ns : List Int} {k : Int} (h0 : 0 ≤ k) (h : ∀ i, P (.int i) ah) : wx E (den__law_nth [.fl (ns.map .int), .int k] ah) P := by
  refine w_fun rfl ?_
  unfold body__law_nth
  simp
  split
  · refine wp_at (by omega) (by simp; omega) fun v hv => ?_
    simp at hv
    obtain ⟨i, _, rfl⟩ := hv
    exact h i
  · exact h 0
theorem w_pot {c : Int} (h : ∀ a b : Int, P (.ref ah.length) (ah ++ [.lst [.int a, .int b]])) : wx E (den__law_pot [.int c] ah) P := by
  refine w_fun rfl ?_
  unfold body__law_pot
  simp
  exact ⟨.inr (by split <;> omega), h _ _⟩
end
theorem wx_s {E : ErrP} {P : AV → AH → Prop} {ah : AH} {o : Option AV} {v : AV} (e : o = some v) (h : P v ah) : wx E (lift1 o ah) P := by subst e; exact h
abbrev dfl : AV := .tup [.tup [], .tup [], .tup []]
theorem w_gx {E : ErrP} {P : AV → AH → Prop} {BD : List (List Nat × (Kn × AV))} {T : Fds} {g : Kn} {s : List Nat} {env : G.Env} {a : AH} (h2 : env[2]? = some (some (pg BD T g))) (h5 : env[5]? = some (some (.str s))) (hP : P ((lookK (pdA T g) (.inr s)).getD dfl) a) : wx E (gGetX (gOp ixO (gVar 2) (gC (.int 2))) (gVar 5) (G.gTup (G.gCons (G.gTup (G.gNil)) (G.gCons (G.gTup (G.gNil)) (G.gCons (G.gTup (G.gNil)) (G.gNil))))) env a) P := by
  rw [w_getX]
  simp [h2, h5, pg, at2]
  exact hP
theorem w_names {T : Fds} {g : Kn} (tT : TOk T) (lT : T.length ≤ 10) {r : Int} (r0 : 0 ≤ r) (r1 : r < 6) (a : AH) : ∃ s TT, ixO a (.lst [.str [109, 97, 105, 110], .str [109, 97, 105, 110], .str [109, 97, 105, 110], .str [109, 97, 105, 110], .str [109], .str [108, 111, 115, 116]]) (.int r) = some (.str s) ∧ ((s = lostS ∧ TT = []) ∨ (s ≠ lostS ∧ Nx T g s TT)) ∧ (∀ a, ixO a ((lookK (pdA T g) (.inr s)).getD dfl) (.int 0) = some (fdsA TT)) ∧ (∀ p ∈ TT, kOk 3 p.2) ∧ TT.length ≤ 10 := by
  have main : ([109, 97, 105, 110] : List Nat) ≠ lostS ∧ Nx T g [109, 97, 105, 110] T := ⟨by decide, ⟨rfl, by decide, tT, lT⟩⟩
  have f : ∀ (TT : Fds) a, ixO a (ptA TT g) (.int 0) = some (fdsA TT) := fun TT a => by simp [ptA, at0]
  rcases (show r = 0 ∨ r = 1 ∨ r = 2 ∨ r = 3 ∨ r = 4 ∨ r = 5 by omega) with rfl | rfl | rfl | rfl | rfl | rfl
  · exact ⟨_, T, rfl, .inr main, fun a => f T a, fun p hp => (tT.ok p hp).2, lT⟩
  · exact ⟨_, T, rfl, .inr main, fun a => f T a, fun p hp => (tT.ok p hp).2, lT⟩
  · exact ⟨_, T, rfl, .inr main, fun a => f T a, fun p hp => (tT.ok p hp).2, lT⟩
  · exact ⟨_, T, rfl, .inr main, fun a => f T a, fun p hp => (tT.ok p hp).2, lT⟩
  · exact ⟨_, [], rfl, .inr ⟨by decide, ⟨rfl, by decide, ⟨by simp, by simp, by simp⟩, by simp⟩⟩, fun a => f [] a, by simp, by simp⟩
  · exact ⟨_, [], rfl, .inl ⟨rfl, rfl⟩, fun a => rfl, by simp, by simp⟩
theorem w_lw0 {E : ErrS} {N B C : G.Env → AH → Prop} {R : AV → AH → Prop} {BD : List (List Nat × (Kn × AV))} {T : Fds} {g : Kn} {ns : List Int} {k : Int} (hk : 0 ≤ k) (hk2 : k ≤ 10) (px : Px BD T g) {x1 x4 x5 x6 x7 x8 x9 x10 x11 x12 x13 : Option AV} {a : AH}
    (h : ∀ env a', env.length = 14 → env[0]? = some (some (.fl (ns.map .int))) → env[2]? = some (some (pg BD T g)) → N env a') :
    wsx E (lw0 [some (.fl (ns.map .int)), x1, some (pg BD T g), some (.int k), x4, x5, x6, x7, x8, x9, x10, x11, x12, x13] a) N R B C := by
  unfold lw0
  rw [s_seq, s_set]
  simp
  refine w_nth hk fun c => ?_
  refine w_nth hk fun d => ?_
  refine wx_s (v := .int (if d < 0 then -d else d)) rfl ?_
  generalize (if d < 0 then -d else d) = d2
  refine wx_s (v := .bl (decide (d2 < 1000000000000000000))) rfl ?_
  refine wx_s (v := .int (if decide (d2 < 1000000000000000000) = true then 1 else 0)) rfl ?_
  generalize (if decide (d2 < 1000000000000000000) = true then (1 : Int) else 0) = z
  refine wx_s (v := .int (k * z)) (if_pos (.inl ⟨by omega, by omega⟩)) ?_
  refine wx_s (v := .int (c + k * z)) rfl ?_
  refine w_pot fun u v => ?_
  have p0 : Pt (List.length a) (a ++ [HObj.lst [.int u, .int v]]) := ⟨u, v, by simp⟩
  generalize List.length a = n at p0 ⊢
  generalize a ++ [HObj.lst [.int u, .int v]] = a0 at p0 ⊢
  refine tk p0 (by decide) (by decide) fun r a1 r0 r1 p1 f1 => ?_
  obtain ⟨s, TT, e1, hn, e2, hT, lT⟩ := w_names (g := g) px.tT px.lT r0 r1 a1
  refine wx_s e1 ?_
  refine w_gx (BD := BD) (T := T) (g := g) (s := s) rfl rfl ?_
  refine wx_s (e2 _) ?_
  refine w_values hT lT p1 fun vs a2 hv hl p2 f2 => ?_
  refine wx_s (v := .int vs.length) rfl ?_
  refine wx_s (v := .int TT.length) (by show some (AV.int (prs TT).length) = _; simp [prs]) ?_
  refine wx_s (v := .bl (decide ((vs.length : Int) = TT.length))) rfl ?_
  rw [show decide ((vs.length : Int) = TT.length) = decide (vs.length = TT.length) from by rw [decide_eq_decide]; omega]
  exact w_lw5 px hn hT hv hl fun env a' h1 h2 h3 => h env a' h1 h2 h3
end Law
namespace Law
open PySem L2 G
set_option autoImplicit false
theorem w_law {P : AV → AH → Prop} {E : ErrP} (ns : List Int) (hn : ns.length ≤ 63) {ah : AH} (h : ∀ ah', P (.bl true) ah') : wx E (den_law [.fl (ns.map .int)] ah) P := by
  refine w_fun rfl ?_
  rw [law_body]
  rw [s_seq, s_set]
  simp
  refine w_nth (by decide) fun c => ?_
  refine w_pot fun u v => ?_
  have p0 : Pt (List.length ah) (ah ++ [HObj.lst [.int u, .int v]]) := ⟨u, v, by simp⟩
  generalize List.length ah = n at p0 ⊢
  generalize ah ++ [HObj.lst [.int u, .int v]] = a0 at p0 ⊢
  refine w_prog p0 fun BD T g a1 hBD hbl tT lT hg p1 f1 => ?_
  have px : Px BD T g := ⟨hBD, hbl, tT, lT, hg⟩
  rw [show AV.tup [.dk kk0, .dk (dkM bxA BD), .dk (pdA T g)] = pg BD T g from rfl]
  have hr : gR2 (G.gCons (gC (AV.int 1)) (G.gCons (gB maxO (G.gCons (gC (AV.int 3)) (G.gCons (gB minO (G.gCons (gC (AV.int 7)) (G.gCons (gB lenO (G.gCons (gVar 0) G.gNil)) G.gNil))) G.gNil))) G.gNil)) [some (AV.fl (List.map AV.int ns)), some (AV.ref n), some (pg BD T g), none, none, none, none, none, none, none, none, none, none, none] a1 = .ok (none, rngA 1 ((if (if (7 : Int) > ns.length then (ns.length : Int) else 7) > 3 then (if (7 : Int) > ns.length then (ns.length : Int) else 7) else 3) - 1).toNat) a1 := by
    have hl : ((ns.map AV.int).length : Int) = ns.length := by simp
    rw [← hl]
    have hb : ((ns.map AV.int).length : Int) ≤ 63 := by rw [hl]; omega
    have h0 : (0 : Int) ≤ ((ns.map AV.int).length : Int) := by omega
    refine (show _ = (if -1000000 ≤ (1 : Int) ∧ (1 : Int) ≤ 1000000 ∧ -1000000 ≤ (if (if (7 : Int) > ((ns.map AV.int).length : Int) then ((ns.map AV.int).length : Int) else 7) > 3 then (if (7 : Int) > ((ns.map AV.int).length : Int) then ((ns.map AV.int).length : Int) else 7) else 3) ∧ (if (if (7 : Int) > ((ns.map AV.int).length : Int) then ((ns.map AV.int).length : Int) else 7) > 3 then (if (7 : Int) > ((ns.map AV.int).length : Int) then ((ns.map AV.int).length : Int) else 7) else 3) ≤ 1000000 then Res.ok (none, rngA 1 ((if (if (7 : Int) > ((ns.map AV.int).length : Int) then ((ns.map AV.int).length : Int) else 7) > 3 then (if (7 : Int) > ((ns.map AV.int).length : Int) then ((ns.map AV.int).length : Int) else 7) else 3) - 1).toNat) a1 else Res.bad) from rfl).trans (if_pos ⟨by decide, by decide, ?_, ?_⟩)
    · split <;> split <;> omega
    · split <;> split <;> omega
  rw [hr, wx_okk]
  refine s_forL rfl (I := fun env _ => List.length env = 14 ∧ env[0]? = some (some (.fl (ns.map .int))) ∧ env[2]? = some (some (pg BD T g))) _ _ _ ⟨rfl, rfl, rfl⟩ (fun v hv env a hI => ?_) fun _ _ _ => h _
  obtain ⟨j, rfl, j0, j1⟩ := rngA_mem hv
  obtain ⟨h14, h0, h2⟩ := hI
  have jb : j ≤ 10 := by
    have : ((if (if (7 : Int) > ns.length then (ns.length : Int) else 7) > 3 then (if (7 : Int) > ns.length then (ns.length : Int) else 7) else 3) - 1).toNat ≤ 6 := by split <;> split <;> omega
    omega
  match env, h14 with
  | [y0, y1, y2, y3, y4, y5, y6, y7, y8, y9, y10, y11, y12, y13], _ =>
    simp at h0 h2
    subst h0
    subst h2
    refine ⟨_, rfl, ?_⟩
    exact w_lw0 (by omega) jb px fun env a' q1 q2 q3 => ⟨q1, q2, q3⟩
theorem law_true (ns : List Int) (hn : ns.length ≤ 63) : ∃ ah, den_law [.fl (ns.map G.AV.int)] [] = .ok (.bl true) ah := by
  obtain ⟨v, ah, e, q⟩ := wp_get (w_law (P := fun v _ => v = .bl true) (ah := []) ns hn fun _ => rfl)
  exact ⟨ah, by rw [e, q]⟩
end Law
namespace Law
open PySem L2 G
set_option autoImplicit false
def top (i : Nat) : Stmt := PySem.Challenge.pw_changewhile_k43_runs_begun.main.body.getD i (.Pass ⟨0, 0, 0, 0⟩)
abbrev s_are_figures : Stmt := top 11
abbrev s_is_number : Stmt := top 12
abbrev s_is_ref : Stmt := top 13
abbrev s_is_of : Stmt := top 14
abbrev s_begun : Stmt := top 17
abbrev s__law_nth : Stmt := top 19
abbrev s__law_pot : Stmt := top 20
abbrev s__law_take : Stmt := top 21
abbrev s__law_is_number : Stmt := top 22
abbrev s__law_kind : Stmt := top 23
abbrev s__law_plain : Stmt := top 24
abbrev s__law_fit : Stmt := top 25
abbrev s__law_same : Stmt := top 26
abbrev s__law_things : Stmt := top 27
abbrev s__law_program : Stmt := top 28
abbrev s__law_values : Stmt := top 29
abbrev s__law_right : Stmt := top 30
abbrev s__law_refused : Stmt := top 31
abbrev s_law : Stmt := top 32
structure Txt (P : Program) (base : Heap) (K : PySem.W.Frag) (w : World) (mg : Str → Option Value) : Prop where
  b_abs : mg "abs" = none
  b_all : mg "all" = none
  b_bool : mg "bool" = none
  b_dict : mg "dict" = none
  b_int : mg "int" = none
  b_isinstance : mg "isinstance" = none
  b_len : mg "len" = none
  b_list : mg "list" = none
  b_max : mg "max" = none
  b_min : mg "min" = none
  b_range : mg "range" = none
  b_sorted : mg "sorted" = none
  b_str : mg "str" = none
  b_tuple : mg "tuple" = none
  b_zip : mg "zip" = none
  c_MOST : GC K mg "MOST" c_MOST
  c_FIGURES : GC K mg "FIGURES" c_FIGURES
  c_AHEAD : GC K mg "AHEAD" c_AHEAD
  e_Stuck : ∃ C, ExI P w K mg base 1 "Stuck" C ["name", "row"]
  flds : FldT K mg c_fld
  x_ChangeError : ∃ C, mg "ChangeError" = some (.ref C)
  rel : RelT K mg c_rel
def clsB : Stmt → List Stmt
  | .ClassDef _ _ _ b _ _ _ _ _ _ _ => b
  | _ => []
section
variable {P : Program} {w : World} {K : PySem.W.Frag} {mg : Str → Option Value} {base : Heap}
abbrev s_init_Stuck : Stmt := (clsB (top 4)).getD 0 (.Pass ⟨0, 0, 0, 0⟩)
abbrev N_init_Stuck : List Str := ["self", "name", "row"]
theorem sc_init_Stuck : FnScope N_init_Stuck ["self", "name", "row"] (defScope s_init_Stuck) := ⟨rfl, rfl, rfl, by decide +kernel, rfl, by decide +kernel, by decide +kernel⟩
theorem ok_init_Stuck {f : Addr} {fd : FuncData} {C D : Addr} (F : Fun K "__init__" "Stuck.__init__" s_init_Stuck f fd) (oc : OexC K C) (hD : mg "ChangeError" = some (.ref D)) (h1 : PySem.W.specialIn K (.ref D) "__getattribute__" = some (some (.builtin "type.__getattribute__"))) (h2 : PySem.W.readsIn K D (.type "type") = true) (h3 : PySem.W.findCls K (.ref D) (.type "type") "__init__" = some (.val (.builtin "ValueError.__init__"))) (hf0 : PySem.W.findIn K (.ref C) "name" = some none) (hf1 : PySem.W.findIn K (.ref C) "row" = some none) : FnOk P w K mg base (L2.CX P w) 1 f fd ["self", "name", "row"] (spI C ["name", "row"]) :=
  fnI_of (N := N_init_Stuck) F sc_init_Stuck rfl fun cdv A outer s H E => ⟨_, pss_cons (ps_expr (pe_veC rfl hD h1 h2 h3 (pa_cons (pe_var (i := 0) rfl (.inl rfl)) (pa_cons pe_str pa_nil)))) (pss_cons (ps_ost (pe_var (i := 0) rfl (.inl rfl)) (pe_var (i := 1) rfl (.inl rfl))) (pss_one (ps_ost (pe_var (i := 0) rfl (.inl rfl)) (pe_var (i := 2) rfl (.inl rfl))))), fun vs Q h => init2_rd oc hf0 hf1 h⟩
abbrev N_are_figures : List Str := ["text", "sign"]
theorem sc_are_figures : FnScope N_are_figures ["text"] (defScope s_are_figures) := ⟨rfl, rfl, rfl, by decide +kernel, rfl, by decide +kernel, by decide +kernel⟩
theorem ok_are_figures {f : Addr} {fd : FuncData} (T : Txt P base K w mg) (F : Fun K "are_figures" "are_figures" s_are_figures f fd)  : FnG P w K mg base 1 f fd ["text"] den_are_figures :=
  fnG_of (N := N_are_figures) F sc_are_figures fun cdv A outer s H E W hx =>
    (gs_cons (gs_if (PW.pt (gt_or (gt_cm (eq_g hx.u64) (ge_var 0) (ge_str [])) (gt_or1 (gt_not (gt_truth (ge_bi (all_g hx.calm) rfl T.b_all (by decide +kernel) (ga_cons (ge_lc (own := [("sign", 1)]) rfl sc_are_figures.nd (gi_any (ge_var 0)) (blkOk_by (N := N_are_figures) (sc := defScope s_are_figures) (by decide +kernel)) (by decide) (fun _ _ _ _ _ => gg_name (i := 1) sc_are_figures.nd rfl (by first | exact Or.inl rfl | exact Or.inr rfl)) (fun _ _ _ _ _ => gt_yes) (fun _ _ _ _ _ => ge_cm (in_g (XG.blk hx).u65) (ge_var 1) (ge_glob rfl T.c_FIGURES))) (ga_nil)))))))) (gs_one (gs_ret (ge_bl))) (gs_nil)) (gs_one (gs_ret (ge_or (ge_cm (eq_g hx.u64) (ge_var 0) (ge_str [48])) (ge_one (ge_cm (ne_g hx.u64) (ge_ix (ge_var 0) (ge_int)) (ge_str [48])))))))
abbrev N_is_number : List Str := ["thing"]
theorem sc_is_number : FnScope N_is_number ["thing"] (defScope s_is_number) := ⟨rfl, rfl, rfl, by decide +kernel, rfl, by decide +kernel, by decide +kernel⟩
theorem ok_is_number {f : Addr} {fd : FuncData} (T : Txt P base K w mg) (F : Fun K "is_number" "is_number" s_is_number f fd)  : FnG P w K mg base 1 f fd ["thing"] den_is_number :=
  fnG_of (N := N_is_number) F sc_is_number fun cdv A outer s H E W hx =>
    (gs_one (gs_ret (ge_and (ge_isi .int rfl T.b_isinstance rfl T.b_int (by decide +kernel) (by decide) (by decide) (ge_var 0)) (ge_and (ge_not (ge_isi .bool rfl T.b_isinstance rfl T.b_bool (by decide +kernel) (by decide) (by decide) (ge_var 0))) (ge_one (ge_chn le_g lt_g (ge_int) (ge_var 0) (ge_glob rfl T.c_MOST)))))))
abbrev N_is_ref : List Str := ["thing"]
theorem sc_is_ref : FnScope N_is_ref ["thing"] (defScope s_is_ref) := ⟨rfl, rfl, rfl, by decide +kernel, rfl, by decide +kernel, by decide +kernel⟩
theorem ok_is_ref {f : Addr} {fd : FuncData} (T : Txt P base K w mg) (F : Fun K "is_ref" "is_ref" s_is_ref f fd) (h_are_figures : FnD P w K mg base "are_figures" 1 den_are_figures) : FnG P w K mg base 2 f fd ["thing"] den_is_ref :=
  fnG_of (N := N_is_ref) F sc_is_ref fun cdv A outer s H E W hx =>
    (gs_one (gs_ret (ge_and (ge_isi .str rfl T.b_isinstance rfl T.b_str (by decide +kernel) (by decide) (by decide) (ge_var 0)) (ge_and (ge_cm (eq_g hx.u64) (ge_slice (ge_var 0) (go_none) (go_some (ge_int))) (ge_str [114])) (ge_one (ge_call h_are_figures hx rfl (ga_cons (ge_slice (ge_var 0) (go_some (ge_int)) (go_none)) (ga_nil))))))))
abbrev N_is_of : List Str := ["kind", "value", "records", "part"]
theorem sc_is_of : FnScope N_is_of ["kind", "value", "records"] (defScope s_is_of) := ⟨rfl, rfl, rfl, by decide +kernel, rfl, by decide +kernel, by decide +kernel⟩
theorem ok_is_of {f : Addr} {fd : FuncData} {j : Nat} {den_is_of_ : Den} (T : Txt P base K w mg) (F : Fun K "is_of" "is_of" s_is_of f fd) (h_is_number : FnD P w K mg base "is_number" j den_is_number) (h_is_of : FnD P w K mg base "is_of" j den_is_of_) (h_is_ref : FnD P w K mg base "is_ref" j den_is_ref) : FnG P w K mg base (j + 1) f fd ["kind", "value", "records"] (gFun 3 4 (bodyR_is_of den_is_of_)) :=
  fnG_of (N := N_is_of) F sc_is_of fun cdv A outer s H E W hx =>
    (gs_cons (gs_if (gt_cm (eq_g hx.u64) (ge_ix (ge_var 0) (ge_int)) (ge_str [110, 117, 109, 98, 101, 114])) (gs_one (gs_ret (ge_call h_is_number hx rfl (ga_cons (ge_var 1) (ga_nil))))) (gs_nil)) (gs_cons (gs_if (gt_cm (eq_g hx.u64) (ge_ix (ge_var 0) (ge_int)) (ge_str [116, 114, 117, 116, 104])) (gs_one (gs_ret (ge_isi .bool rfl T.b_isinstance rfl T.b_bool (by decide +kernel) (by decide) (by decide) (ge_var 1)))) (gs_nil)) (gs_cons (gs_if (gt_cm (eq_g hx.u64) (ge_ix (ge_var 0) (ge_int)) (ge_str [108, 105, 115, 116])) (gs_one (gs_ret (ge_and (ge_isi .tuple rfl T.b_isinstance rfl T.b_tuple (by decide +kernel) (by decide) (by decide) (ge_var 1)) (ge_one (ge_bi (all_g hx.calm) rfl T.b_all (by decide +kernel) (ga_cons (ge_lc (own := [("part", 3)]) rfl sc_is_of.nd (gi_any (ge_var 1)) (blkOk_by (N := N_is_of) (sc := defScope s_is_of) (by decide +kernel)) (by decide) (fun _ _ _ _ _ => gg_name (i := 3) sc_is_of.nd rfl (by first | exact Or.inl rfl | exact Or.inr rfl)) (fun _ _ _ _ _ => gt_yes) (fun _ _ _ _ _ => ge_call h_is_of (XG.blk hx) rfl (ga_cons (ge_ix (ge_var 0) (ge_int)) (ga_cons (ge_var 3) (ga_cons (ge_var 2) (ga_nil)))))) (ga_nil))))))) (gs_nil)) (gs_one (gs_ret (ge_and (ge_call h_is_ref hx rfl (ga_cons (ge_var 1) (ga_nil))) (ge_and (ge_cm (in_g hx.u65) (ge_var 1) (ge_var 2)) (ge_one (ge_cm (eq_g hx.u64) (ge_ix (ge_ix (ge_var 2) (ge_var 1)) (ge_int)) (ge_ix (ge_var 0) (ge_int)))))))))))
abbrev N_begun : List Str := ["program", "name", "values", "part", "boxes", "held", "x", "kind", "value", "box"]
theorem sc_begun : FnScope N_begun ["program", "name", "values"] (defScope s_begun) := ⟨rfl, rfl, rfl, by decide +kernel, rfl, by decide +kernel, by decide +kernel⟩
theorem ok_begun {f : Addr} {fd : FuncData} (T : Txt P base K w mg) (F : Fun K "begun" "begun" s_begun f fd) (h_is_of : FnD P w K mg base "is_of" 42 (den_is_of 40)) : FnG P w K mg base 43 f fd ["program", "name", "values"] den_begun :=
  fnG_of (N := N_begun) F sc_begun fun cdv A outer s H E W hx =>
    (gs_cons (gs_if (gt_cm (notin_g hx.u65) (ge_var 1) (ge_ix (ge_var 0) (ge_int))) (gs_one (Exists.elim T.e_Stuck fun _ N_ => gs_raiseI (k := 1) (hx.mono (by decide)) N_ rfl (ga_cons (ge_var 1) (ga_cons (ge_glob rfl T.c_AHEAD) (ga_nil))))) (gs_nil)) (gs_cons (gs_set (i := 3) sc_begun.nd rfl (.inl rfl) (ge_ix (ge_ix (ge_var 0) (ge_int)) (ge_var 1))) (gs_cons (gs_if (PW.pt (gt_or (gt_cm (ne_g hx.u64) (ge_bi len_g rfl T.b_len (by decide +kernel) (ga_cons (ge_var 2) (ga_nil))) (ge_bi len_g rfl T.b_len (by decide +kernel) (ga_cons (ge_ix (ge_var 3) (ge_int)) (ga_nil)))) (gt_or1 (gt_not (gt_truth (ge_bi (all_g hx.calm) rfl T.b_all (by decide +kernel) (ga_cons (ge_lc (own := [("x", 6), ("kind", 7), ("value", 8)]) rfl sc_begun.nd (gi_zip rfl T.b_zip (ga_cons (ge_ix (ge_var 3) (ge_int)) (ga_cons (ge_var 2) (ga_nil)))) (blkOk_by (N := N_begun) (sc := defScope s_begun) (by decide +kernel)) (by decide) (fun _ _ _ _ _ => gg_tup rfl (gg_cons (gg_tup rfl (gg_cons (gg_name (i := 6) sc_begun.nd rfl (by first | exact Or.inl rfl | exact Or.inr rfl)) (gg_cons (gg_name (i := 7) sc_begun.nd rfl (by first | exact Or.inl rfl | exact Or.inr rfl)) (gg_nil (is := []))))) (gg_cons (gg_name (i := 8) sc_begun.nd rfl (by first | exact Or.inl rfl | exact Or.inr rfl)) (gg_nil (is := []))))) (fun _ _ _ _ _ => gt_yes) (fun _ _ _ _ _ => ge_call h_is_of (XG.blk hx) rfl (ga_cons (ge_var 7) (ga_cons (ge_var 8) (ga_cons (ge_dk0) (ga_nil)))))) (ga_nil)))))))) (gs_one (Exists.elim T.e_Stuck fun _ N_ => gs_raiseI (k := 1) (hx.mono (by decide)) N_ rfl (ga_cons (ge_var 1) (ga_cons (ge_glob rfl T.c_AHEAD) (ga_nil))))) (gs_nil)) (gs_cons (gs_set (i := 4) sc_begun.nd rfl (.inl rfl) (ge_dictOfH hx.calm rfl T.b_dict (ga_cons (ge_lc (own := [("box", 9), ("kind", 7), ("value", 8)]) rfl sc_begun.nd (gi_items (ge_ix (ge_var 0) (ge_int))) (blkOk_by (N := N_begun) (sc := defScope s_begun) (by decide +kernel)) (by decide) (fun _ _ _ _ _ => gg_tup rfl (gg_cons (gg_name (i := 9) sc_begun.nd rfl (by first | exact Or.inl rfl | exact Or.inr rfl)) (gg_cons (gg_tup rfl (gg_cons (gg_name (i := 7) sc_begun.nd rfl (by first | exact Or.inl rfl | exact Or.inr rfl)) (gg_cons (gg_name (i := 8) sc_begun.nd rfl (by first | exact Or.inl rfl | exact Or.inr rfl)) (gg_nil (is := []))))) (gg_nil (is := []))))) (fun _ _ _ _ _ => gt_yes) (fun _ _ _ _ _ => ge_tup (ga_cons (ge_var 9) (ga_cons (ge_var 8) (ga_nil))))) (ga_nil)))) (gs_cons (gs_set (i := 5) sc_begun.nd rfl (.inl rfl) (ge_dictOfH hx.calm rfl T.b_dict (ga_cons (ge_lc (own := [("x", 6), ("kind", 7), ("value", 8)]) rfl sc_begun.nd (gi_zip rfl T.b_zip (ga_cons (ge_ix (ge_var 3) (ge_int)) (ga_cons (ge_var 2) (ga_nil)))) (blkOk_by (N := N_begun) (sc := defScope s_begun) (by decide +kernel)) (by decide) (fun _ _ _ _ _ => gg_tup rfl (gg_cons (gg_tup rfl (gg_cons (gg_name (i := 6) sc_begun.nd rfl (by first | exact Or.inl rfl | exact Or.inr rfl)) (gg_cons (gg_name (i := 7) sc_begun.nd rfl (by first | exact Or.inl rfl | exact Or.inr rfl)) (gg_nil (is := []))))) (gg_cons (gg_name (i := 8) sc_begun.nd rfl (by first | exact Or.inl rfl | exact Or.inr rfl)) (gg_nil (is := []))))) (fun _ _ _ _ _ => gt_yes) (fun _ _ _ _ _ => ge_tup (ga_cons (ge_var 6) (ga_cons (ge_var 8) (ga_nil))))) (ga_nil)))) (gs_one (gs_ret (ge_tup (ga_cons (ge_var 4) (ga_cons (ge_dk0H) (ga_cons (ge_tup (ga_cons (ge_tup (ga_cons (ge_var 1) (ga_cons (ge_var 3) (ga_cons (ge_int) (ga_cons (ge_var 5) (ga_nil)))))) (ga_nil))) (ga_cons (ge_tup (ga_nil)) (ga_cons (ge_non) (ga_nil))))))))))))))
abbrev N__law_nth : List Str := ["_law_script", "_law_k"]
theorem sc__law_nth : FnScope N__law_nth ["_law_script", "_law_k"] (defScope s__law_nth) := ⟨rfl, rfl, rfl, by decide +kernel, rfl, by decide +kernel, by decide +kernel⟩
theorem ok__law_nth {f : Addr} {fd : FuncData} (T : Txt P base K w mg) (F : Fun K "_law_nth" "_law_nth" s__law_nth f fd)  : FnG P w K mg base 1 f fd ["_law_script", "_law_k"] den__law_nth :=
  fnG_of (N := N__law_nth) F sc__law_nth fun cdv A outer s H E W hx =>
    (gs_one (gs_ret (ge_ifE (gt_cm lt_g (ge_var 1) (ge_bi len_g rfl T.b_len (by decide +kernel) (ga_cons (ge_var 0) (ga_nil)))) (ge_ix (ge_var 0) (ge_var 1)) (ge_int))))
abbrev N__law_pot : List Str := ["_law_cell"]
theorem sc__law_pot : FnScope N__law_pot ["_law_cell"] (defScope s__law_pot) := ⟨rfl, rfl, rfl, by decide +kernel, rfl, by decide +kernel, by decide +kernel⟩
theorem ok__law_pot {f : Addr} {fd : FuncData} (T : Txt P base K w mg) (F : Fun K "_law_pot" "_law_pot" s__law_pot f fd)  : FnG P w K mg base 1 f fd ["_law_cell"] den__law_pot :=
  fnG_of (N := N__law_pot) F sc__law_pot fun cdv A outer s H E W hx =>
    (gs_one (gs_ret (ge_lstH (ga_cons (ge_bin mul_g (ge_var 0) (ge_ti int_g rfl T.b_int (by decide +kernel) (ga_cons (ge_cm ge_g (ge_var 0) (ge_bin pow_g (ge_int) (ge_int))) (ga_nil)))) (ga_cons (ge_bin mod_g (ge_bin add_g (ge_bin mul_g (ge_var 0) (ge_int)) (ge_int)) (ge_int)) (ga_nil))))))
abbrev N__law_take : List Str := ["_law_pot_here", "_law_many", "_law_digit"]
theorem sc__law_take : FnScope N__law_take ["_law_pot_here", "_law_many"] (defScope s__law_take) := ⟨rfl, rfl, rfl, by decide +kernel, rfl, by decide +kernel, by decide +kernel⟩
theorem ok__law_take {f : Addr} {fd : FuncData} (T : Txt P base K w mg) (F : Fun K "_law_take" "_law_take" s__law_take f fd)  : FnG P w K mg base 1 f fd ["_law_pot_here", "_law_many"] den__law_take :=
  fnG_of (N := N__law_take) F sc__law_take fun cdv A outer s H E W hx =>
    (gs_cons (gs_if (gt_cm gt_g (ge_ix (ge_var 0) (ge_int)) (ge_int)) (gs_cons (gs_set (i := 2) sc__law_take.nd rfl (.inl rfl) (ge_bin mod_g (ge_ix (ge_var 0) (ge_int)) (ge_var 1))) (gs_cons (gs_store hx.room (ge_bin fdiv_g (ge_ix (ge_var 0) (ge_int)) (ge_var 1)) (ge_var 0) (ge_int)) (gs_one (gs_ret (ge_var 2))))) (gs_nil)) (gs_cons (gs_store hx.room (ge_bin mod_g (ge_bin add_g (ge_bin mul_g (ge_ix (ge_var 0) (ge_int)) (ge_int)) (ge_int)) (ge_int)) (ge_var 0) (ge_int)) (gs_one (gs_ret (ge_bin mod_g (ge_bin fdiv_g (ge_bin mod_g (ge_bin mul_g (ge_ix (ge_var 0) (ge_int)) (ge_ix (ge_var 0) (ge_int))) (ge_int)) (ge_int)) (ge_var 1))))))
abbrev N__law_is_number : List Str := ["_law_value"]
theorem sc__law_is_number : FnScope N__law_is_number ["_law_value"] (defScope s__law_is_number) := ⟨rfl, rfl, rfl, by decide +kernel, rfl, by decide +kernel, by decide +kernel⟩
theorem ok__law_is_number {f : Addr} {fd : FuncData} (T : Txt P base K w mg) (F : Fun K "_law_is_number" "_law_is_number" s__law_is_number f fd)  : FnG P w K mg base 1 f fd ["_law_value"] den__law_is_number :=
  fnG_of (N := N__law_is_number) F sc__law_is_number fun cdv A outer s H E W hx =>
    (gs_one (gs_ret (ge_and (ge_isi .int rfl T.b_isinstance rfl T.b_int (by decide +kernel) (by decide) (by decide) (ge_var 0)) (ge_one (ge_not (ge_isi .bool rfl T.b_isinstance rfl T.b_bool (by decide +kernel) (by decide) (by decide) (ge_var 0)))))))
theorem okH__law_is_number {f : Addr} {fd : FuncData} (T : Txt P base K w mg) (F : Fun K "_law_is_number" "_law_is_number" s__law_is_number f fd) : FnGH P w K mg base 1 f fd "_law_value" den__law_is_number :=
  fnGH_of (N := N__law_is_number) F sc__law_is_number fun cdv A outer s H E p =>
    (gs_one (gs_ret (ge_and (ge_isi .int rfl T.b_isinstance rfl T.b_int (by decide +kernel) (by decide) (by decide) (ge_var 0)) (ge_one (ge_not (ge_isi .bool rfl T.b_isinstance rfl T.b_bool (by decide +kernel) (by decide) (by decide) (ge_var 0)))))))
abbrev N__law_kind : List Str := ["_law_pot_here", "_law_deep", "_law_way"]
theorem sc__law_kind : FnScope N__law_kind ["_law_pot_here", "_law_deep"] (defScope s__law_kind) := ⟨rfl, rfl, rfl, by decide +kernel, rfl, by decide +kernel, by decide +kernel⟩
theorem ok__law_kind {f : Addr} {fd : FuncData} {j : Nat} {den__law_kind_ : Den} (T : Txt P base K w mg) (F : Fun K "_law_kind" "_law_kind" s__law_kind f fd) (h__law_kind : FnD P w K mg base "_law_kind" j den__law_kind_) (h__law_take : FnD P w K mg base "_law_take" j den__law_take) : FnG P w K mg base (j + 1) f fd ["_law_pot_here", "_law_deep"] (gFun 2 3 (bodyR__law_kind den__law_kind_)) :=
  fnG_of (N := N__law_kind) F sc__law_kind fun cdv A outer s H E W hx =>
    (gs_cons (gs_set (i := 2) sc__law_kind.nd rfl (.inl rfl) (ge_call h__law_take hx rfl (ga_cons (ge_var 0) (ga_cons (ge_int) (ga_nil))))) (gs_cons (gs_if (gt_cm (eq_g hx.u64) (ge_var 2) (ge_int)) (gs_one (gs_ret (ge_tup (ga_cons (ge_str [116, 114, 117, 116, 104]) (ga_nil))))) (gs_nil)) (gs_cons (gs_if (PW.pt (gt_and (gt_cm (eq_g hx.u64) (ge_var 2) (ge_int)) (gt_and1 (gt_cm (eq_g hx.u64) (ge_call h__law_take hx rfl (ga_cons (ge_var 0) (ga_cons (ge_int) (ga_nil)))) (ge_int))))) (gs_one (gs_ret (ge_tup (ga_cons (ge_str [114, 101, 99, 111, 114, 100]) (ga_cons (ge_ix (ge_lst (ga_cons (ge_str [107]) (ga_cons (ge_str [103, 111, 110, 101]) (ga_nil)))) (ge_call h__law_take hx rfl (ga_cons (ge_var 0) (ga_cons (ge_int) (ga_nil))))) (ga_nil)))))) (gs_nil)) (gs_cons (gs_if (PW.pt (gt_and (gt_cm gt_g (ge_var 2) (ge_int)) (gt_and1 (gt_cm gt_g (ge_var 1) (ge_int))))) (gs_one (gs_ret (ge_tup (ga_cons (ge_str [108, 105, 115, 116]) (ga_cons (ge_call h__law_kind hx rfl (ga_cons (ge_var 0) (ga_cons (ge_bin sub_g (ge_var 1) (ge_int)) (ga_nil)))) (ga_nil)))))) (gs_nil)) (gs_one (gs_ret (ge_tup (ga_cons (ge_str [110, 117, 109, 98, 101, 114]) (ga_nil)))))))))
abbrev N__law_plain : List Str := ["_law_pot_here", "_law_kind_here", "_law_many", "_law_k"]
theorem sc__law_plain : FnScope N__law_plain ["_law_pot_here", "_law_kind_here"] (defScope s__law_plain) := ⟨rfl, rfl, rfl, by decide +kernel, rfl, by decide +kernel, by decide +kernel⟩
theorem ok__law_plain {f : Addr} {fd : FuncData} {j : Nat} {den__law_plain_ : Den} (T : Txt P base K w mg) (F : Fun K "_law_plain" "_law_plain" s__law_plain f fd) (h__law_plain : FnD P w K mg base "_law_plain" j den__law_plain_) (h__law_take : FnD P w K mg base "_law_take" j den__law_take) : FnG P w K mg base (j + 1) f fd ["_law_pot_here", "_law_kind_here"] (gFun 2 4 (bodyR__law_plain den__law_plain_)) :=
  fnG_of (N := N__law_plain) F sc__law_plain fun cdv A outer s H E W hx =>
    (gs_cons (gs_if (gt_cm (eq_g hx.u64) (ge_ix (ge_var 1) (ge_int)) (ge_str [110, 117, 109, 98, 101, 114])) (gs_one (gs_ret (ge_ix (ge_lst (ga_cons (ge_call h__law_take hx rfl (ga_cons (ge_var 0) (ga_cons (ge_int) (ga_nil)))) (ga_cons (ge_call h__law_take hx rfl (ga_cons (ge_var 0) (ga_cons (ge_bin pow_g (ge_int) (ge_int)) (ga_nil)))) (ga_cons (ge_bin sub_g (ge_bin pow_g (ge_int) (ge_int)) (ge_int)) (ga_nil))))) (ge_call h__law_take hx rfl (ga_cons (ge_var 0) (ga_cons (ge_int) (ga_nil))))))) (gs_nil)) (gs_cons (gs_if (gt_cm (eq_g hx.u64) (ge_ix (ge_var 1) (ge_int)) (ge_str [116, 114, 117, 116, 104])) (gs_one (gs_ret (ge_cm (eq_g hx.u64) (ge_call h__law_take hx rfl (ga_cons (ge_var 0) (ga_cons (ge_int) (ga_nil)))) (ge_int)))) (gs_nil)) (gs_cons (gs_if (gt_cm (eq_g hx.u64) (ge_ix (ge_var 1) (ge_int)) (ge_str [114, 101, 99, 111, 114, 100])) (gs_one (gs_ret (ge_str [114, 48]))) (gs_nil)) (gs_cons (gs_set (i := 2) sc__law_plain.nd rfl (.inl rfl) (ge_bin mul_g (ge_call h__law_take hx rfl (ga_cons (ge_var 0) (ga_cons (ge_int) (ga_nil)))) (ge_ti int_g rfl T.b_int (by decide +kernel) (ga_cons (ge_cm (ne_g hx.u64) (ge_ix (ge_ix (ge_var 1) (ge_int)) (ge_int)) (ge_str [114, 101, 99, 111, 114, 100])) (ga_nil))))) (gs_one (gs_ret (ge_ti tup_g rfl T.b_tuple (by decide +kernel) (ga_cons (ge_lc (own := [("_law_k", 3)]) rfl sc__law_plain.nd (gi_r1 rfl T.b_range (ga_cons (ge_var 2) (ga_nil))) (blkOk_by (N := N__law_plain) (sc := defScope s__law_plain) (by decide +kernel)) (by decide) (fun _ _ _ _ _ => gg_name (i := 3) sc__law_plain.nd rfl (by first | exact Or.inl rfl | exact Or.inr rfl)) (fun _ _ _ _ _ => gt_yes) (fun _ _ _ _ _ => ge_call h__law_plain (XG.blk hx) rfl (ga_cons (ge_var 0) (ga_cons (ge_ix (ge_var 1) (ge_int)) (ga_nil))))) (ga_nil)))))))))
abbrev N__law_fit : List Str := ["_law_kind_here", "_law_value", "_law_one"]
theorem sc__law_fit : FnScope N__law_fit ["_law_kind_here", "_law_value"] (defScope s__law_fit) := ⟨rfl, rfl, rfl, by decide +kernel, rfl, by decide +kernel, by decide +kernel⟩
theorem ok__law_fit {f : Addr} {fd : FuncData} {j : Nat} {den__law_fit_ : Den} (T : Txt P base K w mg) (F : Fun K "_law_fit" "_law_fit" s__law_fit f fd) (h__law_fit : FnD P w K mg base "_law_fit" j den__law_fit_) (h__law_is_number : FnD P w K mg base "_law_is_number" j den__law_is_number) : FnG P w K mg base (j + 1) f fd ["_law_kind_here", "_law_value"] (gFun 2 3 (bodyR__law_fit den__law_fit_)) :=
  fnG_of (N := N__law_fit) F sc__law_fit fun cdv A outer s H E W hx =>
    (gs_cons (gs_if (gt_cm (eq_g hx.u64) (ge_ix (ge_var 0) (ge_int)) (ge_str [114, 101, 99, 111, 114, 100])) (gs_one (gs_ret (ge_bl))) (gs_nil)) (gs_cons (gs_if (gt_cm (eq_g hx.u64) (ge_ix (ge_var 0) (ge_int)) (ge_str [108, 105, 115, 116])) (gs_one (gs_ret (ge_and (ge_isi .tuple rfl T.b_isinstance rfl T.b_tuple (by decide +kernel) (by decide) (by decide) (ge_var 1)) (ge_one (ge_bi (all_g hx.calm) rfl T.b_all (by decide +kernel) (ga_cons (ge_lc (own := [("_law_one", 2)]) rfl sc__law_fit.nd (gi_any (ge_var 1)) (blkOk_by (N := N__law_fit) (sc := defScope s__law_fit) (by decide +kernel)) (by decide) (fun _ _ _ _ _ => gg_name (i := 2) sc__law_fit.nd rfl (by first | exact Or.inl rfl | exact Or.inr rfl)) (fun _ _ _ _ _ => gt_yes) (fun _ _ _ _ _ => ge_call h__law_fit (XG.blk hx) rfl (ga_cons (ge_ix (ge_var 0) (ge_int)) (ga_cons (ge_var 2) (ga_nil))))) (ga_nil))))))) (gs_nil)) (gs_cons (gs_if (gt_cm (eq_g hx.u64) (ge_ix (ge_var 0) (ge_int)) (ge_str [116, 114, 117, 116, 104])) (gs_one (gs_ret (ge_isi .bool rfl T.b_isinstance rfl T.b_bool (by decide +kernel) (by decide) (by decide) (ge_var 1)))) (gs_nil)) (gs_one (gs_ret (ge_call h__law_is_number hx rfl (ga_cons (ge_var 1) (ga_nil))))))))
abbrev N__law_same : List Str := ["_law_one", "_law_other", "_law_a", "_law_b"]
theorem sc__law_same : FnScope N__law_same ["_law_one", "_law_other"] (defScope s__law_same) := ⟨rfl, rfl, rfl, by decide +kernel, rfl, by decide +kernel, by decide +kernel⟩
theorem ok__law_same {f : Addr} {fd : FuncData} {j : Nat} {den__law_same_ : Den} (T : Txt P base K w mg) (F : Fun K "_law_same" "_law_same" s__law_same f fd) (h__law_same : FnD P w K mg base "_law_same" j den__law_same_) : FnG P w K mg base (j + 1) f fd ["_law_one", "_law_other"] (gFun 2 4 (bodyR__law_same den__law_same_)) :=
  fnG_of (N := N__law_same) F sc__law_same fun cdv A outer s H E W hx =>
    (gs_cons (gs_if (PW.pt (gt_and (gt_truth (ge_isi .tuple rfl T.b_isinstance rfl T.b_tuple (by decide +kernel) (by decide) (by decide) (ge_var 0))) (gt_and1 (gt_truth (ge_isi .tuple rfl T.b_isinstance rfl T.b_tuple (by decide +kernel) (by decide) (by decide) (ge_var 1)))))) (gs_one (gs_ret (ge_and (ge_cm (eq_g hx.u64) (ge_bi len_g rfl T.b_len (by decide +kernel) (ga_cons (ge_var 0) (ga_nil))) (ge_bi len_g rfl T.b_len (by decide +kernel) (ga_cons (ge_var 1) (ga_nil)))) (ge_one (ge_bi (all_g hx.calm) rfl T.b_all (by decide +kernel) (ga_cons (ge_lc (own := [("_law_a", 2), ("_law_b", 3)]) rfl sc__law_same.nd (gi_zip rfl T.b_zip (ga_cons (ge_var 0) (ga_cons (ge_var 1) (ga_nil)))) (blkOk_by (N := N__law_same) (sc := defScope s__law_same) (by decide +kernel)) (by decide) (fun _ _ _ _ _ => gg_tup rfl (gg_cons (gg_name (i := 2) sc__law_same.nd rfl (by first | exact Or.inl rfl | exact Or.inr rfl)) (gg_cons (gg_name (i := 3) sc__law_same.nd rfl (by first | exact Or.inl rfl | exact Or.inr rfl)) (gg_nil (is := []))))) (fun _ _ _ _ _ => gt_yes) (fun _ _ _ _ _ => ge_call h__law_same (XG.blk hx) rfl (ga_cons (ge_var 2) (ga_cons (ge_var 3) (ga_nil))))) (ga_nil))))))) (gs_nil)) (gs_one (gs_ret (ge_and (ge_cm (eq_g hx.u64) (ge_isi .bool rfl T.b_isinstance rfl T.b_bool (by decide +kernel) (by decide) (by decide) (ge_var 0)) (ge_isi .bool rfl T.b_isinstance rfl T.b_bool (by decide +kernel) (by decide) (by decide) (ge_var 1))) (ge_one (ge_cm (eq_g hx.u64) (ge_var 0) (ge_var 1)))))))
abbrev N__law_things : List Str := ["_law_pot_here", "_law_letters", "_law_found", "_law_letter"]
theorem sc__law_things : FnScope N__law_things ["_law_pot_here", "_law_letters"] (defScope s__law_things) := ⟨rfl, rfl, rfl, by decide +kernel, rfl, by decide +kernel, by decide +kernel⟩
theorem ok__law_things {f : Addr} {fd : FuncData} (T : Txt P base K w mg) (F : Fun K "_law_things" "_law_things" s__law_things f fd) (h__law_kind : FnD P w K mg base "_law_kind" 41 (den__law_kind 40)) (h__law_take : FnD P w K mg base "_law_take" 41 den__law_take) : FnG P w K mg base 42 f fd ["_law_pot_here", "_law_letters"] den__law_things :=
  fnG_of (N := N__law_things) F sc__law_things fun cdv A outer s H E W hx =>
    (gs_cons (gs_set (i := 2) sc__law_things.nd rfl (.inl rfl) (ge_dk0H)) (gs_cons (gs_for hx (gi_any (ge_slice (ge_var 1) (go_none) (go_some (ge_call h__law_take hx rfl (ga_cons (ge_var 0) (ga_cons (ge_bin add_g (ge_bi len_g rfl T.b_len (by decide +kernel) (ga_cons (ge_var 1) (ga_nil))) (ge_int)) (ga_nil))))))) (gg_name (i := 3) sc__law_things.nd rfl (by first | exact Or.inl rfl | exact Or.inr rfl)) (gs_one (gs_store hx.room (ge_call h__law_kind hx rfl (ga_cons (ge_var 0) (ga_cons (ge_int) (ga_nil)))) (ge_var 2) (ge_bin add_g (ge_var 3) (ge_slice (ge_str [97, 98, 99]) (go_none) (go_some (ge_call h__law_take hx rfl (ga_cons (ge_var 0) (ga_cons (ge_int) (ga_nil)))))))))) (gs_one (gs_ret (ge_var 2)))))
abbrev N__law_program : List Str := ["_law_pot_here", "_law_kinds", "_law_boxes", "_law_name", "_law_kind_here", "_law_takes", "_law_gives"]
theorem sc__law_program : FnScope N__law_program ["_law_pot_here"] (defScope s__law_program) := ⟨rfl, rfl, rfl, by decide +kernel, rfl, by decide +kernel, by decide +kernel⟩
theorem ok__law_program {f : Addr} {fd : FuncData} (T : Txt P base K w mg) (F : Fun K "_law_program" "_law_program" s__law_program f fd) (h__law_kind : FnD P w K mg base "_law_kind" 42 (den__law_kind 40)) (h__law_plain : FnD P w K mg base "_law_plain" 42 (den__law_plain 40)) (h__law_things : FnD P w K mg base "_law_things" 42 (own1 den__law_things)) : FnG P w K mg base 43 f fd ["_law_pot_here"] den__law_program :=
  fnG_of (N := N__law_program) F sc__law_program fun cdv A outer s H E W hx =>
    (gs_cons (gs_set (i := 1) sc__law_program.nd rfl (.inl rfl) (ge_disp (gpp_cons (ge_str [107]) (ge_tup (ga_cons (ge_tup (ga_cons (ge_str [97]) (ga_cons (ge_tup (ga_cons (ge_str [110, 117, 109, 98, 101, 114]) (ga_nil))) (ga_nil)))) (ga_nil))) (gpp_nil)) rfl rfl (by simp) (by decide) (by decide))) (gs_cons (gs_set (i := 2) sc__law_program.nd rfl (.inl rfl) (ge_dk0H)) (gs_cons (gs_for hx (gi_items (ge_call h__law_things hx rfl (ga_cons (ge_var 0) (ga_cons (ge_str [113, 112, 100, 115]) (ga_nil))))) (gg_tup rfl (gg_cons (gg_name (i := 3) sc__law_program.nd rfl (by first | exact Or.inl rfl | exact Or.inr rfl)) (gg_cons (gg_name (i := 4) sc__law_program.nd rfl (by first | exact Or.inl rfl | exact Or.inr rfl)) (gg_nil (is := []))))) (gs_cons (gs_while hx (gt_cm (eq_g hx.u64) (ge_ix (ge_var 4) (ge_int)) (ge_str [114, 101, 99, 111, 114, 100])) (gs_one (gs_set (i := 4) sc__law_program.nd rfl (.inl rfl) (ge_tup (ga_cons (ge_str [108, 105, 115, 116]) (ga_cons (ge_var 4) (ga_nil))))))) (gs_one (gs_store hx.room (ge_tup (ga_cons (ge_var 4) (ga_cons (ge_call h__law_plain hx rfl (ga_cons (ge_var 0) (ga_cons (ge_var 4) (ga_nil)))) (ga_nil)))) (ge_var 2) (ge_var 3))))) (gs_cons (gs_set (i := 5) sc__law_program.nd rfl (.inl rfl) (ge_ti tup_g rfl T.b_tuple (by decide +kernel) (ga_cons (ge_litems hx.calm rfl T.b_list (ge_call h__law_things hx rfl (ga_cons (ge_var 0) (ga_cons (ge_str [122, 121, 120, 119, 118, 117]) (ga_nil))))) (ga_nil)))) (gs_cons (gs_set (i := 6) sc__law_program.nd rfl (.inl rfl) (ge_call h__law_kind hx rfl (ga_cons (ge_var 0) (ga_cons (ge_int) (ga_nil))))) (gs_one (gs_ret (ge_tup (ga_cons (ge_var 1) (ga_cons (ge_var 2) (ga_cons (ge_disp (gpp_cons (ge_str [109, 97, 105, 110]) (ge_tup (ga_cons (ge_var 5) (ga_cons (ge_var 6) (ga_cons (ge_tup (ga_cons (ge_tup (ga_cons (ge_str [103, 111]) (ga_cons (ge_int) (ga_nil)))) (ga_nil))) (ga_nil))))) (gpp_cons (ge_str [109]) (ge_tup (ga_cons (ge_tup (ga_nil)) (ga_cons (ge_var 6) (ga_cons (ge_tup (ga_cons (ge_tup (ga_cons (ge_str [103, 111]) (ga_cons (ge_int) (ga_nil)))) (ga_nil))) (ga_nil))))) (gpp_nil))) rfl rfl (by simp) (by decide) (by decide)) (ga_nil))))))))))))
abbrev N__law_values : List Str := ["_law_pot_here", "_law_takes", "_law_values_here", "_law_way", "_law_name", "_law_kind_here"]
theorem sc__law_values : FnScope N__law_values ["_law_pot_here", "_law_takes"] (defScope s__law_values) := ⟨rfl, rfl, rfl, by decide +kernel, rfl, by decide +kernel, by decide +kernel⟩
theorem ok__law_values {f : Addr} {fd : FuncData} (T : Txt P base K w mg) (F : Fun K "_law_values" "_law_values" s__law_values f fd) (h__law_kind : FnD P w K mg base "_law_kind" 41 (den__law_kind 40)) (h__law_plain : FnD P w K mg base "_law_plain" 41 (den__law_plain 40)) (h__law_take : FnD P w K mg base "_law_take" 41 den__law_take) : FnG P w K mg base 42 f fd ["_law_pot_here", "_law_takes"] den__law_values :=
  fnG_of (N := N__law_values) F sc__law_values fun cdv A outer s H E W hx =>
    (gs_cons (gs_setLcH (i := 2) (own := [("_law_name", 4), ("_law_kind_here", 5)]) rfl sc__law_values.nd rfl rfl (sw_true rfl rfl rfl (by decide +kernel)) (gi_any (ge_var 1)) (blkOk_by (N := N__law_values) (sc := defScope s__law_values) (by decide +kernel)) (by decide) (fun _ _ _ _ _ => gg_tup rfl (gg_cons (gg_name (i := 4) sc__law_values.nd rfl (by first | exact Or.inl rfl | exact Or.inr rfl)) (gg_cons (gg_name (i := 5) sc__law_values.nd rfl (by first | exact Or.inl rfl | exact Or.inr rfl)) (gg_nil (is := []))))) (fun _ _ _ _ _ => gt_yes) (fun _ _ _ _ _ => ge_call h__law_plain (XG.blk hx) rfl (ga_cons (ge_var 0) (ga_cons (ge_var 5) (ga_nil))))) (gs_cons (gs_set (i := 3) sc__law_values.nd rfl (.inl rfl) (ge_call h__law_take hx rfl (ga_cons (ge_var 0) (ga_cons (ge_int) (ga_nil))))) (gs_cons (gs_if (PW.pt (gt_and (gt_cm (eq_g hx.u64) (ge_var 3) (ge_int)) (gt_and1 (gt_cm (ne_g hx.u64) (ge_var 2) (ge_lst (ga_nil)))))) (gs_one (gs_store hx.room (ge_call h__law_plain hx rfl (ga_cons (ge_var 0) (ga_cons (ge_call h__law_kind hx rfl (ga_cons (ge_var 0) (ga_cons (ge_int) (ga_nil)))) (ga_nil)))) (ge_var 2) (ge_call h__law_take hx rfl (ga_cons (ge_var 0) (ga_cons (ge_bi len_g rfl T.b_len (by decide +kernel) (ga_cons (ge_var 2) (ga_nil))) (ga_nil)))))) (gs_nil)) (gs_cons (gs_if (gt_cm (eq_g hx.u64) (ge_var 3) (ge_int)) (gs_one (gs_set (i := 2) sc__law_values.nd rfl (.inl rfl) (ge_slice (ge_var 2) (go_some (ge_int)) (go_none)))) (gs_nil)) (gs_cons (gs_if (gt_cm (eq_g hx.u64) (ge_var 3) (ge_int)) (gs_one (gs_set (i := 2) sc__law_values.nd rfl (.inl rfl) (ge_addR (ge_var 2) (ge_lst (ga_cons (ge_call h__law_plain hx rfl (ga_cons (ge_var 0) (ga_cons (ge_tup (ga_cons (ge_str [110, 117, 109, 98, 101, 114]) (ga_nil))) (ga_nil)))) (ga_nil)))))) (gs_nil)) (gs_cons (gs_if (PW.pt (gt_and (gt_cm (eq_g hx.u64) (ge_var 3) (ge_int)) (gt_and1 (gt_cm (ne_g hx.u64) (ge_var 2) (ge_lst (ga_nil)))))) (gs_one (gs_store hx.room (ge_ix (ge_lst (ga_cons (ge_str [114, 48]) (ga_cons (ge_tup (ga_cons (ge_str [114, 49]) (ga_nil))) (ga_cons (ge_tup (ga_cons (ge_tup (ga_cons (ge_str [114, 48]) (ga_nil))) (ga_cons (ge_tup (ga_nil)) (ga_nil)))) (ga_nil))))) (ge_call h__law_take hx rfl (ga_cons (ge_var 0) (ga_cons (ge_int) (ga_nil))))) (ge_var 2) (ge_call h__law_take hx rfl (ga_cons (ge_var 0) (ga_cons (ge_bi len_g rfl T.b_len (by decide +kernel) (ga_cons (ge_var 2) (ga_nil))) (ga_nil)))))) (gs_nil)) (gs_one (gs_ret (ge_ti tup_g rfl T.b_tuple (by decide +kernel) (ga_cons (ge_var 2) (ga_nil)))))))))))
abbrev N__law_right : List Str := ["_law_found", "_law_program_here", "_law_name", "_law_values_here", "_law_boxes", "_law_held", "_law_takes", "_law_one", "_law_take_here", "_law_kind_here", "_law_value"]
theorem sc__law_right : FnScope N__law_right ["_law_found", "_law_program_here", "_law_name", "_law_values_here"] (defScope s__law_right) := ⟨rfl, rfl, rfl, by decide +kernel, rfl, by decide +kernel, by decide +kernel⟩
theorem ok__law_right {f : Addr} {fd : FuncData} (T : Txt P base K w mg) (F : Fun K "_law_right" "_law_right" s__law_right f fd) (h__law_same : FnD P w K mg base "_law_same" 40 (den__law_same 40)) : FnG P w K mg base 41 f fd ["_law_found", "_law_program_here", "_law_name", "_law_values_here"] den__law_right :=
  fnG_of (N := N__law_right) F sc__law_right fun cdv A outer s H E W hx =>
    (gs_cons (gs_if (PW.pt (gt_or (gt_not (gt_truth (ge_isi .tuple rfl T.b_isinstance rfl T.b_tuple (by decide +kernel) (by decide) (by decide) (ge_var 0)))) (gt_or (gt_cm (ne_g hx.u64) (ge_bi len_g rfl T.b_len (by decide +kernel) (ga_cons (ge_var 0) (ga_nil))) (ge_int)) (gt_or (gt_cm (ne_g hx.u64) (ge_ix (ge_var 0) (ge_int)) (ge_dk0)) (gt_or (gt_cm (ne_g hx.u64) (ge_ix (ge_var 0) (ge_int)) (ge_tup (ga_nil))) (gt_or1 (gt_cm isnot_g (ge_ix (ge_var 0) (ge_int)) (ge_non)))))))) (gs_one (gs_ret (ge_bl))) (gs_nil)) (gs_cons (gs_set (i := 4) sc__law_right.nd rfl (.inr rfl) (ge_ix (ge_var 1) (ge_int))) (gs_cons (gs_if (PW.pt (gt_or (gt_cm (ne_g hx.u64) (ge_bi (sor_g hx.calm) rfl T.b_sorted (by decide +kernel) (ga_cons (ge_ix (ge_var 0) (ge_int)) (ga_nil))) (ge_bi (sor_g hx.calm) rfl T.b_sorted (by decide +kernel) (ga_cons (ge_var 4) (ga_nil)))) (gt_or1 (gt_not (gt_truth (ge_bi (all_g hx.calm) rfl T.b_all (by decide +kernel) (ga_cons (ge_lc (own := [("_law_one", 7)]) rfl sc__law_right.nd (gi_any (ge_var 4)) (blkOk_by (N := N__law_right) (sc := defScope s__law_right) (by decide +kernel)) (by decide) (fun _ _ _ _ _ => gg_name (i := 7) sc__law_right.nd rfl (by first | exact Or.inl rfl | exact Or.inr rfl)) (fun _ _ _ _ _ => gt_yes) (fun _ _ _ _ _ => ge_call h__law_same (XG.blk hx) rfl (ga_cons (ge_ix (ge_ix (ge_var 0) (ge_int)) (ge_var 7)) (ga_cons (ge_ix (ge_ix (ge_var 4) (ge_var 7)) (ge_int)) (ga_nil))))) (ga_nil)))))))) (gs_one (gs_ret (ge_bl))) (gs_nil)) (gs_cons (gs_if (PW.pt (gt_or (gt_cm (ne_g hx.u64) (ge_bi len_g rfl T.b_len (by decide +kernel) (ga_cons (ge_ix (ge_var 0) (ge_int)) (ga_nil))) (ge_int)) (gt_or1 (gt_cm (ne_g hx.u64) (ge_slice (ge_ix (ge_ix (ge_var 0) (ge_int)) (ge_int)) (go_none) (go_some (ge_int))) (ge_tup (ga_cons (ge_var 2) (ga_cons (ge_ix (ge_ix (ge_var 1) (ge_int)) (ge_var 2)) (ga_cons (ge_int) (ga_nil))))))))) (gs_one (gs_ret (ge_bl))) (gs_nil)) (gs_cons (gs_set (i := 5) sc__law_right.nd rfl (.inr rfl) (ge_ix (ge_ix (ge_ix (ge_var 0) (ge_int)) (ge_int)) (ge_int))) (gs_cons (gs_set (i := 6) sc__law_right.nd rfl (.inl rfl) (ge_ix (ge_ix (ge_ix (ge_var 1) (ge_int)) (ge_var 2)) (ge_int))) (gs_cons (gs_if (gt_cm (ne_g hx.u64) (ge_bi (sor_g hx.calm) rfl T.b_sorted (by decide +kernel) (ga_cons (ge_var 5) (ga_nil))) (ge_bi (sor_g hx.calm) rfl T.b_sorted (by decide +kernel) (ga_cons (ge_lc (own := [("_law_take_here", 8), ("_law_kind_here", 9)]) rfl sc__law_right.nd (gi_any (ge_var 6)) (blkOk_by (N := N__law_right) (sc := defScope s__law_right) (by decide +kernel)) (by decide) (fun _ _ _ _ _ => gg_tup rfl (gg_cons (gg_name (i := 8) sc__law_right.nd rfl (by first | exact Or.inl rfl | exact Or.inr rfl)) (gg_cons (gg_name (i := 9) sc__law_right.nd rfl (by first | exact Or.inl rfl | exact Or.inr rfl)) (gg_nil (is := []))))) (fun _ _ _ _ _ => gt_yes) (fun _ _ _ _ _ => ge_var 8)) (ga_nil)))) (gs_one (gs_ret (ge_bl))) (gs_nil)) (gs_one (gs_ret (ge_bi (all_g hx.calm) rfl T.b_all (by decide +kernel) (ga_cons (ge_lc (own := [("_law_take_here", 8), ("_law_kind_here", 9), ("_law_value", 10)]) rfl sc__law_right.nd (gi_zip rfl T.b_zip (ga_cons (ge_var 6) (ga_cons (ge_var 3) (ga_nil)))) (blkOk_by (N := N__law_right) (sc := defScope s__law_right) (by decide +kernel)) (by decide) (fun _ _ _ _ _ => gg_tup rfl (gg_cons (gg_tup rfl (gg_cons (gg_name (i := 8) sc__law_right.nd rfl (by first | exact Or.inl rfl | exact Or.inr rfl)) (gg_cons (gg_name (i := 9) sc__law_right.nd rfl (by first | exact Or.inl rfl | exact Or.inr rfl)) (gg_nil (is := []))))) (gg_cons (gg_name (i := 10) sc__law_right.nd rfl (by first | exact Or.inl rfl | exact Or.inr rfl)) (gg_nil (is := []))))) (fun _ _ _ _ _ => gt_yes) (fun _ _ _ _ _ => ge_call h__law_same (XG.blk hx) rfl (ga_cons (ge_ix (ge_var 5) (ge_var 8)) (ga_cons (ge_var 10) (ga_nil))))) (ga_nil))))))))))))
abbrev N__law_refused : List Str := ["_law_program_here", "_law_name", "_law_values_here", "e"]
theorem sc__law_refused : FnScope N__law_refused ["_law_program_here", "_law_name", "_law_values_here"] (defScope s__law_refused) := ⟨rfl, rfl, rfl, by decide +kernel, rfl, by decide +kernel, by decide +kernel⟩
theorem ok__law_refused {f : Addr} {fd : FuncData} (T : Txt P base K w mg) (F : Fun K "_law_refused" "_law_refused" s__law_refused f fd) (h__law_is_number : FnD P w K mg base "_law_is_number" 43 den__law_is_number) (h_begun : FnD P w K mg base "begun" 43 den_begun) (hh__law_is_number : FnDGH P w K mg base "_law_is_number" 43 den__law_is_number) : FnG P w K mg base 44 f fd ["_law_program_here", "_law_name", "_law_values_here"] den__law_refused :=
  fnG_of (N := N__law_refused) F sc__law_refused fun cdv A outer s H E W hx =>
    (gs_cons (Exists.elim T.x_ChangeError fun _ hC_ => gs_try hx rfl rfl sc__law_refused.nd rfl rfl rfl (by decide) T.rel hC_ (fun W_ pn_ xe_ hx => gs_one (gs_drop (ge_call h_begun hx rfl (ga_cons (ge_var 0) (ga_cons (ge_var 1) (ga_cons (ge_var 2) (ga_nil))))))) (fun a_ oe_ cls_ d_ pn_ Er_ hr_ => tss_cons (ts_if (PW.pt (tt_or (tt_not (tt_val (te_is1 T.rel Er_ rfl (by first | exact Or.inl rfl | exact Or.inr (Or.inl rfl)) (by decide) (by decide) rfl T.b_isinstance rfl (by decide) (by decide)))) (tt_or1 (tt_val (te_isT T.rel Er_ rfl (by first | exact Or.inl rfl | exact Or.inr (Or.inl rfl)) (by decide) (by decide) rfl T.b_isinstance (.cons rfl (by decide) (by decide) rfl (.cons rfl (by decide) (by decide) rfl (.cons rfl (by decide) (by decide) rfl (.cons rfl (by decide) (by decide) rfl (.cons rfl (by decide) (by decide) rfl .nil))))) (by decide)))))) (tss_one (ts_ret (te_of (ge_bl)))) (tss_nil)) (tss_one (ts_ret (te_and (te_cm (eq_g (RoomH_u64 hr_)) (te_attr T.flds Er_ rfl (by first | exact Or.inl rfl | exact Or.inr (Or.inl rfl)) (by decide) (by decide)) (te_of (ge_var 1))) (te_and (te_callH hh__law_is_number hr_ Er_ rfl (te_attr T.flds Er_ rfl (by first | exact Or.inl rfl | exact Or.inr (Or.inl rfl)) (by decide) (by decide))) (te_one (te_cm (eq_g (RoomH_u64 hr_)) (te_attr T.flds Er_ rfl (by first | exact Or.inl rfl | exact Or.inr (Or.inl rfl)) (by decide) (by decide)) (te_of (ge_neg (ge_int))))))))))) (gs_one (gs_ret (ge_bl))))
abbrev N_law : List Str := ["_law_script", "_law_pot_here", "_law_program_here", "_law_k", "_law_other", "_law_name", "_law_takes", "_law_values_here", "_law_fit_here", "_law_take_here", "_law_kind_here", "_law_one", "_law_again", "_law_found"]
theorem sc_law : FnScope N_law ["_law_script"] (defScope s_law) := ⟨rfl, rfl, rfl, by decide +kernel, rfl, by decide +kernel, by decide +kernel⟩
theorem ok_law {f : Addr} {fd : FuncData} (T : Txt P base K w mg) (F : Fun K "law" "law" s_law f fd) (h__law_fit : FnD P w K mg base "_law_fit" 44 (den__law_fit 40)) (h__law_nth : FnD P w K mg base "_law_nth" 44 den__law_nth) (h__law_pot : FnD P w K mg base "_law_pot" 44 den__law_pot) (h__law_program : FnD P w K mg base "_law_program" 44 (own1 den__law_program)) (h__law_refused : FnD P w K mg base "_law_refused" 44 den__law_refused) (h__law_right : FnD P w K mg base "_law_right" 44 den__law_right) (h__law_take : FnD P w K mg base "_law_take" 44 den__law_take) (h__law_values : FnD P w K mg base "_law_values" 44 den__law_values) (h_begun : FnD P w K mg base "begun" 44 den_begun) : FnG P w K mg base 45 f fd ["_law_script"] den_law :=
  fnG_of (N := N_law) F sc_law fun cdv A outer s H E W hx =>
    (gs_cons (gs_set (i := 1) sc_law.nd rfl (.inl rfl) (ge_call h__law_pot hx rfl (ga_cons (ge_call h__law_nth hx rfl (ga_cons (ge_var 0) (ga_cons (ge_int) (ga_nil)))) (ga_nil)))) (gs_cons (gs_set (i := 2) sc_law.nd rfl (.inl rfl) (ge_call h__law_program hx rfl (ga_cons (ge_var 1) (ga_nil)))) (gs_cons (gs_for hx (gi_r2 rfl T.b_range (ga_cons (ge_int) (ga_cons (ge_bi (max_g hx.calm) rfl T.b_max (by decide +kernel) (ga_cons (ge_int) (ga_cons (ge_bi (min_g hx.calm) rfl T.b_min (by decide +kernel) (ga_cons (ge_int) (ga_cons (ge_bi len_g rfl T.b_len (by decide +kernel) (ga_cons (ge_var 0) (ga_nil))) (ga_nil)))) (ga_nil)))) (ga_nil)))) (gg_name (i := 3) sc_law.nd rfl (by first | exact Or.inl rfl | exact Or.inr rfl)) (gs_cons (gs_set (i := 4) sc_law.nd rfl (.inl rfl) (ge_call h__law_pot hx rfl (ga_cons (ge_bin add_g (ge_call h__law_nth hx rfl (ga_cons (ge_var 0) (ga_cons (ge_var 3) (ga_nil)))) (ge_bin mul_g (ge_var 3) (ge_ti int_g rfl T.b_int (by decide +kernel) (ga_cons (ge_cm lt_g (ge_bi abs_g rfl T.b_abs (by decide +kernel) (ga_cons (ge_call h__law_nth hx rfl (ga_cons (ge_var 0) (ga_cons (ge_var 3) (ga_nil)))) (ga_nil))) (ge_bin pow_g (ge_int) (ge_int))) (ga_nil))))) (ga_nil)))) (gs_cons (gs_set (i := 5) sc_law.nd rfl (.inl rfl) (ge_ix (ge_lst (ga_cons (ge_str [109, 97, 105, 110]) (ga_cons (ge_str [109, 97, 105, 110]) (ga_cons (ge_str [109, 97, 105, 110]) (ga_cons (ge_str [109, 97, 105, 110]) (ga_cons (ge_str [109]) (ga_cons (ge_str [108, 111, 115, 116]) (ga_nil)))))))) (ge_call h__law_take hx rfl (ga_cons (ge_var 4) (ga_cons (ge_int) (ga_nil)))))) (gs_cons (gs_set (i := 6) sc_law.nd rfl (.inl rfl) (ge_ix (ge_getX hx.u65 (ge_ix (ge_var 2) (ge_int)) (ge_var 5) (ge_tup (ga_cons (ge_tup (ga_nil)) (ga_cons (ge_tup (ga_nil)) (ga_cons (ge_tup (ga_nil)) (ga_nil)))))) (ge_int))) (gs_cons (gs_set (i := 7) sc_law.nd rfl (.inl rfl) (ge_call h__law_values hx rfl (ga_cons (ge_var 4) (ga_cons (ge_var 6) (ga_nil))))) (gs_cons (gs_set (i := 8) sc_law.nd rfl (.inl rfl) (ge_cm (eq_g hx.u64) (ge_bi len_g rfl T.b_len (by decide +kernel) (ga_cons (ge_var 7) (ga_nil))) (ge_bi len_g rfl T.b_len (by decide +kernel) (ga_cons (ge_var 6) (ga_nil))))) (gs_cons (gs_for hx (gi_zip rfl T.b_zip (ga_cons (ge_var 6) (ga_cons (ge_var 7) (ga_nil)))) (gg_tup rfl (gg_cons (gg_tup rfl (gg_cons (gg_name (i := 9) sc_law.nd rfl (by first | exact Or.inl rfl | exact Or.inr rfl)) (gg_cons (gg_name (i := 10) sc_law.nd rfl (by first | exact Or.inl rfl | exact Or.inr rfl)) (gg_nil (is := []))))) (gg_cons (gg_name (i := 11) sc_law.nd rfl (by first | exact Or.inl rfl | exact Or.inr rfl)) (gg_nil (is := []))))) (gs_one (gs_set (i := 8) sc_law.nd rfl (.inl rfl) (ge_and (ge_var 8) (ge_one (ge_call h__law_fit hx rfl (ga_cons (ge_var 10) (ga_cons (ge_var 11) (ga_nil))))))))) (gs_one (gs_if (PW.pt (gt_or (gt_cm (eq_g hx.u64) (ge_var 5) (ge_str [108, 111, 115, 116])) (gt_or1 (gt_not (gt_truth (ge_var 8)))))) (gs_one (gs_if (gt_not (gt_truth (ge_call h__law_refused hx rfl (ga_cons (ge_var 2) (ga_cons (ge_var 5) (ga_cons (ge_var 7) (ga_nil))))))) (gs_one (gs_ret (ge_bl))) (gs_nil))) (gs_one (gs_for hx (gi_r1 rfl T.b_range (ga_cons (ge_int) (ga_nil))) (gg_name (i := 12) sc_law.nd rfl (by first | exact Or.inl rfl | exact Or.inr rfl)) (gs_cons (gs_set (i := 13) sc_law.nd rfl (.inl rfl) (ge_call h_begun hx rfl (ga_cons (ge_var 2) (ga_cons (ge_var 5) (ga_cons (ge_var 7) (ga_nil)))))) (gs_cons (gs_if (gt_not (gt_truth (ge_call h__law_right hx rfl (ga_cons (ge_var 13) (ga_cons (ge_var 2) (ga_cons (ge_var 5) (ga_cons (ge_var 7) (ga_nil)))))))) (gs_one (gs_ret (ge_bl))) (gs_nil)) (gs_cons (gs_drop (ge_clr (ge_ix (ge_var 13) (ge_int)))) (gs_cons (gs_store hx.room (ge_tup (ga_cons (ge_str [107]) (ga_cons (ge_tup (ga_cons (ge_tup (ga_cons (ge_str [97]) (ga_cons (ge_int) (ga_nil)))) (ga_nil))) (ga_nil)))) (ge_ix (ge_var 13) (ge_int)) (ge_str [114, 48])) (gs_one (gs_drop (ge_clr (ge_ix (ge_ix (ge_ix (ge_var 13) (ge_int)) (ge_int)) (ge_int)))))))))))))))))))) (gs_one (gs_ret (ge_bl))))))
end
theorem all_mk {l : PySem.W.OpenLaw} {w : World} {K : PySem.W.Frag} {h : Heap} {mg : Str → Option Value} {fa : Addr} (X : K.In h) (G : h.Ns mainGlobals mg) (hfa : mg "law" = some (.ref fa))
    {f_are_figures : Addr} {od_are_figures an_are_figures : Option Addr} {sl_are_figures : Array (Option Value)} {oc_are_figures kV_are_figures dc_are_figures pm_are_figures cd_are_figures ct_are_figures : Value}
    {f_is_number : Addr} {od_is_number an_is_number : Option Addr} {sl_is_number : Array (Option Value)} {oc_is_number kV_is_number dc_is_number pm_is_number cd_is_number ct_is_number : Value}
    {f_is_ref : Addr} {od_is_ref an_is_ref : Option Addr} {sl_is_ref : Array (Option Value)} {oc_is_ref kV_is_ref dc_is_ref pm_is_ref cd_is_ref ct_is_ref : Value}
    {f_is_of : Addr} {od_is_of an_is_of : Option Addr} {sl_is_of : Array (Option Value)} {oc_is_of kV_is_of dc_is_of pm_is_of cd_is_of ct_is_of : Value}
    {f_begun : Addr} {od_begun an_begun : Option Addr} {sl_begun : Array (Option Value)} {oc_begun kV_begun dc_begun pm_begun cd_begun ct_begun : Value}
    {f__law_nth : Addr} {od__law_nth an__law_nth : Option Addr} {sl__law_nth : Array (Option Value)} {oc__law_nth kV__law_nth dc__law_nth pm__law_nth cd__law_nth ct__law_nth : Value}
    {f__law_pot : Addr} {od__law_pot an__law_pot : Option Addr} {sl__law_pot : Array (Option Value)} {oc__law_pot kV__law_pot dc__law_pot pm__law_pot cd__law_pot ct__law_pot : Value}
    {f__law_take : Addr} {od__law_take an__law_take : Option Addr} {sl__law_take : Array (Option Value)} {oc__law_take kV__law_take dc__law_take pm__law_take cd__law_take ct__law_take : Value}
    {f__law_is_number : Addr} {od__law_is_number an__law_is_number : Option Addr} {sl__law_is_number : Array (Option Value)} {oc__law_is_number kV__law_is_number dc__law_is_number pm__law_is_number cd__law_is_number ct__law_is_number : Value}
    {f__law_kind : Addr} {od__law_kind an__law_kind : Option Addr} {sl__law_kind : Array (Option Value)} {oc__law_kind kV__law_kind dc__law_kind pm__law_kind cd__law_kind ct__law_kind : Value}
    {f__law_plain : Addr} {od__law_plain an__law_plain : Option Addr} {sl__law_plain : Array (Option Value)} {oc__law_plain kV__law_plain dc__law_plain pm__law_plain cd__law_plain ct__law_plain : Value}
    {f__law_fit : Addr} {od__law_fit an__law_fit : Option Addr} {sl__law_fit : Array (Option Value)} {oc__law_fit kV__law_fit dc__law_fit pm__law_fit cd__law_fit ct__law_fit : Value}
    {f__law_same : Addr} {od__law_same an__law_same : Option Addr} {sl__law_same : Array (Option Value)} {oc__law_same kV__law_same dc__law_same pm__law_same cd__law_same ct__law_same : Value}
    {f__law_things : Addr} {od__law_things an__law_things : Option Addr} {sl__law_things : Array (Option Value)} {oc__law_things kV__law_things dc__law_things pm__law_things cd__law_things ct__law_things : Value}
    {f__law_program : Addr} {od__law_program an__law_program : Option Addr} {sl__law_program : Array (Option Value)} {oc__law_program kV__law_program dc__law_program pm__law_program cd__law_program ct__law_program : Value}
    {f__law_values : Addr} {od__law_values an__law_values : Option Addr} {sl__law_values : Array (Option Value)} {oc__law_values kV__law_values dc__law_values pm__law_values cd__law_values ct__law_values : Value}
    {f__law_right : Addr} {od__law_right an__law_right : Option Addr} {sl__law_right : Array (Option Value)} {oc__law_right kV__law_right dc__law_right pm__law_right cd__law_right ct__law_right : Value}
    {f__law_refused : Addr} {od__law_refused an__law_refused : Option Addr} {sl__law_refused : Array (Option Value)} {oc__law_refused kV__law_refused dc__law_refused pm__law_refused cd__law_refused ct__law_refused : Value}
    {f_law : Addr} {od_law an_law : Option Addr} {sl_law : Array (Option Value)} {oc_law kV_law dc_law pm_law cd_law ct_law : Value}
    (a_are_figures : PySem.W.nsIn K mainGlobals "are_figures" = some (some (.ref f_are_figures))) (l_are_figures : K.lookup f_are_figures = some ⟨oc_are_figures, od_are_figures, .func (PySem.W.fnOf "are_figures" "are_figures" (defArgs s_are_figures) (defBody s_are_figures) (defScope s_are_figures) .none kV_are_figures dc_are_figures pm_are_figures an_are_figures cd_are_figures ct_are_figures), sl_are_figures⟩) (e_are_figures : PySem.W.codeIn K cd_are_figures "are_figures" = true) (k_are_figures : PySem.W.keepIn K (.ref f_are_figures) = true)
    (a_is_number : PySem.W.nsIn K mainGlobals "is_number" = some (some (.ref f_is_number))) (l_is_number : K.lookup f_is_number = some ⟨oc_is_number, od_is_number, .func (PySem.W.fnOf "is_number" "is_number" (defArgs s_is_number) (defBody s_is_number) (defScope s_is_number) .none kV_is_number dc_is_number pm_is_number an_is_number cd_is_number ct_is_number), sl_is_number⟩) (e_is_number : PySem.W.codeIn K cd_is_number "is_number" = true) (k_is_number : PySem.W.keepIn K (.ref f_is_number) = true)
    (a_is_ref : PySem.W.nsIn K mainGlobals "is_ref" = some (some (.ref f_is_ref))) (l_is_ref : K.lookup f_is_ref = some ⟨oc_is_ref, od_is_ref, .func (PySem.W.fnOf "is_ref" "is_ref" (defArgs s_is_ref) (defBody s_is_ref) (defScope s_is_ref) .none kV_is_ref dc_is_ref pm_is_ref an_is_ref cd_is_ref ct_is_ref), sl_is_ref⟩) (e_is_ref : PySem.W.codeIn K cd_is_ref "is_ref" = true) (k_is_ref : PySem.W.keepIn K (.ref f_is_ref) = true)
    (a_is_of : PySem.W.nsIn K mainGlobals "is_of" = some (some (.ref f_is_of))) (l_is_of : K.lookup f_is_of = some ⟨oc_is_of, od_is_of, .func (PySem.W.fnOf "is_of" "is_of" (defArgs s_is_of) (defBody s_is_of) (defScope s_is_of) .none kV_is_of dc_is_of pm_is_of an_is_of cd_is_of ct_is_of), sl_is_of⟩) (e_is_of : PySem.W.codeIn K cd_is_of "is_of" = true) (k_is_of : PySem.W.keepIn K (.ref f_is_of) = true)
    (a_begun : PySem.W.nsIn K mainGlobals "begun" = some (some (.ref f_begun))) (l_begun : K.lookup f_begun = some ⟨oc_begun, od_begun, .func (PySem.W.fnOf "begun" "begun" (defArgs s_begun) (defBody s_begun) (defScope s_begun) .none kV_begun dc_begun pm_begun an_begun cd_begun ct_begun), sl_begun⟩) (e_begun : PySem.W.codeIn K cd_begun "begun" = true) (k_begun : PySem.W.keepIn K (.ref f_begun) = true)
    (a__law_nth : PySem.W.nsIn K mainGlobals "_law_nth" = some (some (.ref f__law_nth))) (l__law_nth : K.lookup f__law_nth = some ⟨oc__law_nth, od__law_nth, .func (PySem.W.fnOf "_law_nth" "_law_nth" (defArgs s__law_nth) (defBody s__law_nth) (defScope s__law_nth) .none kV__law_nth dc__law_nth pm__law_nth an__law_nth cd__law_nth ct__law_nth), sl__law_nth⟩) (e__law_nth : PySem.W.codeIn K cd__law_nth "_law_nth" = true) (k__law_nth : PySem.W.keepIn K (.ref f__law_nth) = true)
    (a__law_pot : PySem.W.nsIn K mainGlobals "_law_pot" = some (some (.ref f__law_pot))) (l__law_pot : K.lookup f__law_pot = some ⟨oc__law_pot, od__law_pot, .func (PySem.W.fnOf "_law_pot" "_law_pot" (defArgs s__law_pot) (defBody s__law_pot) (defScope s__law_pot) .none kV__law_pot dc__law_pot pm__law_pot an__law_pot cd__law_pot ct__law_pot), sl__law_pot⟩) (e__law_pot : PySem.W.codeIn K cd__law_pot "_law_pot" = true) (k__law_pot : PySem.W.keepIn K (.ref f__law_pot) = true)
    (a__law_take : PySem.W.nsIn K mainGlobals "_law_take" = some (some (.ref f__law_take))) (l__law_take : K.lookup f__law_take = some ⟨oc__law_take, od__law_take, .func (PySem.W.fnOf "_law_take" "_law_take" (defArgs s__law_take) (defBody s__law_take) (defScope s__law_take) .none kV__law_take dc__law_take pm__law_take an__law_take cd__law_take ct__law_take), sl__law_take⟩) (e__law_take : PySem.W.codeIn K cd__law_take "_law_take" = true) (k__law_take : PySem.W.keepIn K (.ref f__law_take) = true)
    (a__law_is_number : PySem.W.nsIn K mainGlobals "_law_is_number" = some (some (.ref f__law_is_number))) (l__law_is_number : K.lookup f__law_is_number = some ⟨oc__law_is_number, od__law_is_number, .func (PySem.W.fnOf "_law_is_number" "_law_is_number" (defArgs s__law_is_number) (defBody s__law_is_number) (defScope s__law_is_number) .none kV__law_is_number dc__law_is_number pm__law_is_number an__law_is_number cd__law_is_number ct__law_is_number), sl__law_is_number⟩) (e__law_is_number : PySem.W.codeIn K cd__law_is_number "_law_is_number" = true) (k__law_is_number : PySem.W.keepIn K (.ref f__law_is_number) = true)
    (a__law_kind : PySem.W.nsIn K mainGlobals "_law_kind" = some (some (.ref f__law_kind))) (l__law_kind : K.lookup f__law_kind = some ⟨oc__law_kind, od__law_kind, .func (PySem.W.fnOf "_law_kind" "_law_kind" (defArgs s__law_kind) (defBody s__law_kind) (defScope s__law_kind) .none kV__law_kind dc__law_kind pm__law_kind an__law_kind cd__law_kind ct__law_kind), sl__law_kind⟩) (e__law_kind : PySem.W.codeIn K cd__law_kind "_law_kind" = true) (k__law_kind : PySem.W.keepIn K (.ref f__law_kind) = true)
    (a__law_plain : PySem.W.nsIn K mainGlobals "_law_plain" = some (some (.ref f__law_plain))) (l__law_plain : K.lookup f__law_plain = some ⟨oc__law_plain, od__law_plain, .func (PySem.W.fnOf "_law_plain" "_law_plain" (defArgs s__law_plain) (defBody s__law_plain) (defScope s__law_plain) .none kV__law_plain dc__law_plain pm__law_plain an__law_plain cd__law_plain ct__law_plain), sl__law_plain⟩) (e__law_plain : PySem.W.codeIn K cd__law_plain "_law_plain" = true) (k__law_plain : PySem.W.keepIn K (.ref f__law_plain) = true)
    (a__law_fit : PySem.W.nsIn K mainGlobals "_law_fit" = some (some (.ref f__law_fit))) (l__law_fit : K.lookup f__law_fit = some ⟨oc__law_fit, od__law_fit, .func (PySem.W.fnOf "_law_fit" "_law_fit" (defArgs s__law_fit) (defBody s__law_fit) (defScope s__law_fit) .none kV__law_fit dc__law_fit pm__law_fit an__law_fit cd__law_fit ct__law_fit), sl__law_fit⟩) (e__law_fit : PySem.W.codeIn K cd__law_fit "_law_fit" = true) (k__law_fit : PySem.W.keepIn K (.ref f__law_fit) = true)
    (a__law_same : PySem.W.nsIn K mainGlobals "_law_same" = some (some (.ref f__law_same))) (l__law_same : K.lookup f__law_same = some ⟨oc__law_same, od__law_same, .func (PySem.W.fnOf "_law_same" "_law_same" (defArgs s__law_same) (defBody s__law_same) (defScope s__law_same) .none kV__law_same dc__law_same pm__law_same an__law_same cd__law_same ct__law_same), sl__law_same⟩) (e__law_same : PySem.W.codeIn K cd__law_same "_law_same" = true) (k__law_same : PySem.W.keepIn K (.ref f__law_same) = true)
    (a__law_things : PySem.W.nsIn K mainGlobals "_law_things" = some (some (.ref f__law_things))) (l__law_things : K.lookup f__law_things = some ⟨oc__law_things, od__law_things, .func (PySem.W.fnOf "_law_things" "_law_things" (defArgs s__law_things) (defBody s__law_things) (defScope s__law_things) .none kV__law_things dc__law_things pm__law_things an__law_things cd__law_things ct__law_things), sl__law_things⟩) (e__law_things : PySem.W.codeIn K cd__law_things "_law_things" = true) (k__law_things : PySem.W.keepIn K (.ref f__law_things) = true)
    (a__law_program : PySem.W.nsIn K mainGlobals "_law_program" = some (some (.ref f__law_program))) (l__law_program : K.lookup f__law_program = some ⟨oc__law_program, od__law_program, .func (PySem.W.fnOf "_law_program" "_law_program" (defArgs s__law_program) (defBody s__law_program) (defScope s__law_program) .none kV__law_program dc__law_program pm__law_program an__law_program cd__law_program ct__law_program), sl__law_program⟩) (e__law_program : PySem.W.codeIn K cd__law_program "_law_program" = true) (k__law_program : PySem.W.keepIn K (.ref f__law_program) = true)
    (a__law_values : PySem.W.nsIn K mainGlobals "_law_values" = some (some (.ref f__law_values))) (l__law_values : K.lookup f__law_values = some ⟨oc__law_values, od__law_values, .func (PySem.W.fnOf "_law_values" "_law_values" (defArgs s__law_values) (defBody s__law_values) (defScope s__law_values) .none kV__law_values dc__law_values pm__law_values an__law_values cd__law_values ct__law_values), sl__law_values⟩) (e__law_values : PySem.W.codeIn K cd__law_values "_law_values" = true) (k__law_values : PySem.W.keepIn K (.ref f__law_values) = true)
    (a__law_right : PySem.W.nsIn K mainGlobals "_law_right" = some (some (.ref f__law_right))) (l__law_right : K.lookup f__law_right = some ⟨oc__law_right, od__law_right, .func (PySem.W.fnOf "_law_right" "_law_right" (defArgs s__law_right) (defBody s__law_right) (defScope s__law_right) .none kV__law_right dc__law_right pm__law_right an__law_right cd__law_right ct__law_right), sl__law_right⟩) (e__law_right : PySem.W.codeIn K cd__law_right "_law_right" = true) (k__law_right : PySem.W.keepIn K (.ref f__law_right) = true)
    (a__law_refused : PySem.W.nsIn K mainGlobals "_law_refused" = some (some (.ref f__law_refused))) (l__law_refused : K.lookup f__law_refused = some ⟨oc__law_refused, od__law_refused, .func (PySem.W.fnOf "_law_refused" "_law_refused" (defArgs s__law_refused) (defBody s__law_refused) (defScope s__law_refused) .none kV__law_refused dc__law_refused pm__law_refused an__law_refused cd__law_refused ct__law_refused), sl__law_refused⟩) (e__law_refused : PySem.W.codeIn K cd__law_refused "_law_refused" = true) (k__law_refused : PySem.W.keepIn K (.ref f__law_refused) = true)
    (a_law : PySem.W.nsIn K mainGlobals "law" = some (some (.ref f_law))) (l_law : K.lookup f_law = some ⟨oc_law, od_law, .func (PySem.W.fnOf "law" "law" (defArgs s_law) (defBody s_law) (defScope s_law) .none kV_law dc_law pm_law an_law cd_law ct_law), sl_law⟩) (e_law : PySem.W.codeIn K cd_law "law" = true) (k_law : PySem.W.keepIn K (.ref f_law) = true)
    (z_abs : PySem.W.nsIn K mainGlobals "abs" = some none)
    (z_all : PySem.W.nsIn K mainGlobals "all" = some none)
    (z_bool : PySem.W.nsIn K mainGlobals "bool" = some none)
    (z_dict : PySem.W.nsIn K mainGlobals "dict" = some none)
    (z_int : PySem.W.nsIn K mainGlobals "int" = some none)
    (z_isinstance : PySem.W.nsIn K mainGlobals "isinstance" = some none)
    (z_len : PySem.W.nsIn K mainGlobals "len" = some none)
    (z_list : PySem.W.nsIn K mainGlobals "list" = some none)
    (z_max : PySem.W.nsIn K mainGlobals "max" = some none)
    (z_min : PySem.W.nsIn K mainGlobals "min" = some none)
    (z_range : PySem.W.nsIn K mainGlobals "range" = some none)
    (z_sorted : PySem.W.nsIn K mainGlobals "sorted" = some none)
    (z_str : PySem.W.nsIn K mainGlobals "str" = some none)
    (z_tuple : PySem.W.nsIn K mainGlobals "tuple" = some none)
    (z_zip : PySem.W.nsIn K mainGlobals "zip" = some none)
    {t_MOST : Tok} (q_MOST : PySem.W.nsIn K mainGlobals "MOST" = some (some (.int (1000000000000) t_MOST)))
    {t_FIGURES : Tok} (q_FIGURES : PySem.W.nsIn K mainGlobals "FIGURES" = some (some (.str "0123456789" t_FIGURES)))
    {t_AHEAD : Tok} (q_AHEAD : PySem.W.nsIn K mainGlobals "AHEAD" = some (some (.int (-1) t_AHEAD)))
    {C_ChangeError : Addr} (ac_ChangeError : PySem.W.nsIn K mainGlobals "ChangeError" = some (some (.ref C_ChangeError))) (g3_ChangeError : PySem.W.subIn K (.ref C_ChangeError) (.type "BaseException") = some true) (g4_ChangeError : PySem.W.hasDictIn K C_ChangeError = true) (ty_ChangeError : PySem.W.typeIn K (.ref C_ChangeError) = some (.type "type"))
    {C_Stuck : Addr} (ac_Stuck : PySem.W.nsIn K mainGlobals "Stuck" = some (some (.ref C_Stuck))) (g3_Stuck : PySem.W.subIn K (.ref C_Stuck) (.type "BaseException") = some true) (g4_Stuck : PySem.W.hasDictIn K C_Stuck = true) (ty_Stuck : PySem.W.typeIn K (.ref C_Stuck) = some (.type "type"))
    (kc_Stuck : PySem.W.keepIn K (.ref C_Stuck) = true) (g1_Stuck : PySem.W.findIn K (.ref C_Stuck) "__getattribute__" = some (some (.builtin "BaseException.__getattribute__"))) (g2_Stuck : PySem.W.findIn K (.ref C_Stuck) "__getattr__" = some none) (g5_Stuck : PySem.W.findIn K (.ref C_Stuck) "__class__" = some (some (.builtin "object.__class__"))) (g6_Stuck : PySem.W.specialIn K (.builtin "object.__class__") "__get__" = some (some (.builtin "getset_descriptor.__get__"))) (g7_Stuck : PySem.W.takesIn K (.builtin "object.__class__") = some true) (g8_Stuck : PySem.W.mroIn K C_Stuck (.type "object") = some true)
    {f_init_Stuck : Addr} {od_init_Stuck an_init_Stuck : Option Addr} {sl_init_Stuck : Array (Option Value)} {oc_init_Stuck kV_init_Stuck dc_init_Stuck pm_init_Stuck cd_init_Stuck ct_init_Stuck : Value}
    (i1_Stuck : PySem.W.findIn K (.ref C_Stuck) "__init__" = some (some (.ref f_init_Stuck))) (i2_Stuck : PySem.W.typeIn K (.ref f_init_Stuck) = some (.type "function"))
    (l_init_Stuck : K.lookup f_init_Stuck = some ⟨oc_init_Stuck, od_init_Stuck, .func (PySem.W.fnOf "__init__" "Stuck.__init__" (defArgs s_init_Stuck) (defBody s_init_Stuck) (defScope s_init_Stuck) .none kV_init_Stuck dc_init_Stuck pm_init_Stuck an_init_Stuck cd_init_Stuck ct_init_Stuck), sl_init_Stuck⟩) (e_init_Stuck : PySem.W.codeIn K cd_init_Stuck "Stuck.__init__" = true) (k_init_Stuck : PySem.W.keepIn K (.ref f_init_Stuck) = true)
    (io_Stuck : oexIn K C_Stuck = true) (isa_Stuck : PySem.W.findIn K (.ref C_Stuck) "__setattr__" = some (some (.builtin "object.__setattr__")))
    (if0_Stuck : PySem.W.findIn K (.ref C_Stuck) "name" = some none)
    (if1_Stuck : PySem.W.findIn K (.ref C_Stuck) "row" = some none)
    (ib1_Stuck : PySem.W.specialIn K (.ref C_ChangeError) "__getattribute__" = some (some (.builtin "type.__getattribute__"))) (ib2_Stuck : PySem.W.readsIn K C_ChangeError (.type "type") = true) (ib3_Stuck : PySem.W.findCls K (.ref C_ChangeError) (.type "type") "__init__" = some (.val (.builtin "ValueError.__init__")))
    {C_NoFit : Addr} (ac_NoFit : PySem.W.nsIn K mainGlobals "NoFit" = some (some (.ref C_NoFit))) (g3_NoFit : PySem.W.subIn K (.ref C_NoFit) (.type "BaseException") = some true) (g4_NoFit : PySem.W.hasDictIn K C_NoFit = true) (ty_NoFit : PySem.W.typeIn K (.ref C_NoFit) = some (.type "type"))
    {C_NoLead : Addr} (ac_NoLead : PySem.W.nsIn K mainGlobals "NoLead" = some (some (.ref C_NoLead))) (g3_NoLead : PySem.W.subIn K (.ref C_NoLead) (.type "BaseException") = some true) (g4_NoLead : PySem.W.hasDictIn K C_NoLead = true) (ty_NoLead : PySem.W.typeIn K (.ref C_NoLead) = some (.type "type"))
    {C_NotNow : Addr} (ac_NotNow : PySem.W.nsIn K mainGlobals "NotNow" = some (some (.ref C_NotNow))) (g3_NotNow : PySem.W.subIn K (.ref C_NotNow) (.type "BaseException") = some true) (g4_NotNow : PySem.W.hasDictIn K C_NotNow = true) (ty_NotNow : PySem.W.typeIn K (.ref C_NotNow) = some (.type "type"))
    {C_NotRight : Addr} (ac_NotRight : PySem.W.nsIn K mainGlobals "NotRight" = some (some (.ref C_NotRight))) (g3_NotRight : PySem.W.subIn K (.ref C_NotRight) (.type "BaseException") = some true) (g4_NotRight : PySem.W.hasDictIn K C_NotRight = true) (ty_NotRight : PySem.W.typeIn K (.ref C_NotRight) = some (.type "type"))
    {C_NoText : Addr} (ac_NoText : PySem.W.nsIn K mainGlobals "NoText" = some (some (.ref C_NoText))) (g3_NoText : PySem.W.subIn K (.ref C_NoText) (.type "BaseException") = some true) (g4_NoText : PySem.W.hasDictIn K C_NoText = true) (ty_NoText : PySem.W.typeIn K (.ref C_NoText) = some (.type "type"))
    (pp_Stuck_ChangeError : PySem.W.subIn K (.ref C_Stuck) (.ref C_ChangeError) = some true)
    (pp_Stuck_NoFit : PySem.W.subIn K (.ref C_Stuck) (.ref C_NoFit) = some false)
    (pn_Stuck_NoFit : (Value.ref C_Stuck == Value.ref C_NoFit) = false)
    (pp_Stuck_NoLead : PySem.W.subIn K (.ref C_Stuck) (.ref C_NoLead) = some false)
    (pn_Stuck_NoLead : (Value.ref C_Stuck == Value.ref C_NoLead) = false)
    (pp_Stuck_NotNow : PySem.W.subIn K (.ref C_Stuck) (.ref C_NotNow) = some false)
    (pn_Stuck_NotNow : (Value.ref C_Stuck == Value.ref C_NotNow) = false)
    (pp_Stuck_NotRight : PySem.W.subIn K (.ref C_Stuck) (.ref C_NotRight) = some false)
    (pn_Stuck_NotRight : (Value.ref C_Stuck == Value.ref C_NotRight) = false)
    (pp_Stuck_NoText : PySem.W.subIn K (.ref C_Stuck) (.ref C_NoText) = some false)
    (pn_Stuck_NoText : (Value.ref C_Stuck == Value.ref C_NoText) = false)
    (pp_Stuck_Stuck : PySem.W.subIn K (.ref C_Stuck) (.ref C_Stuck) = some true)
    : ∃ fd : FuncData, (∀ (s : Shared) (v : Value), BindsTo s fd ⟨[v], []⟩ [("_law_script", v)]) ∧ ∀ base : Heap, K.In base → base.Ns mainGlobals mg → FnG l.prog w K mg base 45 fa fd ["_law_script"] den_law := by
  have e := hfa.symm.trans (PySem.W.mg_of X G a_law)
  cases e
  have F_are_figures := fun_mk (st := s_are_figures) l_are_figures e_are_figures k_are_figures
  have b_are_figures := F_are_figures.binds (ps := ["text"]) fun _ _ _ _ _ _ us hl => match us, hl with | [_], _ => rfl
  have F_is_number := fun_mk (st := s_is_number) l_is_number e_is_number k_is_number
  have b_is_number := F_is_number.binds (ps := ["thing"]) fun _ _ _ _ _ _ us hl => match us, hl with | [_], _ => rfl
  have F_is_ref := fun_mk (st := s_is_ref) l_is_ref e_is_ref k_is_ref
  have b_is_ref := F_is_ref.binds (ps := ["thing"]) fun _ _ _ _ _ _ us hl => match us, hl with | [_], _ => rfl
  have F_is_of := fun_mk (st := s_is_of) l_is_of e_is_of k_is_of
  have b_is_of := F_is_of.binds (ps := ["kind", "value", "records"]) fun _ _ _ _ _ _ us hl => match us, hl with | [_, _, _], _ => rfl
  have F_begun := fun_mk (st := s_begun) l_begun e_begun k_begun
  have b_begun := F_begun.binds (ps := ["program", "name", "values"]) fun _ _ _ _ _ _ us hl => match us, hl with | [_, _, _], _ => rfl
  have F__law_nth := fun_mk (st := s__law_nth) l__law_nth e__law_nth k__law_nth
  have b__law_nth := F__law_nth.binds (ps := ["_law_script", "_law_k"]) fun _ _ _ _ _ _ us hl => match us, hl with | [_, _], _ => rfl
  have F__law_pot := fun_mk (st := s__law_pot) l__law_pot e__law_pot k__law_pot
  have b__law_pot := F__law_pot.binds (ps := ["_law_cell"]) fun _ _ _ _ _ _ us hl => match us, hl with | [_], _ => rfl
  have F__law_take := fun_mk (st := s__law_take) l__law_take e__law_take k__law_take
  have b__law_take := F__law_take.binds (ps := ["_law_pot_here", "_law_many"]) fun _ _ _ _ _ _ us hl => match us, hl with | [_, _], _ => rfl
  have F__law_is_number := fun_mk (st := s__law_is_number) l__law_is_number e__law_is_number k__law_is_number
  have b__law_is_number := F__law_is_number.binds (ps := ["_law_value"]) fun _ _ _ _ _ _ us hl => match us, hl with | [_], _ => rfl
  have F__law_kind := fun_mk (st := s__law_kind) l__law_kind e__law_kind k__law_kind
  have b__law_kind := F__law_kind.binds (ps := ["_law_pot_here", "_law_deep"]) fun _ _ _ _ _ _ us hl => match us, hl with | [_, _], _ => rfl
  have F__law_plain := fun_mk (st := s__law_plain) l__law_plain e__law_plain k__law_plain
  have b__law_plain := F__law_plain.binds (ps := ["_law_pot_here", "_law_kind_here"]) fun _ _ _ _ _ _ us hl => match us, hl with | [_, _], _ => rfl
  have F__law_fit := fun_mk (st := s__law_fit) l__law_fit e__law_fit k__law_fit
  have b__law_fit := F__law_fit.binds (ps := ["_law_kind_here", "_law_value"]) fun _ _ _ _ _ _ us hl => match us, hl with | [_, _], _ => rfl
  have F__law_same := fun_mk (st := s__law_same) l__law_same e__law_same k__law_same
  have b__law_same := F__law_same.binds (ps := ["_law_one", "_law_other"]) fun _ _ _ _ _ _ us hl => match us, hl with | [_, _], _ => rfl
  have F__law_things := fun_mk (st := s__law_things) l__law_things e__law_things k__law_things
  have b__law_things := F__law_things.binds (ps := ["_law_pot_here", "_law_letters"]) fun _ _ _ _ _ _ us hl => match us, hl with | [_, _], _ => rfl
  have F__law_program := fun_mk (st := s__law_program) l__law_program e__law_program k__law_program
  have b__law_program := F__law_program.binds (ps := ["_law_pot_here"]) fun _ _ _ _ _ _ us hl => match us, hl with | [_], _ => rfl
  have F__law_values := fun_mk (st := s__law_values) l__law_values e__law_values k__law_values
  have b__law_values := F__law_values.binds (ps := ["_law_pot_here", "_law_takes"]) fun _ _ _ _ _ _ us hl => match us, hl with | [_, _], _ => rfl
  have F__law_right := fun_mk (st := s__law_right) l__law_right e__law_right k__law_right
  have b__law_right := F__law_right.binds (ps := ["_law_found", "_law_program_here", "_law_name", "_law_values_here"]) fun _ _ _ _ _ _ us hl => match us, hl with | [_, _, _, _], _ => rfl
  have F__law_refused := fun_mk (st := s__law_refused) l__law_refused e__law_refused k__law_refused
  have b__law_refused := F__law_refused.binds (ps := ["_law_program_here", "_law_name", "_law_values_here"]) fun _ _ _ _ _ _ us hl => match us, hl with | [_, _, _], _ => rfl
  have F_law := fun_mk (st := s_law) l_law e_law k_law
  have F_init_Stuck := fun_mk (st := s_init_Stuck) l_init_Stuck e_init_Stuck k_init_Stuck
  have b_init_Stuck := F_init_Stuck.binds (ps := ["self", "name", "row"]) fun _ _ _ _ _ _ us hl => match us, hl with | [_, _, _], _ => rfl
  refine ⟨PySem.W.fnOf "law" "law" (defArgs s_law) (defBody s_law) (defScope s_law) .none kV_law dc_law pm_law an_law cd_law ct_law, fun s v => .of_eq rfl, fun base _ _ => ?_⟩
  have T : Txt l.prog base K w mg := ⟨PySem.W.mg_none_of X G z_abs, PySem.W.mg_none_of X G z_all, PySem.W.mg_none_of X G z_bool, PySem.W.mg_none_of X G z_dict, PySem.W.mg_none_of X G z_int, PySem.W.mg_none_of X G z_isinstance, PySem.W.mg_none_of X G z_len, PySem.W.mg_none_of X G z_list, PySem.W.mg_none_of X G z_max, PySem.W.mg_none_of X G z_min, PySem.W.mg_none_of X G z_range, PySem.W.mg_none_of X G z_sorted, PySem.W.mg_none_of X G z_str, PySem.W.mg_none_of X G z_tuple, PySem.W.mg_none_of X G z_zip, GC.int (PySem.W.mg_of X G q_MOST), GC.str (PySem.W.mg_of X G q_FIGURES) (by decide +kernel), GC.int (PySem.W.mg_of X G q_AHEAD), ⟨_, ⟨⟨PySem.W.mg_of X G ac_Stuck, kc_Stuck, ⟨g1_Stuck, g2_Stuck, g3_Stuck, g4_Stuck, g5_Stuck, g6_Stuck, g7_Stuck, g8_Stuck⟩, ty_Stuck⟩, ⟨oex_of io_Stuck, isa_Stuck, g3_Stuck, ty_Stuck, kc_Stuck⟩, by decide, ⟨_, _, _, i1_Stuck, i2_Stuck, ok_init_Stuck F_init_Stuck ⟨oex_of io_Stuck, isa_Stuck, g3_Stuck, ty_Stuck, kc_Stuck⟩ (PySem.W.mg_of X G ac_ChangeError) ib1_Stuck ib2_Stuck ib3_Stuck if0_Stuck if1_Stuck, b_init_Stuck⟩⟩⟩, (FldT.cons ⟨PySem.W.mg_of X G ac_Stuck, kc_Stuck, ⟨g1_Stuck, g2_Stuck, g3_Stuck, g4_Stuck, g5_Stuck, g6_Stuck, g7_Stuck, g8_Stuck⟩, ty_Stuck⟩ if0_Stuck (FldT.cons ⟨PySem.W.mg_of X G ac_Stuck, kc_Stuck, ⟨g1_Stuck, g2_Stuck, g3_Stuck, g4_Stuck, g5_Stuck, g6_Stuck, g7_Stuck, g8_Stuck⟩, ty_Stuck⟩ if1_Stuck FldT.nil)), ⟨_, PySem.W.mg_of X G ac_ChangeError⟩, (.cons (rel_own ⟨PySem.W.mg_of X G ac_Stuck, kc_Stuck, ⟨g1_Stuck, g2_Stuck, g3_Stuck, g4_Stuck, g5_Stuck, g6_Stuck, g7_Stuck, g8_Stuck⟩, ty_Stuck⟩ (PySem.W.mg_of X G ac_ChangeError) g3_ChangeError g4_ChangeError ty_ChangeError pp_Stuck_ChangeError (.inr rfl)) (.cons (rel_own ⟨PySem.W.mg_of X G ac_Stuck, kc_Stuck, ⟨g1_Stuck, g2_Stuck, g3_Stuck, g4_Stuck, g5_Stuck, g6_Stuck, g7_Stuck, g8_Stuck⟩, ty_Stuck⟩ (PySem.W.mg_of X G ac_NoFit) g3_NoFit g4_NoFit ty_NoFit pp_Stuck_NoFit (.inl pn_Stuck_NoFit)) (.cons (rel_own ⟨PySem.W.mg_of X G ac_Stuck, kc_Stuck, ⟨g1_Stuck, g2_Stuck, g3_Stuck, g4_Stuck, g5_Stuck, g6_Stuck, g7_Stuck, g8_Stuck⟩, ty_Stuck⟩ (PySem.W.mg_of X G ac_NoLead) g3_NoLead g4_NoLead ty_NoLead pp_Stuck_NoLead (.inl pn_Stuck_NoLead)) (.cons (rel_own ⟨PySem.W.mg_of X G ac_Stuck, kc_Stuck, ⟨g1_Stuck, g2_Stuck, g3_Stuck, g4_Stuck, g5_Stuck, g6_Stuck, g7_Stuck, g8_Stuck⟩, ty_Stuck⟩ (PySem.W.mg_of X G ac_NotNow) g3_NotNow g4_NotNow ty_NotNow pp_Stuck_NotNow (.inl pn_Stuck_NotNow)) (.cons (rel_own ⟨PySem.W.mg_of X G ac_Stuck, kc_Stuck, ⟨g1_Stuck, g2_Stuck, g3_Stuck, g4_Stuck, g5_Stuck, g6_Stuck, g7_Stuck, g8_Stuck⟩, ty_Stuck⟩ (PySem.W.mg_of X G ac_NotRight) g3_NotRight g4_NotRight ty_NotRight pp_Stuck_NotRight (.inl pn_Stuck_NotRight)) (.cons (rel_own ⟨PySem.W.mg_of X G ac_Stuck, kc_Stuck, ⟨g1_Stuck, g2_Stuck, g3_Stuck, g4_Stuck, g5_Stuck, g6_Stuck, g7_Stuck, g8_Stuck⟩, ty_Stuck⟩ (PySem.W.mg_of X G ac_NoText) g3_NoText g4_NoText ty_NoText pp_Stuck_NoText (.inl pn_Stuck_NoText)) (.cons (rel_own ⟨PySem.W.mg_of X G ac_Stuck, kc_Stuck, ⟨g1_Stuck, g2_Stuck, g3_Stuck, g4_Stuck, g5_Stuck, g6_Stuck, g7_Stuck, g8_Stuck⟩, ty_Stuck⟩ (PySem.W.mg_of X G ac_Stuck) g3_Stuck g4_Stuck ty_Stuck pp_Stuck_Stuck (.inr rfl)) RelT.nil)))))))⟩
  have D_are_figures : FnD l.prog w K mg base "are_figures" 1 den_are_figures := ⟨_, _, _, PySem.W.mg_of X G a_are_figures, F_are_figures.kp, b_are_figures, ok_are_figures T F_are_figures ⟩
  have D_is_number : FnD l.prog w K mg base "is_number" 1 den_is_number := ⟨_, _, _, PySem.W.mg_of X G a_is_number, F_is_number.kp, b_is_number, ok_is_number T F_is_number ⟩
  have D_is_ref : FnD l.prog w K mg base "is_ref" 2 den_is_ref := ⟨_, _, _, PySem.W.mg_of X G a_is_ref, F_is_ref.kp, b_is_ref, ok_is_ref T F_is_ref (D_are_figures.mono (by decide))⟩
  have R_is_of : ∀ n : Nat, FnD l.prog w K mg base "is_of" (2 + n) (den_is_of n) := fun n => by
    induction n with
    | zero => exact ⟨_, _, _, PySem.W.mg_of X G a_is_of, F_is_of.kp, b_is_of, fnG_bad⟩
    | succ n ih =>
      have I_is_of := ih
      exact ⟨_, _, _, PySem.W.mg_of X G a_is_of, F_is_of.kp, b_is_of, ok_is_of T F_is_of (D_is_number.mono (Nat.le_trans (by decide : 1 ≤ 2) (Nat.le_add_right 2 n))) I_is_of (D_is_ref.mono (Nat.le_trans (by decide : 2 ≤ 2) (Nat.le_add_right 2 n)))⟩
  have D_is_of : FnD l.prog w K mg base "is_of" 42 (den_is_of 40) := (R_is_of 40)
  have D_begun : FnD l.prog w K mg base "begun" 43 den_begun := ⟨_, _, _, PySem.W.mg_of X G a_begun, F_begun.kp, b_begun, ok_begun T F_begun (D_is_of.mono (by decide))⟩
  have D__law_nth : FnD l.prog w K mg base "_law_nth" 1 den__law_nth := ⟨_, _, _, PySem.W.mg_of X G a__law_nth, F__law_nth.kp, b__law_nth, ok__law_nth T F__law_nth ⟩
  have D__law_pot : FnD l.prog w K mg base "_law_pot" 1 den__law_pot := ⟨_, _, _, PySem.W.mg_of X G a__law_pot, F__law_pot.kp, b__law_pot, ok__law_pot T F__law_pot ⟩
  have D__law_take : FnD l.prog w K mg base "_law_take" 1 den__law_take := ⟨_, _, _, PySem.W.mg_of X G a__law_take, F__law_take.kp, b__law_take, ok__law_take T F__law_take ⟩
  have D__law_is_number : FnD l.prog w K mg base "_law_is_number" 1 den__law_is_number := ⟨_, _, _, PySem.W.mg_of X G a__law_is_number, F__law_is_number.kp, b__law_is_number, ok__law_is_number T F__law_is_number ⟩
  have DH__law_is_number : FnDGH l.prog w K mg base "_law_is_number" 1 den__law_is_number := ⟨_, _, _, PySem.W.mg_of X G a__law_is_number, F__law_is_number.kp, b__law_is_number, okH__law_is_number T F__law_is_number⟩
  have R__law_kind : ∀ n : Nat, FnD l.prog w K mg base "_law_kind" (1 + n) (den__law_kind n) := fun n => by
    induction n with
    | zero => exact ⟨_, _, _, PySem.W.mg_of X G a__law_kind, F__law_kind.kp, b__law_kind, fnG_bad⟩
    | succ n ih =>
      have I__law_kind := ih
      exact ⟨_, _, _, PySem.W.mg_of X G a__law_kind, F__law_kind.kp, b__law_kind, ok__law_kind T F__law_kind I__law_kind (D__law_take.mono (Nat.le_trans (by decide : 1 ≤ 1) (Nat.le_add_right 1 n)))⟩
  have D__law_kind : FnD l.prog w K mg base "_law_kind" 41 (den__law_kind 40) := (R__law_kind 40)
  have R__law_plain : ∀ n : Nat, FnD l.prog w K mg base "_law_plain" (1 + n) (den__law_plain n) := fun n => by
    induction n with
    | zero => exact ⟨_, _, _, PySem.W.mg_of X G a__law_plain, F__law_plain.kp, b__law_plain, fnG_bad⟩
    | succ n ih =>
      have I__law_plain := ih
      exact ⟨_, _, _, PySem.W.mg_of X G a__law_plain, F__law_plain.kp, b__law_plain, ok__law_plain T F__law_plain I__law_plain (D__law_take.mono (Nat.le_trans (by decide : 1 ≤ 1) (Nat.le_add_right 1 n)))⟩
  have D__law_plain : FnD l.prog w K mg base "_law_plain" 41 (den__law_plain 40) := (R__law_plain 40)
  have R__law_fit : ∀ n : Nat, FnD l.prog w K mg base "_law_fit" (1 + n) (den__law_fit n) := fun n => by
    induction n with
    | zero => exact ⟨_, _, _, PySem.W.mg_of X G a__law_fit, F__law_fit.kp, b__law_fit, fnG_bad⟩
    | succ n ih =>
      have I__law_fit := ih
      exact ⟨_, _, _, PySem.W.mg_of X G a__law_fit, F__law_fit.kp, b__law_fit, ok__law_fit T F__law_fit I__law_fit (D__law_is_number.mono (Nat.le_trans (by decide : 1 ≤ 1) (Nat.le_add_right 1 n)))⟩
  have D__law_fit : FnD l.prog w K mg base "_law_fit" 41 (den__law_fit 40) := (R__law_fit 40)
  have R__law_same : ∀ n : Nat, FnD l.prog w K mg base "_law_same" (0 + n) (den__law_same n) := fun n => by
    induction n with
    | zero => exact ⟨_, _, _, PySem.W.mg_of X G a__law_same, F__law_same.kp, b__law_same, fnG_bad⟩
    | succ n ih =>
      have I__law_same := ih
      exact ⟨_, _, _, PySem.W.mg_of X G a__law_same, F__law_same.kp, b__law_same, ok__law_same T F__law_same I__law_same⟩
  have D__law_same : FnD l.prog w K mg base "_law_same" 40 (den__law_same 40) := (R__law_same 40)
  have D__law_things : FnD l.prog w K mg base "_law_things" 42 den__law_things := ⟨_, _, _, PySem.W.mg_of X G a__law_things, F__law_things.kp, b__law_things, ok__law_things T F__law_things (D__law_kind.mono (by decide)) (D__law_take.mono (by decide))⟩
  have D__law_program : FnD l.prog w K mg base "_law_program" 43 den__law_program := ⟨_, _, _, PySem.W.mg_of X G a__law_program, F__law_program.kp, b__law_program, ok__law_program T F__law_program (D__law_kind.mono (by decide)) (D__law_plain.mono (by decide)) (D__law_things.own1.mono (by decide))⟩
  have D__law_values : FnD l.prog w K mg base "_law_values" 42 den__law_values := ⟨_, _, _, PySem.W.mg_of X G a__law_values, F__law_values.kp, b__law_values, ok__law_values T F__law_values (D__law_kind.mono (by decide)) (D__law_plain.mono (by decide)) (D__law_take.mono (by decide))⟩
  have D__law_right : FnD l.prog w K mg base "_law_right" 41 den__law_right := ⟨_, _, _, PySem.W.mg_of X G a__law_right, F__law_right.kp, b__law_right, ok__law_right T F__law_right (D__law_same.mono (by decide))⟩
  have D__law_refused : FnD l.prog w K mg base "_law_refused" 44 den__law_refused := ⟨_, _, _, PySem.W.mg_of X G a__law_refused, F__law_refused.kp, b__law_refused, ok__law_refused T F__law_refused (D__law_is_number.mono (by decide)) (D_begun.mono (by decide)) (DH__law_is_number.mono (by decide))⟩
  exact ok_law (P := l.prog) (w := w) (base := base) T F_law (D__law_fit.mono (by decide)) (D__law_nth.mono (by decide)) (D__law_pot.mono (by decide)) (D__law_program.own1.mono (by decide)) (D__law_refused.mono (by decide)) (D__law_right.mono (by decide)) (D__law_take.mono (by decide)) (D__law_values.mono (by decide)) (D_begun.mono (by decide))
end Law
open PySem PySem.W PyProof.Rows
set_option maxRecDepth 100000 in
set_option maxHeartbeats 0 in
theorem PySem.Challenge.cw_changewhile_k43_runs_begun_holds : PySem.Challenge.rw_changewhile_k43_runs_begun.Holds := by
  w_on; o_law; k_head; (case hw => w_witness2)
  k_fill
  refine G.walk (l := PySem.Challenge.rw_changewhile_k43_runs_begun) (k := 45) (x := "_law_script") (den := Law.den_law) rfl (by decide) rfl ⟨rfl, by decide, by decide⟩ (fun w h Y => PySem.W.kIn_of Y) ?F Law.law_true
  case F =>
    intro w mg fa h KX G hmg
    refine' Law.all_mk KX G hmg ?a_are_figures ?l_are_figures ?e_are_figures ?k_are_figures ?a_is_number ?l_is_number ?e_is_number ?k_is_number ?a_is_ref ?l_is_ref ?e_is_ref ?k_is_ref ?a_is_of ?l_is_of ?e_is_of ?k_is_of ?a_begun ?l_begun ?e_begun ?k_begun ?a__law_nth ?l__law_nth ?e__law_nth ?k__law_nth ?a__law_pot ?l__law_pot ?e__law_pot ?k__law_pot ?a__law_take ?l__law_take ?e__law_take ?k__law_take ?a__law_is_number ?l__law_is_number ?e__law_is_number ?k__law_is_number ?a__law_kind ?l__law_kind ?e__law_kind ?k__law_kind ?a__law_plain ?l__law_plain ?e__law_plain ?k__law_plain ?a__law_fit ?l__law_fit ?e__law_fit ?k__law_fit ?a__law_same ?l__law_same ?e__law_same ?k__law_same ?a__law_things ?l__law_things ?e__law_things ?k__law_things ?a__law_program ?l__law_program ?e__law_program ?k__law_program ?a__law_values ?l__law_values ?e__law_values ?k__law_values ?a__law_right ?l__law_right ?e__law_right ?k__law_right ?a__law_refused ?l__law_refused ?e__law_refused ?k__law_refused ?a_law ?l_law ?e_law ?k_law ?z_abs ?z_all ?z_bool ?z_dict ?z_int ?z_isinstance ?z_len ?z_list ?z_max ?z_min ?z_range ?z_sorted ?z_str ?z_tuple ?z_zip ?q_MOST ?q_FIGURES ?q_AHEAD ?ac_ChangeError ?g3_ChangeError ?g4_ChangeError ?ty_ChangeError ?ac_Stuck ?g3_Stuck ?g4_Stuck ?ty_Stuck ?kc_Stuck ?g1_Stuck ?g2_Stuck ?g5_Stuck ?g6_Stuck ?g7_Stuck ?g8_Stuck ?i1_Stuck ?i2_Stuck ?l_init_Stuck ?e_init_Stuck ?k_init_Stuck ?io_Stuck ?isa_Stuck ?if0_Stuck ?if1_Stuck ?ib1_Stuck ?ib2_Stuck ?ib3_Stuck ?ac_NoFit ?g3_NoFit ?g4_NoFit ?ty_NoFit ?ac_NoLead ?g3_NoLead ?g4_NoLead ?ty_NoLead ?ac_NotNow ?g3_NotNow ?g4_NotNow ?ty_NotNow ?ac_NotRight ?g3_NotRight ?g4_NotRight ?ty_NotRight ?ac_NoText ?g3_NoText ?g4_NoText ?ty_NoText ?pp_Stuck_ChangeError ?pp_Stuck_NoFit ?pn_Stuck_NoFit ?pp_Stuck_NoLead ?pn_Stuck_NoLead ?pp_Stuck_NotNow ?pn_Stuck_NotNow ?pp_Stuck_NotRight ?pn_Stuck_NotRight ?pp_Stuck_NoText ?pn_Stuck_NoText ?pp_Stuck_Stuck
    (case a_are_figures => k_is)
    (case l_are_figures => k_is)
    (case e_are_figures => k_is)
    (case k_are_figures => k_is)
    (case a_is_number => k_is)
    (case l_is_number => k_is)
    (case e_is_number => k_is)
    (case k_is_number => k_is)
    (case a_is_ref => k_is)
    (case l_is_ref => k_is)
    (case e_is_ref => k_is)
    (case k_is_ref => k_is)
    (case a_is_of => k_is)
    (case l_is_of => k_is)
    (case e_is_of => k_is)
    (case k_is_of => k_is)
    (case a_begun => k_is)
    (case l_begun => k_is)
    (case e_begun => k_is)
    (case k_begun => k_is)
    (case a__law_nth => k_is)
    (case l__law_nth => k_is)
    (case e__law_nth => k_is)
    (case k__law_nth => k_is)
    (case a__law_pot => k_is)
    (case l__law_pot => k_is)
    (case e__law_pot => k_is)
    (case k__law_pot => k_is)
    (case a__law_take => k_is)
    (case l__law_take => k_is)
    (case e__law_take => k_is)
    (case k__law_take => k_is)
    (case a__law_is_number => k_is)
    (case l__law_is_number => k_is)
    (case e__law_is_number => k_is)
    (case k__law_is_number => k_is)
    (case a__law_kind => k_is)
    (case l__law_kind => k_is)
    (case e__law_kind => k_is)
    (case k__law_kind => k_is)
    (case a__law_plain => k_is)
    (case l__law_plain => k_is)
    (case e__law_plain => k_is)
    (case k__law_plain => k_is)
    (case a__law_fit => k_is)
    (case l__law_fit => k_is)
    (case e__law_fit => k_is)
    (case k__law_fit => k_is)
    (case a__law_same => k_is)
    (case l__law_same => k_is)
    (case e__law_same => k_is)
    (case k__law_same => k_is)
    (case a__law_things => k_is)
    (case l__law_things => k_is)
    (case e__law_things => k_is)
    (case k__law_things => k_is)
    (case a__law_program => k_is)
    (case l__law_program => k_is)
    (case e__law_program => k_is)
    (case k__law_program => k_is)
    (case a__law_values => k_is)
    (case l__law_values => k_is)
    (case e__law_values => k_is)
    (case k__law_values => k_is)
    (case a__law_right => k_is)
    (case l__law_right => k_is)
    (case e__law_right => k_is)
    (case k__law_right => k_is)
    (case a__law_refused => k_is)
    (case l__law_refused => k_is)
    (case e__law_refused => k_is)
    (case k__law_refused => k_is)
    (case a_law => k_is)
    (case l_law => k_is)
    (case e_law => k_is)
    (case k_law => k_is)
    (case z_abs => k_is)
    (case z_all => k_is)
    (case z_bool => k_is)
    (case z_dict => k_is)
    (case z_int => k_is)
    (case z_isinstance => k_is)
    (case z_len => k_is)
    (case z_list => k_is)
    (case z_max => k_is)
    (case z_min => k_is)
    (case z_range => k_is)
    (case z_sorted => k_is)
    (case z_str => k_is)
    (case z_tuple => k_is)
    (case z_zip => k_is)
    (case q_MOST => k_is)
    (case q_FIGURES => k_is)
    (case q_AHEAD => k_is)
    (case ac_ChangeError => k_is)
    (case g3_ChangeError => k_is)
    (case g4_ChangeError => k_is)
    (case ty_ChangeError => k_is)
    (case ac_Stuck => k_is)
    (case g3_Stuck => k_is)
    (case g4_Stuck => k_is)
    (case ty_Stuck => k_is)
    (case kc_Stuck => k_is)
    (case g1_Stuck => k_is)
    (case g2_Stuck => k_is)
    (case g5_Stuck => k_is)
    (case g6_Stuck => k_is)
    (case g7_Stuck => k_is)
    (case g8_Stuck => k_is)
    (case i1_Stuck => k_is)
    (case i2_Stuck => k_is)
    (case l_init_Stuck => k_is)
    (case e_init_Stuck => k_is)
    (case k_init_Stuck => k_is)
    (case io_Stuck => kernel_rfl)
    (case isa_Stuck => k_is)
    (case if0_Stuck => k_is)
    (case if1_Stuck => k_is)
    (case ib1_Stuck => k_is)
    (case ib2_Stuck => k_is)
    (case ib3_Stuck => k_is)
    (case ac_NoFit => k_is)
    (case g3_NoFit => k_is)
    (case g4_NoFit => k_is)
    (case ty_NoFit => k_is)
    (case ac_NoLead => k_is)
    (case g3_NoLead => k_is)
    (case g4_NoLead => k_is)
    (case ty_NoLead => k_is)
    (case ac_NotNow => k_is)
    (case g3_NotNow => k_is)
    (case g4_NotNow => k_is)
    (case ty_NotNow => k_is)
    (case ac_NotRight => k_is)
    (case g3_NotRight => k_is)
    (case g4_NotRight => k_is)
    (case ty_NotRight => k_is)
    (case ac_NoText => k_is)
    (case g3_NoText => k_is)
    (case g4_NoText => k_is)
    (case ty_NoText => k_is)
    (case pp_Stuck_ChangeError => k_is)
    (case pp_Stuck_NoFit => k_is)
    (case pn_Stuck_NoFit => decide)
    (case pp_Stuck_NoLead => k_is)
    (case pn_Stuck_NoLead => decide)
    (case pp_Stuck_NotNow => k_is)
    (case pn_Stuck_NotNow => decide)
    (case pp_Stuck_NotRight => k_is)
    (case pn_Stuck_NotRight => decide)
    (case pp_Stuck_NoText => k_is)
    (case pn_Stuck_NoText => decide)
    (case pp_Stuck_Stuck => k_is)
