import PyProof.Rows.All
import Wide.All
import OpenK.AllK
import Wide.FinOn
import HandS.ForMost
import HandS.Exc
import HandS.ExcOwn
import HandS.WordsExc
import HandS.Flow
import HandS.Wide
import HandS.TupAny
import HandS.TupMul
import HandS.Deep
import HandS.IsInst
import HandS.Style
import HandS.DictComp
import PyProof.StrOps2
import PyProof.ReprRoads
import HandS.Conv
import HandS.Text
import KE.IntTextLaws
import PyProof.ReprLen
import PyProof.StrLawsRepr
import HandS.More
import HandS.SortInts
import HandS.Zip
import HandS.ExcIs
import HandS.HotCalls
import HandS.Set
import HandS.SetFor
import HandS.Strs
import HandS.SetKeys
import HandS.SortKw
import HandS.RevTup
import KE.GoesEnum
import KE.KDictPairs
import HandS.Finally
import PyProof.P3Eq
import KE.KIntText
import PySem.Challenge.RW_changewhile_k27_marks_of
set_option Elab.async false
set_option linter.all false
set_option maxRecDepth 100000
set_option maxHeartbeats 4000000
namespace G
open PySem L2

abbrev AK := Sum Int (List Nat)
def mkS (l : List Nat) : Str := ⟨l.toArray⟩
def akey : AK → Key
  | .inl i => .inl i
  | .inr s => .inr (mkS s)

inductive AV where
  | non
  | bl (b : Bool)
  | int (i : Int)
  | str (s : List Nat)
  | tup (l : List AV)
  | lst (l : List AV)
  | dk (l : List (AK × AV))
  | fl (l : List AV)
  | ref (n : Nat)

inductive HObj where
  | lst (l : List AV)
  | dk (l : List (AK × AV))
abbrev AH := List HObj
abbrev Env := List (Option AV)

/-- an error: its class's name, its fields -/
structure EV where
  cls : Str
  fs : List (Str × AV)

inductive Res (α : Type) where
  | ok (a : α) (h : AH)
  | exc (e : EV) (h : AH)
  | bad

namespace Res
def post {α : Type} (r : Res α) (P : α → AH → Prop) (E : EV → AH → Prop) : Prop := match r with
  | .ok a h => P a h
  | .exc e h => E e h
  | .bad => False
end Res
def rb {α β : Type} (r : Res α) (g : α → AH → Res β) : Res β := match r with
  | .ok a h => g a h
  | .exc e h => .exc e h
  | .bad => .bad
@[simp] theorem rb_ok {α β : Type} {a : α} {h : AH} {g : α → AH → Res β} : rb (.ok a h) g = g a h := rfl
@[simp] theorem rb_exc {α β : Type} {e : EV} {h : AH} {g : α → AH → Res β} : rb (.exc e h) g = .exc e h := rfl
@[simp] theorem rb_bad {α β : Type} {g : α → AH → Res β} : rb (.bad : Res α) g = .bad := rfl
@[simp] theorem rb_pure {α : Type} (r : Res α) : rb r (fun a h => .ok a h) = r := by cases r <;> rfl
theorem rb_rb {α β γ : Type} (r : Res α) (f : α → AH → Res β) (g : β → AH → Res γ) : rb (rb r f) g = rb r fun a h => rb (f a h) g := by cases r <;> rfl
theorem rb_congr {α β : Type} {r : Res α} {f g : α → AH → Res β} (h : ∀ a ah, r = .ok a ah → f a ah = g a ah) : rb r f = rb r g := by
  cases r with
  | ok a ah => exact h a ah rfl
  | exc e ah => rfl
  | bad => rfl
def lift1 {α : Type} (o : Option α) (ah : AH) : Res α := match o with
  | some a => .ok a ah
  | none => .bad
@[simp] theorem lift1_some {α : Type} {a : α} {ah : AH} : lift1 (some a) ah = .ok a ah := rfl
@[simp] theorem lift1_none {α : Type} {ah : AH} : lift1 (none : Option α) ah = .bad := rfl

/-- what never changes -/
def stl : HO → Bool
  | .tup _ => true
  | .frz _ _ => true
  | _ => false
/-- a list of the module -/
def WL (K : PySem.W.Frag) (a : Addr) (vs : List V) : Prop := ∃ (o : Obj) (its : Array Value) (n : Nat), K.lookup a = some o ∧ o.cls = .type "list" ∧ o.dict = none ∧ o.data = .seq its n ∧ its.size ≤ sizeLine ∧ Vals vs its.toList

/-- where our objects stand; p: objects of somebody else's that no value of ours holds, that stay -/
structure MM where
  l : List Addr
  p : List Addr
instance : Membership Addr MM := ⟨fun m a => a ∈ m.l ∨ a ∈ m.p⟩
def MM.add (m : MM) (a : Addr) : MM := ⟨m.l ++ [a], m.p⟩
theorem MM.mem_iff {m : MM} {a : Addr} : a ∈ m ↔ a ∈ m.l ∨ a ∈ m.p := Iff.rfl
mutual
inductive VR (K : PySem.W.Frag) (m : MM) (H : Hp) : AV → V → Prop
  | non : VR K m H .non .non
  | bl (b : Bool) : VR K m H (.bl b) (.bl b)
  | int (i : Int) : VR K m H (.int i) (.int i)
  | str (s : List Nat) : VR K m H (.str s) (.str (mkS s))
  | tup {a : Addr} {l : List AV} {vs : List V} : SqT K H a vs → VRs K m H l vs → VR K m H (.tup l) (.ref a)
  | lst {a : Addr} {l : List AV} {vs : List V} : H a = some (.lst vs) → a ∉ m → VRs K m H l vs → VR K m H (.lst l) (.ref a)
  | dk {a : Addr} {l : List (AK × AV)} {kvs : List (Key × V)} : Rd H a (.dK kvs) → a ∉ m → VRk K m H l kvs → VR K m H (.dk l) (.ref a)
  | fl {a : Addr} {l : List AV} {vs : List V} : (∃ o, H a = some (.frz o (.lst vs))) ∨ WL K a vs → VRs K m H l vs → VR K m H (.fl l) (.ref a)
  | ref {n : Nat} {a : Addr} : m.l[n]? = some a → VR K m H (.ref n) (.ref a)
inductive VRs (K : PySem.W.Frag) (m : MM) (H : Hp) : List AV → List V → Prop
  | nil : VRs K m H [] []
  | cons {v : AV} {l : List AV} {x : V} {xs : List V} : VR K m H v x → VRs K m H l xs → VRs K m H (v :: l) (x :: xs)
inductive VRk (K : PySem.W.Frag) (m : MM) (H : Hp) : List (AK × AV) → List (Key × V) → Prop
  | nil : VRk K m H [] []
  | cons {k : AK} {v : AV} {l : List (AK × AV)} {x : V} {xs : List (Key × V)} : VR K m H v x → VRk K m H l xs → VRk K m H ((k, v) :: l) ((akey k, x) :: xs)
end

def OR (K : PySem.W.Frag) (m : MM) (H : Hp) : HObj → Option HO → Prop
  | .lst l, ho => ∃ vs, ho = some (.lst vs) ∧ VRs K m H l vs
  | .dk l, ho => ∃ kvs, ho = some (.dK kvs) ∧ VRk K m H l kvs
structure Rel (K : PySem.W.Frag) (m : MM) (ah : AH) (H : Hp) : Prop where
  len : m.l.length = ah.length
  nd : m.l.Nodup
  obj : ∀ (n : Nat) (a : Addr) (o : HObj), m.l[n]? = some a → ah[n]? = some o → OR K m H o (H a)
  prot : ∀ a, a ∈ m.p → a ∉ m.l ∧ ∃ u, H a = some u ∧ stl u = false

/-- a dict may be closed for good -/
def Shut (H' : Hp) (a : Addr) (o : HO) : Prop := ∃ kvs od, o = .dK kvs ∧ H' a = some (.frz od (.dK kvs))
structure Ext (m : MM) (H : Hp) (m' : MM) (H' : Hp) : Prop where
  pre : ∃ t q, m' = ⟨m.l ++ t, q ++ m.p⟩
  keep : ∀ a o, H a = some o → a ∉ m → H' a = some o ∨ Shut H' a o
  still : ∀ a o, H a = some o → stl o = true → H' a = some o
  fresh : ∀ a, a ∈ m' → a ∈ m ∨ H a = none
  hold : ∀ a, a ∈ m.p → ∀ o, H a = some o → H' a = some o
theorem Ext.refl (m : MM) (H : Hp) : Ext m H m H := ⟨⟨[], [], by simp⟩, fun _ _ h _ => .inl h, fun _ _ h _ => h, fun _ h => .inl h, fun _ _ _ h => h⟩
theorem Ext.not {m m' : MM} {H H' : Hp} (e : Ext m H m' H') {a : Addr} {o : HO} (h : H a = some o) (hm : a ∉ m) : a ∉ m' := fun z => by
  rcases e.fresh a z with q | q
  · exact hm q
  · rw [h] at q; cases q
theorem Ext.trans {m m1 m2 : MM} {H H1 H2 : Hp} (a : Ext m H m1 H1) (b : Ext m1 H1 m2 H2) : Ext m H m2 H2 := by
  refine ⟨?_, fun x o h hm => ?_, fun x o h s => b.still x o (a.still x o h s) s, fun x hx => ?_, fun x hx o h => b.hold x ?_ o (a.hold x hx o h)⟩
  · obtain ⟨t, q, rfl⟩ := a.pre
    obtain ⟨u, q', rfl⟩ := b.pre
    exact ⟨t ++ u, q' ++ q, by simp⟩
  · rcases a.keep x o h hm with q | ⟨kvs, od, rfl, q⟩
    · exact b.keep x o q (a.not h hm)
    · exact .inr ⟨kvs, od, rfl, b.still _ _ q rfl⟩
  · by_cases q : x ∈ m
    · exact .inl q
    cases e : H x with
    | none => exact .inr rfl
    | some o =>
      rcases a.keep x o e q with k | ⟨kvs, od, rfl, k⟩
      · exact absurd hx (b.not k (a.not e q))
      · exact absurd hx (b.not k (a.not e q))
  · obtain ⟨t, q, rfl⟩ := a.pre
    exact List.mem_append_right _ hx
theorem Ext.sqT {K : PySem.W.Frag} {m m' : MM} {H H' : Hp} (e : Ext m H m' H') {a : Addr} {vs : List V} (h : SqT K H a vs) : SqT K H' a vs := by
  rcases h with (h | ⟨o, h⟩) | h
  · exact .inl (.inl (e.still _ _ h rfl))
  · exact .inl (.inr ⟨o, e.still _ _ h rfl⟩)
  · exact .inr h
theorem Ext.get {m m' : MM} {H H' : Hp} (e : Ext m H m' H') {n : Nat} {a : Addr} (h : m.l[n]? = some a) : m'.l[n]? = some a := by
  obtain ⟨t, q, rfl⟩ := e.pre
  show (m.l ++ t)[n]? = some a
  rw [List.getElem?_append_left (List.getElem?_eq_some_iff.mp h).1]
  exact h

/-- what a value's bearing needs to go over -/
structure Mv (m : MM) (H : Hp) (m' : MM) (H' : Hp) : Prop where
  get : ∀ (n : Nat) (a : Addr), m.l[n]? = some a → m'.l[n]? = some a
  keep : ∀ a o, H a = some o → a ∉ m → (H' a = some o ∨ Shut H' a o) ∧ a ∉ m'
  still : ∀ a o, H a = some o → stl o = true → H' a = some o
theorem Ext.mv {m m' : MM} {H H' : Hp} (e : Ext m H m' H') : Mv m H m' H' := ⟨fun _ _ h => e.get h, fun a o h hm => ⟨e.keep a o h hm, e.not h hm⟩, e.still⟩
theorem keep_ne {H' : Hp} {a : Addr} {o : HO} (h : H' a = some o ∨ Shut H' a o) (hn : ∀ kvs, o ≠ .dK kvs) : H' a = some o := h.elim id fun ⟨kvs, _, e, _⟩ => absurd e (hn kvs)
theorem keep_dk {H' : Hp} {a : Addr} {kvs : List (Key × V)} (h : H' a = some (.dK kvs) ∨ Shut H' a (.dK kvs)) : Rd H' a (.dK kvs) := h.elim .inl fun ⟨kvs', od, e, q⟩ => by cases e; exact .inr ⟨od, q⟩
section
variable {K : PySem.W.Frag} {m m' : MM} {H H' : Hp}
theorem Mv.rd (e : Mv m H m' H') {a : Addr} {kvs : List (Key × V)} (h : Rd H a (.dK kvs)) (hm : a ∉ m) : Rd H' a (.dK kvs) ∧ a ∉ m' := by
  rcases h with h | ⟨od, h⟩
  · exact ⟨keep_dk (e.keep _ _ h hm).1, (e.keep _ _ h hm).2⟩
  · exact ⟨.inr ⟨od, e.still _ _ h rfl⟩, (e.keep _ _ h hm).2⟩
theorem Mv.sqT (e : Mv m H m' H') {a : Addr} {vs : List V} (h : SqT K H a vs) : SqT K H' a vs := by
  rcases h with (h | ⟨o, h⟩) | h
  · exact .inl (.inl (e.still _ _ h rfl))
  · exact .inl (.inr ⟨o, e.still _ _ h rfl⟩)
  · exact .inr h
mutual
theorem VR.mv (e : Mv m H m' H') : ∀ {v : AV} {x : V}, VR K m H v x → VR K m' H' v x
  | _, _, .non => .non
  | _, _, .bl b => .bl b
  | _, _, .int i => .int i
  | _, _, .str s => .str s
  | _, _, .tup h r => .tup (e.sqT h) (VRs.mv e r)
  | _, _, .lst h hm r => .lst (keep_ne (e.keep _ _ h hm).1 fun _ z => nomatch z) (e.keep _ _ h hm).2 (VRs.mv e r)
  | _, _, .dk h hm r => .dk (e.rd h hm).1 (e.rd h hm).2 (VRk.mv e r)
  | _, _, .fl h r => .fl (h.imp (fun ⟨o, h⟩ => ⟨o, e.still _ _ h rfl⟩) id) (VRs.mv e r)
  | _, _, .ref h => .ref (e.get _ _ h)
theorem VRs.mv (e : Mv m H m' H') : ∀ {l : List AV} {xs : List V}, VRs K m H l xs → VRs K m' H' l xs
  | _, _, .nil => .nil
  | _, _, .cons h r => .cons (VR.mv e h) (VRs.mv e r)
theorem VRk.mv (e : Mv m H m' H') : ∀ {l : List (AK × AV)} {xs : List (Key × V)}, VRk K m H l xs → VRk K m' H' l xs
  | _, _, .nil => .nil
  | _, _, .cons h r => .cons (VR.mv e h) (VRk.mv e r)
end
theorem VR.mono (e : Ext m H m' H') {v : AV} {x : V} (h : VR K m H v x) : VR K m' H' v x := VR.mv e.mv h
theorem VRs.mono (e : Ext m H m' H') {v : List AV} {x : List V} (h : VRs K m H v x) : VRs K m' H' v x := VRs.mv e.mv h
theorem VRk.mono (e : Ext m H m' H') {v : List (AK × AV)} {x : List (Key × V)} (h : VRk K m H v x) : VRk K m' H' v x := VRk.mv e.mv h
theorem VRs.length : ∀ {l : List AV} {xs : List V}, VRs K m H l xs → l.length = xs.length
  | _, _, .nil => rfl
  | _, _, .cons _ r => by rw [List.length_cons, List.length_cons, VRs.length r]
theorem VRs.get : ∀ {l : List AV} {xs : List V}, VRs K m H l xs → ∀ {i : Nat} {v : AV}, l[i]? = some v → ∃ x, xs[i]? = some x ∧ VR K m H v x
  | _, _, .nil, i, v, h => by simp at h
  | _, _, .cons (x := x) h r, 0, v, e => by simp at e; subst e; exact ⟨x, rfl, h⟩
  | _, _, .cons h r, i + 1, v, e => by simpa using VRs.get r (i := i) (by simpa using e)
theorem VRs.getV : ∀ {l : List AV} {xs : List V}, VRs K m H l xs → ∀ {i : Nat} {x : V}, xs[i]? = some x → ∃ v, l[i]? = some v ∧ VR K m H v x
  | _, _, .nil, i, v, h => by simp at h
  | _, _, .cons (v := v) h r, 0, x, e => by simp at e; subst e; exact ⟨v, rfl, h⟩
  | _, _, .cons h r, i + 1, v, e => by simpa using VRs.getV r (i := i) (by simpa using e)
theorem VRs.append : ∀ {l l' : List AV} {xs ys : List V}, VRs K m H l xs → VRs K m H l' ys → VRs K m H (l ++ l') (xs ++ ys)
  | _, _, _, _, .nil, s => s
  | _, _, _, _, .cons h r, s => .cons h (VRs.append r s)
theorem VRs.take : ∀ {l : List AV} {xs : List V} (n : Nat), VRs K m H l xs → VRs K m H (l.take n) (xs.take n)
  | _, _, 0, _ => .nil
  | _, _, _ + 1, .nil => .nil
  | _, _, n + 1, .cons h r => .cons h (VRs.take n r)
theorem VRs.drop : ∀ {l : List AV} {xs : List V} (n : Nat), VRs K m H l xs → VRs K m H (l.drop n) (xs.drop n)
  | _, _, 0, r => r
  | _, _, _ + 1, .nil => .nil
  | _, _, n + 1, .cons _ r => VRs.drop n r
theorem VRs.set {v : AV} {x : V} (h : VR K m H v x) : ∀ {l : List AV} {xs : List V} (i : Nat), VRs K m H l xs → VRs K m H (l.set i v) (xs.set i x)
  | _, _, _, .nil => .nil
  | _, _, 0, .cons _ r => .cons h r
  | _, _, i + 1, .cons q r => .cons q (VRs.set h i r)
theorem VRs.dropLast : ∀ {l : List AV} {xs : List V}, VRs K m H l xs → VRs K m H l.dropLast xs.dropLast
  | _, _, .nil => .nil
  | _, _, .cons h .nil => .nil
  | _, _, .cons h (.cons h' r) => .cons h (VRs.dropLast (.cons h' r))
theorem VRs.reverse : ∀ {l : List AV} {xs : List V}, VRs K m H l xs → VRs K m H l.reverse xs.reverse
  | _, _, .nil => .nil
  | _, _, .cons h r => by
    rw [List.reverse_cons, List.reverse_cons]
    exact VRs.append (VRs.reverse r) (.cons h .nil)
theorem VRs.ints {ns : List Int} : VRs K m H (ns.map AV.int) (ns.map V.int) := by
  induction ns with
  | nil => exact .nil
  | cons n r ih => exact .cons (.int n) ih

/-- the heap grew by new things, or things that no object of ours is -/
theorem Ext.grow (h : ∀ a o, H a = some o → H' a = some o) : Ext m H m H' := ⟨⟨[], [], by simp⟩, fun a o q _ => .inl (h a o q), fun a o q _ => h a o q, fun _ q => .inl q, fun a _ o q => h a o q⟩
theorem Ext.new {p : Addr} {o : HO} (hp : H p = none) : Ext m H m (upd H p o) := Ext.grow fun a u h => by
  rw [upd_ne (ne_of_none h hp)]; exact h
theorem OR.mono {o : HObj} {ho : Option HO} (e : Ext m H m' H') (h : OR K m H o ho) : OR K m' H' o ho := by
  cases o with
  | lst l => obtain ⟨vs, h1, h2⟩ := h; exact ⟨vs, h1, h2.mono e⟩
  | dk l => obtain ⟨vs, h1, h2⟩ := h; exact ⟨vs, h1, h2.mono e⟩
theorem OR.mv {o : HObj} {ho : Option HO} (e : Mv m H m' H') (h : OR K m H o ho) : OR K m' H' o ho := by
  cases o with
  | lst l => obtain ⟨vs, h1, h2⟩ := h; exact ⟨vs, h1, h2.mv e⟩
  | dk l => obtain ⟨vs, h1, h2⟩ := h; exact ⟨vs, h1, h2.mv e⟩
theorem OR.some {o : HObj} {ho : Option HO} (h : OR K m H o ho) : ∃ u, ho = some u ∧ stl u = false := by
  cases o with
  | lst l => obtain ⟨vs, h1, h2⟩ := h; exact ⟨_, h1, rfl⟩
  | dk l => obtain ⟨vs, h1, h2⟩ := h; exact ⟨_, h1, rfl⟩
theorem Rel.at {ah : AH} (r : Rel K m ah H) {n : Nat} {a : Addr} (h : m.l[n]? = some a) : ∃ o, ah[n]? = some o ∧ OR K m H o (H a) := by
  have hl : n < ah.length := by rw [← r.len]; exact (List.getElem?_eq_some_iff.mp h).1
  exact ⟨ah[n], List.getElem?_eq_getElem hl, r.obj n a _ h (List.getElem?_eq_getElem hl)⟩
theorem Rel.at' {ah : AH} (r : Rel K m ah H) {n : Nat} {o : HObj} (h : ah[n]? = some o) : ∃ a, m.l[n]? = some a ∧ OR K m H o (H a) := by
  have hl : n < m.l.length := by rw [r.len]; exact (List.getElem?_eq_some_iff.mp h).1
  exact ⟨m.l[n], List.getElem?_eq_getElem hl, r.obj n _ o (List.getElem?_eq_getElem hl) h⟩
theorem Rel.mem {ah : AH} (r : Rel K m ah H) {a : Addr} (h : a ∈ m) : ∃ u, H a = some u ∧ stl u = false := by
  rcases h with h | h
  · obtain ⟨n, hn⟩ := List.getElem?_of_mem h
    obtain ⟨o, _, q⟩ := r.at hn
    exact q.some
  · exact (r.prot a h).2
theorem Rel.grow {ah : AH} (r : Rel K m ah H) (h : ∀ a o, H a = some o → H' a = some o) : Rel K m ah H' := by
  refine ⟨r.len, r.nd, fun n a o h1 h2 => ?_, fun a ha => ?_⟩
  · have q := r.obj n a o h1 h2
    obtain ⟨u, hu, _⟩ := q.some
    have q' := q.mono (Ext.grow (m := m) h)
    rw [h a u hu, ← hu]
    exact q'
  · obtain ⟨h1, u, h2, h3⟩ := r.prot a ha
    exact ⟨h1, u, h a u h2, h3⟩
theorem Rel.new {ah : AH} (r : Rel K m ah H) {p : Addr} {o : HO} (hp : H p = none) : Rel K m ah (upd H p o) := r.grow fun a u h => by
  rw [upd_ne (ne_of_none h hp)]; exact h
theorem Rel.notin {ah : AH} (r : Rel K m ah H) {p : Addr} (hp : H p = none) : p ∉ m := fun z => by
  obtain ⟨u, h, _⟩ := r.mem z
  rw [hp] at h; cases h
/-- a new object of ours -/
theorem Ext.alloc {p : Addr} {o : HO} (hp : H p = none) : Ext m H (m.add p) (upd H p o) := by
  refine ⟨⟨[p], [], rfl⟩, fun a u h _ => .inl ?_, fun a u h _ => ?_, fun a ha => ?_, fun a _ u h => ?_⟩
  · rw [upd_ne (ne_of_none h hp)]; exact h
  · rw [upd_ne (ne_of_none h hp)]; exact h
  · rcases ha with ha | ha
    · rcases List.mem_append.mp ha with q | q
      · exact .inl (.inl q)
      · simp at q; subst q; exact .inr hp
    · exact .inl (.inr ha)
  · rw [upd_ne (ne_of_none h hp)]; exact h
theorem Rel.alloc {ah : AH} (r : Rel K m ah H) {p : Addr} {o : HObj} {u : HO} (hp : H p = none) (ho : OR K (m.add p) (upd H p u) o (some u)) : Rel K (m.add p) (ah ++ [o]) (upd H p u) := by
  have hnm : p ∉ m := r.notin hp
  refine ⟨by simp [MM.add, r.len], ?_, fun n a o' h1 h2 => ?_, fun a ha => ?_⟩
  · show (m.l ++ [p]).Nodup
    rw [List.nodup_append]
    exact ⟨r.nd, by simp, fun a ha b hb => by simp at hb; subst hb; intro z; subst z; exact hnm (.inl ha)⟩
  · have h1 : (m.l ++ [p])[n]? = some a := h1
    by_cases hn : n < m.l.length
    · rw [List.getElem?_append_left hn] at h1
      rw [List.getElem?_append_left (by rw [← r.len]; exact hn)] at h2
      have q := r.obj n a o' h1 h2
      obtain ⟨w, hw, _⟩ := q.some
      have q' := q.mono (Ext.alloc (o := u) hp)
      rw [upd_ne (ne_of_none hw hp)]
      exact q'
    · have e : n = m.l.length := by
        have := (List.getElem?_eq_some_iff.mp h1).1
        simp at this; omega
      subst e
      rw [List.getElem?_append_right (Nat.le_refl _)] at h1
      rw [r.len, List.getElem?_append_right (Nat.le_refl _)] at h2
      simp at h1 h2
      subst h1; subst h2
      rw [upd_same]
      exact ho
  · obtain ⟨h1, w, h2, h3⟩ := r.prot a ha
    refine ⟨fun z => ?_, w, by rw [upd_ne (ne_of_none h2 hp)]; exact h2, h3⟩
    rcases List.mem_append.mp z with q | q
    · exact h1 q
    · simp at q; subst q; rw [hp] at h2; cases h2
/-- an object of ours is written -/
theorem Ext.write {ah : AH} (r : Rel K m ah H) {a : Addr} {u : HO} (ha : a ∈ m.l) : Ext m H m (upd H a u) := by
  refine ⟨⟨[], [], by simp⟩, fun b o h hb => .inl ?_, fun b o h s => ?_, fun b hb => .inl hb, fun b hb o h => ?_⟩
  · rw [upd_ne (fun z => hb (by rw [z]; exact .inl ha))]; exact h
  · rw [upd_ne (fun z => ?_)]
    · exact h
    · subst z
      obtain ⟨w, hw, sw⟩ := r.mem (.inl ha)
      rw [h] at hw; cases hw
      rw [s] at sw; cases sw
  · rw [upd_ne (fun z => by subst z; exact (r.prot b hb).1 ha)]; exact h
theorem Rel.write {ah : AH} (r : Rel K m ah H) {n : Nat} {a : Addr} {o : HObj} {u : HO} (ha : m.l[n]? = some a) (hu : stl u = false) (ho : OR K m (upd H a u) o (some u)) : Rel K m (ah.set n o) (upd H a u) := by
  refine ⟨by rw [List.length_set]; exact r.len, r.nd, fun k b o' h1 h2 => ?_, fun b hb => ?_⟩
  · by_cases hk : k = n
    · subst hk
      rw [ha] at h1; cases h1
      rw [List.getElem?_set_self (by rw [← r.len]; exact (List.getElem?_eq_some_iff.mp ha).1)] at h2
      cases h2
      rw [upd_same]
      exact ho
    · rw [List.getElem?_set_ne (Ne.symm hk)] at h2
      have hb : b ≠ a := fun z => by
        subst z
        have h3 := (List.getElem?_eq_some_iff.mp h1)
        have h4 := (List.getElem?_eq_some_iff.mp ha)
        obtain ⟨l1, e1⟩ := h3
        obtain ⟨l2, e2⟩ := h4
        exact hk ((List.getElem_inj r.nd).mp (e1.trans e2.symm))
      rw [upd_ne hb]
      exact (r.obj k b o' h1 h2).mono (Ext.write r (List.mem_of_getElem? ha))
  · obtain ⟨h1, w, h2, h3⟩ := r.prot b hb
    exact ⟨h1, w, by rw [upd_ne (fun z => by subst z; exact h1 (List.mem_of_getElem? ha))]; exact h2, h3⟩

/-- a dict that is nobody's is closed -/
theorem Ext.shut {a : Addr} {kvs : List (Key × V)} {od : Obj} (h : H a = some (.dK kvs)) (ha : a ∉ m) : Ext m H m (upd H a (.frz od (.dK kvs))) := by
  refine ⟨⟨[], [], by simp⟩, fun b o hb _ => ?_, fun b o hb s => ?_, fun b hb => .inl hb, fun b hb o h2 => ?_⟩
  · by_cases z : b = a
    · subst z; rw [h] at hb; cases hb
      exact .inr ⟨kvs, od, rfl, upd_same⟩
    · rw [upd_ne z]; exact .inl hb
  · rw [upd_ne (fun z => by subst z; rw [h] at hb; cases hb; cases s)]; exact hb
  · rw [upd_ne (fun z => by subst z; exact ha (.inr hb))]; exact h2
theorem Rel.shut {ah : AH} (r : Rel K m ah H) {a : Addr} {kvs : List (Key × V)} {od : Obj} (h : H a = some (.dK kvs)) (ha : a ∉ m) : Rel K m ah (upd H a (.frz od (.dK kvs))) := by
  refine ⟨r.len, r.nd, fun n b o h1 h2 => ?_, fun b hb => ?_⟩
  · rw [upd_ne (fun z => ha (by rw [← z]; exact .inl (List.mem_of_getElem? h1)))]
    exact (r.obj n b o h1 h2).mono (Ext.shut h ha)
  · obtain ⟨h1, u, h2, h3⟩ := r.prot b hb
    exact ⟨h1, u, by rw [upd_ne (fun z => by subst z; exact ha (.inr hb))]; exact h2, h3⟩
def EnvR (K : PySem.W.Frag) (m : MM) (H : Hp) (env : Env) (σ : L2.St) : Prop := env.length = σ.length ∧ ∀ (i : Nat) (v : AV), env[i]? = some (some v) → ∃ x : V, σ[i]? = some (some x) ∧ VR K m H v x
theorem EnvR.mono {env : Env} {σ : L2.St} (e : Ext m H m' H') (h : EnvR K m H env σ) : EnvR K m' H' env σ := ⟨h.1, fun i v q => by
  obtain ⟨x, h1, h2⟩ := h.2 i v q
  exact ⟨x, h1, h2.mono e⟩⟩
theorem EnvR.mv {env : Env} {σ : L2.St} (e : Mv m H m' H') (h : EnvR K m H env σ) : EnvR K m' H' env σ := ⟨h.1, fun i v q => by
  obtain ⟨x, h1, h2⟩ := h.2 i v q
  exact ⟨x, h1, h2.mv e⟩⟩
theorem EnvR.set {env : Env} {σ : L2.St} (h : EnvR K m H env σ) {v : AV} {x : V} (i : Nat) (r : VR K m H v x) : EnvR K m H (env.set i (some v)) (σ.set i (some x)) := by
  refine ⟨by rw [List.length_set, List.length_set]; exact h.1, fun j w q => ?_⟩
  by_cases hj : i = j
  · subst hj
    by_cases hl : i < env.length
    · rw [List.getElem?_set_self hl] at q
      have q' : v = w := by simpa using q
      subst q'
      exact ⟨x, List.getElem?_set_self (by rw [← h.1]; exact hl), r⟩
    · rw [List.getElem?_eq_none (by rw [List.length_set]; omega)] at q; cases q
  · rw [List.getElem?_set_ne hj] at q
    rw [List.getElem?_set_ne hj]
    exact h.2 j w q
def wipeE (env : Env) : List Nat → Env
  | [] => env
  | v :: vs => (wipeE env vs).set v none
theorem EnvR.unset {env : Env} {σ : L2.St} (h : EnvR K m H env σ) (i : Nat) : EnvR K m H (env.set i none) (σ.set i none) := by
  refine ⟨by rw [List.length_set, List.length_set]; exact h.1, fun j w q => ?_⟩
  by_cases hj : i = j
  · subst hj
    by_cases hl : i < env.length
    · rw [List.getElem?_set_self hl] at q; cases q
    · rw [List.getElem?_eq_none (by rw [List.length_set]; omega)] at q; cases q
  · rw [List.getElem?_set_ne hj] at q
    rw [List.getElem?_set_ne hj]
    exact h.2 j w q
theorem EnvR.wipe {env : Env} {σ : L2.St} (h : EnvR K m H env σ) : ∀ vs : List Nat, EnvR K m H (wipeE env vs) (L2.wipe σ vs)
  | [] => h
  | v :: vs => by
    unfold wipeE L2.wipe
    exact (EnvR.wipe h vs).unset v
end

/-- an error of an own class, without fields or with an own dict that holds them -/
def XR (K : PySem.W.Frag) (mg : Str → Option Value) (m : MM) (H : Hp) (e : EV) (cls : Value) (d : Option Addr) : Prop :=
  mg e.cls = some cls ∧ ((e.fs = [] ∧ d = none) ∨ ∃ dd fs, e.fs ≠ [] ∧ d = some dd ∧ H dd = some (.xd fs) ∧ dd ∉ m ∧ ∀ f v, e.fs.lookup f = some v → ∃ x, fs.lookup f = some x ∧ VR K m H v x)
theorem XR.mono {K : PySem.W.Frag} {mg : Str → Option Value} {m m' : MM} {H H' : Hp} {e : EV} {cls : Value} {d : Option Addr} (x : Ext m H m' H') (h : XR K mg m H e cls d) : XR K mg m' H' e cls d := by
  refine ⟨h.1, h.2.imp id fun ⟨dd, fs, h0, h1, h2, h3, h4⟩ => ⟨dd, fs, h0, h1, keep_ne (x.keep _ _ h2 h3) (fun _ z => nomatch z), x.not h2 h3, fun f v hf => ?_⟩⟩
  obtain ⟨y, hy, r⟩ := h4 f v hf
  exact ⟨y, hy, r.mono x⟩
def PQ (K : PySem.W.Frag) (m : MM) (H : Hp) (Q : VK) : AV → AH → Prop := fun v ah' => ∀ m' H' x, Ext m H m' H' → Rel K m' ah' H' → VR K m' H' v x → Q x H'
def PB {β : Type} (K : PySem.W.Frag) (m : MM) (H : Hp) (Q : β → Hp → Prop) : β → AH → Prop := fun v ah' => ∀ m' H', Ext m H m' H' → Rel K m' ah' H' → Q v H'
def PL (K : PySem.W.Frag) (m : MM) (H : Hp) (Q : List V → Hp → Prop) : List AV → AH → Prop := fun l ah' => ∀ m' H' xs, Ext m H m' H' → Rel K m' ah' H' → VRs K m' H' l xs → Q xs H'
def PX (K : PySem.W.Frag) (mg : Str → Option Value) (m : MM) (H : Hp) (E : XK) : EV → AH → Prop := fun e ah' => ∀ m' H' cls d, Ext m H m' H' → Rel K m' ah' H' → XR K mg m' H' e cls d → E cls d H'
section
variable {K : PySem.W.Frag} {mg : Str → Option Value} {m m1 : MM} {H H1 : Hp}
theorem Res.post_imp {α : Type} {r : Res α} {P P' : α → AH → Prop} {E E' : EV → AH → Prop} (h : r.post P E) (hp : ∀ a ah, r = .ok a ah → P a ah → P' a ah) (he : ∀ e ah, E e ah → E' e ah) : r.post P' E' := by
  cases r with
  | ok a ah => exact hp a ah rfl h
  | exc e ah => exact he e ah h
  | bad => exact h
theorem PQ.mono {Q : VK} {v : AV} {ah : AH} (e : Ext m H m1 H1) (h : PQ K m H Q v ah) : PQ K m1 H1 Q v ah := fun m' H' x e' => h m' H' x (e.trans e')
theorem PB.mono {β : Type} {Q : β → Hp → Prop} {v : β} {ah : AH} (e : Ext m H m1 H1) (h : PB K m H Q v ah) : PB K m1 H1 Q v ah := fun m' H' e' => h m' H' (e.trans e')
theorem PL.mono {Q : List V → Hp → Prop} {v : List AV} {ah : AH} (e : Ext m H m1 H1) (h : PL K m H Q v ah) : PL K m1 H1 Q v ah := fun m' H' xs e' => h m' H' xs (e.trans e')
theorem PX.mono {E : XK} {v : EV} {ah : AH} (e : Ext m H m1 H1) (h : PX K mg m H E v ah) : PX K mg m1 H1 E v ah := fun m' H' c d e' => h m' H' c d (e.trans e')
end

abbrev GE := Env → AH → Res AV
abbrev GT := Env → AH → Res Bool
abbrev GA := Env → AH → Res (List AV)
section
variable (X : Cx) (W : WX)
def tG (f : GE) : TE := fun σ H Q => ∃ m env ah, EnvR X.K m H env σ ∧ Rel X.K m ah H ∧ (f env ah).post (PQ X.K m H Q) (PX X.K X.mg m H fun c d H' => W c d σ H')
def tGT (f : GT) : TT := fun σ H Q => ∃ m env ah, EnvR X.K m H env σ ∧ Rel X.K m ah H ∧ (f env ah).post (PB X.K m H Q) (PX X.K X.mg m H fun c d H' => W c d σ H')
def tGA (f : GA) : TA := fun σ H Q => ∃ m env ah, EnvR X.K m H env σ ∧ Rel X.K m ah H ∧ (f env ah).post (PL X.K m H Q) (PX X.K X.mg m H fun c d H' => W c d σ H')
end
/-- where one stands: room, no guards, calm, what is raised is taken -/
structure XG (X : Cx) (W : WX) (k : Nat) : Prop where
  room : Room k X.A
  gd : X.A.guards = some []
  calm : X.calm = true
  tk : Takes X W
  po : PassesOwn (model X.prog X.w) X.A X.env X.xe
theorem XG.mono {X : Cx} {W : WX} {j k : Nat} (h : XG X W k) (hj : j ≤ k) : XG X W j := ⟨h.room.mono hj, h.gd, h.calm, h.tk, h.po⟩

theorem PE.weak {X : Cx} {e : Expr} {t t' : TE} (h : PE X e t) (w : ∀ σ H Q, t' σ H Q → t σ H Q) : PE X e t' := ⟨fun pins s σ H Q I q => h.run pins s σ H Q I (w σ H Q q)⟩
theorem PT.weak {X : Cx} {e : Expr} {t t' : TT} (h : PT X e t) (w : ∀ σ H Q, t' σ H Q → t σ H Q) : PT X e t' := ⟨fun pins s σ H Q I q => h.run pins s σ H Q I (w σ H Q q)⟩
theorem PA.weak {X : Cx} {es : List Expr} {t t' : TA} (h : PA X es t) (w : ∀ σ H Q, t' σ H Q → t σ H Q) : PA X es t' := ⟨fun pos pins s σ H Q I q => h.run pos pins s σ H Q I (w σ H Q q)⟩
theorem PS.weak {X : Cx} {st : Stmt} {t t' : TS} (h : PS X st t) (w : ∀ D σ H, t' D σ H → t D σ H) : PS X st t' := ⟨fun pins s σ H D I q => h.run pins s σ H D I (w D σ H q)⟩
theorem PSs.weak {X : Cx} {st : List Stmt} {t t' : TS} (h : PSs X st t) (w : ∀ D σ H, t' D σ H → t D σ H) : PSs X st t' := ⟨fun pins s σ H D I q => h.run pins s σ H D I (w D σ H q)⟩

section
variable {X : Cx} {W : WX} {m : MM} {H : Hp} {env : Env} {ah : AH} {σ : L2.St}
/-- one expression ahead of what follows -/
theorem tG_step {β : Type} {f : GE} {k : AV → AH → Res β} {P : β → AH → Prop} {E : EV → AH → Prop} {Q : VK} (hE : EnvR X.K m H env σ) (hR : Rel X.K m ah H) (h : (rb (f env ah) k).post P E)
    (hx : ∀ e ah1, E e ah1 → PX X.K X.mg m H (fun c d H' => W c d σ H') e ah1)
    (hk : ∀ v ah1 m1 H1 x, Ext m H m1 H1 → Rel X.K m1 ah1 H1 → VR X.K m1 H1 v x → (k v ah1).post P E → Q x H1) : tG X W f σ H Q := by
  refine ⟨m, env, ah, hE, hR, ?_⟩
  cases e : f env ah with
  | ok v ah1 =>
    rw [e] at h
    exact fun m1 H1 x e1 r1 v1 => hk v ah1 m1 H1 x e1 r1 v1 h
  | exc x ah1 =>
    rw [e] at h
    exact hx x ah1 h
  | bad =>
    rw [e] at h
    exact h
theorem tGT_step {β : Type} {f : GT} {k : Bool → AH → Res β} {P : β → AH → Prop} {E : EV → AH → Prop} {Q : Bool → Hp → Prop} (hE : EnvR X.K m H env σ) (hR : Rel X.K m ah H) (h : (rb (f env ah) k).post P E)
    (hx : ∀ e ah1, E e ah1 → PX X.K X.mg m H (fun c d H' => W c d σ H') e ah1)
    (hk : ∀ v ah1 m1 H1, Ext m H m1 H1 → Rel X.K m1 ah1 H1 → (k v ah1).post P E → Q v H1) : tGT X W f σ H Q := by
  refine ⟨m, env, ah, hE, hR, ?_⟩
  cases e : f env ah with
  | ok v ah1 =>
    rw [e] at h
    exact fun m1 H1 e1 r1 => hk v ah1 m1 H1 e1 r1 h
  | exc x ah1 =>
    rw [e] at h
    exact hx x ah1 h
  | bad =>
    rw [e] at h
    exact h
theorem tGA_step {β : Type} {f : GA} {k : List AV → AH → Res β} {P : β → AH → Prop} {E : EV → AH → Prop} {Q : List V → Hp → Prop} (hE : EnvR X.K m H env σ) (hR : Rel X.K m ah H) (h : (rb (f env ah) k).post P E)
    (hx : ∀ e ah1, E e ah1 → PX X.K X.mg m H (fun c d H' => W c d σ H') e ah1)
    (hk : ∀ v ah1 m1 H1 x, Ext m H m1 H1 → Rel X.K m1 ah1 H1 → VRs X.K m1 H1 v x → (k v ah1).post P E → Q x H1) : tGA X W f σ H Q := by
  refine ⟨m, env, ah, hE, hR, ?_⟩
  cases e : f env ah with
  | ok v ah1 =>
    rw [e] at h
    exact fun m1 H1 x e1 r1 v1 => hk v ah1 m1 H1 x e1 r1 v1 h
  | exc x ah1 =>
    rw [e] at h
    exact hx x ah1 h
  | bad =>
    rw [e] at h
    exact h
end

def gVar (i : Nat) : GE := fun env ah => match env[i]? with
  | some (some v) => .ok v ah
  | _ => .bad
def gC (v : AV) : GE := fun _ ah => .ok v ah
section
variable {X : Cx} {W : WX}
theorem ge_var (i : Nat) {x : Str} {pos : Pos} (hN : X.N[i]? = some x := by rfl) (hv : Vis X.env.scope x := by first | exact Or.inl rfl | exact Or.inr (Or.inl rfl) | exact Or.inr (Or.inr rfl)) (hd : (x == ("__debug__" : Str)) = false := by decide)
    (hcd : (x == ("__classdict__" : Str)) = false := by decide) : PE X (.Name x pos) (tG X W (gVar i)) :=
  PE.weak (pe_var hN hv hd hcd) fun σ H Q ⟨m, env, ah, hE, hR, h⟩ => by
    unfold gVar at h
    cases e : env[i]? with
    | none => rw [e] at h; exact h.elim
    | some o =>
      rw [e] at h
      cases o with
      | none => exact h.elim
      | some v =>
        obtain ⟨x, hx, r⟩ := hE.2 i v e
        exact ⟨x, hx, h m H x (Ext.refl m H) hR r⟩
theorem ge_const {e : Expr} {x : V} (v : AV) (h : PE X e (tC x)) (r : ∀ m H, VR X.K m H v x) : PE X e (tG X W (gC v)) :=
  PE.weak h fun σ H Q ⟨m, env, ah, hE, hR, h⟩ => h m H x (Ext.refl m H) hR (r m H)
theorem ge_int {i j pos} : PE X (.Constant (.int i) j pos) (tG X W (gC (.int i))) := ge_const _ pe_int fun _ _ => .int i
theorem ge_bl {b j pos} : PE X (.Constant (.bool b) j pos) (tG X W (gC (.bl b))) := ge_const _ pe_bl fun _ _ => .bl b
theorem ge_non {j pos} : PE X (.Constant .none j pos) (tG X W (gC .non)) := ge_const _ pe_non fun _ _ => .non
theorem ge_str {x j pos} (s : List Nat) (h : x = mkS s := by decide +kernel) : PE X (.Constant (.str x) j pos) (tG X W (gC (.str s))) := ge_const _ pe_str fun _ _ => by rw [h]; exact .str s
end
end G
namespace G
open PySem PySem.Spec L2
set_option autoImplicit false

theorem lim_line {n : Nat} (h : n ≤ 1000000) : n ≤ sizeLine := Nat.le_trans h (by decide)
@[simp] theorem mkS_length (s : List Nat) : (mkS s).length = s.length := by simp [mkS, Str.length]
@[simp] theorem mkS_list (s : List Nat) : (mkS s).cps.toList = s := by simp [mkS]
theorem mkS_app (s t : List Nat) : mkS s ++ mkS t = mkS (s ++ t) := by
  show Str.append (mkS s) (mkS t) = _
  simp [mkS, Str.append]
theorem mkS_inj {s t : List Nat} (h : mkS s = mkS t) : s = t := by
  have := congrArg (fun z => z.cps.toList) h
  simpa using this

mutual
def eqA : AV → AV → Bool
  | .non, .non => true
  | .bl a, .bl b => a == b
  | .bl a, .int j => (if a then 1 else 0) == j
  | .int i, .bl b => i == (if b then 1 else 0)
  | .int i, .int j => decide (i = j)
  | .str a, .str b => decide (a = b)
  | .tup a, .tup b => eqAs a b
  | .lst a, .lst b => eqAs a b
  | _, _ => false
def eqAs : List AV → List AV → Bool
  | [], [] => true
  | x :: xs, y :: ys => eqA x y && eqAs xs ys
  | _, _ => false
end
mutual
/-- data that == takes: no dicts, no refs; texts of signs -/
def okA : AV → Bool
  | .non => true
  | .bl _ => true
  | .int _ => true
  | .str s => s.all (· < 0x110000)
  | .tup l => okAs l
  | .lst l => okAs l
  | _ => false
def okAs : List AV → Bool
  | [] => true
  | x :: xs => okA x && okAs xs
end
mutual
def depthA : AV → Nat
  | .tup l => depthAs l + 1
  | .lst l => depthAs l + 1
  | _ => 0
def depthAs : List AV → Nat
  | [] => 0
  | x :: xs => max (depthA x) (depthAs xs)
end
def keyD : AK → PyData
  | .inl i => .int i
  | .inr s => .str (mkS s)
mutual
def toD : AV → PyData
  | .non => .none
  | .bl b => .bool b
  | .int i => .int i
  | .str s => .str (mkS s)
  | .tup l => .tuple (toDs l)
  | .lst l => .list (toDs l)
  | .dk l => .dict (toDk l)
  | .fl l => .list (toDs l)
  | .ref _ => .none
def toDs : List AV → List PyData
  | [] => []
  | x :: xs => toD x :: toDs xs
def toDk : List (AK × AV) → List (PyData × PyData)
  | [] => []
  | (k, v) :: r => (keyD k, toD v) :: toDk r
end
theorem strOk_mkS (s : List Nat) : PyData.strOk (mkS s) = s.all (· < 0x110000) := by simp [PyData.strOk, mkS]
mutual
theorem okA_lay : ∀ v : AV, okA v = true → (toD v).canLay0 = true
  | .non, _ => rfl
  | .bl _, _ => rfl
  | .int _, _ => rfl
  | .str s, h => by show PyData.strOk _ = true; rw [strOk_mkS]; exact h
  | .tup l, h => okAs_lay l h
  | .lst l, h => okAs_lay l h
theorem okAs_lay : ∀ l : List AV, okAs l = true → PyData.canLayAll0 (toDs l) = true
  | [], _ => rfl
  | x :: xs, h => by
    have h : (okA x && okAs xs) = true := h
    rw [Bool.and_eq_true] at h
    show (_ && _) = true
    rw [okA_lay x h.1, okAs_lay xs h.2]; rfl
end
mutual
theorem okA_depth : ∀ v : AV, okA v = true → (toD v).depth = depthA v
  | .non, _ => rfl
  | .bl _, _ => rfl
  | .int _, _ => rfl
  | .str s, h => rfl
  | .tup l, h => by
    show PyData.depthAll (toDs l) + 1 = depthAs l + 1
    rw [okAs_depth l h]
  | .lst l, h => by
    show PyData.depthAll (toDs l) + 1 = depthAs l + 1
    rw [okAs_depth l h]
theorem okAs_depth : ∀ l : List AV, okAs l = true → PyData.depthAll (toDs l) = depthAs l
  | [], _ => rfl
  | x :: xs, h => by
    have h : (okA x && okAs xs) = true := h
    rw [Bool.and_eq_true] at h
    show max _ _ = max _ _
    rw [okA_depth x h.1, okAs_depth xs h.2]
end
mutual
theorem okA_eqv : ∀ v w : AV, okA v = true → okA w = true → PyData.eqv (toD v) (toD w) = eqA v w
  | .tup l, .tup l', h, h' => okAs_eqv l l' h h'
  | .lst l, .lst l', h, h' => okAs_eqv l l' h h'
  | .str s, .str t, _, _ => by
    show (mkS s == mkS t) = decide (s = t)
    by_cases e : s = t
    · subst e; simp
    · rw [decide_eq_false e, beq_eq_false_iff_ne]; exact fun z => e (mkS_inj z)
  | .int i, .int j, _, _ => by
    show (i == j) = decide (i = j)
    exact Bool.beq_eq_decide_eq i j
  | .non, w, _, h' => by cases w <;> first | rfl | exact absurd h' (by simp [okA])
  | .bl b, w, _, h' => by cases w <;> first | rfl | exact absurd h' (by simp [okA])
  | .int i, .non, _, h' => rfl
  | .int i, .bl _, _, h' => rfl
  | .int i, .str _, _, h' => rfl
  | .int i, .tup _, _, h' => rfl
  | .int i, .lst _, _, h' => rfl
  | .str i, .non, _, h' => rfl
  | .str i, .bl _, _, h' => rfl
  | .str i, .int _, _, h' => rfl
  | .str i, .tup _, _, h' => rfl
  | .str i, .lst _, _, h' => rfl
  | .tup i, .non, _, h' => rfl
  | .tup i, .bl _, _, h' => rfl
  | .tup i, .int _, _, h' => rfl
  | .tup i, .str _, _, h' => rfl
  | .tup i, .lst _, _, h' => rfl
  | .lst i, .non, _, h' => rfl
  | .lst i, .bl _, _, h' => rfl
  | .lst i, .int _, _, h' => rfl
  | .lst i, .str _, _, h' => rfl
  | .lst i, .tup _, _, h' => rfl
theorem okAs_eqv : ∀ v w : List AV, okAs v = true → okAs w = true → PyData.eqvAll (toDs v) (toDs w) = eqAs v w
  | [], [], _, _ => rfl
  | [], _ :: _, _, _ => rfl
  | _ :: _, [], _, _ => rfl
  | x :: xs, y :: ys, h, h' => by
    have h : (okA x && okAs xs) = true := h
    have h' : (okA y && okAs ys) = true := h'
    rw [Bool.and_eq_true] at h h'
    show (_ && _) = (_ && _)
    rw [okA_eqv x y h.1 h'.1, okAs_eqv xs ys h.2 h'.2]
end
section
variable {K : PySem.W.Frag} {m : MM} {H : Hp}
mutual
theorem VR.dp : ∀ (v : AV) (x : V), VR K m H v x → okA v = true → Dp K H x (toD v)
  | .non, x, h, _ => by cases h; exact .non
  | .bl b, x, h, _ => by cases h; exact .bl b
  | .int i, x, h, _ => by cases h; exact .int i
  | .str s, x, h, _ => by cases h; exact .str _
  | .tup l, x, h, ok => by
    cases h with
    | tup h r => exact .tup h (VRs.dp l _ r ok)
  | .lst l, x, h, ok => by
    cases h with
    | lst h _ r => exact .lst (SqL.of h) (VRs.dp l _ r ok)
  | .dk l, x, h, ok => nomatch ok
  | .fl l, x, h, ok => nomatch ok
  | .ref l, x, h, ok => nomatch ok
theorem VRs.dp : ∀ (l : List AV) (xs : List V), VRs K m H l xs → okAs l = true → DpAll K H xs (toDs l)
  | [], xs, h, _ => by cases h; exact .nil
  | v :: l, xs, h, ok => by
    cases h with
    | cons h r =>
      have ok : (okA v && okAs l) = true := ok
      rw [Bool.and_eq_true] at ok
      exact .cons (VR.dp v _ h ok.1) (VRs.dp l _ r ok.2)
end
end
def objV : HObj → AV
  | .lst l => .lst l
  | .dk l => .dk l
/-- a list of ours as the list that it is now -/
def dr (ah : AH) : AV → AV
  | .ref n => match ah[n]? with
    | some o => objV o
    | none => .ref n
  | v => v
theorem dr_ref {ah : AH} {n : Nat} {o : HObj} (h : ah[n]? = some o) : dr ah (.ref n) = objV o := by
  show (match ah[n]? with | some o => objV o | none => .ref n) = _
  rw [h]
def shA (v : AV) : Bool := okA v && decide (depthA v ≤ 64)
theorem VR.drD {K : PySem.W.Frag} {m : MM} {H : Hp} {ah : AH} {v : AV} {x : V} (r : Rel K m ah H) (h : VR K m H v x) (ok : okA (dr ah v) = true) : Dp K H x (toD (dr ah v)) := by
  cases h with
  | ref hm =>
    rename_i n a
    obtain ⟨o, ho, q⟩ := r.at hm
    rw [dr_ref ho] at ok ⊢
    cases o with
    | lst l =>
      obtain ⟨vs, h1, h2⟩ := q
      exact .lst (SqL.of h1) (VRs.dp _ _ h2 ok)
    | dk l => exact absurd ok (by simp [objV, okA])
  | non => exact .non
  | bl b => exact .bl b
  | int i => exact .int i
  | str s => exact .str _
  | tup h1 h2 => exact VR.dp _ _ (VR.tup h1 h2) ok
  | lst h1 h2 h3 => exact VR.dp _ _ (VR.lst h1 h2 h3) ok
  | dk h1 h3 h2 => exact absurd ok (by simp [G.dr, okA])
  | fl h1 h2 => exact absurd ok (by simp [G.dr, okA])
theorem sh_of {v : AV} (h : shA v = true) : SeqAt.shaped (toD v) = true := by
  unfold shA at h
  rw [Bool.and_eq_true] at h
  unfold SeqAt.shaped
  rw [okA_lay v h.1, okA_depth v h.1]
  exact h.2

abbrev O2 := AH → AV → AV → Option AV
abbrev O1 := AH → AV → Option AV
def OpG (X : Cx) (r : R2) (f : O2) : Prop := ∀ (m : MM) (H : Hp) (ah : AH) (v w : AV) (x y : V) (z : AV) (Q : VK), Rel X.K m ah H → VR X.K m H v x → VR X.K m H w y → f ah v w = some z → PQ X.K m H Q z ah → r x y H Q
def gOp (f : O2) (a b : GE) : GE := fun env ah => rb (a env ah) fun v ah1 => rb (b env ah1) fun w ah2 => lift1 (f ah2 v w) ah2
section
variable {X : Cx} {W : WX} {r : R2} {f : O2} {a b c : Expr} {fa fb fc : GE} {pos : Pos}
/-- two expressions, then an operation on their values -/
theorem op_read (hr : OpG X r f) {σ : L2.St} {H : Hp} {Q : VK} (h : tG X W (gOp f fa fb) σ H Q) : tOp r (tG X W fa) (tG X W fb) σ H Q := by
  obtain ⟨m, env, ah, hE, hR, hp⟩ := h
  refine tG_step hE hR hp (fun _ _ h => h) fun v ah1 m1 H1 x e1 r1 v1 hp1 => ?_
  refine tG_step (hE.mono e1) r1 (Res.post_imp hp1 (fun _ _ _ h => PQ.mono e1 h) (fun _ _ h => PX.mono e1 h)) (fun _ _ h => h) fun w ah2 m2 H2 y e2 r2 v2 hp2 => ?_
  cases e : f ah2 v w with
  | none => rw [e] at hp2; exact hp2.elim
  | some z =>
    rw [e] at hp2
    exact hr m2 H2 ah2 v w x y z Q r2 (v1.mono e2) v2 e (PQ.mono e2 hp2)
theorem ge_op {op : Operator} (ho : OpR X (binaryOp op) r) (hr : OpG X r f) (ha : PE X a (tG X W fa)) (hb : PE X b (tG X W fb)) : PE X (.BinOp a op b pos) (tG X W (gOp f fa fb)) :=
  PE.weak (pe_op ho ha hb) fun _ _ _ h => op_read hr h
theorem ge_cmp {op : CmpOp} (ho : OpR X (compareOp op) r) (hr : OpG X r f) (ha : PE X a (tG X W fa)) (hb : PE X b (tG X W fb)) (hm : behindInMarks op b = false := by first | exact nomark _ | rfl) : PE X (.Compare a [op] [b] pos) (tG X W (gOp f fa fb)) :=
  PE.weak (pe_cmpR ho ha hb hm) fun _ _ _ h => op_read hr h
/-- a value as a test: True or False alone -/
def gTB (a : GE) : GT := fun env ah => rb (a env ah) fun v ah1 => match v with
  | .bl b => .ok b ah1
  | _ => .bad
theorem tb_read {t : TE} {σ : L2.St} {H : Hp} {Q : Bool → Hp → Prop} (ht : ∀ σ H Q, tG X W fa σ H Q → t σ H Q) (h : tGT X W (gTB fa) σ H Q) : t σ H (fun x H1 => ∃ k, x = .bl k ∧ Q k H1) := by
  obtain ⟨m, env, ah, hE, hR, hp⟩ := h
  refine ht _ _ _ (tG_step hE hR hp (fun _ _ h => h) fun v ah1 m1 H1 x e1 r1 v1 hp1 => ?_)
  cases v1 with
  | bl k => exact ⟨k, rfl, hp1 m1 H1 e1 r1⟩
  | _ => exact hp1.elim
theorem gt_cmp {op : CmpOp} (ho : OpR X (compareOp op) r) (hr : OpG X r f) (ha : PE X a (tG X W fa)) (hb : PE X b (tG X W fb)) (hm : behindInMarks op b = false := by first | exact nomark _ | rfl) : PT X (.Compare a [op] [b] pos) (tGT X W (gTB (gOp f fa fb))) :=
  PT.weak (pt_cmpR ho ha hb hm) fun _ _ _ h => tb_read (t := tOp r (tG X W fa) (tG X W fb)) (fun _ _ _ q => op_read hr q) h
theorem gt_val (ha : PE X a (tG X W fa)) (he : ∀ whole, isTrue a X.env whole = (do let v ← whole; standAt a.pos; holding [v] (truthy v)) := by intro _; rfl) : PT X a (tGT X W (gTB fa)) :=
  PT.weak (pt_val ha he) fun _ _ _ h => tb_read (t := tG X W fa) (fun _ _ _ q => q) h
end

def addO : O2 := fun ah v w => match v, w with
  | .int i, .int j => some (.int (i + j))
  | .str s, .str t => if s.length + t.length ≤ 1000000 then some (.str (s ++ t)) else none
  | .tup s, .tup t => if s.length + t.length ≤ 1000000 then some (.tup (s ++ t)) else none
  | .lst s, .lst t => if s.length + t.length ≤ 1000000 then some (.lst (s ++ t)) else none
  | v, w => match dr ah v, dr ah w with
    | .lst s, .lst t => if s.length + t.length ≤ 1000000 then some (.lst (s ++ t)) else none
    | _, _ => none
def subO : O2 := fun _ v w => match v, w with
  | .int i, .int j => some (.int (i - j))
  | _, _ => none
def mulO : O2 := fun _ v w => match v, w with
  | .int i, .int j => if (-18446744073709551616 < i ∧ i < 18446744073709551616) ∨ (-18446744073709551616 < j ∧ j < 18446744073709551616) then some (.int (i * j)) else none
  | .tup s, .int k => if s ≠ [] ∧ 2 ≤ k ∧ k ≤ 1000 ∧ s.length ≤ 1000 then some (.tup (List.replicate k.toNat s).flatten) else none
  | .str s, .int k => if 0 ≤ k ∧ k ≤ 1000000 ∧ s.length * k.toNat ≤ 1000000 then some (.str (List.replicate k.toNat s).flatten) else none
  | .lst s, .int k => if 0 ≤ k ∧ k ≤ 1000000 ∧ s.length * k.toNat ≤ 1000000 then some (.lst (List.replicate k.toNat s).flatten) else none
  | _, _ => none
def modO : O2 := fun _ v w => match v, w with
  | .int i, .int j => if 0 < j then some (.int (i % j)) else none
  | _, _ => none
def fdivO : O2 := fun _ v w => match v, w with
  | .int i, .int j => if 0 < j ∧ j < 10 ^ 100 then some (.int (i / j)) else none
  | _, _ => none
def powO : O2 := fun _ v w => match v, w with
  | .int i, .int j => if 0 ≤ j ∧ j ≤ 1000000 ∧ i.natAbs < 18446744073709551616 then some (.int (i ^ j.toNat)) else none
  | _, _ => none
/-- two lists of other lengths; two tuples of which one is empty -/
def lenNe : AV → AV → Bool
  | .lst l, .lst l' => decide (l.length ≠ l'.length)
  | .tup l, .tup l' => l.isEmpty != l'.isEmpty
  | _, _ => false
/-- two dicts of which one is empty -/
def dkE : AV → AV → Option Bool
  | .dk l, .dk l' => if l.isEmpty || l'.isEmpty then some (l.isEmpty == l'.isEmpty) else none
  | _, _ => none
def eqO : O2 := fun ah v w => match v, w with
  | .str s, .str t => some (.bl (decide (s = t)))
  | .int s, .int t => some (.bl (decide (s = t)))
  | .bl s, .bl t => some (.bl (decide (s = t)))
  | .non, .str _ => some (.bl false)
  | .str _, .non => some (.bl false)
  | .str _, .int _ => some (.bl false)
  | .int _, .str _ => some (.bl false)
  | v, w => match dkE (dr ah v) (dr ah w) with
    | some b => some (.bl b)
    | none => if lenNe (dr ah v) (dr ah w) then some (.bl false) else if shA (dr ah v) && shA (dr ah w) then some (.bl (eqA (dr ah v) (dr ah w))) else none
def notO (f : O2) : O2 := fun ah v w => match f ah v w with
  | some (.bl b) => some (.bl (!b))
  | _ => none
def cmpO (p : Int → Int → Bool) : O2 := fun _ v w => match v, w with
  | .int i, .int j => some (.bl (p i j))
  | _, _ => none
abbrev ltO : O2 := cmpO fun i j => decide (i < j)
abbrev leO : O2 := cmpO fun i j => decide (i ≤ j)
abbrev gtO : O2 := cmpO fun i j => decide (j < i)
abbrev geO : O2 := cmpO fun i j => decide (j ≤ i)
section
variable {X : Cx}
theorem PQ.here {K : PySem.W.Frag} {m : MM} {H : Hp} {ah : AH} {v : AV} {x : V} {Q : VK} (h : PQ K m H Q v ah) (r : Rel K m ah H) (hv : VR K m H v x) : Q x H := h m H x (Ext.refl m H) r hv
theorem PQ.laid {K : PySem.W.Frag} {m : MM} {H : Hp} {ah : AH} {v : AV} {Q : VK} (h : PQ K m H Q v ah) (r : Rel K m ah H) {p : Addr} {o : HO} (hp : H p = none) (hv : VR K m (upd H p o) v (.ref p)) : Q (.ref p) (upd H p o) := h m _ _ (Ext.new hp) (r.new hp) hv
theorem Rel.not {K : PySem.W.Frag} {m : MM} {H : Hp} {ah : AH} (r : Rel K m ah H) {p : Addr} (hp : H p = none) : p ∉ m := r.notin hp
theorem VR.newL {K : PySem.W.Frag} {m : MM} {H : Hp} {ah : AH} {l : List AV} {vs : List V} (r : Rel K m ah H) {p : Addr} (hp : H p = none) (h : VRs K m H l vs) : VR K m (upd H p (.lst vs)) (.lst l) (.ref p) := .lst upd_same (r.not hp) (h.mono (Ext.new hp))
theorem VR.newT {K : PySem.W.Frag} {m : MM} {H : Hp} {ah : AH} {l : List AV} {vs : List V} (r : Rel K m ah H) {p : Addr} (hp : H p = none) (h : VRs K m H l vs) : VR K m (upd H p (.tup vs)) (.tup l) (.ref p) := .tup (SqT.of upd_same) (h.mono (Ext.new hp))
theorem lim2 {K : PySem.W.Frag} {m : MM} {H : Hp} {l l' : List AV} {vs vs' : List V} (h : VRs K m H l vs) (h' : VRs K m H l' vs') (hl : l.length + l'.length ≤ 1000000) : vs.length + vs'.length ≤ sizeLine := by
  rw [← h.length, ← h'.length]; exact lim_line hl

theorem VR.listH {K : PySem.W.Frag} {m : MM} {H : Hp} {ah : AH} {w : AV} {y : V} {l : List AV} (r : Rel K m ah H) (h : VR K m H w y) (e : dr ah w = .lst l) : ∃ a vs, y = .ref a ∧ H a = some (.lst vs) ∧ VRs K m H l vs := by
  cases h with
  | ref hm =>
    obtain ⟨o, ho, q⟩ := r.at hm
    rw [dr_ref ho] at e
    cases o with
    | lst l' =>
      obtain ⟨vs, h1, h2⟩ := q
      cases e
      exact ⟨_, vs, rfl, h1, h2⟩
    | dk l' => cases e
  | lst h1 h2 h3 => cases e; exact ⟨_, _, rfl, h1, h3⟩
  | _ => cases e
theorem add_g : ∃ r, OpR X (binaryOp .Add) r ∧ OpG X r addO := by
  refine ⟨_, op_add.or (op_add_str.or (op_catA.or op_cat)), ?_⟩
  intro m H ah v w x y z Q r hv hw hf q
  unfold addO at hf
  split at hf
  · cases hf; cases hv; cases hw
    exact .inl ⟨_, _, rfl, rfl, q.here r (.int _)⟩
  · split at hf
    · cases hf; cases hv; cases hw
      rename_i hl
      refine .inr (.inl ⟨_, _, rfl, rfl, ?_, ?_⟩)
      · rw [mkS_length, mkS_length]; exact lim_line hl
      · rw [mkS_app]; exact q.here r (.str _)
    · cases hf
  · split at hf
    · cases hf
      rename_i hl
      cases hv with
      | tup h1 h2 =>
        cases hw with
        | tup h3 h4 =>
          refine .inr (.inr (.inl ⟨_, _, _, _, rfl, rfl, h1, h3, lim2 h2 h4 hl, fun e => ?_, fun _ e => ?_, fun _ _ p hp => q.laid r hp (VR.newT r hp (h2.append h4))⟩))
          · subst e
            cases h2
            exact q.here r (.tup h3 h4)
          · subst e
            cases h4
            refine q.here r ?_
            rw [List.append_nil]
            exact .tup h1 h2
    · cases hf
  · split at hf
    · cases hf
      rename_i hl
      cases hv with
      | lst h1 n1 h2 =>
        cases hw with
        | lst h3 n3 h4 => exact .inr (.inr (.inr ⟨_, _, _, _, rfl, rfl, h1, h3, lim2 h2 h4 hl, fun p hp => q.laid r hp (VR.newL r hp (h2.append h4))⟩))
    · cases hf
  · split at hf
    · split at hf
      · rename_i hl
        cases hf
        obtain ⟨a, vs, rfl, h1, h2⟩ := VR.listH r hv (by assumption)
        obtain ⟨b, ws, rfl, h3, h4⟩ := VR.listH r hw (by assumption)
        exact .inr (.inr (.inr ⟨_, _, _, _, rfl, rfl, h1, h3, lim2 h2 h4 hl, fun p hp => q.laid r hp (VR.newL r hp (h2.append h4))⟩))
      · cases hf
    · cases hf

theorem sub_g : ∃ r, OpR X (binaryOp .Sub) r ∧ OpG X r subO := by
  refine ⟨_, op_sub, ?_⟩
  intro m H ah v w x y z Q r hv hw hf q
  unfold subO at hf
  split at hf
  · cases hf; cases hv; cases hw
    exact ⟨_, _, rfl, rfl, q.here r (.int _)⟩
  · cases hf
def rRepS : R2 := fun x y H Q => ∃ (s : List Nat) (k : Int), x = .str (mkS s) ∧ y = .int k ∧ 0 ≤ k ∧ k ≤ 1000000 ∧ s.length * k.toNat ≤ 1000000 ∧ Q (.str (mkS (List.replicate k.toNat s).flatten)) H
theorem fold_rep (s : Array Nat) : ∀ (n : Nat) (acc : Array Nat), ((List.replicate n s).foldl (· ++ ·) acc).toList = acc.toList ++ (List.replicate n s.toList).flatten
  | 0, acc => by simp
  | n + 1, acc => by
    rw [List.replicate_succ, List.foldl_cons, fold_rep s n, List.replicate_succ, List.flatten_cons]
    simp
theorem op_repS : OpR X (binaryOp .Mult) rRepS := by
  intro pins s0 σ H x y v u Q I rx ry h
  obtain ⟨s, k, rfl, rfl, h0, h1, h2, q⟩ := h
  obtain ⟨t, rfl⟩ := rx
  obtain ⟨t', rfl⟩ := ry
  have hl : (mkS s).length = s.length := mkS_length s
  have fin : ∀ (z : Str) (tk : Nat) (tu : Tok), z = mkS (List.replicate k.toNat s).flatten → EP X pins σ Q (.str z tu) { s0 with toks := tk } := fun z tk tu e => by
    subst e
    exact ⟨.str _, H, I.tok tk, ⟨_, rfl⟩, q⟩
  have big : ((s.length : Int)) * k ≤ 1000000 := by
    have : ((s.length * k.toNat : Nat) : Int) ≤ ((1000000 : Nat) : Int) := Int.ofNat_le.mpr h2
    rw [Int.natCast_mul, Int.toNat_of_nonneg h0] at this
    omega
  refine P.mul_str (by rw [decide_eq_false (by omega), decide_eq_false (by omega)]; rfl) (fun hn _ => ?_) (fun _ _ => ?_) ?_
  · rw [hl]
    have : (s.length : Int) ≤ (2 ^ 63 - 1) / k := (Int.le_ediv_iff_mul_le (by omega)).mpr (by omega)
    omega
  · rw [hl]
    unfold Builtin.Str.tooLong
    have h16 := sizeLine_eq
    exact decide_eq_false (by omega)
  · split
    · rename_i hn
      have : k = 0 := by omega
      subst this
      exact ⟨by decide, fin _ _ _ (by simp [mkS]; rfl)⟩
    · split
      · rename_i hc
        refine fin _ _ _ ?_
        rw [Bool.or_eq_true] at hc
        rcases hc with hc | hc
        · have : k = 1 := by simpa using hc
          subst this
          simp
        · have : s = [] := by
            rw [hl] at hc
            exact List.eq_nil_of_length_eq_zero (by simpa using hc)
          subst this
          simp
      · have e : (⟨(List.replicate k.toNat (mkS s).cps).foldl (· ++ ·) #[]⟩ : Str) = mkS (List.replicate k.toNat s).flatten := by
          show _ = (⟨(List.replicate k.toNat s).flatten.toArray⟩ : Str)
          congr 1
          apply Array.toList_inj.mp
          rw [fold_rep, mkS_list]
          simp
        refine ⟨?_, fin _ _ _ e⟩
        rw [e, mkS_length]
        have h16 := sizeLine_eq
        have : (List.replicate k.toNat s).flatten.length = k.toNat * s.length := by simp
        rw [this, Nat.mul_comm]
        omega
theorem mul_g : ∃ r, OpR X (binaryOp .Mult) r ∧ OpG X r mulO := by
  refine ⟨_, op_mul.or (op_repT.or (op_repS.or op_rep)), ?_⟩
  intro m H ah v w x y z Q r hv hw hf q
  unfold mulO at hf
  split at hf
  · split at hf
    · cases hf; cases hv; cases hw
      rename_i h
      exact .inl ⟨_, _, rfl, rfl, h, q.here r (.int _)⟩
    · cases hf
  · split at hf
    · cases hf
      cases hw
      rename_i h
      cases hv with
      | tup h1 h2 =>
        refine .inr (.inl ⟨_, _, _, rfl, rfl, h1, ?_, h.2.1, h.2.2.1, by rw [← h2.length]; exact h.2.2.2, fun p hp => q.laid r hp (VR.newT r hp ?_)⟩)
        · intro e
          subst e
          cases h2
          exact h.1 rfl
        · have rp : ∀ n : Nat, VRs X.K m H (List.replicate n _).flatten (List.replicate n _).flatten := fun n => by
            induction n with
            | zero => exact .nil
            | succ n ih =>
              rw [List.replicate_succ, List.replicate_succ, List.flatten_cons, List.flatten_cons]
              exact h2.append ih
          exact rp _
    · cases hf
  · split at hf
    · cases hf; cases hv; cases hw
      rename_i h
      exact .inr (.inr (.inl ⟨_, _, rfl, rfl, h.1, h.2.1, h.2.2, q.here r (.str _)⟩))
    · cases hf
  · split at hf
    · cases hf; cases hw
      rename_i h
      obtain ⟨a, vs, rfl, h1, h2⟩ := VR.listH r hv rfl
      have rp : ∀ n : Nat, VRs X.K m H (List.replicate n _).flatten (List.replicate n vs).flatten := fun n => by
        induction n with
        | zero => exact .nil
        | succ n ih =>
          rw [List.replicate_succ, List.replicate_succ, List.flatten_cons, List.flatten_cons]
          exact h2.append ih
      exact .inr (.inr (.inr ⟨_, _, _, rfl, rfl, h1, by omega, by omega, by rw [← h2.length]; exact lim_line h.2.2, fun p hp => q.laid r hp (VR.newL r hp (rp _))⟩))
    · cases hf
  · cases hf
theorem mod_g : ∃ r, OpR X (binaryOp .Mod) r ∧ OpG X r modO := by
  refine ⟨_, op_mod, ?_⟩
  intro m H ah v w x y z Q r hv hw hf q
  unfold modO at hf
  split at hf
  · split at hf
    · cases hf; cases hv; cases hw
      rename_i h
      exact ⟨_, _, rfl, rfl, h, q.here r (.int _)⟩
    · cases hf
  · cases hf
theorem fdiv_g : ∃ r, OpR X (binaryOp .FloorDiv) r ∧ OpG X r fdivO := by
  refine ⟨_, op_fdivW, ?_⟩
  intro m H ah v w x y z Q r hv hw hf q
  unfold fdivO at hf
  split at hf
  · split at hf
    · cases hf; cases hv; cases hw
      rename_i h
      refine ⟨_, _, rfl, rfl, wide_div (b := 400) h.1 ?_ (by decide) (by decide), q.here r (.int _)⟩
      have h2 : ((10 : Int) ^ 100) < 2 ^ 400 := by decide +kernel
      have h3 := h.2
      have h4 := h.1
      have h5 : ((2 : Int) ^ 400) = ((2 ^ 400 : Nat) : Int) := by rw [Int.natCast_pow]; rfl
      rw [h5] at h2
      generalize (2 ^ 400 : Nat) = B at *
      generalize ((10 : Int) ^ 100) = C at *
      omega
    · cases hf
  · cases hf
theorem pow_g : ∃ r, OpR X (binaryOp .Pow) r ∧ OpG X r powO := by
  refine ⟨_, op_pow, ?_⟩
  intro m H ah v w x y z Q r hv hw hf q
  unfold powO at hf
  split at hf
  · split at hf
    · cases hf; cases hv; cases hw
      rename_i h
      exact ⟨_, _, rfl, rfl, h, q.here r (.int _)⟩
    · cases hf
  · cases hf
theorem cmp_g {op : CmpOp} {p : Int → Int → Bool} (h : OpR X (compareOp op) (rI0 fun i j => .bl (p i j))) : ∃ r, OpR X (compareOp op) r ∧ OpG X r (cmpO p) := by
  refine ⟨_, h, ?_⟩
  intro m H ah v w x y z Q r hv hw hf q
  unfold cmpO at hf
  split at hf
  · cases hf; cases hv; cases hw
    exact ⟨_, _, rfl, rfl, q.here r (.bl _)⟩
  · cases hf
theorem lt_g : ∃ r, OpR X (compareOp .Lt) r ∧ OpG X r ltO := cmp_g op_lt
theorem le_g : ∃ r, OpR X (compareOp .LtE) r ∧ OpG X r leO := cmp_g op_le
theorem gt_g : ∃ r, OpR X (compareOp .Gt) r ∧ OpG X r gtO := cmp_g op_gt
theorem ge_g : ∃ r, OpR X (compareOp .GtE) r ∧ OpG X r geO := cmp_g op_ge
theorem dstr {s t : List Nat} : decide (V.str (mkS s) = V.str (mkS t)) = decide (s = t) := by
  by_cases h : s = t
  · subst h; simp
  · rw [decide_eq_false h, decide_eq_false]; intro z; cases z; exact h rfl
theorem dint {s t : Int} : decide (V.int s = V.int t) = decide (s = t) := by
  by_cases h : s = t
  · subst h; simp
  · rw [decide_eq_false h, decide_eq_false]; intro z; cases z; exact h rfl
theorem dbl {s t : Bool} : decide (V.bl s = V.bl t) = decide (s = t) := by
  by_cases h : s = t
  · subst h; simp
  · rw [decide_eq_false h, decide_eq_false]; intro z; cases z; exact h rfl
theorem VR.listE {m : MM} {H : Hp} {ah : AH} {w : AV} {y : V} {l : List AV} (r : Rel X.K m ah H) (h : VR X.K m H w y) (e : dr ah w = .lst l) : ∃ a vs, y = .ref a ∧ SqL X.K H a vs ∧ VRs X.K m H l vs := by
  cases h with
  | ref hm =>
    obtain ⟨o, ho, q⟩ := r.at hm
    rw [dr_ref ho] at e
    cases o with
    | lst l' =>
      obtain ⟨vs, h1, h2⟩ := q
      cases e
      exact ⟨_, vs, rfl, SqL.of h1, h2⟩
    | dk l' => cases e
  | lst h1 h2 h3 => cases e; exact ⟨_, _, rfl, SqL.of h1, h3⟩
  | _ => cases e
theorem VR.tupE {m : MM} {H : Hp} {ah : AH} {w : AV} {y : V} {l : List AV} (r : Rel X.K m ah H) (h : VR X.K m H w y) (e : dr ah w = .tup l) : ∃ a vs, y = .ref a ∧ SqT X.K H a vs ∧ VRs X.K m H l vs := by
  cases h with
  | ref hm =>
    obtain ⟨o, ho, q⟩ := r.at hm
    rw [dr_ref ho] at e
    cases o <;> cases e
  | tup h1 h3 => cases e; exact ⟨_, _, rfl, h1, h3⟩
  | _ => cases e
def rLen (K : PySem.W.Frag) (x y : V) (H : Hp) (P : Prop) : Prop := ∃ a b vs ws, x = .ref a ∧ y = .ref b ∧ P ∧ ((SqL K H a vs ∧ SqL K H b ws ∧ vs.length ≠ ws.length) ∨ (SqT K H a vs ∧ SqT K H b ws ∧ vs.isEmpty ≠ ws.isEmpty))
theorem op_eqLen (hu : X.A.units < cLine) : OpR X (compareOp .Eq) fun x y H Q => rLen X.K x y H (Q (.bl false) H) := by
  intro pins s σ H x y v u Q I rx ry h
  obtain ⟨a, b, vs, ws, rfl, rfl, q, h⟩ := h
  cases rx; cases ry
  rcases h with ⟨h1, h2, hn⟩ | ⟨h1, h2, hn⟩
  · obtain ⟨us, r1, p1, _⟩ := I.list h1
    obtain ⟨us2, r2, p2, _⟩ := I.list h2
    exact SeqAt.RcAt.lists_lengths p1.isList p2.isList (by
      have e1 := r1.length
      have e2 := r2.length
      simp only [List.size_toArray, bne_iff_ne]
      omega) hu X.prog X.w X.xe _ ⟨.bl false, H, I, rfl, q⟩
  · obtain ⟨us, r1, p1, _⟩ := I.tuple h1
    obtain ⟨us2, r2, p2, _⟩ := I.tuple h2
    have z := SeqAt.RcAt.tuples (A := X.A) (e := fun _ => true) p1 p2 hu (fun j h1 h2 => by
      have e1 := r1.length
      have e2 := r2.length
      simp only [List.size_toArray] at h1 h2
      cases vs with
      | nil => simp at e1; omega
      | cons _ _ =>
        cases ws with
        | nil => simp at e2; omega
        | cons _ _ => exact absurd rfl hn)
    have e : ((List.range (min us.toArray.size us2.toArray.size)).all (fun _ => true) && us.toArray.size == us2.toArray.size) = false := by
      have e1 := r1.length
      have e2 := r2.length
      rw [Bool.and_eq_false_iff]
      refine .inr ?_
      simp only [List.size_toArray, beq_eq_false_iff_ne]
      intro k
      cases vs with
      | nil =>
        cases ws with
        | nil => exact hn rfl
        | cons _ _ => simp at e1 e2; omega
      | cons _ _ =>
        cases ws with
        | nil => simp at e1 e2; omega
        | cons _ _ => exact absurd rfl hn
    rw [e] at z
    exact z X.prog X.w X.xe _ ⟨.bl false, H, I, rfl, q⟩
theorem op_neLen (hu : X.A.units < cLine) : OpR X (compareOp .NotEq) fun x y H Q => rLen X.K x y H (Q (.bl true) H) := by
  intro pins s σ H x y v u Q I rx ry h
  obtain ⟨a, b, vs, ws, rfl, rfl, q, h⟩ := h
  cases rx; cases ry
  rcases h with ⟨h1, h2, hn⟩ | ⟨h1, h2, hn⟩
  · obtain ⟨us, r1, p1, _⟩ := I.list h1
    obtain ⟨us2, r2, p2, _⟩ := I.list h2
    exact SeqAt.RcNeAt.lists_lengths p1.isList p2.isList (by
      have e1 := r1.length
      have e2 := r2.length
      simp only [List.size_toArray, bne_iff_ne]
      omega) hu X.prog X.w X.xe _ ⟨.bl true, H, I, rfl, q⟩
  · obtain ⟨us, r1, p1, _⟩ := I.tuple h1
    obtain ⟨us2, r2, p2, _⟩ := I.tuple h2
    have z := SeqAt.RcNeAt.tuples (A := X.A) (e := fun _ => true) p1 p2 hu (fun j h1 h2 => by
      have e1 := r1.length
      have e2 := r2.length
      simp only [List.size_toArray] at h1 h2
      cases vs with
      | nil => simp at e1; omega
      | cons _ _ =>
        cases ws with
        | nil => simp at e2; omega
        | cons _ _ => exact absurd rfl hn)
    have e : ((List.range (min us.toArray.size us2.toArray.size)).all (fun _ => true) && us.toArray.size == us2.toArray.size) = false := by
      have e1 := r1.length
      have e2 := r2.length
      rw [Bool.and_eq_false_iff]
      refine .inr ?_
      simp only [List.size_toArray, beq_eq_false_iff_ne]
      intro k
      cases vs with
      | nil =>
        cases ws with
        | nil => exact hn rfl
        | cons _ _ => simp at e1 e2; omega
      | cons _ _ =>
        cases ws with
        | nil => simp at e1 e2; omega
        | cons _ _ => exact absurd rfl hn
    rw [e] at z
    exact z X.prog X.w X.xe _ ⟨.bl true, H, I, rfl, q⟩
def rDkE (x y : V) (H : Hp) (P : Bool → Prop) : Prop := ∃ a b ks ls, x = .ref a ∧ y = .ref b ∧ Rd H a (.dK ks) ∧ Rd H b (.dK ls) ∧ (ks.isEmpty || ls.isEmpty) = true ∧ P (ks.isEmpty == ls.isEmpty)
theorem dkE_len {ks ls : List (Key × V)} {va vb : List (Key × Value)} (h : (ks.isEmpty || ls.isEmpty) = true) (ha : ks.length = va.length) (hb : ls.length = vb.length) : (va.length == vb.length && true) = (ks.isEmpty == ls.isEmpty) ∧ (va.length = vb.length → ks = []) := by
  rw [← ha, ← hb]
  cases ks <;> cases ls <;> simp_all <;> omega
theorem op_eqDk (hu : X.A.units < cLine) : OpR X (compareOp .Eq) fun x y H Q => rDkE x y H fun b => Q (.bl b) H := by
  intro pins s σ H x y v u Q I rx ry h
  obtain ⟨a, b, ks, ls, rfl, rfl, ea, eb, he, q⟩ := h
  cases rx; cases ry
  obtain ⟨_, ya, va, ra, da⟩ := dk_rd I.hok ea
  obtain ⟨_, yb, vb, rb, db⟩ := dk_rd I.hok eb
  obtain ⟨g1, g2⟩ := dkE_len he ra.length rb.length
  refine PySem.W.keq_eq (knd := mixKind X.prog X.w) (r := true) ya yb da db hu (fun z => hits_all rb ra (fun p hp => ?_)) ?_
  · rw [g2 z] at hp; cases hp
  · rw [g1]
    exact ⟨.bl _, H, I, rfl, q⟩
theorem op_neDk (hu : X.A.units < cLine) : OpR X (compareOp .NotEq) fun x y H Q => rDkE x y H fun b => Q (.bl !b) H := by
  intro pins s σ H x y v u Q I rx ry h
  obtain ⟨a, b, ks, ls, rfl, rfl, ea, eb, he, q⟩ := h
  cases rx; cases ry
  obtain ⟨_, ya, va, ra, da⟩ := dk_rd I.hok ea
  obtain ⟨_, yb, vb, rb, db⟩ := dk_rd I.hok eb
  obtain ⟨g1, g2⟩ := dkE_len he ra.length rb.length
  refine PySem.W.keq_ne (knd := mixKind X.prog X.w) (r := true) ya yb da db hu (fun z => hits_all rb ra (fun p hp => ?_)) ?_
  · rw [g2 z] at hp; cases hp
  · rw [g1]
    exact ⟨.bl _, H, I, rfl, q⟩
theorem VR.dkE {m : MM} {H : Hp} {ah : AH} {w : AV} {y : V} {l : List (AK × AV)} (r : Rel X.K m ah H) (h : VR X.K m H w y) (e : dr ah w = .dk l) : ∃ a kvs, y = .ref a ∧ Rd H a (.dK kvs) ∧ VRk X.K m H l kvs := by
  cases h with
  | ref hm =>
    obtain ⟨o, ho, q⟩ := r.at hm
    rw [dr_ref ho] at e
    cases o with
    | dk l' =>
      obtain ⟨vs, h1, h2⟩ := q
      cases e
      exact ⟨_, vs, rfl, .inl h1, h2⟩
    | lst l' => cases e
  | dk h1 h2 h3 => cases e; exact ⟨_, _, rfl, h1, h3⟩
  | _ => cases e
theorem VRk.emp {m : MM} {H : Hp} {l : List (AK × AV)} {kvs : List (Key × V)} (h : VRk X.K m H l kvs) : kvs.isEmpty = l.isEmpty := by cases h <;> rfl
theorem rDkE_of {m : MM} {H : Hp} {ah : AH} {v w : AV} {x y : V} {b : Bool} {P : Bool → Prop} (r : Rel X.K m ah H) (hv : VR X.K m H v x) (hw : VR X.K m H w y) (h : dkE (dr ah v) (dr ah w) = some b) (q : P b) : rDkE x y H P := by
  cases e1 : dr ah v with
  | dk l =>
    cases e2 : dr ah w with
    | dk l' =>
      rw [e1, e2] at h
      obtain ⟨a, ks, rfl, p1, p2⟩ := VR.dkE r hv e1
      obtain ⟨b', ls, rfl, p3, p4⟩ := VR.dkE r hw e2
      have h : (if l.isEmpty || l'.isEmpty then some (l.isEmpty == l'.isEmpty) else none) = some b := h
      split at h
      · rename_i z
        cases h
        exact ⟨a, b', ks, ls, rfl, rfl, p1, p3, by rw [p2.emp, p4.emp]; exact z, by rw [p2.emp, p4.emp]; exact q⟩
      · cases h
    | _ => rw [e1, e2] at h; cases h
  | _ => rw [e1] at h; cases e2 : dr ah w <;> rw [e2] at h <;> cases h
theorem rLen_of {m : MM} {H : Hp} {ah : AH} {v w : AV} {x y : V} {P : Prop} (r : Rel X.K m ah H) (hv : VR X.K m H v x) (hw : VR X.K m H w y) (h : lenNe (dr ah v) (dr ah w) = true) (q : P) : rLen X.K x y H P := by
  cases e1 : dr ah v with
  | lst l =>
    cases e2 : dr ah w with
    | lst l' =>
      rw [e1, e2] at h
      obtain ⟨a, vs, rfl, p1, p2⟩ := VR.listE r hv e1
      obtain ⟨b, ws, rfl, p3, p4⟩ := VR.listE r hw e2
      exact ⟨a, b, vs, ws, rfl, rfl, q, .inl ⟨p1, p3, by rw [← p2.length, ← p4.length]; exact of_decide_eq_true h⟩⟩
    | _ => rw [e1, e2] at h; cases h
  | tup l =>
    cases e2 : dr ah w with
    | tup l' =>
      rw [e1, e2] at h
      obtain ⟨a, vs, rfl, p1, p2⟩ := VR.tupE r hv e1
      obtain ⟨b, ws, rfl, p3, p4⟩ := VR.tupE r hw e2
      refine ⟨a, b, vs, ws, rfl, rfl, q, .inr ⟨p1, p3, ?_⟩⟩
      have h : (l.isEmpty != l'.isEmpty) = true := h
      have k1 := p2.length
      have k2 := p4.length
      intro k
      cases l <;> cases l' <;> cases vs <;> cases ws <;> simp_all
    | _ => rw [e1, e2] at h; cases h
  | _ => rw [e1] at h; cases e2 : dr ah w <;> rw [e2] at h <;> cases h
theorem eq_read {m : MM} {H : Hp} {ah : AH} {v w : AV} {x y : V} {b : Bool} {P : Bool → Prop} (r : Rel X.K m ah H) (hv : VR X.K m H v x) (hw : VR X.K m H w y) (hf : eqO ah v w = some (.bl b)) (q : P b) :
    (scal x y = true ∧ P (decide (x = y))) ∨ (∃ d e, Dp X.K H x d ∧ Dp X.K H y e ∧ SeqAt.shaped d = true ∧ SeqAt.shaped e = true ∧ P (PyData.eqv d e)) ∨ rLen X.K x y H (P false) ∨ rDkE x y H P := by
  unfold eqO at hf
  split at hf
  · cases hf; cases hv; cases hw
    exact .inl ⟨rfl, by rw [dstr]; exact q⟩
  · cases hf; cases hv; cases hw
    exact .inl ⟨rfl, by rw [dint]; exact q⟩
  · cases hf; cases hv; cases hw
    exact .inl ⟨rfl, by rw [dbl]; exact q⟩
  · cases hf; cases hv; cases hw
    exact .inl ⟨rfl, q⟩
  · cases hf; cases hv; cases hw
    exact .inl ⟨rfl, q⟩
  · cases hf; cases hv; cases hw
    exact .inl ⟨rfl, q⟩
  · cases hf; cases hv; cases hw
    exact .inl ⟨rfl, q⟩
  · split at hf
    · rename_i hb
      cases hf
      exact .inr (.inr (.inr (rDkE_of r hv hw hb q)))
    split at hf
    · rename_i hl
      cases hf
      exact .inr (.inr (.inl (rLen_of r hv hw hl q)))
    split at hf
    · rename_i h
      rw [Bool.and_eq_true] at h
      have h1 : okA (dr ah v) = true := by have := h.1; unfold shA at this; rw [Bool.and_eq_true] at this; exact this.1
      have h2 : okA (dr ah w) = true := by have := h.2; unfold shA at this; rw [Bool.and_eq_true] at this; exact this.1
      cases hf
      exact .inr (.inl ⟨_, _, VR.drD r hv h1, VR.drD r hw h2, sh_of h.1, sh_of h.2, by rw [okA_eqv _ _ h1 h2]; exact q⟩)
    · cases hf
theorem eqO_bl {ah : AH} {v w z : AV} (h : eqO ah v w = some z) : ∃ b, z = .bl b := by
  unfold eqO at h
  split at h <;> first | (cases h; exact ⟨_, rfl⟩) | skip
  split at h
  · cases h; exact ⟨_, rfl⟩
  split at h
  · cases h; exact ⟨_, rfl⟩
  split at h
  · cases h; exact ⟨_, rfl⟩
  · cases h
theorem eq_g (hu : X.A.units + 64 < cLine) : ∃ r, OpR X (compareOp .Eq) r ∧ OpG X r eqO := by
  refine ⟨_, op_eq.or ((op_eqD hu).or ((op_eqLen (by omega)).or (op_eqDk (by omega)))), ?_⟩
  intro m H ah v w x y z Q r hv hw hf q
  obtain ⟨b, rfl⟩ := eqO_bl hf
  rcases eq_read (P := fun b => Q (.bl b) H) r hv hw hf (q.here r (.bl b)) with h | h | h | h
  · exact .inl h
  · exact .inr (.inl h)
  · exact .inr (.inr (.inl h))
  · exact .inr (.inr (.inr h))
theorem ne_g (hu : X.A.units + 64 < cLine) : ∃ r, OpR X (compareOp .NotEq) r ∧ OpG X r (notO eqO) := by
  refine ⟨_, op_ne.or ((op_neD hu).or ((op_neLen (by omega)).or (op_neDk (by omega)))), ?_⟩
  intro m H ah v w x y z Q r hv hw hf q
  unfold notO at hf
  split at hf
  · rename_i b hb
    cases hf
    rcases eq_read (P := fun b => Q (.bl (!b)) H) r hv hw hb (q.here r (.bl (!b))) with h | h | h | h
    · exact .inl h
    · exact .inr (.inl h)
    · exact .inr (.inr (.inl h))
    · exact .inr (.inr (.inr h))
  · cases hf

def isO : O2 := fun _ v w => match v, w with
  | .bl a, .bl b => some (.bl (decide (a = b)))
  | .non, .non => some (.bl true)
  | .ref _, .non => some (.bl false)
  | .int _, .non => some (.bl false)
  | .str _, .non => some (.bl false)
  | .tup _, .non => some (.bl false)
  | .lst _, .non => some (.bl false)
  | .dk _, .non => some (.bl false)
  | .bl _, .non => some (.bl false)
  | _, _ => none
theorem is_read {m : MM} {H : Hp} {ah : AH} {v w : AV} {x y : V} {b : Bool} {P : Bool → Prop} (hv : VR X.K m H v x) (hw : VR X.K m H w y) (hf : isO ah v w = some (.bl b)) (q : P b) :
    (∃ a b : Bool, x = .bl a ∧ y = .bl b ∧ P (decide (a = b))) ∨ (y = .non ∧ P (decide (x = .non))) := by
  unfold isO at hf
  split at hf
  · cases hf; cases hv; cases hw; exact .inl ⟨_, _, rfl, rfl, q⟩
  all_goals first | (cases hf; cases hv; cases hw; exact .inr ⟨rfl, q⟩) | cases hf
theorem isO_bl {ah : AH} {v w z : AV} (h : isO ah v w = some z) : ∃ b, z = .bl b := by
  unfold isO at h
  split at h <;> first | (cases h; exact ⟨_, rfl⟩) | cases h
theorem is_g : ∃ r, OpR X (compareOp .Is) r ∧ OpG X r isO := by
  refine ⟨_, op_isBl.or op_isN, ?_⟩
  intro m H ah v w x y z Q r hv hw hf q
  obtain ⟨b, rfl⟩ := isO_bl hf
  exact is_read (P := fun b => Q (.bl b) H) hv hw hf (q.here r (.bl b))
theorem isnot_g : ∃ r, OpR X (compareOp .IsNot) r ∧ OpG X r (notO isO) := by
  refine ⟨_, op_notBl.or op_notN, ?_⟩
  intro m H ah v w x y z Q r hv hw hf q
  unfold notO at hf
  split at hf
  · rename_i b hb
    cases hf
    exact is_read (P := fun b => Q (.bl (!b)) H) hv hw hb (q.here r (.bl (!b)))
  · cases hf
end
end G
namespace G
open PySem PySem.Spec PyProof.Rows L2
set_option autoImplicit false

def lookK (l : List (AK × AV)) (k : AK) : Option AV := (l.find? fun p => decide (p.1 = k)).map (·.2)
theorem lookK_nil (k : AK) : lookK [] k = none := rfl
theorem lookK_cons (p : AK × AV) (l : List (AK × AV)) (k : AK) : lookK (p :: l) k = if p.1 = k then some p.2 else lookK l k := by
  unfold lookK
  rw [List.find?_cons]
  by_cases h : p.1 = k
  · simp [h]
  · simp [h]
theorem akey_inj {a b : AK} (h : akey a = akey b) : a = b := by
  cases a with
  | inl i =>
    cases b with
    | inl j => cases h; rfl
    | inr t => cases h
  | inr s =>
    cases b with
    | inl j => cases h
    | inr t =>
      have e : mkS s = mkS t := Sum.inr.inj h
      rw [mkS_inj e]
section
variable {K : PySem.W.Frag} {m : MM} {H : Hp}
theorem VRk.look : ∀ {l : List (AK × AV)} {kvs : List (Key × V)}, VRk K m H l kvs → ∀ k : AK, (lookK l k = none ∧ valV kvs (akey k) = none) ∨ ∃ v x, lookK l k = some v ∧ valV kvs (akey k) = some x ∧ VR K m H v x
  | _, _, .nil, k => .inl ⟨rfl, rfl⟩
  | _, _, .cons (k := j) (v := v) (x := x) h r, k => by
    by_cases e : j = k
    · subst e
      exact .inr ⟨v, x, by rw [lookK_cons, if_pos rfl], valV_pos rfl, h⟩
    · rw [lookK_cons, if_neg e, valV_neg fun z => e (akey_inj z)]
      exact VRk.look r k
theorem VRk.length : ∀ {l : List (AK × AV)} {kvs : List (Key × V)}, VRk K m H l kvs → l.length = kvs.length
  | _, _, .nil => rfl
  | _, _, .cons _ r => by rw [List.length_cons, List.length_cons, VRk.length r]
/-- a value as a key -/
def keyA : AV → Option AK
  | .int i => some (.inl i)
  | .str s => some (.inr s)
  | _ => none
theorem keyA_kV {v : AV} {x : V} {k : AK} (h : keyA v = some k) (r : VR K m H v x) : x = kV (akey k) := by
  cases v <;> first | (cases h; cases r; rfl) | cases h
end
abbrev DKR (_ : PySem.W.Frag) (H : Hp) (a : Addr) (kvs : List (Key × V)) : Prop := Rd H a (.dK kvs)
section
variable {X : Cx}
theorem DKR.at {pins : List (Addr × Obj)} {σ : L2.St} {H : Hp} {s : Shared} (I : Inv X pins σ H s) {a : Addr} {kvs : List (Key × V)} (h : DKR X.K H a kvs) :
    kvs.length ≤ sizeLine ∧ (a == sysModules) = false ∧ ∃ vs, KV kvs vs ∧ s.heap.DictOf (mixKind X.prog X.w) a vs := by
  exact dk_rd I.hok h
def rDIn (K : PySem.W.Frag) (neg : Bool) : R2 := fun x y H Q => ∃ a k kvs, x = kV k ∧ y = .ref a ∧ DKR K H a kvs ∧ Q (.bl (if neg then !(valV kvs k).isSome else (valV kvs k).isSome)) H
theorem op_din : OpR X (compareOp .In) (rDIn X.K false) := by
  intro pins s σ H x y v u Q I rx ry h
  obtain ⟨a, k, kvs, rfl, rfl, hd, q⟩ := h
  cases ry
  obtain ⟨_, hs, vs, rel, dd⟩ := hd.at I
  refine wpAny_in_of (kV_is rx) hs dd.mapOf ?_
  rw [← (rel.val k).isSome_eq]
  exact ⟨.bl _, H, I.tok _, rfl, q⟩
theorem op_dnotin : OpR X (compareOp .NotIn) (rDIn X.K true) := by
  intro pins s σ H x y v u Q I rx ry h
  obtain ⟨a, k, kvs, rfl, rfl, hd, q⟩ := h
  cases ry
  obtain ⟨_, hs, vs, rel, dd⟩ := hd.at I
  refine wpAny_notIn_of (kV_is rx) hs dd.mapOf ?_
  rw [← (rel.val k).isSome_eq]
  exact ⟨.bl _, H, I.tok _, rfl, q⟩
def rDIx (K : PySem.W.Frag) : R2 := fun x y H Q => ∃ a k kvs v, x = .ref a ∧ y = kV k ∧ DKR K H a kvs ∧ valV kvs k = some v ∧ Q v H
theorem ix_dict : IxR X (rDIx X.K) := by
  intro value slice pins s σ H x y v u Q I rx ry h hs
  obtain ⟨a, k, kvs, w, rfl, rfl, hd, hv, q⟩ := h
  cases rx
  obtain ⟨_, _, vs, rel, dd⟩ := hd.at I
  obtain ⟨w', hw, rw'⟩ := RelO.some_of (v := w) (o := valueAt vs k) (by rw [← hv]; exact rel.val k)
  exact tail_any dd.typeIs PySem.F.slot_dict_getitem.lookup (wpAny_getItem_of (kV_is ry) dd.mapOf hw ⟨w, H, I.tok _, rw', q⟩) hs
end

def flatA : AV → Bool
  | .non => true
  | .bl _ => true
  | .int _ => true
  | .str _ => true
  | _ => false
def inO : O2 := fun ah v w => match v, dr ah w with
  | .str [c], .str t => some (.bl (decide (c ∈ t)))
  | v, .tup l => if flatA v && l.all flatA then some (.bl (l.any fun y => eqA y v)) else none
  | v, .fl l => if flatA v && l.all flatA then some (.bl (l.any fun y => eqA y v)) else none
  | v, .lst l => if flatA v && l.all flatA then some (.bl (l.any fun y => eqA y v)) else if shA (dr ah v) && shA (.lst l) then some (.bl (l.any fun y => eqA y (dr ah v))) else none
  | v, .dk l => match keyA v with
    | some k => some (.bl (lookK l k).isSome)
    | none => none
  | _, _ => none
section
variable {K : PySem.W.Frag} {m : MM} {H : Hp}
theorem eqV_eqA {v w : AV} {x y : V} (hv : VR K m H v x) (hw : VR K m H w y) (fv : flatA v = true) (fw : flatA w = true) : eqV x y = eqA v w := by
  cases hv <;> first | cases fv | skip
  all_goals (cases hw <;> first | cases fw | skip)
  all_goals first | rfl | skip
  · rename_i s t
    show (mkS s == mkS t) = decide (s = t)
    by_cases e : s = t
    · subst e; simp
    · rw [decide_eq_false e, beq_eq_false_iff_ne]; exact fun z => e (mkS_inj z)
theorem flat_v {v : AV} {x : V} (hv : VR K m H v x) (fv : flatA v = true) : flatV x = true := by
  cases hv <;> first | rfl | cases fv
theorem flat_vs : ∀ {l : List AV} {xs : List V}, VRs K m H l xs → l.all flatA = true → xs.all flatV = true
  | _, _, .nil, _ => rfl
  | _, _, .cons h r, f => by
    rw [List.all_cons, Bool.and_eq_true] at f
    rw [List.all_cons, Bool.and_eq_true]
    exact ⟨flat_v h f.1, flat_vs r f.2⟩
theorem inV_any {v : AV} {x : V} (hv : VR K m H v x) (fv : flatA v = true) : ∀ {l : List AV} {xs : List V}, VRs K m H l xs → l.all flatA = true → inV x xs = l.any fun y => eqA y v
  | _, _, .nil, _ => rfl
  | _, _, .cons h r, f => by
    rw [List.all_cons, Bool.and_eq_true] at f
    have ih := inV_any hv fv r f.2
    unfold inV at ih ⊢
    rw [List.any_cons, List.any_cons, ih, eqV_eqA h hv f.1 fv]
theorem toDs_any {d : AV} (hd : okA d = true) : ∀ {l : List AV}, okAs l = true → ((toDs l).any fun z => PyData.eqv z (toD d)) = l.any fun y => eqA y d
  | [], _ => rfl
  | x :: l, h => by
    have h : (okA x && okAs l) = true := h
    rw [Bool.and_eq_true] at h
    have ih := toDs_any hd h.2
    show (PyData.eqv (toD x) (toD d) || (toDs l).any fun z => PyData.eqv z (toD d)) = (eqA x d || l.any fun y => eqA y d)
    rw [okA_eqv x d h.1 hd, ih]
end
section
variable {X : Cx}
theorem inO_bl {ah : AH} {v w z : AV} (h : inO ah v w = some z) : ∃ b, z = .bl b := by
  unfold inO at h
  split at h
  · cases h; exact ⟨_, rfl⟩
  · split at h
    · cases h; exact ⟨_, rfl⟩
    · cases h
  · split at h
    · cases h; exact ⟨_, rfl⟩
    · cases h
  · split at h
    · cases h; exact ⟨_, rfl⟩
    · split at h
      · cases h; exact ⟨_, rfl⟩
      · cases h
  · split at h
    · cases h; exact ⟨_, rfl⟩
    · cases h
  · cases h
/-- what a value stands for, a ref looked up -/
theorem VR.list {m : MM} {H : Hp} {ah : AH} {w : AV} {y : V} {l : List AV} (r : Rel X.K m ah H) (h : VR X.K m H w y) (e : dr ah w = .lst l) : ∃ a vs, y = .ref a ∧ H a = some (.lst vs) ∧ VRs X.K m H l vs := by
  cases h with
  | ref hm =>
    obtain ⟨o, ho, q⟩ := r.at hm
    rw [dr_ref ho] at e
    cases o with
    | lst l' =>
      obtain ⟨vs, h1, h2⟩ := q
      cases e
      exact ⟨_, vs, rfl, h1, h2⟩
    | dk l' => cases e
  | lst h1 h2 h3 => cases e; exact ⟨_, _, rfl, h1, h3⟩
  | _ => cases e
theorem VR.dict {m : MM} {H : Hp} {ah : AH} {w : AV} {y : V} {l : List (AK × AV)} (r : Rel X.K m ah H) (h : VR X.K m H w y) (e : dr ah w = .dk l) : ∃ a kvs, y = .ref a ∧ DKR X.K H a kvs ∧ VRk X.K m H l kvs := by
  cases h with
  | ref hm =>
    obtain ⟨o, ho, q⟩ := r.at hm
    rw [dr_ref ho] at e
    cases o with
    | dk l' =>
      obtain ⟨vs, h1, h2⟩ := q
      cases e
      exact ⟨_, vs, rfl, .inl h1, h2⟩
    | lst l' => cases e
  | dk h1 h2 h3 => cases e; exact ⟨_, _, rfl, h1, h3⟩
  | _ => cases e
theorem VR.tupl {m : MM} {H : Hp} {ah : AH} {w : AV} {y : V} {l : List AV} (r : Rel X.K m ah H) (h : VR X.K m H w y) (e : dr ah w = .tup l) : ∃ a vs, y = .ref a ∧ SqT X.K H a vs ∧ VRs X.K m H l vs := by
  cases h with
  | ref hm =>
    obtain ⟨o, ho, q⟩ := r.at hm
    rw [dr_ref ho] at e
    cases o <;> cases e
  | tup h1 h3 => cases e; exact ⟨_, _, rfl, h1, h3⟩
  | _ => cases e
theorem VR.flst {m : MM} {H : Hp} {ah : AH} {w : AV} {y : V} {l : List AV} (r : Rel X.K m ah H) (h : VR X.K m H w y) (e : dr ah w = .fl l) : ∃ a vs, y = .ref a ∧ SqL X.K H a vs ∧ VRs X.K m H l vs := by
  cases h with
  | ref hm =>
    obtain ⟨o, ho, q⟩ := r.at hm
    rw [dr_ref ho] at e
    cases o <;> cases e
  | fl h1 h3 =>
    cases e
    refine ⟨_, _, rfl, ?_, h3⟩
    rcases h1 with ⟨o, h1⟩ | h1
    · exact .inl (.inr ⟨o, h1⟩)
    · exact .inr h1
  | _ => cases e
theorem VR.strg {m : MM} {H : Hp} {ah : AH} {w : AV} {y : V} {l : List Nat} (r : Rel X.K m ah H) (h : VR X.K m H w y) (e : dr ah w = .str l) : y = .str (mkS l) := by
  cases h with
  | ref hm =>
    obtain ⟨o, ho, q⟩ := r.at hm
    rw [dr_ref ho] at e
    cases o <;> cases e
  | str s => cases e; rfl
  | _ => cases e
theorem sh_ok {v : AV} (h : shA v = true) : okA v = true := by
  unfold shA at h
  rw [Bool.and_eq_true] at h
  exact h.1
theorem in_read {m : MM} {H : Hp} {ah : AH} {v w : AV} {x y : V} {b : Bool} {P : Bool → Prop} (r : Rel X.K m ah H) (hv : VR X.K m H v x) (hw : VR X.K m H w y) (hf : inO ah v w = some (.bl b)) (q : P b) :
    (∃ (c : Nat) (z : Str), x = .str ⟨#[c]⟩ ∧ y = .str z ∧ P (decide (c ∈ z.cps.toList))) ∨ (∃ p xs, y = .ref p ∧ (SqL X.K H p xs ∨ SqT X.K H p xs) ∧ flatV x = true ∧ xs.all flatV = true ∧ P (inV x xs)) ∨
    (∃ d ds, Dp X.K H x d ∧ Dp X.K H y (.list ds) ∧ SeqAt.shaped d = true ∧ SeqAt.shaped (.list ds) = true ∧ P (ds.any fun z => PyData.eqv z d)) ∨ ∃ a k kvs, x = kV k ∧ y = .ref a ∧ DKR X.K H a kvs ∧ P (valV kvs k).isSome := by
  unfold inO at hf
  split at hf
  · rename_i c t e
    cases hf; cases hv
    cases VR.strg r hw e
    exact .inl ⟨c, mkS t, rfl, rfl, by rw [mkS_list]; exact q⟩
  · rename_i l e _
    split at hf
    · rename_i h
      rw [Bool.and_eq_true] at h
      cases hf
      obtain ⟨a, vs, rfl, h1, h2⟩ := VR.tupl r hw (by assumption)
      exact .inr (.inl ⟨a, vs, rfl, .inr h1, flat_v hv h.1, flat_vs h2 h.2, by rw [inV_any hv h.1 h2 h.2]; exact q⟩)
    · cases hf
  · split at hf
    · rename_i h
      rw [Bool.and_eq_true] at h
      cases hf
      obtain ⟨a, vs, rfl, h1, h2⟩ := VR.flst r hw (by assumption)
      exact .inr (.inl ⟨a, vs, rfl, .inl h1, flat_v hv h.1, flat_vs h2 h.2, by rw [inV_any hv h.1 h2 h.2]; exact q⟩)
    · cases hf
  · split at hf
    · rename_i h
      rw [Bool.and_eq_true] at h
      cases hf
      obtain ⟨a, vs, rfl, h1, h2⟩ := VR.list r hw (by assumption)
      exact .inr (.inl ⟨a, vs, rfl, .inl (SqL.of h1), flat_v hv h.1, flat_vs h2 h.2, by rw [inV_any hv h.1 h2 h.2]; exact q⟩)
    · split at hf
      · rename_i h
        rw [Bool.and_eq_true] at h
        cases hf
        obtain ⟨a, vs, rfl, h1, h2⟩ := VR.list r hw (by assumption)
        have o1 := h.1
        unfold shA at o1
        rw [Bool.and_eq_true] at o1
        have o1 := o1.1
        have o2 := h.2
        unfold shA at o2
        rw [Bool.and_eq_true] at o2
        have o2 : okAs _ = true := o2.1
        exact .inr (.inr (.inl ⟨_, _, VR.drD r hv o1, .lst (SqL.of h1) (VRs.dp _ _ h2 o2), sh_of h.1, sh_of h.2, by rw [toDs_any o1 o2]; exact q⟩))
      · cases hf
  · split at hf
    · rename_i k hk
      cases hf
      obtain ⟨a, kvs, rfl, h1, h2⟩ := VR.dict r hw (by assumption)
      refine .inr (.inr (.inr ⟨a, akey k, kvs, keyA_kV hk hv, rfl, h1, ?_⟩))
      rcases h2.look k with ⟨e1, e2⟩ | ⟨v', x', e1, e2, _⟩
      · rw [e1] at q; rw [e2]; exact q
      · rw [e1] at q; rw [e2]; exact q
    · cases hf
  · cases hf
theorem in_g (hu : X.A.units + 65 < cLine) : ∃ r, OpR X (compareOp .In) r ∧ OpG X r inO := by
  refine ⟨_, op_in_sign.or (op_in_seq.or ((op_inD hu).or op_din)), ?_⟩
  intro m H ah v w x y z Q r hv hw hf q
  obtain ⟨b, rfl⟩ := inO_bl hf
  exact in_read (P := fun b => Q (.bl b) H) r hv hw hf (q.here r (.bl b))
theorem notin_g (hu : X.A.units + 65 < cLine) : ∃ r, OpR X (compareOp .NotIn) r ∧ OpG X r (notO inO) := by
  refine ⟨_, op_notIn_sign.or (op_notIn_seq.or ((op_notInD hu).or op_dnotin)), ?_⟩
  intro m H ah v w x y z Q r hv hw hf q
  unfold notO at hf
  split at hf
  · rename_i b hb
    cases hf
    exact in_read (P := fun b => Q (.bl (!b)) H) r hv hw hb (q.here r (.bl (!b)))
  · cases hf
end
end G
namespace G
open PySem PySem.Spec PyProof.Rows L2
set_option autoImplicit false

def trA (ah : AH) (v : AV) : Option Bool := match dr ah v with
  | .non => some false
  | .bl b => some b
  | .int i => some (i != 0)
  | .str s => if s.length ≤ 1000000 then some (!s.isEmpty) else none
  | .tup l => some (!l.isEmpty)
  | .lst l => some (!l.isEmpty)
  | .fl l => some (!l.isEmpty)
  | _ => none
@[simp] theorem trA_bl {ah : AH} {b : Bool} : trA ah (.bl b) = some b := rfl
theorem dr_plain {ah : AH} {v w : AV} (h : dr ah v = w) (hn : ∀ o, w ≠ objV o) : v = w := by
  cases v with
  | ref n =>
    cases q : ah[n]? with
    | none =>
      have e : dr ah (.ref n) = .ref n := by
        show (match ah[n]? with | some o => objV o | none => .ref n) = _
        rw [q]
      rw [e] at h; exact h
    | some o => rw [dr_ref q] at h; exact absurd h.symm (hn o)
  | _ => exact h
section
variable {X : Cx} {W : WX} {a b c : Expr} {rest : List Expr} {fa fb fc : GE} {t u : GT} {pos : Pos}
theorem empty_vs {K : PySem.W.Frag} {m : MM} {H : Hp} {l : List AV} {xs : List V} (h : VRs K m H l xs) : (!l.isEmpty) = !xs.isEmpty := by cases h <;> rfl
theorem tru_of {m : MM} {H : Hp} {ah : AH} {v : AV} {x : V} {k : Bool} (r : Rel X.K m ah H) (h : VR X.K m H v x) (e : trA ah v = some k) : TruV X.K x H k := by
  unfold trA at e
  split at e
  · have q := dr_plain (by assumption) (by intro o; cases o <;> exact fun z => nomatch z)
    subst q; cases h; cases e; rfl
  · have q := dr_plain (by assumption) (by intro o; cases o <;> exact fun z => nomatch z)
    subst q; cases h; cases e; rfl
  · have q := dr_plain (by assumption) (by intro o; cases o <;> exact fun z => nomatch z)
    subst q; cases h; cases e; rfl
  · rename_i s q
    cases VR.strg r h q
    split at e
    · rename_i hl
      cases e
      refine ⟨by rw [mkS_length]; exact lim_line hl, ?_⟩
      rw [mkS_length]
      cases s with
      | nil => rfl
      | cons a l => simp; omega
    · cases e
  · obtain ⟨a, vs, rfl, h1, h2⟩ := VR.tupl r h (by assumption)
    cases e
    exact .inr (.inl ⟨vs, h1, empty_vs h2⟩)
  · obtain ⟨a, vs, rfl, h1, h2⟩ := VR.list r h (by assumption)
    cases e
    exact .inl ⟨vs, SqL.of h1, empty_vs h2⟩
  · obtain ⟨a, vs, rfl, h1, h2⟩ := VR.flst r h (by assumption)
    cases e
    exact .inl ⟨vs, h1, empty_vs h2⟩
  · cases e
def gTT (a : GE) : GT := fun env ah => rb (a env ah) fun v ah1 => lift1 (trA ah1 v) ah1
theorem gt_truth (ha : PE X a (tG X W fa)) (he : ∀ whole, isTrue a X.env whole = (do let v ← whole; standAt a.pos; holding [v] (truthy v)) := by intro _; rfl) : PT X a (tGT X W (gTT fa)) :=
  PT.weak (pt_truth ha he) fun σ H Q h => by
    obtain ⟨m, env, ah, hE, hR, hp⟩ := h
    refine tG_step hE hR hp (fun _ _ h => h) fun v ah1 m1 H1 x e1 r1 v1 hp1 => ?_
    cases e : trA ah1 v with
    | none => rw [e] at hp1; exact hp1.elim
    | some k => rw [e] at hp1; exact ⟨k, tru_of r1 v1 e, hp1 m1 H1 e1 r1⟩
def gNotT (t : GT) : GT := fun env ah => rb (t env ah) fun b ah1 => .ok (!b) ah1
def gAndT (t u : GT) : GT := fun env ah => rb (t env ah) fun b ah1 => if b = true then u env ah1 else .ok false ah1
def gOrT (t u : GT) : GT := fun env ah => rb (t env ah) fun b ah1 => if b = true then .ok true ah1 else u env ah1
theorem gt_not (ha : PT X a (tGT X W t)) : PT X (.UnaryOp .Not a pos) (tGT X W (gNotT t)) :=
  PT.weak (pt_not ha) fun σ H Q h => by
    obtain ⟨m, env, ah, hE, hR, hp⟩ := h
    exact tGT_step hE hR hp (fun _ _ h => h) fun v ah1 m1 H1 e1 r1 hp1 => hp1 m1 H1 e1 r1
theorem gt_and1 (ha : PT X a (tGT X W t)) : PW X (.BoolOp .And [a] pos) (tGT X W t) := pw_and1 ha
theorem gt_or1 (ha : PT X a (tGT X W t)) : PW X (.BoolOp .Or [a] pos) (tGT X W t) := pw_or1 ha
theorem PW.weak {e : Expr} {t t' : TT} (h : PW X e t) (w : ∀ σ H Q, t' σ H Q → t σ H Q) : PW X e t' := ⟨fun wh pins s σ H Q I q => h.run wh pins s σ H Q I (w σ H Q q)⟩
theorem gt_and (ha : PT X a (tGT X W t)) (hb : PW X (.BoolOp .And (b :: rest) pos) (tGT X W u)) : PW X (.BoolOp .And (a :: b :: rest) pos) (tGT X W (gAndT t u)) :=
  PW.weak (pw_and ha hb) fun σ H Q h => by
    obtain ⟨m, env, ah, hE, hR, hp⟩ := h
    refine tGT_step hE hR hp (fun _ _ h => h) fun v ah1 m1 H1 e1 r1 hp1 => ?_
    cases v with
    | true => exact iteT ⟨m1, env, ah1, hE.mono e1, r1, Res.post_imp hp1 (fun _ _ _ h => PB.mono e1 h) fun _ _ h => PX.mono e1 h⟩
    | false => exact iteF (hp1 m1 H1 e1 r1)
theorem gt_or (ha : PT X a (tGT X W t)) (hb : PW X (.BoolOp .Or (b :: rest) pos) (tGT X W u)) : PW X (.BoolOp .Or (a :: b :: rest) pos) (tGT X W (gOrT t u)) :=
  PW.weak (pw_or ha hb) fun σ H Q h => by
    obtain ⟨m, env, ah, hE, hR, hp⟩ := h
    refine tGT_step hE hR hp (fun _ _ h => h) fun v ah1 m1 H1 e1 r1 hp1 => ?_
    cases v with
    | true => exact iteT (hp1 m1 H1 e1 r1)
    | false => exact iteF ⟨m1, env, ah1, hE.mono e1, r1, Res.post_imp hp1 (fun _ _ _ h => PB.mono e1 h) fun _ _ h => PX.mono e1 h⟩
def gAnd (a b : GE) : GE := fun env ah => rb (a env ah) fun v ah1 => match trA ah1 v with
  | some true => b env ah1
  | some false => .ok v ah1
  | none => .bad
def gOr (a b : GE) : GE := fun env ah => rb (a env ah) fun v ah1 => match trA ah1 v with
  | some true => .ok v ah1
  | some false => b env ah1
  | none => .bad
def gNot (a : GE) : GE := fun env ah => rb (a env ah) fun v ah1 => match trA ah1 v with
  | some k => .ok (.bl (!k)) ah1
  | none => .bad
theorem ge_one {op : BoolOp} (ha : PE X a (tG X W fa)) : PE X (.BoolOp op [a] pos) (tG X W fa) := pe_one ha
theorem ge_and (ha : PE X a (tG X W fa)) (hb : PE X (.BoolOp .And (b :: rest) pos) (tG X W fb)) : PE X (.BoolOp .And (a :: b :: rest) pos) (tG X W (gAnd fa fb)) :=
  PE.weak (pe_andT ha hb) fun σ H Q h => by
    obtain ⟨m, env, ah, hE, hR, hp⟩ := h
    refine tG_step hE hR hp (fun _ _ h => h) fun v ah1 m1 H1 x e1 r1 v1 hp1 => ?_
    cases e : trA ah1 v with
    | none => rw [e] at hp1; exact hp1.elim
    | some k =>
      rw [e] at hp1
      refine ⟨k, tru_of r1 v1 e, ?_⟩
      cases k with
      | true => exact iteT ⟨m1, env, ah1, hE.mono e1, r1, Res.post_imp hp1 (fun _ _ _ h => PQ.mono e1 h) fun _ _ h => PX.mono e1 h⟩
      | false => exact iteF (hp1 m1 H1 x e1 r1 v1)
theorem ge_or (ha : PE X a (tG X W fa)) (hb : PE X (.BoolOp .Or (b :: rest) pos) (tG X W fb)) : PE X (.BoolOp .Or (a :: b :: rest) pos) (tG X W (gOr fa fb)) :=
  PE.weak (pe_orT ha hb) fun σ H Q h => by
    obtain ⟨m, env, ah, hE, hR, hp⟩ := h
    refine tG_step hE hR hp (fun _ _ h => h) fun v ah1 m1 H1 x e1 r1 v1 hp1 => ?_
    cases e : trA ah1 v with
    | none => rw [e] at hp1; exact hp1.elim
    | some k =>
      rw [e] at hp1
      refine ⟨k, tru_of r1 v1 e, ?_⟩
      cases k with
      | false => exact iteF ⟨m1, env, ah1, hE.mono e1, r1, Res.post_imp hp1 (fun _ _ _ h => PQ.mono e1 h) fun _ _ h => PX.mono e1 h⟩
      | true => exact iteT (hp1 m1 H1 x e1 r1 v1)
theorem ge_not (ha : PE X a (tG X W fa)) : PE X (.UnaryOp .Not a pos) (tG X W (gNot fa)) :=
  PE.weak (pe_notT ha) fun σ H Q h => by
    obtain ⟨m, env, ah, hE, hR, hp⟩ := h
    refine tG_step hE hR hp (fun _ _ h => h) fun v ah1 m1 H1 x e1 r1 v1 hp1 => ?_
    cases e : trA ah1 v with
    | none => rw [e] at hp1; exact hp1.elim
    | some k =>
      rw [e] at hp1
      exact ⟨k, tru_of r1 v1 e, hp1 m1 H1 _ e1 r1 (.bl _)⟩
def gIfE (t : GT) (a b : GE) : GE := fun env ah => rb (t env ah) fun k ah1 => if k = true then a env ah1 else b env ah1
theorem ge_ifE (hc : PT X c (tGT X W t)) (ha : PE X a (tG X W fa)) (hb : PE X b (tG X W fb)) : PE X (.IfExp c a b pos) (tG X W (gIfE t fa fb)) :=
  PE.weak (pe_ifExp hc ha hb) fun σ H Q h => by
    obtain ⟨m, env, ah, hE, hR, hp⟩ := h
    refine tGT_step hE hR hp (fun _ _ h => h) fun v ah1 m1 H1 e1 r1 hp1 => ?_
    cases v with
    | true => exact iteT ⟨m1, env, ah1, hE.mono e1, r1, Res.post_imp hp1 (fun _ _ _ h => PQ.mono e1 h) fun _ _ h => PX.mono e1 h⟩
    | false => exact iteF ⟨m1, env, ah1, hE.mono e1, r1, Res.post_imp hp1 (fun _ _ _ h => PQ.mono e1 h) fun _ _ h => PX.mono e1 h⟩

def gNeg (a : GE) : GE := fun env ah => rb (a env ah) fun v ah1 => match v with
  | .int i => .ok (.int (-i)) ah1
  | _ => .bad
theorem ge_neg (ha : PE X a (tG X W fa)) : PE X (.UnaryOp .USub a pos) (tG X W (gNeg fa)) :=
  PE.weak (pe_un un_neg ha) fun σ H Q h => by
    obtain ⟨m, env, ah, hE, hR, hp⟩ := h
    refine tG_step hE hR hp (fun _ _ h => h) fun v ah1 m1 H1 x e1 r1 v1 hp1 => ?_
    cases v1 with
    | int i => exact ⟨i, rfl, hp1 m1 H1 _ e1 r1 (.int _)⟩
    | _ => exact hp1.elim

def gChain (f g : O2) (a b c : GE) : GE := fun env ah => rb (a env ah) fun v ah1 => rb (b env ah1) fun w ah2 => match f ah2 v w with
  | some (.bl true) => rb (c env ah2) fun z ah3 => lift1 (g ah3 w z) ah3
  | some (.bl false) => .ok (.bl false) ah2
  | _ => .bad

def gNil : GA := fun _ ah => .ok [] ah
def gCons (a : GE) (r : GA) : GA := fun env ah => rb (a env ah) fun v ah1 => rb (r env ah1) fun l ah2 => .ok (v :: l) ah2
variable {es : List Expr} {fr fs : GA}
theorem ga_nil : PA X [] (tGA X W gNil) := PA.weak pa_nil fun σ H Q ⟨m, env, ah, hE, hR, hp⟩ => hp m H [] (Ext.refl m H) hR .nil
theorem ga_cons (ha : PE X a (tG X W fa)) (hr : PA X es (tGA X W fr)) (hs : starEach (a :: es) X.env = (false, eval a X.env) :: starEach es X.env := by rfl) : PA X (a :: es) (tGA X W (gCons fa fr)) :=
  PA.weak (pa_cons ha hr hs) fun σ H Q h => by
    obtain ⟨m, env, ah, hE, hR, hp⟩ := h
    refine tG_step hE hR hp (fun _ _ h => h) fun v ah1 m1 H1 x e1 r1 v1 hp1 => ?_
    refine tGA_step (hE.mono e1) r1 (Res.post_imp hp1 (fun _ _ _ h => PL.mono e1 h) (fun _ _ h => PX.mono e1 h)) (fun _ _ h => h) fun w ah2 m2 H2 y e2 r2 v2 hp2 => ?_
    exact PL.mono e2 hp2 m2 H2 (x :: y) (Ext.refl m2 H2) r2 (.cons (v1.mono e2) v2)
def limL (l : List AV) (v : AV) (ah : AH) : Res AV := if l.length ≤ 1000000 then .ok v ah else .bad
def gTup (r : GA) : GE := fun env ah => rb (r env ah) fun l ah1 => limL l (.tup l) ah1
def gLst (r : GA) : GE := fun env ah => rb (r env ah) fun l ah1 => limL l (.lst l) ah1
/-- a list that will be changed -/
def gLstH (r : GA) : GE := fun env ah => rb (r env ah) fun l ah1 => limL l (.ref ah1.length) (ah1 ++ [.lst l])
theorem limL_post {l : List AV} {v : AV} {ah : AH} {P : AV → AH → Prop} {E : EV → AH → Prop} (h : (limL l v ah).post P E) : l.length ≤ 1000000 ∧ P v ah := by
  unfold limL at h
  split at h
  · exact ⟨by assumption, h⟩
  · exact h.elim
theorem PQ.newH {K : PySem.W.Frag} {m : MM} {H : Hp} {ah : AH} {l : List AV} {vs : List V} {Q : VK} (h : PQ K m H Q (.ref ah.length) (ah ++ [.lst l])) (r : Rel K m ah H) (hv : VRs K m H l vs) {p : Addr} (hp : H p = none) : Q (.ref p) (upd H p (.lst vs)) := by
  refine h (m.add p) _ _ (Ext.alloc hp) (r.alloc hp ⟨vs, rfl, hv.mono (Ext.alloc hp)⟩) (.ref ?_)
  show (m.l ++ [p])[ah.length]? = some p
  rw [← r.len, List.getElem?_append_right (Nat.le_refl _)]
  simp
theorem PQ.newD {K : PySem.W.Frag} {m : MM} {H : Hp} {ah : AH} {l : List (AK × AV)} {vs : List (Key × V)} {Q : VK} (h : PQ K m H Q (.ref ah.length) (ah ++ [.dk l])) (r : Rel K m ah H) (hv : VRk K m H l vs) {p : Addr} (hp : H p = none) : Q (.ref p) (upd H p (.dK vs)) := by
  refine h (m.add p) _ _ (Ext.alloc hp) (r.alloc hp ⟨vs, rfl, hv.mono (Ext.alloc hp)⟩) (.ref ?_)
  show (m.l ++ [p])[ah.length]? = some p
  rw [← r.len, List.getElem?_append_right (Nat.le_refl _)]
  simp
theorem ge_tup {x1} (h : PA X es (tGA X W fr)) : PE X (.Tuple es x1 pos) (tG X W (gTup fr)) :=
  PE.weak (pe_tup h) fun σ H Q h => by
    obtain ⟨m, env, ah, hE, hR, hp⟩ := h
    refine tGA_step hE hR hp (fun _ _ h => h) fun l ah1 m1 H1 xs e1 r1 v1 hp1 => ?_
    obtain ⟨hl, q⟩ := limL_post hp1
    exact ⟨by rw [← v1.length]; exact lim_line hl, fun p hp => PQ.laid (PQ.mono e1 q) r1 hp (VR.newT r1 hp v1)⟩
theorem ge_lst (h : PA X es (tGA X W fr)) : PE X (.List es pos) (tG X W (gLst fr)) :=
  PE.weak (pe_lst h) fun σ H Q h => by
    obtain ⟨m, env, ah, hE, hR, hp⟩ := h
    refine tGA_step hE hR hp (fun _ _ h => h) fun l ah1 m1 H1 xs e1 r1 v1 hp1 => ?_
    obtain ⟨hl, q⟩ := limL_post hp1
    exact ⟨by rw [← v1.length]; exact lim_line hl, fun p hp => PQ.laid (PQ.mono e1 q) r1 hp (VR.newL r1 hp v1)⟩
theorem ge_lstH (h : PA X es (tGA X W fr)) : PE X (.List es pos) (tG X W (gLstH fr)) :=
  PE.weak (pe_lst h) fun σ H Q h => by
    obtain ⟨m, env, ah, hE, hR, hp⟩ := h
    refine tGA_step hE hR hp (fun _ _ h => h) fun l ah1 m1 H1 xs e1 r1 v1 hp1 => ?_
    obtain ⟨hl, q⟩ := limL_post hp1
    exact ⟨by rw [← v1.length]; exact lim_line hl, fun p hp => PQ.newH (PQ.mono e1 q) r1 v1 hp⟩
/-- {} as a value, as one that will be changed -/
def gDk0 : GE := fun _ ah => .ok (.dk []) ah
def gDk0H : GE := fun _ ah => .ok (.ref ah.length) (ah ++ [.dk []])
theorem ge_dk0 : PE X (.Dict [] [] pos) (tG X W gDk0) :=
  PE.weak pe_dnewK fun σ H Q h => by
    obtain ⟨m, env, ah, hE, hR, hp⟩ := h
    exact fun p hn => PQ.laid hp hR hn (.dk (.inl upd_same) (hR.not hn) .nil)
theorem ge_dk0H : PE X (.Dict [] [] pos) (tG X W gDk0H) :=
  PE.weak pe_dnewK fun σ H Q h => by
    obtain ⟨m, env, ah, hE, hR, hp⟩ := h
    exact fun p hn => PQ.newD hp hR .nil hn

def ixO : O2 := fun ah v w => match dr ah v, w with
  | .tup l, .int i => atI l i
  | .lst l, .int i => atI l i
  | .fl l, .int i => atI l i
  | .str s, .int i => if s.length ≤ 1000000 then (atI s i).map fun c => .str [c] else none
  | .dk l, .int i => lookK l (.inl i)
  | .dk l, .str s => lookK l (.inr s)
  | _, _ => none
theorem VRs.atI {K : PySem.W.Frag} {m : MM} {H : Hp} {l : List AV} {xs : List V} (h : VRs K m H l xs) {i : Int} {v : AV} (e : L2.atI l i = some v) : ∃ x, L2.atI xs i = some x ∧ VR K m H v x := by
  unfold L2.atI at e ⊢
  rw [← h.length]
  cases q : ixN l.length i with
  | none => rw [q] at e; cases e
  | some j =>
    rw [q] at e
    exact h.get (i := j) e
theorem ix_g : ∃ r, IxR X r ∧ OpG X r ixO := by
  refine ⟨_, ix_list.or (ix_tup.or (ix_str.or ix_dict)), ?_⟩
  intro m H ah v w x y z Q r hv hw hf q
  unfold ixO at hf
  split at hf
  · obtain ⟨a, vs, rfl, h1, h2⟩ := VR.tupl r hv (by assumption)
    cases hw
    obtain ⟨x, e, hx⟩ := h2.atI hf
    exact .inr (.inl ⟨a, vs, _, x, rfl, rfl, h1, e, q.here r hx⟩)
  · obtain ⟨a, vs, rfl, h1, h2⟩ := VR.list r hv (by assumption)
    cases hw
    obtain ⟨x, e, hx⟩ := h2.atI hf
    exact .inl ⟨a, vs, _, x, rfl, rfl, SqL.of h1, e, q.here r hx⟩
  · obtain ⟨a, vs, rfl, h1, h2⟩ := VR.flst r hv (by assumption)
    cases hw
    obtain ⟨x, e, hx⟩ := h2.atI hf
    exact .inl ⟨a, vs, _, x, rfl, rfl, h1, e, q.here r hx⟩
  · cases VR.strg r hv (by assumption)
    cases hw
    split at hf
    · rename_i hl
      obtain ⟨c, e, hc⟩ := Option.map_eq_some_iff.mp hf
      subst hc
      exact .inr (.inr (.inl ⟨_, _, c, rfl, rfl, by rw [mkS_length]; exact lim_line hl, by rw [mkS_list]; exact e, q.here r (.str _)⟩))
    · cases hf
  · obtain ⟨a, kvs, rfl, h1, h2⟩ := VR.dict r hv (by assumption)
    cases hw
    rename_i i _
    rcases h2.look (.inl i) with ⟨e1, e2⟩ | ⟨v', x', e1, e2, hx⟩
    · rw [e1] at hf; cases hf
    · rw [e1] at hf; cases hf
      exact .inr (.inr (.inr ⟨a, _, kvs, x', rfl, rfl, h1, e2, q.here r hx⟩))
  · obtain ⟨a, kvs, rfl, h1, h2⟩ := VR.dict r hv (by assumption)
    cases hw
    rename_i i _
    rcases h2.look (.inr i) with ⟨e1, e2⟩ | ⟨v', x', e1, e2, hx⟩
    · rw [e1] at hf; cases hf
    · rw [e1] at hf; cases hf
      exact .inr (.inr (.inr ⟨a, _, kvs, x', rfl, rfl, h1, e2, q.here r hx⟩))
  · cases hf
theorem ge_ix (ha : PE X a (tG X W fa)) (hb : PE X b (tG X W fb)) (hs : PlainIx b := by exact fun _ _ => rfl) : PE X (.Subscript a b pos) (tG X W (gOp ixO fa fb)) := by
  obtain ⟨r, h1, h2⟩ := ix_g (X := X)
  exact PE.weak (pe_ix h1 ha hb hs) fun _ _ _ h => op_read h2 h

abbrev GO := Env → AH → Res (Option Int)
def tGO (X : Cx) (W : WX) (f : GO) : TO := fun σ H Q => ∃ m env ah, EnvR X.K m H env σ ∧ Rel X.K m ah H ∧ (f env ah).post (PB X.K m H Q) (PX X.K X.mg m H fun c d H' => W c d σ H')
def gNoP : GO := fun _ ah => .ok none ah
def gP (a : GE) : GO := fun env ah => rb (a env ah) fun v ah1 => match v with
  | .int i => .ok (some i) ah1
  | _ => .bad
def cutA {α : Type} (l : List α) (lo hi : Option Int) : List α := (l.drop (HT.sIx l.length 0 lo)).take (HT.sIx l.length l.length hi - HT.sIx l.length 0 lo)
def slO (ah : AH) (v : AV) (lo hi : Option Int) : Option AV := match dr ah v with
  | .tup l => some (.tup (cutA l lo hi))
  | .lst l => some (.lst (cutA l lo hi))
  | .fl l => some (.lst (cutA l lo hi))
  | .str s => if s.length ≤ 1000000 then some (.str (cutA s lo hi)) else none
  | _ => none
def gSl (a : GE) (lo hi : GO) : GE := fun env ah => rb (a env ah) fun v ah1 => rb (lo env ah1) fun l ah2 => rb (hi env ah2) fun h ah3 => lift1 (slO ah3 v l h) ah3
variable {lo hi : Option Expr} {gl gh : GO} {p2 : Pos}
theorem PO.weak {e : Option Expr} {t t' : TO} (h : PO X e t) (w : ∀ σ H Q, t' σ H Q → t σ H Q) : PO X e t' := ⟨fun pins s σ H Q I q => h.run pins s σ H Q I (w σ H Q q)⟩
theorem go_none : PO X none (tGO X W gNoP) := PO.weak po_none fun σ H Q ⟨m, env, ah, hE, hR, hp⟩ => hp m H (Ext.refl m H) hR
theorem go_some {e : Expr} (h : PE X e (tG X W fa)) : PO X (some e) (tGO X W (gP fa)) :=
  PO.weak (po_some h) fun σ H Q h => by
    obtain ⟨m, env, ah, hE, hR, hp⟩ := h
    refine tG_step hE hR hp (fun _ _ h => h) fun v ah1 m1 H1 x e1 r1 v1 hp1 => ?_
    cases v1 with
    | int i => exact ⟨i, rfl, hp1 m1 H1 e1 r1⟩
    | _ => exact hp1.elim
theorem tGO_step {β : Type} {m : MM} {H : Hp} {env : Env} {ah : AH} {σ : L2.St} {f : GO} {k : Option Int → AH → Res β} {P : β → AH → Prop} {E : EV → AH → Prop} {Q : Option Int → Hp → Prop} (hE : EnvR X.K m H env σ) (hR : Rel X.K m ah H) (h : (rb (f env ah) k).post P E)
    (hx : ∀ e ah1, E e ah1 → PX X.K X.mg m H (fun c d H' => W c d σ H') e ah1)
    (hk : ∀ v ah1 m1 H1, Ext m H m1 H1 → Rel X.K m1 ah1 H1 → (k v ah1).post P E → Q v H1) : tGO X W f σ H Q := by
  refine ⟨m, env, ah, hE, hR, ?_⟩
  cases e : f env ah with
  | ok v ah1 =>
    rw [e] at h
    exact fun m1 H1 e1 r1 => hk v ah1 m1 H1 e1 r1 h
  | exc x ah1 =>
    rw [e] at h
    exact hx x ah1 h
  | bad =>
    rw [e] at h
    exact h
theorem VRs.cut {K : PySem.W.Frag} {m : MM} {H : Hp} {l : List AV} {xs : List V} (h : VRs K m H l xs) (lo hi : Option Int) : VRs K m H (cutA l lo hi) (cutV xs lo hi) := by
  unfold cutA cutV
  rw [h.length]
  exact (h.drop _).take _
theorem sl_g {m : MM} {H : Hp} {ah : AH} {v z : AV} {x : V} {l h : Option Int} {Q : VK} (r : Rel X.K m ah H) (hv : VR X.K m H v x) (hf : slO ah v l h = some z) (q : PQ X.K m H Q z ah) :
    rSlL X.K x l h H Q ∨ rSlA X.K x l h H Q ∨ rSlS x l h H Q := by
  unfold slO at hf
  split at hf
  · obtain ⟨a, vs, rfl, h1, h2⟩ := VR.tupl r hv (by assumption)
    cases hf
    refine .inr (.inl ⟨a, vs, rfl, h1, fun hw => ?_, fun _ p hp => q.laid r hp (VR.newT r hp (h2.cut l h))⟩)
    refine q.here r ?_
    have e : ∀ l', VRs X.K m H l' vs → cutA l' l h = l' := fun l' h2 => by
      unfold cutA
      have hl := h2.length
      rw [hl, hw.1, hw.2, ← hl]
      simp
    rw [e _ h2]
    exact .tup h1 h2
  · obtain ⟨a, vs, rfl, h1, h2⟩ := VR.list r hv (by assumption)
    cases hf
    exact .inl ⟨a, vs, rfl, SqL.of h1, fun p hp => q.laid r hp (VR.newL r hp (h2.cut l h))⟩
  · obtain ⟨a, vs, rfl, h1, h2⟩ := VR.flst r hv (by assumption)
    cases hf
    exact .inl ⟨a, vs, rfl, h1, fun p hp => q.laid r hp (VR.newL r hp (h2.cut l h))⟩
  · cases VR.strg r hv (by assumption)
    split at hf
    · rename_i hl
      cases hf
      refine .inr (.inr ⟨_, rfl, by rw [mkS_length]; exact lim_line hl, ?_⟩)
      have e : ∀ s, cutS (mkS s) l h = mkS (cutA s l h) := fun s => by
        unfold cutS cutA
        rw [mkS_list, mkS_length]
        rfl
      rw [e]
      exact q.here r (.str _)
    · cases hf
  · cases hf
theorem ge_slice (ha : PE X a (tG X W fa)) (hl : PO X lo (tGO X W gl)) (hh : PO X hi (tGO X W gh)) : PE X (.Subscript a (.Slice lo hi none p2) pos) (tG X W (gSl fa gl gh)) :=
  PE.weak (pe_slice (sl_list.or (sl_tupA.or sl_str)) ha hl hh) fun σ H Q h => by
    obtain ⟨m, env, ah, hE, hR, hp⟩ := h
    refine tG_step hE hR hp (fun _ _ h => h) fun v ah1 m1 H1 x e1 r1 v1 hp1 => ?_
    refine tGO_step (hE.mono e1) r1 (Res.post_imp hp1 (fun _ _ _ h => PQ.mono e1 h) (fun _ _ h => PX.mono e1 h)) (fun _ _ h => h) fun l ah2 m2 H2 e2 r2 hp2 => ?_
    refine tGO_step ((hE.mono e1).mono e2) r2 (Res.post_imp hp2 (fun _ _ _ h => PQ.mono e2 h) (fun _ _ h => PX.mono e2 h)) (fun _ _ h => h) fun h ah3 m3 H3 e3 r3 hp3 => ?_
    cases e : slO ah3 v l h with
    | none => rw [e] at hp3; exact hp3.elim
    | some z =>
      rw [e] at hp3
      exact sl_g r3 ((v1.mono e2).mono e3) e (PQ.mono e3 hp3)
end
end G
namespace G
open PySem PySem.Spec PyProof.Rows L2
set_option autoImplicit false
section
variable {X : Cx} {W : WX} {r r' : R2} {f g : O2} {a b c e : Expr} {es : List Expr} {fa fb fc : GE} {fr : GA} {pos p : Pos} {x : Str}
theorem chain_read (hr : OpG X r f) (hr' : OpG X r' g) {σ : L2.St} {H : Hp} {Q : VK} (h : tG X W (gChain f g fa fb fc) σ H Q) : tChain r r' (tG X W fa) (tG X W fb) (tG X W fc) σ H Q := by
  obtain ⟨m, env, ah, hE, hR, hp⟩ := h
  refine tG_step hE hR hp (fun _ _ h => h) fun v ah1 m1 H1 x e1 r1 v1 hp1 => ?_
  refine tG_step (hE.mono e1) r1 (Res.post_imp hp1 (fun _ _ _ h => PQ.mono e1 h) (fun _ _ h => PX.mono e1 h)) (fun _ _ h => h) fun w ah2 m2 H2 y e2 r2 v2 hp2 => ?_
  cases e : f ah2 v w with
  | none => rw [e] at hp2; exact hp2.elim
  | some z =>
    rw [e] at hp2
    cases z with
    | bl k =>
      refine hr m2 H2 ah2 v w x y (.bl k) _ r2 (v1.mono e2) v2 e fun m3 H3 x3 e3 r3 v3 => ?_
      cases v3
      refine ⟨k, rfl, ?_⟩
      cases k with
      | false => exact iteF (hp2 m3 H3 _ (e2.trans e3) r3 (.bl false))
      | true =>
        refine iteT (tG_step (((hE.mono e1).mono e2).mono e3) r3 (Res.post_imp hp2 (fun _ _ _ h => PQ.mono (e2.trans e3) h) (fun _ _ h => PX.mono (e2.trans e3) h)) (fun _ _ h => h) fun u ah4 m4 H4 y4 e4 r4 v4 hp4 => ?_)
        cases e5 : g ah4 w u with
        | none => rw [e5] at hp4; exact hp4.elim
        | some z4 =>
          rw [e5] at hp4
          exact hr' m4 H4 ah4 w u y y4 z4 Q r4 ((v2.mono e3).mono e4) v4 e5 (PQ.mono e4 hp4)
    | _ => exact hp2.elim
theorem ge_chain {op op' : CmpOp} (ho : OpR X (compareOp op) r) (hr : OpG X r f) (ho' : OpR X (compareOp op') r') (hr' : OpG X r' g) (ha : PE X a (tG X W fa)) (hb : PE X b (tG X W fb)) (hc : PE X c (tG X W fc))
    (hm : lastMarks [op, op'] [b, c] = false := by with_unfolding_all rfl) : PE X (.Compare a [op, op'] [b, c] pos) (tG X W (gChain f g fa fb fc)) :=
  PE.weak (pe_chain ho ho' ha hb hc hm) fun _ _ _ h => chain_read hr hr' h
theorem gt_chain {op op' : CmpOp} (ho : OpR X (compareOp op) r) (hr : OpG X r f) (ho' : OpR X (compareOp op') r') (hr' : OpG X r' g) (ha : PE X a (tG X W fa)) (hb : PE X b (tG X W fb)) (hc : PE X c (tG X W fc))
    (hm : lastMarks [op, op'] [b, c] = false := by with_unfolding_all rfl) : PT X (.Compare a [op, op'] [b, c] pos) (tGT X W (gTB (gChain f g fa fb fc))) :=
  PT.weak (pt_chain ho ho' ha hb hc hm) fun _ _ _ h => tb_read (t := tChain r r' (tG X W fa) (tG X W fb) (tG X W fc)) (fun _ _ _ q => chain_read hr hr' q) h

abbrev OL := AH → List AV → Option AV
def CallG (X : Cx) (r : List V → Hp → VK → Prop) (f : OL) : Prop := ∀ (m : MM) (H : Hp) (ah : AH) (l : List AV) (xs : List V) (z : AV) (Q : VK), Rel X.K m ah H → VRs X.K m H l xs → f ah l = some z → PQ X.K m H Q z ah → r xs H Q
def gB (f : OL) (r : GA) : GE := fun env ah => rb (r env ah) fun l ah1 => lift1 (f ah1 l) ah1
theorem cb_read {r : List V → Hp → VK → Prop} {f : OL} (hr : CallG X r f) {σ : L2.St} {H : Hp} {Q : VK} (h : tG X W (gB f fr) σ H Q) : tCB r (tGA X W fr) σ H Q := by
  obtain ⟨m, env, ah, hE, hR, hp⟩ := h
  refine tGA_step hE hR hp (fun _ _ h => h) fun l ah1 m1 H1 xs e1 r1 v1 hp1 => ?_
  cases e : f ah1 l with
  | none => rw [e] at hp1; exact hp1.elim
  | some z =>
    rw [e] at hp1
    exact hr m1 H1 ah1 l xs z Q r1 v1 e (PQ.mono e1 hp1)
theorem ge_callB {id : String} {r : List V → Hp → VK → Prop} {f : OL} (hc : CallR X (.builtin id) r) (hr : CallG X r f) (hg : Gl X x) (hm : X.mg x = none) (hv : bootBuiltins x = some (.builtin id)) (ha : PA X (e :: es) (tGA X W fr)) (hn : x ≠ "__name__" := by decide) (hdb : (x == ("__debug__" : Str)) = false := by decide)
    (he : starEach (e :: es) X.env = (false, eval e X.env) :: starEach es X.env := by rfl) (hpl : (backTo pos (starEach es X.env)).any (·.1) = false := by rfl) : PE X (.Call (.Name x p) (e :: es) [] pos) (tG X W (gB f fr)) :=
  PE.weak (pe_callB hc hg hm hv ha hn hdb he hpl) fun _ _ _ h => cb_read hr h
theorem ge_callT {T : String} {r : List V → Hp → VK → Prop} {f : OL} (hc : CallR X (.type T) r) (hr : CallG X r f) (hg : Gl X x) (hm : X.mg x = none) (hv : bootBuiltins x = some (.type T)) (ha : PA X (e :: es) (tGA X W fr)) (hn : x ≠ "__name__" := by decide) (hdb : (x == ("__debug__" : Str)) = false := by decide)
    (he : starEach (e :: es) X.env = (false, eval e X.env) :: starEach es X.env := by rfl) (hpl : (backTo pos (starEach es X.env)).any (·.1) = false := by rfl) : PE X (.Call (.Name x p) (e :: es) [] pos) (tG X W (gB f fr)) :=
  PE.weak (pe_callTy hc hg hm hv ha hn hdb he hpl) fun _ _ _ h => cb_read hr h

def lenO : OL := fun ah l => match l with
  | [v] => match dr ah v with
    | .tup l => some (.int l.length)
    | .lst l => some (.int l.length)
    | .fl l => some (.int l.length)
    | .str s => if s.length ≤ 1000000 then some (.int s.length) else none
    | .dk l => some (.int l.length)
    | _ => none
  | _ => none
theorem VRs.one {K : PySem.W.Frag} {m : MM} {H : Hp} {v : AV} {xs : List V} (h : VRs K m H [v] xs) : ∃ x, xs = [x] ∧ VR K m H v x := by
  cases h with
  | cons h r => cases r; exact ⟨_, rfl, h⟩
theorem VRs.two {K : PySem.W.Frag} {m : MM} {H : Hp} {v w : AV} {xs : List V} (h : VRs K m H [v, w] xs) : ∃ x y, xs = [x, y] ∧ VR K m H v x ∧ VR K m H w y := by
  cases h with
  | cons h r => obtain ⟨y, rfl, hy⟩ := r.one; exact ⟨_, _, rfl, h, hy⟩
def rLenD (K : PySem.W.Frag) : List V → Hp → VK → Prop := fun xs H Q => ∃ a kvs, xs = [.ref a] ∧ DKR K H a kvs ∧ Q (.int kvs.length) H
theorem call_lenDK : CallR X (.builtin "len") (rLenD X.K) := by
  intro pins s σ H xs us Q I r h
  obtain ⟨a, kvs, rfl, hd, q⟩ := h
  obtain ⟨u, rfl, ru⟩ := vals1 r
  cases ru
  obtain ⟨hz, hs, vs, rel, dd⟩ := hd.at I
  have hl : kvs.length = vs.length := KV.length rel
  have h16 : sizeLine = 16777216 := sizeLine_eq
  refine call_len_dict hs dd (by omega) ?_
  rw [← hl]
  exact ⟨.int _, H, I.tok _, ⟨_, rfl⟩, q⟩
theorem len_g : ∃ r, CallR X (.builtin "len") r ∧ CallG X r lenO := by
  refine ⟨_, call_len.or call_lenDK, ?_⟩
  intro m H ah l xs z Q r hv hf q
  unfold lenO at hf
  split at hf
  · obtain ⟨x, rfl, hx⟩ := hv.one
    split at hf
    · obtain ⟨a, vs, rfl, h1, h2⟩ := VR.tupl r hx (by assumption)
      cases hf
      refine .inl ⟨_, vs.length, rfl, .inr ⟨vs, h1, rfl⟩, ?_⟩
      rw [← h2.length]
      exact q.here r (.int _)
    · obtain ⟨a, vs, rfl, h1, h2⟩ := VR.list r hx (by assumption)
      cases hf
      refine .inl ⟨_, vs.length, rfl, .inl ⟨vs, SqL.of h1, rfl⟩, ?_⟩
      rw [← h2.length]
      exact q.here r (.int _)
    · obtain ⟨a, vs, rfl, h1, h2⟩ := VR.flst r hx (by assumption)
      cases hf
      refine .inl ⟨_, vs.length, rfl, .inl ⟨vs, h1, rfl⟩, ?_⟩
      rw [← h2.length]
      exact q.here r (.int _)
    · cases VR.strg r hx (by assumption)
      split at hf
      · rename_i hl
        cases hf
        refine .inl ⟨_, (mkS _).length, rfl, ⟨by rw [mkS_length]; exact lim_line hl, rfl⟩, ?_⟩
        rw [mkS_length]
        exact q.here r (.int _)
      · cases hf
    · obtain ⟨a, kvs, rfl, h1, h2⟩ := VR.dict r hx (by assumption)
      cases hf
      refine .inr ⟨a, kvs, rfl, h1, ?_⟩
      rw [← h2.length]
      exact q.here r (.int _)
    · cases hf
  · cases hf
inductive Ty where
  | int | bool | str | tuple | list | dict
def Ty.name : Ty → String
  | .int => "int" | .bool => "bool" | .str => "str" | .tuple => "tuple" | .list => "list" | .dict => "dict"
def isiA (ah : AH) (v : AV) : Ty → Option Bool := fun t => match dr ah v, t with
  | .bl _, .int => some true
  | .bl _, .bool => some true
  | .int _, .int => some true
  | .str _, .str => some true
  | .tup _, .tuple => some true
  | .lst _, .list => some true
  | .fl _, .list => some true
  | .dk _, .dict => some true
  | .ref _, _ => none
  | _, _ => some false
def gIsi (t : Ty) (a : GE) : GE := fun env ah => rb (a env ah) fun v ah1 => match isiA ah1 v t with
  | some b => .ok (.bl b) ah1
  | none => .bad
def tyA : AV → Option String
  | .non => some "NoneType"
  | .bl _ => some "bool"
  | .int _ => some "int"
  | .str _ => some "str"
  | .tup _ => some "tuple"
  | .lst _ => some "list"
  | .fl _ => some "list"
  | .dk _ => some "dict"
  | .ref _ => none
theorem tyX_of {m : MM} {H : Hp} {ah : AH} {v : AV} {x : V} {T : String} (r : Rel X.K m ah H) (h : VR X.K m H v x) (e : tyA (dr ah v) = some T) : TyX X.K H x (.type T) := by
  cases h with
  | non => cases e; exact .base .non
  | bl b => cases e; exact .base (.bl b)
  | int b => cases e; exact .base (.int b)
  | str b => cases e; exact .base (.str _)
  | tup h1 h2 =>
    cases e
    rcases h1 with (h1 | ⟨o, h1⟩) | ⟨o, its, n, h1, h3, _⟩
    · exact .base (.tup h1)
    · exact .fTuple h1
    · exact .kTuple h1 h3
  | lst h1 h2 h3 => cases e; exact .base (.lst h1)
  | dk h1 h3 h2 =>
    cases e
    rcases h1 with h1 | ⟨od, h1⟩
    · exact .base (.dK h1)
    · exact .fDict h1
  | fl h1 h2 =>
    cases e
    rcases h1 with ⟨o, h1⟩ | ⟨o, its, n, h1, h3, _⟩
    · exact .base (.frz h1)
    · exact .kList h1 h3
  | ref hm =>
    obtain ⟨o, ho, q⟩ := r.at hm
    rw [dr_ref ho] at e
    cases o with
    | lst l => obtain ⟨vs, h1, _⟩ := q; cases e; exact .base (.lst h1)
    | dk l => obtain ⟨vs, h1, _⟩ := q; cases e; exact .base (.dK h1)
theorem isi_kit {K : PySem.W.Frag} {ah : AH} {v : AV} {t : Ty} {b : Bool} (h : isiA ah v t = some b) : ∃ T, tyA (dr ah v) = some T ∧ PySem.W.kitOne K (.type T) (.type t.name) = some b := by
  unfold isiA at h
  cases q : dr ah v <;> rw [q] at h <;> cases t <;> first | (cases h; exact ⟨_, rfl, kit_ty (by decide +kernel)⟩) | cases h
theorem ge_isi (t : Ty) {p2 : Pos} {y : Str} (hg : Gl X "isinstance") (hm : X.mg "isinstance" = none) (hg2 : Gl X y) (hm2 : X.mg y = none) (hv2 : bootBuiltins y = some (.type t.name)) (hn2 : y ≠ "__name__") (hd2 : (y == ("__debug__" : Str)) = false) (ha : PE X a (tG X W fa))
    (hs : starEach [a, .Name y p2] X.env = (false, eval a X.env) :: starEach [.Name y p2] X.env := by rfl) (hs2 : starEach [.Name y p2] X.env = (false, eval (.Name y p2) X.env) :: starEach [] X.env := by rfl)
    (hpl : (backTo pos (starEach [.Name y p2] X.env)).any (·.1) = false := by rfl) : PE X (.Call (.Name "isinstance" p) [a, .Name y p2] [] pos) (tG X W (gIsi t fa)) := by
  refine PE.weak (pe_callB call_isi hg hm (by decide +kernel) (pa_cons ha (pa_cons (pe_bltn (v := .ty t.name) hg2 hm2 hv2 rfl hn2 hd2) pa_nil hs2) hs) (by decide) (by decide) hs hpl) fun σ H Q h => ?_
  obtain ⟨m, env, ah, hE, hR, hp⟩ := h
  refine tG_step hE hR hp (fun _ _ h => h) fun v ah1 m1 H1 x e1 r1 v1 hp1 => ?_
  cases e : isiA ah1 v t with
  | none => rw [e] at hp1; exact hp1.elim
  | some b =>
    rw [e] at hp1
    obtain ⟨T, h1, h2⟩ := isi_kit (K := X.K) e
    exact ⟨x, .ty t.name, .type T, .type t.name, b, rfl, .ty _, tyX_of r1 v1 h1, h2, hp1 m1 H1 _ e1 r1 (.bl b)⟩
def intO : OL := fun _ l => match l with
  | [.int i] => some (.int i)
  | [.bl b] => some (.int (if b then 1 else 0))
  | [.str s] => if s ≠ [] ∧ s.all (fun c => decide (48 ≤ c ∧ c ≤ 57)) = true ∧ s.length ≤ 640 then some (.int (NumText.digitsVal s : Nat)) else none
  | _ => none
theorem int_g : ∃ r, CallR X (.type "int") r ∧ CallG X r intO := by
  refine ⟨_, call_int1.or call_int_str, ?_⟩
  intro m H ah l xs z Q r hv hf q
  unfold intO at hf
  split at hf
  · obtain ⟨x, rfl, hx⟩ := hv.one
    cases hf; cases hx
    exact .inl (.inl ⟨_, rfl, q.here r (.int _)⟩)
  · obtain ⟨x, rfl, hx⟩ := hv.one
    cases hf; cases hx
    exact .inl (.inr ⟨_, rfl, q.here r (.int _)⟩)
  · obtain ⟨x, rfl, hx⟩ := hv.one
    split at hf
    · rename_i s hs
      obtain ⟨h1, h2, h3⟩ := hs
      cases hf; cases hx
      refine .inr ⟨_, _, rfl, PySem.intText_digits (x := mkS s) (fun c hc => ?_) (by rw [mkS_list]; exact h1) (by rw [mkS_length]; omega), by rw [mkS_length]; exact h3, ?_⟩
      · rw [mkS_list] at hc
        exact of_decide_eq_true (List.all_eq_true.mp h2 c hc)
      · rw [mkS_list]
        exact q.here r (.int _)
    · cases hf
  · cases hf
def digA (i : Int) : List Nat := (Str.ofString (toString i)).cps.toList
def strO : OL := fun _ l => match l with
  | [.int i] => if i.natAbs.log2 < 1920 then some (.str (digA i)) else none
  | _ => none
theorem mkS_dig (i : Int) : mkS (digA i) = (toString i : Str) := by
  show (⟨(Str.ofString (toString i)).cps.toList.toArray⟩ : Str) = Str.ofString (toString i)
  rw [Array.toArray_toList]
theorem str_g : ∃ r, CallR X (.type "str") r ∧ CallG X r strO := by
  refine ⟨_, call_str_int, ?_⟩
  intro m H ah l xs z Q r hv hf q
  unfold strO at hf
  split at hf
  · obtain ⟨x, rfl, hx⟩ := hv.one
    split at hf
    · rename_i h
      cases hf; cases hx
      refine ⟨_, rfl, h, ?_⟩
      rw [← mkS_dig]
      exact q.here r (.str _)
    · cases hf
  · cases hf
def maxO : OL := fun _ l => match l with
  | [.int i, .int j] => some (.int (if j > i then j else i))
  | _ => none
def minO : OL := fun _ l => match l with
  | [.int i, .int j] => some (.int (if j < i then j else i))
  | _ => none
theorem max_g (hc : X.calm = true) : ∃ r, CallR X (.builtin "max") r ∧ CallG X r maxO := by
  refine ⟨_, call_max2 hc, ?_⟩
  intro m H ah l xs z Q r hv hf q
  unfold maxO at hf
  split at hf
  · obtain ⟨x, y, rfl, hx, hy⟩ := hv.two
    cases hf; cases hx; cases hy
    exact ⟨_, _, rfl, q.here r (.int _)⟩
  · cases hf
theorem min_g (hc : X.calm = true) : ∃ r, CallR X (.builtin "min") r ∧ CallG X r minO := by
  refine ⟨_, call_min2 hc, ?_⟩
  intro m H ah l xs z Q r hv hf q
  unfold minO at hf
  split at hf
  · obtain ⟨x, y, rfl, hx, hy⟩ := hv.two
    cases hf; cases hx; cases hy
    exact ⟨_, _, rfl, q.here r (.int _)⟩
  · cases hf
def tupO : OL := fun ah l => match l with
  | [v] => match dr ah v with
    | .tup l => some (.tup l)
    | .lst l => some (.tup l)
    | .fl l => some (.tup l)
    | _ => none
  | _ => none
theorem tup_g : ∃ r, CallR X (.type "tuple") r ∧ CallG X r tupO := by
  refine ⟨_, call_tuple_of, ?_⟩
  intro m H ah l xs z Q r hv hf q
  unfold tupO at hf
  split at hf
  · obtain ⟨x, rfl, hx⟩ := hv.one
    split at hf
    · obtain ⟨a, vs, rfl, h1, h2⟩ := VR.tupl r hx (by assumption)
      cases hf
      exact ⟨a, vs, rfl, .inr ⟨h1, q.here r (.tup h1 h2)⟩⟩
    · obtain ⟨a, vs, rfl, h1, h2⟩ := VR.list r hx (by assumption)
      cases hf
      exact ⟨a, vs, rfl, .inl ⟨SqL.of h1, fun p hp => q.laid r hp (VR.newT r hp h2)⟩⟩
    · obtain ⟨a, vs, rfl, h1, h2⟩ := VR.flst r hx (by assumption)
      cases hf
      exact ⟨a, vs, rfl, .inl ⟨h1, fun p hp => q.laid r hp (VR.newT r hp h2)⟩⟩
    · cases hf
  · cases hf
def keyV : AK → AV
  | .inl i => .int i
  | .inr s => .str s
theorem VRk.keys {K : PySem.W.Frag} {m : MM} {H : Hp} : ∀ {l : List (AK × AV)} {kvs : List (Key × V)}, VRk K m H l kvs → VRs K m H (l.map fun p => keyV p.1) (kvs.map fun kv => kV kv.1)
  | _, _, .nil => .nil
  | _, _, .cons (k := k) h r => .cons (by
      cases k with
      | inl i => exact .int i
      | inr s => exact .str s) (VRk.keys r)
/-- list(d), also of a dict that is closed -/
def rListRd : List V → Hp → VK → Prop := fun xs H Q => ∃ a kvs, xs = [.ref a] ∧ Rd H a (.dK kvs) ∧ ∀ b, H b = none → Q (.ref b) (upd H b (.lst (kvs.map fun kv => kV kv.1)))
theorem call_listRd (hc : X.calm = true) : CallR X (.type "list") rListRd := by
  intro pins s σ H xs us Q I r h
  obtain ⟨a, kvs, rfl, hd, q⟩ := h
  obtain ⟨u, rfl, ru⟩ := vals1 r
  cases ru
  obtain ⟨hz, hsys, vs, rel, dof⟩ := dk_rd I.hok hd
  obtain ⟨n, hat⟩ := dof.dictAt
  have hl : kvs.length = vs.length := Paired.length rel
  refine PySem.W.kdl_call (PySem.W.kdl_dict (knd := mixKind X.prog X.w) (kvs := vs) (ep := n) hsys) (I.ok.hd hc) hat (by rw [← hl]; exact hz) fun h' tk acc c' hk hS hacc => ?_
  have hsz : acc.toList.length = vs.length := by rw [Array.length_toList, hacc.1]
  have hv : Vals (kvs.map fun kv => kV kv.1) acc.toList := by
    refine vals_of_at (by rw [List.length_map, hsz, hl]) fun j x u h1 h2 => ?_
    obtain ⟨k, y, e1, e2⟩ := hacc.2 j u (by rw [← Array.getElem?_toList]; exact h2)
    have g : (kvs.map Prod.fst)[j]? = some k := by
      rw [KV.keys rel, List.getElem?_map, e1]
      all_goals rfl
    rw [List.getElem?_map] at h1 g
    cases g2 : kvs[j]? with
    | none => rw [g2] at g; cases g
    | some kv =>
      rw [g2] at g h1
      cases g
      cases h1
      exact keyIs_rel e2
  have new : ObjOk X.prog X.w (upd H s.heap.objs.size (.lst (kvs.map fun kv => kV kv.1))) h' s.heap.objs.size (.lst (kvs.map fun kv => kV kv.1)) :=
    ⟨by rw [List.length_map]; exact hz, acc.toList, c', hv, by rw [Array.toArray_toList]; exact hS⟩
  exact ⟨.ref s.heap.objs.size, _, I.laid hk (Nat.le_refl _) new, rfl, q _ (I.hok.fresh (Nat.le_refl _))⟩
/-- list(e): its items -/
def lisO : AH → List AV → Option (List AV) := fun ah l => match l with
  | [v] => match dr ah v with
    | .tup l => some l
    | .lst l => some l
    | .fl l => some l
    | .dk l => some (l.map fun p => keyV p.1)
    | _ => none
  | _ => none
/-- what makes a new list -/
def CallGL (X : Cx) (r : List V → Hp → VK → Prop) (f : AH → List AV → Option (List AV)) : Prop := ∀ (m : MM) (H : Hp) (ah : AH) (l : List AV) (xs : List V) (z : List AV) (Q : VK), Rel X.K m ah H → VRs X.K m H l xs → f ah l = some z →
  (∀ p vs, H p = none → VRs X.K m H z vs → Q (.ref p) (upd H p (.lst vs))) → r xs H Q
def gBL (f : AH → List AV → Option (List AV)) (r : GA) : GE := fun env ah => rb (r env ah) fun l ah1 => lift1 ((f ah1 l).map AV.lst) ah1
def gBLH (f : AH → List AV → Option (List AV)) (r : GA) : GE := fun env ah => rb (r env ah) fun l ah1 => match f ah1 l with
  | some z => .ok (.ref ah1.length) (ah1 ++ [.lst z])
  | none => .bad
theorem CallGL.v {r : List V → Hp → VK → Prop} {f : AH → List AV → Option (List AV)} (h : CallGL X r f) : CallG X r fun ah l => (f ah l).map AV.lst := by
  intro m H ah l xs z Q r hv hf q
  obtain ⟨z', e, rfl⟩ := Option.map_eq_some_iff.mp hf
  exact h m H ah l xs z' Q r hv e fun p vs hp hvs => q.laid r hp (VR.newL r hp hvs)
theorem cbH_read {r : List V → Hp → VK → Prop} {f : AH → List AV → Option (List AV)} (hr : CallGL X r f) {σ : L2.St} {H : Hp} {Q : VK} (h : tG X W (gBLH f fr) σ H Q) : tCB r (tGA X W fr) σ H Q := by
  obtain ⟨m, env, ah, hE, hR, hp⟩ := h
  refine tGA_step hE hR hp (fun _ _ h => h) fun l ah1 m1 H1 xs e1 r1 v1 hp1 => ?_
  cases e : f ah1 l with
  | none => rw [e] at hp1; exact hp1.elim
  | some z =>
    rw [e] at hp1
    exact hr m1 H1 ah1 l xs z Q r1 v1 e fun p vs hp hvs => PQ.newH (PQ.mono e1 hp1) r1 hvs hp
theorem ge_callTH {T : String} {r : List V → Hp → VK → Prop} {f : AH → List AV → Option (List AV)} (hc : CallR X (.type T) r) (hr : CallGL X r f) (hg : Gl X x) (hm : X.mg x = none) (hv : bootBuiltins x = some (.type T)) (ha : PA X (e :: es) (tGA X W fr)) (hn : x ≠ "__name__" := by decide) (hdb : (x == ("__debug__" : Str)) = false := by decide)
    (he : starEach (e :: es) X.env = (false, eval e X.env) :: starEach es X.env := by rfl) (hpl : (backTo pos (starEach es X.env)).any (·.1) = false := by rfl) : PE X (.Call (.Name x p) (e :: es) [] pos) (tG X W (gBLH f fr)) :=
  PE.weak (pe_callTy hc hg hm hv ha hn hdb he hpl) fun _ _ _ h => cbH_read hr h
theorem lis_g (hc : X.calm = true) : ∃ r, CallR X (.type "list") r ∧ CallGL X r lisO := by
  refine ⟨_, call_list_of.or (call_listRd hc), ?_⟩
  intro m H ah l xs z Q r hv hf q
  unfold lisO at hf
  split at hf
  · obtain ⟨x, rfl, hx⟩ := hv.one
    split at hf
    · obtain ⟨a, vs, rfl, h1, h2⟩ := VR.tupl r hx (by assumption)
      cases hf
      exact .inl ⟨a, vs, rfl, .inr h1, fun p hp => q p vs hp h2⟩
    · obtain ⟨a, vs, rfl, h1, h2⟩ := VR.list r hx (by assumption)
      cases hf
      exact .inl ⟨a, vs, rfl, .inl (SqL.of h1), fun p hp => q p vs hp h2⟩
    · obtain ⟨a, vs, rfl, h1, h2⟩ := VR.flst r hx (by assumption)
      cases hf
      exact .inl ⟨a, vs, rfl, .inl h1, fun p hp => q p vs hp h2⟩
    · obtain ⟨a, kvs, rfl, h1, h2⟩ := VR.dict r hx (by assumption)
      cases hf
      exact .inr ⟨a, kvs, rfl, h1, fun p hp => q p _ hp h2.keys⟩
    · cases hf
  · cases hf
def blsA : List AV → Option (List Bool)
  | [] => some []
  | .bl b :: l => (blsA l).map (b :: ·)
  | _ :: _ => none
theorem bls_vs {K : PySem.W.Frag} {m : MM} {H : Hp} : ∀ {l : List AV} {xs : List V} {bs : List Bool}, VRs K m H l xs → blsA l = some bs → xs = bs.map V.bl
  | _, _, _, .nil, h => by cases h; rfl
  | _, _, bs, .cons (v := v) (l := l) h r, e => by
    cases v <;> first | cases e | skip
    rename_i b
    have e : (blsA l).map (b :: ·) = some bs := e
    obtain ⟨bs', e1, rfl⟩ := Option.map_eq_some_iff.mp e
    cases h
    rw [bls_vs r e1]; rfl
def allO : OL := fun ah l => match l with
  | [v] => match dr ah v with
    | .lst l => (blsA l).map fun bs => .bl (bs.all id)
    | _ => none
  | _ => none
def anyO : OL := fun ah l => match l with
  | [v] => match dr ah v with
    | .lst l => (blsA l).map fun bs => .bl (bs.any id)
    | _ => none
  | _ => none
theorem all_g (hc : X.calm = true) : ∃ r, CallR X (.builtin "all") r ∧ CallG X r allO := by
  refine ⟨_, cr_all hc, ?_⟩
  intro m H ah l xs z Q r hv hf q
  unfold allO at hf
  split at hf
  · obtain ⟨x, rfl, hx⟩ := hv.one
    split at hf
    · obtain ⟨a, vs, rfl, h1, h2⟩ := VR.list r hx (by assumption)
      obtain ⟨bs, e1, rfl⟩ := Option.map_eq_some_iff.mp hf
      have := bls_vs h2 e1
      subst this
      exact ⟨a, bs, rfl, SqL.of h1, q.here r (.bl _)⟩
    · cases hf
  · cases hf
theorem any_g (hc : X.calm = true) : ∃ r, CallR X (.builtin "any") r ∧ CallG X r anyO := by
  refine ⟨_, cr_any hc, ?_⟩
  intro m H ah l xs z Q r hv hf q
  unfold anyO at hf
  split at hf
  · obtain ⟨x, rfl, hx⟩ := hv.one
    split at hf
    · obtain ⟨a, vs, rfl, h1, h2⟩ := VR.list r hx (by assumption)
      obtain ⟨bs, e1, rfl⟩ := Option.map_eq_some_iff.mp hf
      have := bls_vs h2 e1
      subst this
      exact ⟨a, bs, rfl, SqL.of h1, q.here r (.bl _)⟩
    · cases hf
  · cases hf
end
end G
namespace G
open PySem PySem.Spec PyProof.Rows L2
set_option autoImplicit false

def okKey : AK → Bool
  | .inl i => decide (i.natAbs.log2 < 1920)
  | .inr s => s.all (· < 0x110000)
def lenKey : AK → Nat
  | .inl i => i.natAbs.log2 + 2
  | .inr s => 10 * s.length + 2
/-- what repr takes: lists and no dicts; dicts and no lists; both, but no lists within dicts -/
inductive Md where
  | l | d | m
def Md.lst : Md → Bool
  | .d => false
  | _ => true
def Md.dk : Md → Bool
  | .l => false
  | _ => true
mutual
def okR (c : Md) : AV → Bool
  | .non => true
  | .bl _ => true
  | .int i => decide (i.natAbs.log2 < 1920)
  | .str s => s.all (· < 0x110000)
  | .tup l => okRs c l
  | .lst l => c.lst && okRs c l
  | .dk l => c.dk && okRk l
  | .fl _ => false
  | .ref _ => false
def okRs (c : Md) : List AV → Bool
  | [] => true
  | x :: xs => okR c x && okRs c xs
def okRk : List (AK × AV) → Bool
  | [] => true
  | (k, v) :: r => okKey k && okR .d v && okRk r
end
mutual
theorem okR_m (c : Md) : ∀ v : AV, okR c v = true → okR .m v = true
  | .non, _ => rfl
  | .bl _, _ => rfl
  | .int _, h => h
  | .str _, h => h
  | .tup l, h => okRs_m c l h
  | .lst l, h => by
    rw [okR, Bool.and_eq_true] at h
    rw [okR, okRs_m c l h.2]; rfl
  | .dk l, h => by
    rw [okR, Bool.and_eq_true] at h
    rw [okR, h.2]; rfl
theorem okRs_m (c : Md) : ∀ l : List AV, okRs c l = true → okRs .m l = true
  | [], _ => rfl
  | x :: xs, h => by
    rw [okRs, Bool.and_eq_true] at h
    rw [okRs, okR_m c x h.1, okRs_m c xs h.2]; rfl
end
mutual
def lenR : AV → Nat
  | .non => 4
  | .bl _ => 5
  | .int i => i.natAbs.log2 + 2
  | .str s => 10 * s.length + 2
  | .tup l => lenRs l + 3
  | .lst l => lenRs l + 3
  | .dk l => lenRk l + 3
  | .fl _ => 0
  | .ref _ => 0
def lenRs : List AV → Nat
  | [] => 0
  | x :: xs => lenR x + 2 + lenRs xs
def lenRk : List (AK × AV) → Nat
  | [] => 0
  | (k, v) :: r => lenKey k + 2 + lenR v + 2 + lenRk r
end
mutual
def depR : AV → Nat
  | .tup l => depRs l + 1
  | .lst l => depRs l + 1
  | .dk l => depRk l + 1
  | _ => 0
def depRs : List AV → Nat
  | [] => 0
  | x :: xs => max (depR x) (depRs xs)
def depRk : List (AK × AV) → Nat
  | [] => 0
  | (_, v) :: r => max (depR v) (depRk r)
end
theorem shown_int_len (i : Int) (h : i.natAbs.log2 < 1920) : (PyData.shown (.int i)).length ≤ i.natAbs.log2 + 2 := by
  show (Str.ofString (toString i)).length ≤ _
  rw [PySem.ofString_length]
  have := int_text_length_le (a := i) (k := i.natAbs.log2 + 1) (by omega) (by omega)
  omega
theorem shown_str_len (s : List Nat) (h : s.all (· < 0x110000) = true) : (PyData.shown (.str (mkS s))).length ≤ 10 * s.length + 2 := by
  have := PySem.StrLaws.reprText_len (mkS s) (fun c hc => by
    rw [mkS_list] at hc
    have := List.all_eq_true.mp h c hc
    have : c < 0x110000 := by simpa using this
    exact Nat.lt_trans this (by decide))
  rw [mkS_length] at this
  exact this
mutual
theorem shown_len : ∀ (c : Md) (v : AV), okR c v = true → (toD v).shown.length ≤ lenR v
  | _, .non, _ => by decide
  | _, .bl b, _ => by cases b <;> decide
  | _, .int i, h => shown_int_len i (of_decide_eq_true h)
  | _, .str s, h => shown_str_len s h
  | c, .tup l, h => by
    have e := shown_lens c l h
    have e2 := tupleText_len_le (PyData.shownAll (toDs l))
    show (tupleText (PyData.shownAll (toDs l))).length ≤ lenRs l + 3
    have e3 : (PyData.shownAll (toDs l)).length = l.length := shownAll_len l
    omega
  | c, .lst l, h => by
    rw [okR, Bool.and_eq_true] at h
    have e := shown_lens c l h.2
    have e2 := listText_len_le (PyData.shownAll (toDs l))
    show (listText (PyData.shownAll (toDs l))).length ≤ lenRs l + 3
    have e3 : (PyData.shownAll (toDs l)).length = l.length := shownAll_len l
    omega
  | c, .dk l, h => by
    rw [okR, Bool.and_eq_true] at h
    have e := shown_lenk l h.2
    have e2 := dictText_len_le (PyData.shownKv (toDk l))
    show (dictText (PyData.shownKv (toDk l))).length ≤ lenRk l + 3
    have e3 : (PyData.shownKv (toDk l)).length = l.length := shownKv_len l
    omega
theorem shown_lens : ∀ (c : Md) (l : List AV), okRs c l = true → ((PyData.shownAll (toDs l)).map (·.length)).sum + 2 * l.length ≤ lenRs l
  | _, [], _ => by decide
  | c, x :: xs, h => by
    rw [okRs, Bool.and_eq_true] at h
    have e1 := shown_len c x h.1
    have e2 := shown_lens c xs h.2
    show ((toD x).shown.length :: (PyData.shownAll (toDs xs)).map (·.length)).sum + 2 * (xs.length + 1) ≤ lenR x + 2 + lenRs xs
    rw [List.sum_cons]
    omega
theorem shown_lenk : ∀ l : List (AK × AV), okRk l = true → ((PyData.shownKv (toDk l)).map (·.length)).sum + 2 * l.length ≤ lenRk l
  | [], _ => by decide
  | (k, v) :: xs, h => by
    rw [okRk, Bool.and_eq_true, Bool.and_eq_true] at h
    have e1 := shown_len .d v h.1.2
    have e2 := shown_lenk xs h.2
    have e3 : (PyData.shown (keyD k)).length ≤ lenKey k := by
      cases k with
      | inl i => exact shown_int_len i (of_decide_eq_true h.1.1)
      | inr s => exact shown_str_len s h.1.1
    show ((PyData.shown (keyD k) ++ ": " ++ (toD v).shown).length :: (PyData.shownKv (toDk xs)).map (·.length)).sum + 2 * (xs.length + 1) ≤
      lenKey k + 2 + lenR v + 2 + lenRk xs
    rw [List.sum_cons, strLen_append, strLen_append]
    have e4 : (": " : Str).length = 2 := by decide +kernel
    rw [e4]
    omega
theorem shownAll_len : ∀ l : List AV, (PyData.shownAll (toDs l)).length = l.length
  | [] => rfl
  | x :: xs => by show (PyData.shownAll (toDs xs)).length + 1 = xs.length + 1; rw [shownAll_len xs]
theorem shownKv_len : ∀ l : List (AK × AV), (PyData.shownKv (toDk l)).length = l.length
  | [] => rfl
  | (k, v) :: xs => by show (PyData.shownKv (toDk xs)).length + 1 = xs.length + 1; rw [shownKv_len xs]
end
mutual
theorem showable_of : ∀ (c : Md) (v : AV), okR c v = true → (toD v).showable = true
  | _, .non, _ => rfl
  | _, .bl b, _ => rfl
  | _, .int i, h => h
  | _, .str s, h => rfl
  | c, .tup l, h => showables_of c l h
  | c, .lst l, h => by
    rw [okR, Bool.and_eq_true] at h
    exact showables_of c l h.2
  | c, .dk l, h => by
    rw [okR, Bool.and_eq_true] at h
    exact showablek_of l h.2
theorem showables_of : ∀ (c : Md) (v : List AV), okRs c v = true → PyData.showableAll (toDs v) = true
  | _, [], _ => rfl
  | c, x :: xs, h => by
    rw [okRs, Bool.and_eq_true] at h
    show (_ && _) = true
    rw [showable_of c x h.1, showables_of c xs h.2]; rfl
theorem showablek_of : ∀ v : List (AK × AV), okRk v = true → PyData.showableKv (toDk v) = true
  | [], _ => rfl
  | (k, v) :: xs, h => by
    rw [okRk, Bool.and_eq_true, Bool.and_eq_true] at h
    show (_ && _ && _) = true
    rw [showable_of .d v h.1.2, showablek_of xs h.2]
    cases k with
    | inl i => show (decide _ && true && true) = true; have h3 : decide (i.natAbs.log2 < 1920) = true := h.1.1; rw [h3]; rfl
    | inr s => rfl
end
mutual
theorem dep_of : ∀ (c : Md) (v : AV), okR c v = true → (toD v).depth = depR v
  | _, .non, _ => rfl
  | _, .bl b, _ => rfl
  | _, .int i, h => rfl
  | _, .str s, h => rfl
  | c, .tup l, h => by show _ + 1 = _ + 1; rw [deps_of c l h]
  | c, .lst l, h => by
    rw [okR, Bool.and_eq_true] at h
    show _ + 1 = _ + 1
    rw [deps_of c l h.2]
  | c, .dk l, h => by
    rw [okR, Bool.and_eq_true] at h
    show _ + 1 = _ + 1
    rw [depk_of l h.2]
theorem deps_of : ∀ (c : Md) (v : List AV), okRs c v = true → PyData.depthAll (toDs v) = depRs v
  | _, [], _ => rfl
  | c, x :: xs, h => by
    rw [okRs, Bool.and_eq_true] at h
    show max _ _ = max _ _
    rw [dep_of c x h.1, deps_of c xs h.2]
theorem depk_of : ∀ v : List (AK × AV), okRk v = true → PyData.depthKv (toDk v) = depRk v
  | [], _ => rfl
  | (k, v) :: xs, h => by
    rw [okRk, Bool.and_eq_true, Bool.and_eq_true] at h
    show max (max _ _) _ = max _ _
    rw [dep_of .d v h.1.2, depk_of xs h.2]
    cases k <;> simp [keyD, PyData.depth]
end
section
variable {X : Cx} {pins : List (Addr × Obj)} {σ : L2.St} {H : Hp} {s : Shared} {m : MM}
mutual
theorem VR.reads (I : Inv X pins σ H s) : ∀ (c : Md) (v : AV) (x : V) (u : Value), VR X.K m H v x → RelV x u → okR c v = true → ∃ as, Reads s.heap u (toD v) as ∧ (c = .d → sysModules ∉ as)
  | _, .non, x, u, h, r, _ => by cases h; cases r; exact ⟨_, .none, fun _ z => nomatch z⟩
  | _, .bl b, x, u, h, r, _ => by cases h; cases r; exact ⟨_, .bool b, fun _ z => nomatch z⟩
  | _, .int i, x, u, h, r, _ => by cases h; obtain ⟨t, rfl⟩ := r; exact ⟨_, .int i t, fun _ z => nomatch z⟩
  | _, .str i, x, u, h, r, _ => by cases h; obtain ⟨t, rfl⟩ := r; exact ⟨_, .str _ t, fun _ z => nomatch z⟩
  | c, .tup l, x, u, h, r, ok => by
    cases h with
    | tup h1 h2 =>
      cases r
      obtain ⟨its, rv, ⟨o, ho, hc, n, hd⟩, _⟩ := I.tuple h1
      obtain ⟨as, q, q2⟩ := VRs.reads I c l _ its h2 rv ok
      exact ⟨_, .tuple ho hc hd q, q2⟩
  | c, .lst l, x, u, h, r, ok => by
    rw [okR, Bool.and_eq_true] at ok
    cases h with
    | lst h1 _ h2 =>
      cases r
      obtain ⟨its, rv, ⟨o, n, ho, hc, _, hd⟩, _⟩ := I.list (SqL.of h1)
      obtain ⟨as, q, q2⟩ := VRs.reads I c l _ its h2 rv ok.2
      refine ⟨_, .list ho hc hd q, fun e => ?_⟩
      subst e
      exact absurd ok.1 (by decide)
  | c, .dk l, x, u, h, r, ok => by
    rw [okR, Bool.and_eq_true] at ok
    cases h with
    | dk h1 h3 h2 =>
      cases r
      obtain ⟨_, hs, vs, rel, o, es, ep, e1, e2, e3, e4, e5, _⟩ := DKR.at I h1
      obtain ⟨as, bs, q1, q2, q3⟩ := VRk.reads I l _ vs es.toList h2 rel e5 ok.2
      refine ⟨_, .dict e1 e2.1 e3 q1 q2, fun e => ?_⟩
      intro z
      rcases List.mem_cons.mp (List.append_eq .. ▸ z) with z | z
      · rw [← z] at hs; simp at hs
      · exact q3 z
  | _, .fl l, _, _, _, _, ok => nomatch ok
  | _, .ref l, _, _, _, _, ok => nomatch ok
theorem VRs.reads (I : Inv X pins σ H s) : ∀ (c : Md) (l : List AV) (xs : List V) (us : List Value), VRs X.K m H l xs → Vals xs us → okRs c l = true → ∃ as, ReadsAll s.heap us (toDs l) as ∧ (c = .d → sysModules ∉ as)
  | _, [], xs, us, h, r, _ => by cases h; cases r; exact ⟨_, .nil, fun _ z => nomatch z⟩
  | c, v :: l, xs, us, h, r, ok => by
    rw [okRs, Bool.and_eq_true] at ok
    cases h with
    | cons h1 h2 =>
      cases r with
      | cons r1 r2 =>
        obtain ⟨as, q1, q2⟩ := VR.reads I c v _ _ h1 r1 ok.1
        obtain ⟨bs, p1, p2⟩ := VRs.reads I c l _ _ h2 r2 ok.2
        exact ⟨_, .cons q1 p1, fun e z => (List.mem_append.mp z).elim (q2 e) (p2 e)⟩
theorem VRk.reads (I : Inv X pins σ H s) : ∀ (l : List (AK × AV)) (kvs : List (Key × V)) (vs : List (Key × Value)) (es : List DictEntry), VRk X.K m H l kvs → KV kvs vs → Pairs (mixKind X.prog X.w) es vs → okRk l = true →
    ∃ as bs, ReadsAll s.heap (es.map (·.key)) ((toDk l).map (·.1)) as ∧ ReadsAll s.heap (es.map (·.val)) ((toDk l).map (·.2)) bs ∧ sysModules ∉ as ++ bs
  | [], kvs, vs, es, h, r, p, _ => by cases h; cases r; cases p; exact ⟨_, _, .nil, .nil, fun z => nomatch z⟩
  | (k, v) :: l, kvs, vs, es, h, r, p, ok => by
    rw [okRk, Bool.and_eq_true, Bool.and_eq_true] at ok
    cases h with
    | cons h1 h2 =>
      cases r with
      | cons r1 r2 =>
        cases p with
        | cons p1 p2 p3 =>
          obtain ⟨as, q1, q2⟩ := VR.reads I .d v _ _ h1 r1.2 ok.1.2
          obtain ⟨a2, b2, g1, g2, g3⟩ := VRk.reads I l _ _ _ h2 r2 p3 ok.2
          rename_i kv kvs' e es'
          have hk : ∃ w, Reads s.heap e.key (keyD k) w ∧ w = [] := by
            have p1 : keyIs kv.1 e.key = true := p1
            rw [← r1.1] at p1
            cases k with
            | inl i =>
              rcases keyIs_shape p1 with ⟨i', t, e1, e2⟩ | ⟨y, t, e1, e2⟩
              · cases e1; rw [e2]; exact ⟨_, .int _ t, rfl⟩
              · cases e1
            | inr z =>
              rcases keyIs_shape p1 with ⟨i', t, e1, e2⟩ | ⟨y, t, e1, e2⟩
              · cases e1
              · cases e1; rw [e2]; exact ⟨_, .str _ t, rfl⟩
          obtain ⟨w, hw, rfl⟩ := hk
          refine ⟨[] ++ a2, as ++ b2, .cons hw g1, .cons (show Reads s.heap e.val (toD v) as by rw [p2]; exact q1) g2, fun z => ?_⟩
          rcases List.mem_append.mp z with z | z
          · exact g3 (List.mem_append_left _ z)
          · rcases List.mem_append.mp z with z | z
            · exact q2 rfl z
            · exact g3 (List.mem_append_right _ z)
end
/-- what the machine shows -/
def Shw (P : Program) (w : World) (h : Heap) (u : Value) (d : PyData) : Prop := ∃ bs, ReadAtMost h d.depth bs ∧ ReprK P w bs h d.depth u d.shown
def Shws (P : Program) (w : World) (h : Heap) (us : List Value) (ds : List PyData) : Prop := ∃ bs, ReadAtMost h (PyData.depthAll ds) bs ∧ ReprAllK P w bs h (PyData.depthAll ds) us (PyData.shownAll ds)
theorem Shw.flat {P : Program} {w : World} {h : Heap} {u : Value} {d : PyData} {as : List Addr} (r : Reads h u d as) (hs : d.showable = true) (hd : d.hasDict = true → sysModules ∉ as) (hz : d.shown.length ≤ sizeLine) : Shw P w h u d :=
  PySem.ReprK.of_reads r hs hd hz
theorem Shw.tup {P : Program} {w : World} {h : Heap} {a : Addr} {o : Obj} {vs : Array Value} {n : Nat} {ds : List PyData} {as : List Addr} (h1 : h.get? a = some o) (h2 : o.cls = .type "tuple") (h3 : o.data = .seq vs n) (r : ReadsAll h vs.toList ds as) (q : Shws P w h vs.toList ds) :
    ∃ bs, ReadAtMost h (PyData.depthAll ds) bs ∧ a ∉ bs ∧ ReprAllK P w bs h (PyData.depthAll ds) vs.toList (PyData.shownAll ds) := by
  obtain ⟨bs, b1, b2⟩ := q
  refine ⟨bs, b1, ?_, b2⟩
  exact PySem.not_mem_of_deeper (.tuple h1 h2 h3 r) (show PyData.depthAll ds < PyData.depthAll ds + 1 by omega) b1
theorem Shw.lst {P : Program} {w : World} {h : Heap} {a : Addr} {o : Obj} {vs : Array Value} {n : Nat} {ds : List PyData} {as : List Addr} (h1 : h.get? a = some o) (h2 : o.cls = .type "list") (h3 : o.data = .seq vs n) (r : ReadsAll h vs.toList ds as) (q : Shws P w h vs.toList ds) :
    ∃ bs, ReadAtMost h (PyData.depthAll ds) bs ∧ a ∉ bs ∧ ReprAllK P w bs h (PyData.depthAll ds) vs.toList (PyData.shownAll ds) := by
  obtain ⟨bs, b1, b2⟩ := q
  refine ⟨bs, b1, ?_, b2⟩
  exact PySem.not_mem_of_deeper (.list h1 h2 h3 r) (show PyData.depthAll ds < PyData.depthAll ds + 1 by omega) b1
theorem lenR_mem {l : List AV} {v : AV} (h : v ∈ l) : lenR v ≤ lenRs l := by
  induction l with
  | nil => cases h
  | cons w l ih =>
    rw [lenRs]
    rcases List.mem_cons.mp h with rfl | h
    · omega
    · have := ih h; omega
mutual
theorem VR.shw (I : Inv X pins σ H s) : ∀ (c : Md) (v : AV) (x : V) (u : Value), VR X.K m H v x → RelV x u → okR c v = true → lenR v ≤ sizeLine → Shw X.prog X.w s.heap u (toD v)
  | c, .non, x, u, h, r, ok, hz => by
    obtain ⟨as, q, _⟩ := VR.reads I c _ x u h r ok
    exact Shw.flat q (showable_of c _ ok) (fun z => nomatch z) (Nat.le_trans (shown_len c _ ok) hz)
  | c, .bl b, x, u, h, r, ok, hz => by
    obtain ⟨as, q, _⟩ := VR.reads I c _ x u h r ok
    exact Shw.flat q (showable_of c _ ok) (fun z => nomatch z) (Nat.le_trans (shown_len c _ ok) hz)
  | c, .int b, x, u, h, r, ok, hz => by
    obtain ⟨as, q, _⟩ := VR.reads I c _ x u h r ok
    exact Shw.flat q (showable_of c _ ok) (fun z => nomatch z) (Nat.le_trans (shown_len c _ ok) hz)
  | c, .str b, x, u, h, r, ok, hz => by
    obtain ⟨as, q, _⟩ := VR.reads I c _ x u h r ok
    exact Shw.flat q (showable_of c _ ok) (fun z => nomatch z) (Nat.le_trans (shown_len c _ ok) hz)
  | c, .tup l, x, u, h, r, ok, hz => by
    rw [lenR] at hz
    cases h with
    | tup h1 h2 =>
      cases r
      obtain ⟨its, rv, ⟨o, ho, hc, n, hd⟩, _⟩ := I.tuple h1
      obtain ⟨as, q, _⟩ := VRs.reads I c l _ its h2 rv ok
      obtain ⟨bs, b1, b2, b3⟩ := Shw.tup (P := X.prog) (w := X.w) ho hc hd q (VRs.shw I c l _ its h2 rv ok (by omega))
      exact ⟨_, ReadAtMost.cons (.tuple ho hc hd q) (show PyData.depthAll (toDs l) ≤ PyData.depthAll (toDs l) + 1 by omega) b1, PySem.ReprK.tuple ho hc hd b2 b3⟩
  | c, .lst l, x, u, h, r, ok, hz => by
    rw [lenR] at hz
    rw [okR, Bool.and_eq_true] at ok
    cases h with
    | lst h1 _ h2 =>
      cases r
      obtain ⟨its, rv, ⟨o, n, ho, hc, _, hd⟩, _⟩ := I.list (SqL.of h1)
      obtain ⟨as, q, _⟩ := VRs.reads I c l _ its h2 rv ok.2
      obtain ⟨bs, b1, b2, b3⟩ := Shw.lst (P := X.prog) (w := X.w) ho hc hd q (VRs.shw I c l _ its h2 rv ok.2 (by omega))
      refine ⟨_, ReadAtMost.cons (.list ho hc hd q) (show PyData.depthAll (toDs l) ≤ PyData.depthAll (toDs l) + 1 by omega) b1, ?_⟩
      cases its with
      | nil =>
        cases l with
        | cons _ _ => cases rv; cases h2
        | nil =>
          show PySem.ReprK _ _ _ _ _ _ (listText [])
          rw [PySem.listText_nil]
          exact PySem.ReprK.listEmpty ho hc hd
      | cons y l' => exact PySem.ReprK.list ho hc hd b2 (by simpa using b3.length_eq) (fun i y e => b3.item i y (by simpa using e))
  | c, .dk l, x, u, h, r, ok, hz => by
    rw [okR, Bool.and_eq_true] at ok
    have ok' : okR .d (.dk l) = true := by rw [okR, ok.2]; rfl
    obtain ⟨as, q, q2⟩ := VR.reads I .d _ x u h r ok'
    exact Shw.flat q (showable_of .d _ ok') (fun _ => q2 rfl) (Nat.le_trans (shown_len .d _ ok') hz)
  | _, .fl l, _, _, _, _, ok, _ => nomatch ok
  | _, .ref l, _, _, _, _, ok, _ => nomatch ok
theorem VRs.shw (I : Inv X pins σ H s) : ∀ (c : Md) (l : List AV) (xs : List V) (us : List Value), VRs X.K m H l xs → Vals xs us → okRs c l = true → lenRs l ≤ sizeLine → Shws X.prog X.w s.heap us (toDs l)
  | _, [], xs, us, h, r, _, _ => by cases h; cases r; exact ⟨[], (fun _ h => nomatch h), .nil⟩
  | c, v :: l, xs, us, h, r, ok, hz => by
    rw [okRs, Bool.and_eq_true] at ok
    rw [lenRs] at hz
    cases h with
    | cons h1 h2 =>
      cases r with
      | cons r1 r2 =>
        obtain ⟨b1, q1, k1⟩ := VR.shw I c v _ _ h1 r1 ok.1 (by omega)
        obtain ⟨b2, q2, k2⟩ := VRs.shw I c l _ _ h2 r2 ok.2 (by omega)
        refine ⟨b1 ++ b2, (q1.mono (Nat.le_max_left _ _)).append (q2.mono (Nat.le_max_right _ _)), ?_⟩
        exact .cons ((k1.more fun b hb => List.mem_append_left _ hb).level_le (Nat.le_max_left _ _)) (k2.more_le (fun b hb => List.mem_append_right _ hb) (Nat.le_max_right _ _))
end
theorem shows_top (I : Inv X pins σ H s) (c : Md) {v : AV} {x : V} {a : Addr} (h : VR X.K m H v x) (r : RelV x (.ref a)) (ok : okR c v = true) (hz : lenR v ≤ sizeLine) : ∃ T idr, ShowsBy X.prog X.w s.heap a (toD v) T idr := by
  have hz' := Nat.le_trans (shown_len c _ ok) hz
  cases h with
  | non => cases r
  | bl b => cases r
  | int b => obtain ⟨t, r⟩ := r; cases r
  | str b => obtain ⟨t, r⟩ := r; cases r
  | tup h1 h2 =>
    rename_i l vs
    rw [lenR] at hz
    cases r
    obtain ⟨its, rv, ⟨o, ho, hc, n, hd⟩, _⟩ := I.tuple h1
    obtain ⟨as, q, _⟩ := VRs.reads I c l _ its h2 rv ok
    obtain ⟨bs, b1, b2, b3⟩ := Shw.tup (P := X.prog) (w := X.w) ho hc hd q (VRs.shw I c l _ its h2 rv ok (by omega))
    refine ⟨"tuple", "tuple.__repr__", F.slot_tuple_repr, F.slot_tuple_str, F.slot_tuple_format, fun s2 hk => ⟨o, hk _ _ ho, hc⟩, fun A E s2 Q hg hu hk hQ => ?_⟩
    exact call_tuple_reprK ho hc hd b2 b3 hg (fun b _ => Clear.nil b) hu hk hQ hz'
  | lst h1 h3 h2 =>
    rename_i l vs
    rw [lenR] at hz
    rw [okR, Bool.and_eq_true] at ok
    cases r
    obtain ⟨its, rv, ⟨o, n, ho, hc, _, hd⟩, _⟩ := I.list (SqL.of h1)
    obtain ⟨as, q, _⟩ := VRs.reads I c l _ its h2 rv ok.2
    obtain ⟨bs, b1, b2, b3⟩ := Shw.lst (P := X.prog) (w := X.w) ho hc hd q (VRs.shw I c l _ its h2 rv ok.2 (by omega))
    refine ⟨"list", "list.__repr__", F.slot_list_repr.toG, F.slot_list_str, F.slot_list_format, fun s2 hk => ⟨o, hk _ _ ho, hc⟩, fun A E s2 Q hg hu hk hQ => ?_⟩
    cases its with
    | nil =>
      cases l with
      | cons _ _ => cases rv; cases h2
      | nil =>
        have hQ' := hQ s2.heap
        rw [show (toD (.lst [])).shown = "[]" from PySem.listText_nil] at hQ'
        exact call_list_repr_empty ⟨o, hk _ _ ho, hc⟩ (hk _ _ ho) hd (hQ' _ _ fun _ _ e => e)
    | cons y l' => exact call_list_reprK ho hc hd b2 (by simpa using b3.length_eq) (fun i y e => b3.item i y (by simpa using e)) hg (fun b _ => Clear.nil b) hu hk hQ hz'
  | dk h1 h3 h2 =>
    rename_i l kvs
    have ok2 := ok
    rw [okR, Bool.and_eq_true] at ok2
    have ok' : okR .d (.dk l) = true := by rw [okR, ok2.2]; rfl
    cases r
    obtain ⟨as, q, q2⟩ := VR.reads I .d (.dk l) _ _ (.dk h1 h3 h2) (show RelV (.ref a) (.ref a) from rfl) ok'
    exact showsBy_of_reads q (showable_of .d _ ok') (fun _ => q2 rfl) hz'
  | fl h1 h2 => exact nomatch ok
  | ref h1 => exact nomatch ok
end
section
variable {K : PySem.W.Frag} {m : MM} {H : Hp}
theorem nomem {a : Addr} : a ∉ (⟨[], []⟩ : MM) := fun z => z.elim (fun q => nomatch q) (fun q => nomatch q)
mutual
theorem VR.bare : ∀ (c : Md) (v : AV) (x : V), VR K m H v x → okR c v = true → VR K ⟨[], []⟩ H v x
  | _, .non, x, h, _ => by cases h; exact .non
  | _, .bl b, x, h, _ => by cases h; exact .bl b
  | _, .int b, x, h, _ => by cases h; exact .int b
  | _, .str b, x, h, _ => by cases h; exact .str b
  | c, .tup l, x, h, ok => by
    cases h with
    | tup h1 h2 => exact .tup h1 (VRs.bare c l _ h2 ok)
  | c, .lst l, x, h, ok => by
    rw [okR, Bool.and_eq_true] at ok
    cases h with
    | lst h1 _ h2 => exact .lst h1 nomem (VRs.bare c l _ h2 ok.2)
  | c, .dk l, x, h, ok => by
    rw [okR, Bool.and_eq_true] at ok
    cases h with
    | dk h1 _ h2 => exact .dk h1 nomem (VRk.bare l _ h2 ok.2)
  | _, .fl l, _, _, ok => nomatch ok
  | _, .ref l, _, _, ok => nomatch ok
theorem VRs.bare : ∀ (c : Md) (l : List AV) (x : List V), VRs K m H l x → okRs c l = true → VRs K ⟨[], []⟩ H l x
  | _, [], x, h, _ => by cases h; exact .nil
  | c, v :: l, x, h, ok => by
    rw [okRs, Bool.and_eq_true] at ok
    cases h with
    | cons h1 h2 => exact .cons (VR.bare c v _ h1 ok.1) (VRs.bare c l _ h2 ok.2)
theorem VRk.bare : ∀ (l : List (AK × AV)) (x : List (Key × V)), VRk K m H l x → okRk l = true → VRk K ⟨[], []⟩ H l x
  | [], x, h, _ => by cases h; exact .nil
  | (k, v) :: l, x, h, ok => by
    rw [okRk, Bool.and_eq_true, Bool.and_eq_true] at ok
    cases h with
    | cons h1 h2 => exact .cons (VR.bare .d v _ h1 ok.1.2) (VRk.bare l _ h2 ok.2)
end
/-- what is ours, seen as it is now -/
theorem VR.now {ah : AH} {v : AV} {x : V} {c : Md} (rel : Rel K m ah H) (h : VR K m H v x) (ok : okR c (dr ah v) = true) : VR K ⟨[], []⟩ H (dr ah v) x := by
  cases h with
  | ref hm =>
    obtain ⟨o, ho, q⟩ := rel.at hm
    rw [dr_ref ho] at ok ⊢
    cases o with
    | lst l =>
      obtain ⟨vs, h1, h2⟩ := q
      have ok : okR c (.lst l) = true := ok
      rw [okR, Bool.and_eq_true] at ok
      exact .lst h1 nomem (VRs.bare c l _ h2 ok.2)
    | dk l =>
      obtain ⟨vs, h1, h2⟩ := q
      have ok : okR c (.dk l) = true := ok
      rw [okR, Bool.and_eq_true] at ok
      exact .dk (.inl h1) nomem (VRk.bare l _ h2 ok.2)
  | non => exact .non
  | bl b => exact .bl b
  | int b => exact .int b
  | str b => exact .str b
  | tup h1 h2 => exact VR.bare c _ _ (.tup h1 h2) ok
  | lst h1 h2 h3 => exact VR.bare c _ _ (.lst h1 h2 h3) ok
  | dk h1 h2 h3 => exact VR.bare c _ _ (.dk h1 h2 h3) ok
  | fl h1 h2 => exact nomatch ok
end
def repA (v : AV) : List Nat := (toD v).shown.cps.toList
def repOk (v : AV) : Bool := okR .m v && decide (lenR v ≤ 16000000) && decide (depR v ≤ 150)
def repO : OL := fun ah l => match l with
  | [v] => if repOk (dr ah v) then some (.str (repA (dr ah v))) else none
  | _ => none
section
variable {X : Cx}
def rRep (K : PySem.W.Frag) : List V → Hp → VK → Prop := fun xs H Q => ∃ m ah v x, xs = [x] ∧ Rel K m ah H ∧ VR K m H v x ∧ repOk (dr ah v) = true ∧ Q (.str (mkS (repA (dr ah v)))) H
theorem call_rep {k : Nat} (hr : Room k X.A) (hg : X.A.guards = some []) : CallR X (.builtin "repr") (rRep X.K) := by
  intro pins s σ H xs us Q I r h
  obtain ⟨m, ah, v, x, rfl, rel, hv, ok, q⟩ := h
  obtain ⟨u, rfl, ru⟩ := vals1 r
  unfold repOk at ok
  rw [Bool.and_eq_true, Bool.and_eq_true] at ok
  obtain ⟨⟨ok, hl⟩, hd⟩ := ok
  have hl := of_decide_eq_true hl
  have hd := of_decide_eq_true hd
  have h16 : sizeLine = 16777216 := sizeLine_eq
  have sl := shown_len .m _ ok
  have e : mkS (repA (dr ah v)) = (toD (dr ah v)).shown := by
    show (⟨(toD (dr ah v)).shown.cps.toList.toArray⟩ : Str) = _
    rw [Array.toArray_toList]
  rw [e] at q
  have now := VR.now rel hv ok
  have fin : ∀ (h' : Heap) (tu : Tok) (tk : Nat), (∀ b o, s.heap.get? b = some o → h'.get? b = some o) → EP X pins σ Q (.str (toD (dr ah v)).shown tu) { s with heap := h', toks := tk } := fun h' tu tk k =>
    ⟨.str _, H, I.kept (t' := tk) k, ⟨_, rfl⟩, q⟩
  have hu := hr.un
  cases u with
  | ref a =>
    obtain ⟨T, idr, S⟩ := shows_top I .m now ru ok (by omega)
    refine call_repr_slot (by omega) (S.typeIs s fun _ _ z => z) S.slotRepr (S.call X.A.in1 _ s _ hg ?_ (fun _ _ z => z) fun h' u tk hk => ⟨_, _, rfl, fin h' u tk hk⟩)
    rw [dep_of .m _ ok]
    show X.A.units + 1 + _ < cLine
    omega
  | none => obtain ⟨as, rd, _⟩ := VR.reads I .m _ _ _ now ru ok; generalize hD : toD (dr ah v) = D at *; cases rd; exact P.repr_of_none (fin s.heap _ _ fun _ _ z => z)
  | bool b => obtain ⟨as, rd, _⟩ := VR.reads I .m _ _ _ now ru ok; generalize hD : toD (dr ah v) = D at *; cases rd; refine P.repr_of_bool ?_; have := fin s.heap s.toks (s.toks + 1) fun _ _ z => z; cases b <;> exact this
  | int i t => obtain ⟨as, rd, _⟩ := VR.reads I .m _ _ _ now ru ok; generalize hD : toD (dr ah v) = D at *; cases rd; exact P.repr_of_int (by
      have := showable_of .m _ ok
      rw [hD] at this
      exact of_decide_eq_true this) (fin s.heap _ _ fun _ _ z => z)
  | str y t => obtain ⟨as, rd, _⟩ := VR.reads I .m _ _ _ now ru ok; generalize hD : toD (dr ah v) = D at *; cases rd; exact P.repr_of_str (fin s.heap _ _ fun _ _ z => z) (by
      have : (PyData.shown (.str y)).length ≤ sizeLine := by omega
      exact this)
  | _ => obtain ⟨as, rd, _⟩ := VR.reads I .m _ _ _ now ru ok; nomatch rd
theorem rep_g {k : Nat} (hr : Room k X.A) (hg : X.A.guards = some []) : ∃ r, CallR X (.builtin "repr") r ∧ CallG X r repO := by
  refine ⟨_, call_rep hr hg, ?_⟩
  intro m H ah l xs z Q r hv hf q
  unfold repO at hf
  split at hf
  · obtain ⟨x, rfl, hx⟩ := hv.one
    split at hf
    · rename_i ok
      cases hf
      exact ⟨m, ah, _, x, rfl, r, hx, ok, q.here r (.str _)⟩
    · cases hf
  · cases hf
end
end G
namespace G
open PySem PySem.Spec PyProof.Rows L2
set_option autoImplicit false

abbrev GG := Env → AV → Option Env
abbrev GGs := Env → List AV → Option Env
/-- the places that are stored: is -/
def tGG (K : PySem.W.Frag) (is : List Nat) (h : GG) : TG := fun x σ H Q => ∃ m env v env', EnvR K m H env σ ∧ VR K m H v x ∧ h env v = some env' ∧ ∀ σ', EnvR K m H env' σ' → (∀ vs, (∀ i ∈ is, i ∈ vs) → L2.wipe σ' vs = L2.wipe σ vs) → Q σ' H
def tGGs (K : PySem.W.Frag) (is : List Nat) (h : GGs) : TGs := fun xs σ H Q => ∃ m env l env', EnvR K m H env σ ∧ VRs K m H l xs ∧ h env l = some env' ∧ ∀ σ', EnvR K m H env' σ' → (∀ vs, (∀ i ∈ is, i ∈ vs) → L2.wipe σ' vs = L2.wipe σ vs) → Q σ' H
def gNm (i : Nat) : GG := fun env v => some (env.set i (some v))
def gTg (n : Nat) (h : GGs) : GG := fun env v => match v with
  | .tup l => if l.length = n then h env l else none
  | _ => none
def gTn : GGs := fun env l => match l with
  | [] => some env
  | _ :: _ => none
def gTc (h : GG) (hs : GGs) : GGs := fun env l => match l with
  | v :: r => match h env v with
    | some env1 => hs env1 r
    | none => none
  | [] => none
theorem wipe_get {σ : L2.St} {j : Nat} : ∀ {vs : List Nat}, j ∈ vs → (L2.wipe σ vs)[j]? = if j < σ.length then some none else none
  | [], h => by cases h
  | v :: vs, h => by
    unfold L2.wipe
    by_cases e : v = j
    · subst e
      by_cases hl : v < σ.length
      · rw [List.getElem?_set_self (by rw [L2.wipe_length]; exact hl), if_pos hl]
      · rw [List.getElem?_eq_none (by rw [List.length_set, L2.wipe_length]; omega), if_neg hl]
    · rw [List.getElem?_set_ne e]
      rcases List.mem_cons.mp h with q | q
      · exact absurd q.symm e
      · exact wipe_get q
theorem wipe_getO {σ : L2.St} {j : Nat} : ∀ {vs : List Nat}, j ∉ vs → (L2.wipe σ vs)[j]? = σ[j]? := fun h => L2.wipe_out h
theorem wipe_set {σ : L2.St} {i : Nat} {x : Option V} {vs : List Nat} (h : i ∈ vs) : L2.wipe (σ.set i x) vs = L2.wipe σ vs := by
  apply List.ext_getElem?
  intro j
  by_cases hj : j ∈ vs
  · rw [wipe_get hj, wipe_get hj, List.length_set]
  · rw [wipe_getO hj, wipe_getO hj, List.getElem?_set_ne (fun e => hj (by rw [← e]; exact h))]
theorem wipe_wipe {σ : L2.St} (vs : List Nat) : L2.wipe (L2.wipe σ vs) vs = L2.wipe σ vs := by
  apply List.ext_getElem?
  intro j
  by_cases hj : j ∈ vs
  · rw [wipe_get hj, wipe_get hj, L2.wipe_length]
  · rw [wipe_getO hj]
section
variable {X : Cx} {W : WX} {tg : Expr} {tgs : List Expr} {pos : Pos}
theorem PG.weak {t t' : TG} (h : PG X tg t) (w : ∀ x σ H Q, t' x σ H Q → t x σ H Q) : PG X tg t' := ⟨fun pins s σ H v u Q I r q => h.run pins s σ H v u Q I r (w _ _ _ _ q)⟩
theorem PGs.weak {t t' : TGs} (h : PGs X tgs t) (w : ∀ x σ H Q, t' x σ H Q → t x σ H Q) : PGs X tgs t' := ⟨fun pins s σ H v u Q I r q => h.run pins s σ H v u Q I r (w _ _ _ _ q)⟩
theorem gg_name {i : Nat} {x : Str} (hN : X.N.Nodup) (hi : X.N[i]? = some x) (hx : Loc X.env.scope x) (hf : X.fn x = true ∨ X.env.scope.names.lookup x = some .local := by first | exact .inl rfl | exact .inr rfl) : PG X (.Name x pos) (tGG X.K [i] (gNm i)) :=
  PG.weak (pg_name hN hi hx hf) fun x σ H Q h => by
    obtain ⟨m, env, v, env', hE, hv, e, q⟩ := h
    cases e
    exact q _ (hE.set i hv) fun vs hvs => wipe_set (hvs i (by simp))
theorem gg_nil {is : List Nat} : PGs X [] (tGGs X.K is gTn) :=
  PGs.weak pgs_nil fun xs σ H Q h => by
    obtain ⟨m, env, l, env', hE, hv, e, q⟩ := h
    cases hv with
    | nil => cases e; exact ⟨rfl, q _ hE fun _ _ => rfl⟩
    | cons h r => cases e
theorem gg_cons {e : Expr} {es : List Expr} {is js : List Nat} {h : GG} {hs : GGs} (h1 : PG X e (tGG X.K is h)) (h2 : PGs X es (tGGs X.K js hs)) (hst : (assignEach (e :: es) X.env).map (·.2) = assign e X.env :: (assignEach es X.env).map (·.2) := by rfl) : PGs X (e :: es) (tGGs X.K (is ++ js) (gTc h hs)) :=
  PGs.weak (pgs_cons h1 h2 hst) fun xs σ H Q hh => by
    obtain ⟨m, env, l, env', hE, hv, e, q⟩ := hh
    cases hv with
    | nil => cases e
    | cons hx hr =>
      rename_i v l x xs
      have e : (match h env v with | some env1 => hs env1 l | none => none) = some env' := e
      cases e1 : h env v with
      | none => rw [e1] at e; cases e
      | some env1 =>
        rw [e1] at e
        refine ⟨x, xs, rfl, m, env, v, env1, hE, hx, e1, fun σ1 hE1 w1 => ⟨m, env1, l, env', hE1, hr, e, fun σ2 hE2 w2 => q σ2 hE2 fun vs hvs => ?_⟩⟩
        rw [w2 vs fun i hi => hvs i (List.mem_append_right _ hi), w1 vs fun i hi => hvs i (List.mem_append_left _ hi)]
theorem gg_tup {es : List Expr} {k : Nat} {n : Nat} {is : List Nat} {hs : GGs} (hc : X.calm = true) (h : PGs X es (tGGs X.K is hs))
    (hn : (assignEach es X.env).length = n := by rfl) (hst : (assignEach es X.env).findIdx? (·.1) = none := by rfl) : PG X (.Tuple es k pos) (tGG X.K is (gTg n hs)) :=
  PG.weak (pg_tup hc h hn hst) fun x σ H Q hh => by
    obtain ⟨m, env, v, env', hE, hv, e, q⟩ := hh
    cases hv with
    | tup h1 h2 =>
      rename_i a l vs
      have e : (if l.length = n then hs env l else none) = some env' := e
      split at e
      · rename_i hl
        exact ⟨a, vs, rfl, h1, by rw [← h2.length]; exact hl, m, env, l, env', hE, h2, e, q⟩
      · cases e
    | _ => cases e
end

abbrev Src := Option Nat × List AV
def ckS (src : Src) (ah : AH) : Prop := match src.1 with
  | none => True
  | some n => ah[n]? = some (.lst src.2)
@[simp] theorem ckS_none {l : List AV} {ah : AH} : ckS (none, l) ah = True := rfl
@[simp] theorem ckS_some {n : Nat} {l : List AV} {ah : AH} : ckS (some n, l) ah = (ah[n]? = some (.lst l)) := rfl
structure JG (K : PySem.W.Frag) (J : It) (m : MM) (H : Hp) (src : Src) : Prop where
  stop : ∀ m' H' ah', Ext m H m' H' → Rel K m' ah' H' → ckS src ah' → J.stop src.2.length H'
  go : ∀ m' H' ah' (i : Nat) (v : AV), Ext m H m' H' → Rel K m' ah' H' → ckS src ah' → src.2[i]? = some v → J.go i H'
  yld : ∀ m' H' ah' (i : Nat) (v : AV) x H'', Ext m H m' H' → Rel K m' ah' H' → ckS src ah' → src.2[i]? = some v → J.yld i H' x H'' → (∀ a o, H' a = some o → H'' a = some o) ∧ VR K m' H'' v x
abbrev GI := Env → AH → Res Src
def tGI (X : Cx) (W : WX) (f : GI) : TI := fun σ H R => ∃ m env ah, EnvR X.K m H env σ ∧ Rel X.K m ah H ∧ (f env ah).post (fun src ah1 => ∀ m1 H1 J, Ext m H m1 H1 → Rel X.K m1 ah1 H1 → JG X.K J m1 H1 src → R J H1) (PX X.K X.mg m H fun c d H' => W c d σ H')
section
variable {X : Cx} {W : WX} {tg iter a b : Expr} {fa fb : GE} {fr : GA} {pos p : Pos}
theorem PI.weak {t t' : TI} (h : PI X tg iter t) (w : ∀ σ H R, t' σ H R → t σ H R) : PI X tg iter t' := ⟨fun pins s σ H R I q => h.run pins s σ H R I (w _ _ _ q)⟩
theorem PI.or {t t' : TI} (h : PI X tg iter t) (h' : PI X tg iter t') : PI X tg iter (fun σ H R => t σ H R ∨ t' σ H R) := ⟨fun pins s σ H R I q => q.elim (h.run pins s σ H R I) (h'.run pins s σ H R I)⟩
def itA (ah : AH) (v : AV) : Option Src := match v with
  | .tup l => some (none, l)
  | .lst l => some (none, l)
  | .fl l => some (none, l)
  | .str s => some (none, s.map fun c => .str [c])
  | .dk l => some (none, l.map fun p => keyV p.1)
  | .ref n => match ah[n]? with
    | some (.lst l) => some (some n, l)
    | _ => none
  | _ => none
def gIt (a : GE) : GI := fun env ah => rb (a env ah) fun v ah1 => lift1 (itA ah1 v) ah1
theorem jg_list {K : PySem.W.Frag} {m : MM} {H : Hp} {a : Addr} {src : Src} (h : ∀ m' H' ah', Ext m H m' H' → Rel K m' ah' H' → ckS src ah' → ∃ vs, SqL K H' a vs ∧ VRs K m' H' src.2 vs) : JG K (Itl K a) m H src := by
  refine ⟨fun m' H' ah' e r c => ?_, fun m' H' ah' i v e r c hv => ?_, fun m' H' ah' i v x H'' e r c hv y => ?_⟩
  · obtain ⟨vs, h1, h2⟩ := h m' H' ah' e r c
    exact ⟨vs, h1, by rw [h2.length]; exact Nat.le_refl _⟩
  · obtain ⟨vs, h1, h2⟩ := h m' H' ah' e r c
    obtain ⟨x, hx, _⟩ := h2.get hv
    exact ⟨vs, x, h1, hx⟩
  · obtain ⟨vs, h1, h2⟩ := h m' H' ah' e r c
    obtain ⟨rfl, y⟩ := y
    have hx := y vs h1
    obtain ⟨x', hx', r'⟩ := h2.get hv
    rw [hx] at hx'; cases hx'
    exact ⟨fun _ _ h => h, r'⟩
/-- e is a dict; it is closed for good -/
def tShut (t : TE) : TE := fun σ H Q => t σ H fun x H1 => ∃ d kvs, x = .ref d ∧ ((∃ od, H1 d = some (.frz od (.dK kvs)) ∧ Q x H1) ∨ (H1 d = some (.dK kvs) ∧ ∀ od, Q x (upd H1 d (.frz od (.dK kvs)))))
theorem PE.shut {e : Expr} {t : TE} (h : PE X e t) : PE X e (tShut t) := by
  refine ⟨fun pins s σ H Q I q => ?_⟩
  refine thn (h.run pins s σ H _ I q) fun u s1 ⟨x, H1, I1, rx, d, kvs, ex, q1⟩ => ?_
  rcases q1 with ⟨od, _, q1⟩ | ⟨hd, q1⟩
  · exact ⟨x, H1, I1, rx, q1⟩
  · obtain ⟨od, I2⟩ := I1.lock hd trivial
    exact ⟨x, _, I2, rx, q1 od⟩
theorem shut_read {σ : L2.St} {H : Hp} {Q : VK} {fa : GE} {m : MM} {env : Env} {ah ah1 : AH} {l : List (AK × AV)} (hE : EnvR X.K m H env σ) (hR : Rel X.K m ah H) (e : fa env ah = .ok (.dk l) ah1)
    (q : ∀ m1 H1 d od kvs, Ext m H m1 H1 → Rel X.K m1 ah1 H1 → H1 d = some (.frz od (.dK kvs)) → d ∉ m1 → VRk X.K m1 H1 l kvs → Q (.ref d) H1) : tShut (tG X W fa) σ H Q := by
  refine ⟨m, env, ah, hE, hR, ?_⟩
  rw [e]
  intro m1 H1 x e1 r1 v1
  cases v1 with
  | dk h1 h2 h3 =>
    rename_i d kvs
    refine ⟨d, kvs, rfl, ?_⟩
    rcases h1 with h1 | ⟨od, h1⟩
    · exact .inr ⟨h1, fun od => q m1 _ d od kvs (e1.trans (Ext.shut h1 h2)) (r1.shut h1 h2) upd_same h2 (h3.mono (Ext.shut h1 h2))⟩
    · exact .inl ⟨od, h1, q m1 H1 d od kvs e1 r1 h1 h2 h3⟩
theorem jg_keys {K : PySem.W.Frag} {m : MM} {H : Hp} {d : Addr} {od : Obj} {kvs : List (Key × V)} {l : List (AK × AV)} (h : H d = some (.frz od (.dK kvs))) (hv : VRk K m H l kvs) : JG K (Itk d od kvs) m H (none, l.map fun p => keyV p.1) := by
  refine ⟨fun m' H' ah' e r c => ?_, fun m' H' ah' i v e r c hi => ?_, fun m' H' ah' i v x H'' e r c hi y => ?_⟩
  · exact ⟨e.still _ _ h rfl, by rw [List.length_map, hv.length]; exact Nat.le_refl _⟩
  · have := (List.getElem?_eq_some_iff.mp hi).1
    exact ⟨e.still _ _ h rfl, by simpa [hv.length] using this⟩
  · obtain ⟨rfl, k, w, hk, rfl⟩ := y
    have hk2 := (hv.mono e).keys
    obtain ⟨x', hx', rx⟩ := hk2.get hi
    rw [List.getElem?_map, hk] at hx'
    cases hx'
    exact ⟨fun _ _ h => h, rx⟩
theorem gi_any (ha : PE X a (tG X W fa)) : PI X tg a (tGI X W (gIt fa)) :=
  PI.weak (PI.or (pi_list ha) (PI.or (pi_tup ha) (PI.or (pi_str ha) (pi_keys (PE.shut ha))))) fun σ H R h => by
    obtain ⟨m, env, ah, hE, hR, hp⟩ := h
    cases e : fa env ah with
    | bad => unfold gIt at hp; rw [e] at hp; exact hp.elim
    | exc ev ah1 =>
      unfold gIt at hp; rw [e] at hp
      exact .inl ⟨m, env, ah, hE, hR, by rw [e]; exact hp⟩
    | ok v ah1 =>
      unfold gIt at hp; rw [e] at hp
      have hp : (lift1 (itA ah1 v) ah1).post _ _ := hp
      have mk : ∀ {Q : VK}, (∀ m1 H1 x, Ext m H m1 H1 → Rel X.K m1 ah1 H1 → VR X.K m1 H1 v x → Q x H1) → tG X W fa σ H Q := fun {Q} q => ⟨m, env, ah, hE, hR, by rw [e]; exact q⟩
      cases v with
      | tup l =>
        refine .inr (.inl (mk fun m1 H1 x e1 r1 v1 => ?_))
        cases v1 with
        | tup h1 h2 =>
          rename_i a vs
          refine ⟨a, rfl, ⟨vs, h1⟩, hp m1 H1 _ e1 r1 ⟨fun m' H' ah' e r c => ?_, fun m' H' ah' i v e r c hv => ?_, fun m' H' ah' i v x H'' e r c hv y => ?_⟩⟩
          · exact ⟨vs, e.sqT h1, by rw [h2.length]; exact Nat.le_refl _⟩
          · obtain ⟨x, hx, _⟩ := h2.get hv
            exact ⟨vs, x, e.sqT h1, hx⟩
          · obtain ⟨rfl, y⟩ := y
            have hx := y vs (e.sqT h1)
            obtain ⟨x', hx', r'⟩ := h2.get hv
            rw [hx] at hx'; cases hx'
            exact ⟨fun _ _ h => h, r'.mono e⟩
      | lst l =>
        refine .inl (mk fun m1 H1 x e1 r1 v1 => ?_)
        cases v1 with
        | lst h1 hm h2 =>
          rename_i a vs
          exact ⟨a, rfl, ⟨vs, SqL.of h1⟩, hp m1 H1 _ e1 r1 (jg_list fun m' H' ah' e r c => ⟨vs, SqL.of (keep_ne (e.keep _ _ h1 hm) fun _ z => nomatch z), h2.mono e⟩)⟩
      | fl l =>
        refine .inl (mk fun m1 H1 x e1 r1 v1 => ?_)
        cases v1 with
        | fl h1 h2 =>
          rename_i a vs
          have q : ∀ m' H', Ext m1 H1 m' H' → SqL X.K H' a vs := fun m' H' e => by
            rcases h1 with ⟨o, h1⟩ | h1
            · exact .inl (.inr ⟨o, e.still _ _ h1 rfl⟩)
            · exact .inr h1
          exact ⟨a, rfl, ⟨vs, q m1 H1 (Ext.refl _ _)⟩, hp m1 H1 _ e1 r1 (jg_list fun m' H' ah' e r c => ⟨vs, q m' H' e, h2.mono e⟩)⟩
      | str s =>
        refine .inr (.inr (.inl (mk fun m1 H1 x e1 r1 v1 => ?_)))
        cases v1
        have hz : (mkS s).cps.size = s.length := by simp [mkS]
        have hg : ∀ (i : Nat) (c : Nat), (mkS s).cps[i]? = some c ↔ s[i]? = some c := fun i c => by simp [mkS]
        refine ⟨_, rfl, hp m1 H1 _ e1 r1 ⟨fun m' H' ah' e r c => ?_, fun m' H' ah' i v e r c hv => ?_, fun m' H' ah' i v x H'' e r c hv y => ?_⟩⟩
        · show (mkS s).cps.size ≤ (s.map fun c => AV.str [c]).length
          rw [hz, List.length_map]; exact Nat.le_refl _
        · show i < (mkS s).cps.size
          have := (List.getElem?_eq_some_iff.mp hv).1
          have this : i < (s.map fun c => AV.str [c]).length := this
          rw [List.length_map] at this
          omega
        · obtain ⟨rfl, c, hc, rfl⟩ := y
          have hv : (s.map fun c => AV.str [c])[i]? = some v := hv
          rw [List.getElem?_map, (hg i c).mp hc] at hv
          cases hv
          exact ⟨fun _ _ h => h, .str [c]⟩
      | dk l =>
        refine .inr (.inr (.inr (shut_read hE hR e fun m1 H1 d od kvs e1 r1 hd hm hv => ?_)))
        exact ⟨d, od, rfl, .inl ⟨kvs, hd, hp m1 H1 _ e1 r1 (jg_keys hd hv)⟩⟩
      | ref n =>
        have hp : (lift1 (match ah1[n]? with | some (.lst l) => some (some n, l) | _ => none) ah1).post _ _ := hp
        cases q : ah1[n]? with
        | none => rw [q] at hp; exact hp.elim
        | some o =>
          rw [q] at hp
          cases o with
          | dk l => exact hp.elim
          | lst l =>
            refine .inl (mk fun m1 H1 x e1 r1 v1 => ?_)
            cases v1 with
            | ref hm =>
              rename_i a
              have now : ∀ m' H' ah', Ext m1 H1 m' H' → Rel X.K m' ah' H' → ckS (some n, l) ah' → ∃ vs, SqL X.K H' a vs ∧ VRs X.K m' H' l vs := fun m' H' ah' e r c => by
                have c : ah'[n]? = some (.lst l) := c
                obtain ⟨vs, h1, h2⟩ := r.obj n a _ (e.get hm) c
                exact ⟨vs, SqL.of h1, h2⟩
              obtain ⟨vs, h1, _⟩ := now m1 H1 ah1 (Ext.refl _ _) r1 q
              exact ⟨a, rfl, ⟨vs, h1⟩, hp m1 H1 _ e1 r1 (jg_list now)⟩
      | _ => exact hp.elim
def rngA (lo : Int) (n : Nat) : List AV := (List.range n).map fun (i : Nat) => .int (lo + (i : Int))
def gR1 (r : GA) : GI := fun env ah => rb (r env ah) fun l ah1 => match l with
  | [.int j] => if -1000000 ≤ j ∧ j ≤ 1000000 then .ok (none, rngA 0 j.toNat) ah1 else .bad
  | _ => .bad
def gR2 (r : GA) : GI := fun env ah => rb (r env ah) fun l ah1 => match l with
  | [.int i, .int j] => if -1000000 ≤ i ∧ i ≤ 1000000 ∧ -1000000 ≤ j ∧ j ≤ 1000000 then .ok (none, rngA i (j - i).toNat) ah1 else .bad
  | _ => .bad
theorem jg_rng {K : PySem.W.Frag} {m : MM} {H : Hp} {lo : Int} {n : Nat} : JG K (Itr lo n) m H (none, rngA lo n) := by
  refine ⟨fun m' H' ah' e r c => ?_, fun m' H' ah' i v e r c hv => ?_, fun m' H' ah' i v x H'' e r c hv y => ?_⟩
  · show n ≤ (rngA lo n).length
    simp [rngA]
  · show i < n
    have := (List.getElem?_eq_some_iff.mp hv).1
    simpa [rngA] using this
  · obtain ⟨rfl, rfl⟩ := y
    have hv : (rngA lo n)[i]? = some v := hv
    unfold rngA at hv
    rw [List.getElem?_map] at hv
    obtain ⟨j, hj, rfl⟩ := Option.map_eq_some_iff.mp hv
    have hl := (List.getElem?_eq_some_iff.mp hj)
    obtain ⟨hl, ej⟩ := hl
    simp at ej
    subst ej
    exact ⟨fun _ _ h => h, .int _⟩
theorem gi_r1 (hg : Gl X "range") (hm : X.mg "range" = none) (ha : PA X [a] (tGA X W fr)) (hs : starEach [a] X.env = [(false, eval a X.env)] := by rfl) : PI X tg (.Call (.Name "range" p) [a] [] pos) (tGI X W (gR1 fr)) :=
  PI.weak (pi_range1 hg hm ha hs) fun σ H R h => by
    obtain ⟨m, env, ah, hE, hR, hp⟩ := h
    refine tGA_step hE hR hp (fun _ _ h => h) fun l ah1 m1 H1 xs e1 r1 v1 hp1 => ?_
    cases v1 with
    | nil => exact hp1.elim
    | cons h1 h2 =>
      cases h1 with
      | int j =>
        cases h2 with
        | nil =>
          have hp1 : (if -1000000 ≤ j ∧ j ≤ 1000000 then Res.ok ((none, rngA 0 j.toNat) : Src) ah1 else .bad).post _ _ := hp1
          split at hp1
          · rename_i hj
            exact ⟨j, rfl, by omega, by omega, hp1 m1 H1 _ e1 r1 jg_rng⟩
          · exact hp1.elim
        | cons _ _ => exact hp1.elim
      | _ => exact hp1.elim
theorem gi_r2 (hg : Gl X "range") (hm : X.mg "range" = none) (ha : PA X [a, b] (tGA X W fr)) (hs : starEach [a, b] X.env = [(false, eval a X.env), (false, eval b X.env)] := by rfl) (hs2 : starEach [b] X.env = [(false, eval b X.env)] := by rfl) : PI X tg (.Call (.Name "range" p) [a, b] [] pos) (tGI X W (gR2 fr)) :=
  PI.weak (pi_range2 hg hm ha hs hs2) fun σ H R h => by
    obtain ⟨m, env, ah, hE, hR, hp⟩ := h
    refine tGA_step hE hR hp (fun _ _ h => h) fun l ah1 m1 H1 xs e1 r1 v1 hp1 => ?_
    have hp1 : (match l with
      | [.int i, .int j] => if -1000000 ≤ i ∧ i ≤ 1000000 ∧ -1000000 ≤ j ∧ j ≤ 1000000 then Res.ok ((none, rngA i (j - i).toNat) : Src) ah1 else .bad
      | _ => .bad).post _ _ := hp1
    split at hp1
    · split at hp1
      · rename_i hj
        obtain ⟨x, y, rfl, hx, hy⟩ := v1.two
        cases hx; cases hy
        exact ⟨_, _, rfl, ⟨by omega, by omega, by omega, by omega⟩, hp1 m1 H1 _ e1 r1 jg_rng⟩
      · exact hp1.elim
    · exact hp1.elim
end

section
variable {X : Cx} {W : WX}
noncomputable def lcL (src : Src) (h : GG) (t : GT) (e : GE) (env : Env) : List AV → AH → Res (List AV)
  | [], ah => @ite _ (ckS src ah) (Classical.propDecidable _) (.ok [] ah) .bad
  | v :: vs, ah => @ite _ (ckS src ah) (Classical.propDecidable _) (match h env v with
    | none => .bad
    | some env1 => rb (t env1 ah) fun b ah1 => if b = true then rb (e env1 ah1) fun x ah2 => rb (lcL src h t e env vs ah2) fun r ah3 => .ok (x :: r) ah3 else lcL src h t e env vs ah1) .bad
/-- errors out of a comprehension aren't carried -/
noncomputable def noX {α : Type} (r : Res α) : Res α := match r with
  | .exc _ _ => .bad
  | r => r
theorem noX_post {α : Type} {r : Res α} {P : α → AH → Prop} {E : EV → AH → Prop} (h : (noX r).post P E) : r.post P (fun _ _ => False) := by
  cases r with
  | ok a b => exact h
  | exc a b => exact h.elim
  | bad => exact h
noncomputable def gLc (it : GI) (h : GG) (t : GT) (e : GE) (vs : List Nat) : Env → AH → Res (List AV) := fun env ah => rb (it env ah) fun src ah1 => if src.2.length ≤ 1000000 then noX (lcL src h t e (wipeE env vs) src.2 ah1) else .bad
noncomputable def gLcV (it : GI) (h : GG) (t : GT) (e : GE) (vs : List Nat) : GE := fun env ah => rb (gLc it h t e vs env ah) fun l ah1 => .ok (.lst l) ah1
noncomputable def gLcH (it : GI) (h : GG) (t : GT) (e : GE) (vs : List Nat) : GE := fun env ah => rb (gLc it h t e vs env ah) fun l ah1 => .ok (.ref ah1.length) (ah1 ++ [.lst l])
def gYes : GT := fun _ ah => .ok true ah
theorem gt_yes : PTs X [] (tGT X W gYes) := ⟨fun pins s σ H Q I ⟨m, env, ah, hE, hR, hp⟩ => pts_nil.run pins s σ H Q I (hp m H (Ext.refl m H) hR)⟩

theorem Ext.memp {m m' : MM} {H H' : Hp} (e : Ext m H m' H') {a : Addr} (h : a ∈ m.p) : a ∈ m'.p := by
  obtain ⟨t, q, rfl⟩ := e.pre
  exact List.mem_append_right _ h
theorem Ext.dwrite {m md : MM} {H1 H : Hp} {D : Addr} {o : HO} (e : Ext m H1 md H) (hD : H1 D = none) : Ext m H1 md (upd H D o) :=
  ⟨e.pre, fun a u h hm => (e.keep a u h hm).imp (fun q => by rw [upd_ne (ne_of_none h hD)]; exact q) fun ⟨k, od, e1, e2⟩ => ⟨k, od, e1, by rw [upd_ne (ne_of_none h hD)]; exact e2⟩, fun a u h s => by rw [upd_ne (ne_of_none h hD)]; exact e.still a u h s, e.fresh, fun a ha u h => by rw [upd_ne (ne_of_none h hD)]; exact e.hold a ha u h⟩
theorem Ext.prot {m : MM} {H1 : Hp} {D : Addr} {o : HO} (hD : H1 D = none) : Ext m H1 ⟨m.l, D :: m.p⟩ (upd H1 D o) :=
  ⟨⟨[], [D], by simp⟩, fun a u h hm => .inl (by rw [upd_ne (ne_of_none h hD)]; exact h), fun a u h s => by rw [upd_ne (ne_of_none h hD)]; exact h, fun a ha => by
    rcases ha with ha | ha
    · exact .inl (.inl ha)
    · rcases List.mem_cons.mp ha with q | q
      · exact .inr (by rw [q]; exact hD)
      · exact .inl (.inr q), fun a ha u h => by rw [upd_ne (ne_of_none h hD)]; exact h⟩
theorem Ext.drop {m md : MM} {H1 H : Hp} (e : Ext m H1 md H) : Ext m H1 ⟨md.l, m.p⟩ H := by
  refine ⟨?_, e.keep, e.still, fun a ha => e.fresh a ?_, e.hold⟩
  · obtain ⟨t, q, rfl⟩ := e.pre
    exact ⟨t, [], by simp⟩
  · rcases ha with ha | ha
    · exact .inl ha
    · exact .inr (e.memp ha)
theorem Mv.dwrite {md : MM} {H : Hp} {D : Addr} {u o : HO} (hD : D ∈ md.p) (hu : H D = some u) (su : stl u = false) : Mv md H md (upd H D o) :=
  ⟨fun _ _ h => h, fun a v h hm => ⟨.inl (by rw [upd_ne (fun z => hm (by rw [z]; exact .inr hD))]; exact h), hm⟩, fun a v h s => by
    rw [upd_ne (fun z => ?_)]
    · exact h
    · subst z; rw [hu] at h; cases h; rw [su] at s; cases s⟩
theorem Mv.drop {md : MM} {H : Hp} {p : List Addr} (hp : ∀ a ∈ p, a ∈ md.p) : Mv md H ⟨md.l, p⟩ H :=
  ⟨fun _ _ h => h, fun a v h hm => ⟨.inl h, fun z => hm (z.elim .inl fun q => .inr (hp a q))⟩, fun a v h s => h⟩
theorem Rel.dwrite {K : PySem.W.Frag} {md : MM} {ah : AH} {H : Hp} {D : Addr} {o : HO} (r : Rel K md ah H) (hD : D ∈ md.p) (so : stl o = false) : Rel K md ah (upd H D o) := by
  obtain ⟨h1, u, h2, h3⟩ := r.prot D hD
  refine ⟨r.len, r.nd, fun n a o' e1 e2 => ?_, fun b hb => ?_⟩
  · rw [upd_ne (fun z => h1 (by rw [← z]; exact List.mem_of_getElem? e1))]
    exact (r.obj n a o' e1 e2).mv (Mv.dwrite hD h2 h3)
  · obtain ⟨g1, w, g2, g3⟩ := r.prot b hb
    refine ⟨g1, ?_⟩
    by_cases z : b = D
    · subst z; exact ⟨o, upd_same, so⟩
    · exact ⟨w, by rw [upd_ne z]; exact g2, g3⟩
theorem Rel.addp {K : PySem.W.Frag} {m : MM} {ah : AH} {H : Hp} {D : Addr} {o : HO} (r : Rel K m ah H) (hD : H D = none) (so : stl o = false) : Rel K ⟨m.l, D :: m.p⟩ ah (upd H D o) := by
  refine ⟨r.len, r.nd, fun n a o' e1 e2 => ?_, fun b hb => ?_⟩
  · have q := r.obj n a o' e1 e2
    obtain ⟨w, hw, _⟩ := q.some
    rw [upd_ne (ne_of_none hw hD)]
    exact q.mv (Ext.prot hD).mv
  · rcases List.mem_cons.mp hb with q | q
    · subst q
      exact ⟨fun z => r.notin hD (.inl z), o, upd_same, so⟩
    · obtain ⟨g1, w, g2, g3⟩ := r.prot b q
      exact ⟨g1, w, by rw [upd_ne (ne_of_none g2 hD)]; exact g2, g3⟩
theorem Rel.drop {K : PySem.W.Frag} {md : MM} {ah : AH} {H : Hp} {p : List Addr} (r : Rel K md ah H) (hp : ∀ a ∈ p, a ∈ md.p) : Rel K ⟨md.l, p⟩ ah H :=
  ⟨r.len, r.nd, fun n a o e1 e2 => (r.obj n a o e1 e2).mv (Mv.drop hp), fun b hb => r.prot b (hp b hb)⟩

/-- the block walks: D is where the list grows -/
theorem lc_read {J : It} {is vs : List Nat} {m : MM} {H1 : Hp} {env : Env} {σ : L2.St} {src : Src} {h : GG} {t : GT} {e : GE} {Q : Hp → Prop} {W' : WX} (D : Addr) (hD : H1 D = none) {ah1 : AH} (hR : Rel X.K m ah1 H1) (hE : EnvR X.K m H1 env σ) (hJ : JG X.K J m H1 src) (hl : src.2.length ≤ 1000000) (hi : ∀ i ∈ is, i ∈ vs)
    {P : List AV → AH → Prop} (hp : (lcL src h t e (wipeE env vs) src.2 ah1).post P (fun _ _ => False))
    (hQ : ∀ l ah2 md H2 xs, P l ah2 → Ext m H1 md H2 → D ∈ md.p → Rel X.K md ah2 H2 → VRs X.K md H2 l xs → H2 D = some (.lst xs) → Q H2) :
    ∃ Wv : Nat → Nat → Hp → Prop, (∃ k, Wv 0 k (upd H1 D (.lst []))) ∧ ∀ i k H, Wv i k H →
      (J.stop i H ∧ Q H) ∨ (J.go i H ∧ ∃ Nx : Hp → Prop, (∀ H', Nx H' → ∃ k', k' < k ∧ Wv (i + 1) k' H') ∧ ∀ x H', J.yld i H x H' → tGG X.K is h x (L2.wipe σ vs) H' fun σ2 H2 => L2.wipe σ2 vs = L2.wipe σ vs ∧ tGT X W' t σ2 H2 fun b H3 =>
        if b = true then tG X W' e σ2 H3 fun y H4 => ∃ acc, H4 D = some (.lst acc) ∧ acc.length < sizeLine ∧ Nx (upd H4 D (.lst (acc ++ [y]))) else Nx H3) := by
  have h16 : sizeLine = 16777216 := sizeLine_eq
  have hEw := hE.wipe vs
  refine ⟨fun i k H => k = src.2.length - i ∧ i ≤ src.2.length ∧ ∃ md ah acc xs, Ext m H1 md H ∧ D ∈ md.p ∧ Rel X.K md ah H ∧ VRs X.K md H acc xs ∧ H D = some (.lst xs) ∧ xs.length ≤ i ∧
    (lcL src h t e (wipeE env vs) (src.2.drop i) ah).post (fun r ah2 => P (acc ++ r) ah2) (fun _ _ => False), ?_, ?_⟩
  · refine ⟨src.2.length, by simp, Nat.zero_le _, ⟨m.l, D :: m.p⟩, ah1, [], [], Ext.prot hD, by simp, hR.addp hD rfl, .nil, upd_same, Nat.zero_le _, ?_⟩
    simpa using hp
  · rintro i k H ⟨rfl, hile, md, ah, acc, xs, E1, dp, rel, hacc, hDx, hxl, hpost⟩
    by_cases hlt : i < src.2.length
    · right
      have hv : src.2[i]? = some src.2[i] := List.getElem?_eq_getElem hlt
      generalize src.2[i] = v at hv
      have hdrop : src.2.drop i = v :: src.2.drop (i + 1) := by
        rw [List.drop_eq_getElem_cons hlt]
        congr 1
        have := List.getElem?_eq_getElem hlt
        rw [hv] at this; exact (Option.some.inj this).symm
      rw [hdrop] at hpost
      unfold lcL at hpost
      by_cases hck : ckS src ah
      · rw [if_pos hck] at hpost
        refine ⟨hJ.go md H ah i v E1 rel hck hv, fun H' => (fun i k H => k = src.2.length - i ∧ i ≤ src.2.length ∧ ∃ md ah acc xs, Ext m H1 md H ∧ D ∈ md.p ∧ Rel X.K md ah H ∧ VRs X.K md H acc xs ∧ H D = some (.lst xs) ∧ xs.length ≤ i ∧
          (lcL src h t e (wipeE env vs) (src.2.drop i) ah).post (fun r ah2 => P (acc ++ r) ah2) (fun _ _ => False)) (i + 1) (src.2.length - (i + 1)) H', fun H' hn => ⟨_, by omega, hn⟩, fun x H' y => ?_⟩
        obtain ⟨hg, hvx⟩ := hJ.yld md H ah i v x H' E1 rel hck hv y
        have eg : Ext md H md H' := Ext.grow hg
        have rel' := rel.grow hg
        cases q : h (wipeE env vs) v with
        | none => rw [q] at hpost; exact hpost.elim
        | some env1 =>
          rw [q] at hpost
          have hpost : (rb (t env1 ah) fun b ah1 => if b = true then rb (e env1 ah1) fun x ah2 => rb (lcL src h t e (wipeE env vs) (src.2.drop (i + 1)) ah2) fun r ah3 => .ok (x :: r) ah3 else lcL src h t e (wipeE env vs) (src.2.drop (i + 1)) ah1).post _ _ := hpost
          refine ⟨md, wipeE env vs, v, env1, hEw.mono (E1.trans eg), hvx, q, fun σ2 hE2 hw => ⟨by rw [hw vs hi, wipe_wipe], ?_⟩⟩
          refine tGT_step hE2 rel' hpost (fun _ _ z => z.elim) fun b ah2 m3 H3 e3 r3 hp3 => ?_
          cases b with
          | true =>
            refine iteT (tG_step (hE2.mono e3) r3 hp3 (fun _ _ z => z.elim) fun w ah4 m4 H4 y e4 r4 v4 hp4 => ?_)
            have dp4 : D ∈ m4.p := e4.memp (e3.memp dp)
            have hD4 : H4 D = some (.lst xs) := e4.hold D (e3.memp dp) _ (e3.hold D dp _ (hg D _ hDx))
            refine ⟨xs, hD4, by omega, rfl, by omega, m4, ah4, acc ++ [w], xs ++ [y], ((E1.trans eg).trans (e3.trans e4)).dwrite hD, dp4, r4.dwrite dp4 rfl, ?_, upd_same, by simp; omega, ?_⟩
            · exact (((hacc.mono eg).mono (e3.trans e4)).append (.cons v4 .nil)).mv (Mv.dwrite dp4 hD4 rfl)
            · cases q2 : lcL src h t e (wipeE env vs) (src.2.drop (i + 1)) ah4 with
              | ok r ah5 =>
                rw [q2] at hp4
                have hp4 : P (acc ++ w :: r) ah5 := hp4
                show P (acc ++ [w] ++ r) ah5
                rw [List.append_assoc]; exact hp4
              | exc ev ah5 => rw [q2] at hp4; exact hp4.elim
              | bad => rw [q2] at hp4; exact hp4.elim
          | false =>
            refine iteF ⟨rfl, by omega, m3, ah2, acc, xs, (E1.trans eg).trans e3, e3.memp dp, r3, (hacc.mono eg).mono e3, e3.hold D dp _ (hg D _ hDx), by omega, hp3⟩
      · rw [if_neg hck] at hpost; exact hpost.elim
    · left
      have ei : i = src.2.length := by omega
      subst ei
      rw [List.drop_length] at hpost
      unfold lcL at hpost
      by_cases hck : ckS src ah
      · rw [if_pos hck] at hpost
        have hpost : P (acc ++ []) ah := hpost
        rw [List.append_nil] at hpost
        exact ⟨hJ.stop md H ah E1 rel hck, hQ acc ah md H xs hpost E1 dp rel hacc hDx⟩
      · rw [if_neg hck] at hpost; exact hpost.elim

variable {it : GI} {h : GG} {t : GT} {e : GE} {is : List Nat} {tg iter elt : Expr} {ifs : List Expr} {scope : Scope} {own : List (Str × Nat)} {pos : Pos}
theorem wipeL_eq {own : List (Str × Nat)} {is : List Nat} (h : is = own.map (·.2)) : ∀ i ∈ is, i ∈ own.map (·.2) := fun i hi => by rw [← h]; exact hi
theorem Ext.addl {m m2 : MM} {H1 H2 : Hp} {D : Addr} (e : Ext m H1 m2 H2) (hD : H1 D = none) : Ext m H1 ⟨m2.l ++ [D], m.p⟩ H2 := by
  refine ⟨?_, e.keep, e.still, fun a ha => ?_, e.hold⟩
  · obtain ⟨t, q, rfl⟩ := e.pre
    exact ⟨t ++ [D], [], by simp⟩
  · rcases ha with ha | ha
    · rcases List.mem_append.mp ha with z | z
      · exact e.fresh a (.inl z)
      · simp at z; subst z; exact .inr hD
    · exact .inl (.inr ha)
theorem Rel.addl {K : PySem.W.Frag} {md : MM} {ah : AH} {H : Hp} {D : Addr} {l : List AV} {xs : List V} {p : List Addr} (r : Rel K md ah H) (dp : D ∈ md.p) (hp : ∀ a ∈ p, a ∈ md.p) (hn : D ∉ p) (hD : H D = some (.lst xs)) (hv : VRs K md H l xs) : Rel K ⟨md.l ++ [D], p⟩ (ah ++ [.lst l]) H := by
  have mv : Mv md H ⟨md.l ++ [D], p⟩ H := ⟨fun n a h => by
      show (md.l ++ [D])[n]? = some a
      rw [List.getElem?_append_left (List.getElem?_eq_some_iff.mp h).1]; exact h,
    fun a v h hm => ⟨.inl h, fun z => by
      rcases z with z | z
      · rcases List.mem_append.mp z with z | z
        · exact hm (.inl z)
        · simp at z; subst z; exact hm (.inr dp)
      · exact hm (.inr (hp a z))⟩, fun a v h _ => h⟩
  have dl := (r.prot D dp).1
  refine ⟨by simp [r.len], ?_, fun n a o h1 h2 => ?_, fun b hb => ?_⟩
  · show (md.l ++ [D]).Nodup
    rw [List.nodup_append]
    exact ⟨r.nd, by simp, fun a ha b hb => by simp at hb; subst hb; intro z; subst z; exact dl ha⟩
  · have h1 : (md.l ++ [D])[n]? = some a := h1
    by_cases hl : n < md.l.length
    · rw [List.getElem?_append_left hl] at h1
      rw [List.getElem?_append_left (by rw [← r.len]; exact hl)] at h2
      exact (r.obj n a o h1 h2).mv mv
    · have e : n = md.l.length := by
        have := (List.getElem?_eq_some_iff.mp h1).1
        simp at this; omega
      subst e
      rw [List.getElem?_append_right (Nat.le_refl _)] at h1
      rw [r.len, List.getElem?_append_right (Nat.le_refl _)] at h2
      simp at h1 h2
      subst h1; subst h2
      exact ⟨xs, hD, hv.mv mv⟩
  · obtain ⟨h1, u, h2, h3⟩ := r.prot b (hp b hb)
    refine ⟨fun z => ?_, u, h2, h3⟩
    rcases List.mem_append.mp z with z | z
    · exact h1 z
    · simp at z; subst z; exact hn hb
theorem lcV_read (hsub : ∀ i ∈ is, i ∈ own.map (·.2)) {σ : L2.St} {H : Hp} {Q : VK} (hh : tG X W (gLcV it h t e (own.map (·.2))) σ H Q) : tLc (tGI X W it) (tGG X.K is h) (tGT X (fun _ _ _ _ => False) t) (tG X (fun _ _ _ _ => False) e) (own.map (·.2)) σ H Q := by
  obtain ⟨m, env, ah, hE, hR, hp⟩ := hh
  unfold gLcV gLc at hp
  rw [rb_rb] at hp
  refine ⟨m, env, ah, hE, hR, ?_⟩
  cases q : it env ah with
  | bad => rw [q] at hp; exact hp
  | exc ev ah1 => rw [q] at hp; exact hp
  | ok src ah1 =>
    rw [q] at hp
    intro m1 H1 J e1 r1 jg D hD
    have hp : (rb (if src.2.length ≤ 1000000 then noX (lcL src h t e (wipeE env (own.map (·.2))) src.2 ah1) else .bad) fun l ah1 => Res.ok (AV.lst l) ah1).post _ _ := hp
    split at hp
    · rename_i hl
      refine lc_read D hD r1 (hE.mono e1) jg hl hsub (P := fun l ah2 => PQ X.K m H Q (.lst l) ah2) (noX_post (E := fun _ _ => False) ?_) fun l ah2 md H2 xs hP e2 dp r2 hv hDx => hP ⟨md.l, m1.p⟩ H2 _ (e1.trans e2.drop) (r2.drop fun a ha => e2.memp ha) (.lst hDx (fun z => z.elim (r2.prot D dp).1 fun z => r1.notin hD (.inr z)) (hv.mv (Mv.drop fun a ha => e2.memp ha)))
      cases q2 : lcL src h t e (wipeE env (own.map (·.2))) src.2 ah1 with
      | ok l ah2 => rw [q2] at hp; exact hp
      | exc a b => rw [q2] at hp; exact hp.elim
      | bad => rw [q2] at hp; exact hp.elim
    · exact hp.elim
theorem lcH_read (hsub : ∀ i ∈ is, i ∈ own.map (·.2)) {σ : L2.St} {H : Hp} {Q : VK} (hh : tG X W (gLcH it h t e (own.map (·.2))) σ H Q) : tLc (tGI X W it) (tGG X.K is h) (tGT X (fun _ _ _ _ => False) t) (tG X (fun _ _ _ _ => False) e) (own.map (·.2)) σ H Q := by
  obtain ⟨m, env, ah, hE, hR, hp⟩ := hh
  unfold gLcH gLc at hp
  rw [rb_rb] at hp
  refine ⟨m, env, ah, hE, hR, ?_⟩
  cases q : it env ah with
  | bad => rw [q] at hp; exact hp
  | exc ev ah1 => rw [q] at hp; exact hp
  | ok src ah1 =>
    rw [q] at hp
    intro m1 H1 J e1 r1 jg D hD
    have hp : (rb (if src.2.length ≤ 1000000 then noX (lcL src h t e (wipeE env (own.map (·.2))) src.2 ah1) else .bad) fun l ah1 => Res.ok (AV.ref ah1.length) (ah1 ++ [.lst l])).post _ _ := hp
    split at hp
    · rename_i hl
      refine lc_read D hD r1 (hE.mono e1) jg hl hsub (P := fun l ah2 => PQ X.K m H Q (.ref ah2.length) (ah2 ++ [.lst l])) (noX_post (E := fun _ _ => False) ?_) fun l ah2 md H2 xs hP e2 dp r2 hv hDx => hP ⟨md.l ++ [D], m1.p⟩ H2 _ (e1.trans (e2.addl hD)) (r2.addl dp (fun a ha => e2.memp ha) (fun z => r1.notin hD (.inr z)) hDx hv) (.ref (by show (md.l ++ [D])[ah2.length]? = some D; rw [← r2.len, List.getElem?_append_right (Nat.le_refl _)]; simp))
      cases q2 : lcL src h t e (wipeE env (own.map (·.2))) src.2 ah1 with
      | ok l ah2 => rw [q2] at hp; exact hp
      | exc a b => rw [q2] at hp; exact hp.elim
      | bad => rw [q2] at hp; exact hp.elim
    · exact hp.elim
theorem ge_lc (hc : X.calm = true) (hN : X.N.Nodup) (hi : PI X tg iter (tGI X W it)) (ok : BlkOk X.N X.env.scope scope own) (hsub : ∀ i ∈ is, i ∈ own.map (·.2))
    (hg : ∀ (s : Shared) (H : Hp) (C : Addr) (cl : List (Str × Addr)) (fp : List Addr), PG (X.blk s H scope (compEnvC scope cl C X.env) fp) tg (tGG X.K is h)) (ht : ∀ (s : Shared) (H : Hp) (C : Addr) (cl : List (Str × Addr)) (fp : List Addr), PTs (X.blk s H scope (compEnvC scope cl C X.env) fp) ifs (tGT (X.blk s H scope (compEnvC scope cl C X.env) fp) (fun _ _ _ _ => False) t))
    (he : ∀ (s : Shared) (H : Hp) (C : Addr) (cl : List (Str × Addr)) (fp : List Addr), PE (X.blk s H scope (compEnvC scope cl C X.env) fp) elt (tG (X.blk s H scope (compEnvC scope cl C X.env) fp) (fun _ _ _ _ => False) e)) (hs : ∀ x, foldedSetIterable iter X.env x = pure x := by intro _; rfl) :
    PE X (.ListComp elt [⟨tg, iter, ifs, 0⟩] scope pos) (tG X W (gLcV it h t e (own.map (·.2)))) :=
  PE.weak (pe_lc (wi := tGI X W it) (g := tGG X.K is h) (tt := tGT X (fun _ _ _ _ => False) t) (te := tG X (fun _ _ _ _ => False) e) hc hN hi ok hg ht he hs) fun σ H Q hh => lcV_read hsub hh
theorem ge_lcH (hc : X.calm = true) (hN : X.N.Nodup) (hi : PI X tg iter (tGI X W it)) (ok : BlkOk X.N X.env.scope scope own) (hsub : ∀ i ∈ is, i ∈ own.map (·.2))
    (hg : ∀ (s : Shared) (H : Hp) (C : Addr) (cl : List (Str × Addr)) (fp : List Addr), PG (X.blk s H scope (compEnvC scope cl C X.env) fp) tg (tGG X.K is h)) (ht : ∀ (s : Shared) (H : Hp) (C : Addr) (cl : List (Str × Addr)) (fp : List Addr), PTs (X.blk s H scope (compEnvC scope cl C X.env) fp) ifs (tGT (X.blk s H scope (compEnvC scope cl C X.env) fp) (fun _ _ _ _ => False) t))
    (he : ∀ (s : Shared) (H : Hp) (C : Addr) (cl : List (Str × Addr)) (fp : List Addr), PE (X.blk s H scope (compEnvC scope cl C X.env) fp) elt (tG (X.blk s H scope (compEnvC scope cl C X.env) fp) (fun _ _ _ _ => False) e)) (hs : ∀ x, foldedSetIterable iter X.env x = pure x := by intro _; rfl) :
    PE X (.ListComp elt [⟨tg, iter, ifs, 0⟩] scope pos) (tG X W (gLcH it h t e (own.map (·.2)))) :=
  PE.weak (pe_lc (wi := tGI X W it) (g := tGG X.K is h) (tt := tGT X (fun _ _ _ _ => False) t) (te := tG X (fun _ _ _ _ => False) e) hc hN hi ok hg ht he hs) fun σ H Q hh => lcH_read hsub hh
theorem ge_setLc {i : Nat} {y : Str} {py spos : Pos} (hc : X.calm = true) (hN : X.N.Nodup) (hy : X.N[i]? = some y) (hyl : X.env.scope.names.lookup y = some .local)
    (hsw : swapsWith (.ListComp elt [⟨tg, iter, ifs, 0⟩] scope pos) (some (.Name y py)) spos.line X.env = pure true) (hi : PI X tg iter (tGI X W it)) (ok : BlkOk X.N X.env.scope scope own)
    (hg : ∀ (s : Shared) (H : Hp) (C : Addr) (cl : List (Str × Addr)) (fp : List Addr), PG (X.blk s H scope (compEnvC scope cl C X.env) fp) tg (tGG X.K is h)) (ht : ∀ (s : Shared) (H : Hp) (C : Addr) (cl : List (Str × Addr)) (fp : List Addr), PTs (X.blk s H scope (compEnvC scope cl C X.env) fp) ifs (tGT (X.blk s H scope (compEnvC scope cl C X.env) fp) (fun _ _ _ _ => False) t))
    (he : ∀ (s : Shared) (H : Hp) (C : Addr) (cl : List (Str × Addr)) (fp : List Addr), PE (X.blk s H scope (compEnvC scope cl C X.env) fp) elt (tG (X.blk s H scope (compEnvC scope cl C X.env) fp) (fun _ _ _ _ => False) e)) {te : TE} (hr : ∀ σ H Q, te σ H Q → tLc (tGI X W it) (tGG X.K is h) (tGT X (fun _ _ _ _ => False) t) (tG X (fun _ _ _ _ => False) e) (own.map (·.2)) σ H Q) (hs : ∀ x, foldedSetIterable iter X.env x = pure x := by intro _; rfl) :
    PS X (.Assign [.Name y py] (.ListComp elt [⟨tg, iter, ifs, 0⟩] scope pos) spos) (tAsg te (gName i)) :=
  PS.weak (ps_setLc (wi := tGI X W it) (g := tGG X.K is h) (tt := tGT X (fun _ _ _ _ => False) t) (te := tG X (fun _ _ _ _ => False) e) hc hN hy hyl hsw hi ok hg ht he hs) fun D σ H hh => hr σ H _ hh
end
end G
namespace G
open PySem PySem.Spec PyProof.Rows L2
set_option autoImplicit false

inductive SRes where
  | nx (env : Env) (ah : AH)
  | rt (v : AV) (ah : AH)
  | bk (env : Env) (ah : AH)
  | ct (env : Env) (ah : AH)
  | exc (e : EV) (env : Env) (ah : AH)
  | bad
abbrev GS := Env → AH → SRes
def sb {α : Type} (r : Res α) (env : Env) (k : α → AH → SRes) : SRes := match r with
  | .ok a h => k a h
  | .exc e h => .exc e env h
  | .bad => .bad
@[simp] theorem sb_ok {α : Type} {a : α} {h : AH} {env : Env} {k : α → AH → SRes} : sb (.ok a h) env k = k a h := rfl
@[simp] theorem sb_exc {α : Type} {e : EV} {h : AH} {env : Env} {k : α → AH → SRes} : sb (.exc e h : Res α) env k = .exc e env h := rfl
@[simp] theorem sb_bad {α : Type} {env : Env} {k : α → AH → SRes} : sb (.bad : Res α) env k = .bad := rfl
def PN (K : PySem.W.Frag) (m : MM) (H : Hp) (Q : L2.St → Hp → Prop) (env : Env) (ah : AH) : Prop := ∀ m' H' σ', Ext m H m' H' → Rel K m' ah H' → EnvR K m' H' env σ' → Q σ' H'
def sPost (X : Cx) (W : WX) (m : MM) (H : Hp) (D : Ends) : SRes → Prop
  | .nx env ah => PN X.K m H D.nx env ah
  | .rt v ah => PQ X.K m H D.rt v ah
  | .bk env ah => PN X.K m H D.bk env ah
  | .ct env ah => PN X.K m H D.ct env ah
  | .exc e env ah => ∀ m' H' σ' cls d, Ext m H m' H' → Rel X.K m' ah H' → EnvR X.K m' H' env σ' → XR X.K X.mg m' H' e cls d → W cls d σ' H'
  | .bad => False
def tGS (X : Cx) (W : WX) (f : GS) : TS := fun D σ H => ∃ m env ah, EnvR X.K m H env σ ∧ Rel X.K m ah H ∧ sPost X W m H D (f env ah)
section
variable {X : Cx} {W : WX} {m m1 : MM} {H H1 : Hp} {env : Env} {ah : AH} {σ : L2.St} {D : Ends}
theorem PN.mono {K : PySem.W.Frag} {Q : L2.St → Hp → Prop} (e : Ext m H m1 H1) (h : PN K m H Q env ah) : PN K m1 H1 Q env ah := fun m' H' σ' e' => h m' H' σ' (e.trans e')
theorem sPost.mono {r : SRes} (e : Ext m H m1 H1) (h : sPost X W m H D r) : sPost X W m1 H1 D r := by
  cases r with
  | nx env ah => exact PN.mono e h
  | rt v ah => exact PQ.mono e h
  | bk env ah => exact PN.mono e h
  | ct env ah => exact PN.mono e h
  | exc ev env ah => exact fun m' H' σ' cls d e' => h m' H' σ' cls d (e.trans e')
  | bad => exact h
theorem sG_step {f : GE} {k : AV → AH → SRes} {Q : VK} (hE : EnvR X.K m H env σ) (hR : Rel X.K m ah H) (h : sPost X W m H D (sb (f env ah) env k))
    (hk : ∀ v ah1 m1 H1 x, Ext m H m1 H1 → Rel X.K m1 ah1 H1 → VR X.K m1 H1 v x → sPost X W m1 H1 D (k v ah1) → Q x H1) : tG X W f σ H Q := by
  refine ⟨m, env, ah, hE, hR, ?_⟩
  cases e : f env ah with
  | ok v ah1 =>
    rw [e] at h
    exact fun m1 H1 x e1 r1 v1 => hk v ah1 m1 H1 x e1 r1 v1 (sPost.mono e1 h)
  | exc x ah1 =>
    rw [e] at h
    exact fun m1 H1 c d e1 r1 xr => h m1 H1 σ c d e1 r1 (hE.mono e1) xr
  | bad => rw [e] at h; exact h
theorem sGT_step {f : GT} {k : Bool → AH → SRes} {Q : Bool → Hp → Prop} (hE : EnvR X.K m H env σ) (hR : Rel X.K m ah H) (h : sPost X W m H D (sb (f env ah) env k))
    (hk : ∀ v ah1 m1 H1, Ext m H m1 H1 → Rel X.K m1 ah1 H1 → sPost X W m1 H1 D (k v ah1) → Q v H1) : tGT X W f σ H Q := by
  refine ⟨m, env, ah, hE, hR, ?_⟩
  cases e : f env ah with
  | ok v ah1 =>
    rw [e] at h
    exact fun m1 H1 e1 r1 => hk v ah1 m1 H1 e1 r1 (sPost.mono e1 h)
  | exc x ah1 =>
    rw [e] at h
    exact fun m1 H1 c d e1 r1 xr => h m1 H1 σ c d e1 r1 (hE.mono e1) xr
  | bad => rw [e] at h; exact h
end

def gSkip : GS := fun env ah => .nx env ah
def SRes.andThen (r : SRes) (k : GS) : SRes := match r with
  | .nx env ah => k env ah
  | r => r
def gSeq (f g : GS) : GS := fun env ah => (f env ah).andThen g
def gIf (t : GT) (f g : GS) : GS := fun env ah => sb (t env ah) env fun b ah1 => if b = true then f env ah1 else g env ah1
def gRet (a : GE) : GS := fun env ah => sb (a env ah) env fun v ah1 => .rt v ah1
def gRetN : GS := fun env ah => .rt .non ah
def gDrop (a : GE) : GS := fun env ah => sb (a env ah) env fun _ ah1 => .nx env ah1
def gSet (i : Nat) (a : GE) : GS := fun env ah => sb (a env ah) env fun v ah1 => .nx (env.set i (some v)) ah1
def gAsg (a : GE) (h : GG) : GS := fun env ah => sb (a env ah) env fun v ah1 => match h env v with
  | some env1 => .nx env1 ah1
  | none => .bad
def gBreak : GS := fun env ah => .bk env ah
def gCont : GS := fun env ah => .ct env ah
@[simp] theorem andThen_nx {env : Env} {ah : AH} {k : GS} : (SRes.nx env ah).andThen k = k env ah := rfl
@[simp] theorem andThen_rt {v : AV} {ah : AH} {k : GS} : (SRes.rt v ah).andThen k = .rt v ah := rfl
@[simp] theorem andThen_bad {k : GS} : SRes.bad.andThen k = .bad := rfl
@[simp] theorem andThen_exc {e : EV} {env : Env} {ah : AH} {k : GS} : (SRes.exc e env ah).andThen k = .exc e env ah := rfl
@[simp] theorem andThen_bk {env : Env} {ah : AH} {k : GS} : (SRes.bk env ah).andThen k = .bk env ah := rfl
@[simp] theorem andThen_ct {env : Env} {ah : AH} {k : GS} : (SRes.ct env ah).andThen k = .ct env ah := rfl
section
variable {X : Cx} {W : WX} {a b c : Expr} {st : Stmt} {sts sts' : List Stmt} {fa fb fc : GE} {f g : GS} {t : GT} {pos : Pos}
theorem gs_nil : PSs X [] (tGS X W gSkip) := PSs.weak pss_nil fun D σ H ⟨m, env, ah, hE, hR, hp⟩ => hp m H σ (Ext.refl m H) hR hE
theorem gs_pass : PS X (.Pass pos) (tGS X W gSkip) := PS.weak ps_pass fun D σ H ⟨m, env, ah, hE, hR, hp⟩ => hp m H σ (Ext.refl m H) hR hE
theorem gs_doc {x j pos pos'} : PS X (.Expr (.Constant (.str x) j pos) pos') (tGS X W gSkip) := PS.weak ps_doc fun D σ H ⟨m, env, ah, hE, hR, hp⟩ => hp m H σ (Ext.refl m H) hR hE
theorem gs_break : PS X (.Break pos) (tGS X W gBreak) := PS.weak ps_break fun D σ H ⟨m, env, ah, hE, hR, hp⟩ => hp m H σ (Ext.refl m H) hR hE
theorem gs_cont : PS X (.Continue pos) (tGS X W gCont) := PS.weak ps_continue fun D σ H ⟨m, env, ah, hE, hR, hp⟩ => hp m H σ (Ext.refl m H) hR hE
theorem gs_one (h : PS X st (tGS X W f)) : PSs X [st] (tGS X W f) := pss_one h
theorem gs_cons (h1 : PS X st (tGS X W f)) (h2 : PSs X sts (tGS X W g)) : PSs X (st :: sts) (tGS X W (gSeq f g)) :=
  PSs.weak (pss_cons h1 h2) fun D σ H hh => by
    obtain ⟨m, env, ah, hE, hR, hp⟩ := hh
    refine ⟨m, env, ah, hE, hR, ?_⟩
    unfold gSeq at hp
    cases e : f env ah with
    | nx env1 ah1 =>
      rw [e] at hp
      exact fun m' H' σ' e1 r1 E1 => ⟨m', env1, ah1, E1, r1, sPost.mono e1 hp⟩
    | rt v ah1 => rw [e] at hp; exact hp
    | bk env1 ah1 => rw [e] at hp; exact hp
    | ct env1 ah1 => rw [e] at hp; exact hp
    | exc ev env1 ah1 => rw [e] at hp; exact hp
    | bad => rw [e] at hp; exact hp
theorem gs_if (hc : PT X c (tGT X W t)) (ha : PSs X sts (tGS X W f)) (hb : PSs X sts' (tGS X W g)) : PS X (.If c sts sts' pos) (tGS X W (gIf t f g)) :=
  PS.weak (ps_if hc ha hb) fun D σ H hh => by
    obtain ⟨m, env, ah, hE, hR, hp⟩ := hh
    refine sGT_step hE hR hp fun v ah1 m1 H1 e1 r1 hp1 => ?_
    cases v with
    | true => exact iteT ⟨m1, env, ah1, hE.mono e1, r1, hp1⟩
    | false => exact iteF ⟨m1, env, ah1, hE.mono e1, r1, hp1⟩
theorem gs_ret (ha : PE X a (tG X W fa)) : PS X (.Return (some a) pos) (tGS X W (gRet fa)) :=
  PS.weak (ps_ret ha) fun D σ H hh => by
    obtain ⟨m, env, ah, hE, hR, hp⟩ := hh
    exact sG_step hE hR hp fun v ah1 m1 H1 x e1 r1 v1 hp1 => PQ.here hp1 r1 v1
theorem gs_retN : PS X (.Return none pos) (tGS X W gRetN) :=
  PS.weak ps_retN fun D σ H hh => by
    obtain ⟨m, env, ah, hE, hR, hp⟩ := hh
    exact PQ.here hp hR .non
theorem gs_drop (ha : PE X a (tG X W fa)) (hs : swapsWith a none pos.line X.env = pure false := by rfl) : PS X (.Expr a pos) (tGS X W (gDrop fa)) :=
  PS.weak (ps_expr ha hs) fun D σ H hh => by
    obtain ⟨m, env, ah, hE, hR, hp⟩ := hh
    exact sG_step hE hR hp fun v ah1 m1 H1 x e1 r1 v1 hp1 => hp1 m1 H1 σ (Ext.refl _ _) r1 (hE.mono e1)
theorem set_read {te : TE} {i : Nat} (hr : ∀ σ H Q, tG X W fa σ H Q → te σ H Q) {D : Ends} {σ : L2.St} {H : Hp} (hh : tGS X W (gSet i fa) D σ H) : tAsg te (gName i) D σ H := by
  obtain ⟨m, env, ah, hE, hR, hp⟩ := hh
  exact hr _ _ _ (sG_step hE hR hp fun v ah1 m1 H1 x e1 r1 v1 hp1 => hp1 m1 H1 _ (Ext.refl _ _) r1 ((hE.mono e1).set i v1))
theorem gs_set {i : Nat} {x : Str} {pos' : Pos} (hN : X.N.Nodup) (hi : X.N[i]? = some x) (hx : Loc X.env.scope x) (ha : PE X a (tG X W fa)) (hs : swapsWith a (some (.Name x pos')) pos.line X.env = pure false := by rfl) (hf : X.fn x = true ∨ X.env.scope.names.lookup x = some .local := by first | exact .inl rfl | exact .inr rfl) :
    PS X (.Assign [.Name x pos'] a pos) (tGS X W (gSet i fa)) :=
  PS.weak (ps_set hN hi hx ha hs hf) fun D σ H hh => set_read (fun _ _ _ q => q) hh
/-- name = a comprehension -/
theorem gs_setLc {it : GI} {h : GG} {tt : GT} {e : GE} {is : List Nat} {tg iter elt : Expr} {ifs : List Expr} {scope : Scope} {own : List (Str × Nat)} {i : Nat} {y : Str} {py spos : Pos} (hc : X.calm = true) (hN : X.N.Nodup) (hy : X.N[i]? = some y) (hyl : X.env.scope.names.lookup y = some .local)
    (hsw : swapsWith (.ListComp elt [⟨tg, iter, ifs, 0⟩] scope pos) (some (.Name y py)) spos.line X.env = pure true) (hi : PI X tg iter (tGI X W it)) (ok : BlkOk X.N X.env.scope scope own) (hsub : ∀ i ∈ is, i ∈ own.map (·.2))
    (hg : ∀ (s : Shared) (H : Hp) (C : Addr) (cl : List (Str × Addr)) (fp : List Addr), PG (X.blk s H scope (compEnvC scope cl C X.env) fp) tg (tGG X.K is h)) (ht : ∀ (s : Shared) (H : Hp) (C : Addr) (cl : List (Str × Addr)) (fp : List Addr), PTs (X.blk s H scope (compEnvC scope cl C X.env) fp) ifs (tGT (X.blk s H scope (compEnvC scope cl C X.env) fp) (fun _ _ _ _ => False) tt))
    (he : ∀ (s : Shared) (H : Hp) (C : Addr) (cl : List (Str × Addr)) (fp : List Addr), PE (X.blk s H scope (compEnvC scope cl C X.env) fp) elt (tG (X.blk s H scope (compEnvC scope cl C X.env) fp) (fun _ _ _ _ => False) e)) (hs : ∀ x, foldedSetIterable iter X.env x = pure x := by intro _; rfl) :
    PS X (.Assign [.Name y py] (.ListComp elt [⟨tg, iter, ifs, 0⟩] scope pos) spos) (tGS X W (gSet i (gLcV it h tt e (own.map (·.2))))) :=
  PS.weak (ge_setLc hc hN hy hyl hsw hi ok hg ht he (fun _ _ _ q => q) hs) fun D σ H hh => set_read (fun _ _ _ q => lcV_read hsub q) hh
theorem gs_setLcH {it : GI} {h : GG} {tt : GT} {e : GE} {is : List Nat} {tg iter elt : Expr} {ifs : List Expr} {scope : Scope} {own : List (Str × Nat)} {i : Nat} {y : Str} {py spos : Pos} (hc : X.calm = true) (hN : X.N.Nodup) (hy : X.N[i]? = some y) (hyl : X.env.scope.names.lookup y = some .local)
    (hsw : swapsWith (.ListComp elt [⟨tg, iter, ifs, 0⟩] scope pos) (some (.Name y py)) spos.line X.env = pure true) (hi : PI X tg iter (tGI X W it)) (ok : BlkOk X.N X.env.scope scope own) (hsub : ∀ i ∈ is, i ∈ own.map (·.2))
    (hg : ∀ (s : Shared) (H : Hp) (C : Addr) (cl : List (Str × Addr)) (fp : List Addr), PG (X.blk s H scope (compEnvC scope cl C X.env) fp) tg (tGG X.K is h)) (ht : ∀ (s : Shared) (H : Hp) (C : Addr) (cl : List (Str × Addr)) (fp : List Addr), PTs (X.blk s H scope (compEnvC scope cl C X.env) fp) ifs (tGT (X.blk s H scope (compEnvC scope cl C X.env) fp) (fun _ _ _ _ => False) tt))
    (he : ∀ (s : Shared) (H : Hp) (C : Addr) (cl : List (Str × Addr)) (fp : List Addr), PE (X.blk s H scope (compEnvC scope cl C X.env) fp) elt (tG (X.blk s H scope (compEnvC scope cl C X.env) fp) (fun _ _ _ _ => False) e)) (hs : ∀ x, foldedSetIterable iter X.env x = pure x := by intro _; rfl) :
    PS X (.Assign [.Name y py] (.ListComp elt [⟨tg, iter, ifs, 0⟩] scope pos) spos) (tGS X W (gSet i (gLcH it h tt e (own.map (·.2))))) :=
  PS.weak (ge_setLc hc hN hy hyl hsw hi ok hg ht he (fun _ _ _ q => q) hs) fun D σ H hh => set_read (fun _ _ _ q => lcH_read hsub q) hh
theorem gs_asg {is : List Nat} {h : GG} {tg : Expr} (ha : PE X a (tG X W fa)) (hg : PG X tg (tGG X.K is h)) (hs : swapsWithSole [tg] a pos.line X.env = pure false := by rfl) (hw : swappedStores [tg] a X.env = pure none := by rfl)
    (h1 : (assignEach [tg] X.env).map (·.2) = [assign tg X.env] := by rfl) : PS X (.Assign [tg] a pos) (tGS X W (gAsg fa h)) :=
  PS.weak (ps_asg ha hg hs hw h1) fun D σ H hh => by
    obtain ⟨m, env, ah, hE, hR, hp⟩ := hh
    refine sG_step hE hR hp fun v ah1 m1 H1 x e1 r1 v1 hp1 => ?_
    cases q : h env v with
    | none => rw [q] at hp1; exact hp1.elim
    | some env1 =>
      rw [q] at hp1
      exact ⟨m1, env, v, env1, hE.mono e1, v1, q, fun σ' E' _ => hp1 m1 H1 σ' (Ext.refl _ _) r1 E'⟩

def putA (l : List (AK × AV)) (k : AK) (v : AV) : List (AK × AV) := if l.any (fun p => decide (p.1 = k)) then l.map (fun p => if p.1 = k then (p.1, v) else p) else l ++ [(k, v)]
theorem VRk.any {K : PySem.W.Frag} {m : MM} {H : Hp} (k : AK) : ∀ {l : List (AK × AV)} {kvs : List (Key × V)}, VRk K m H l kvs → (l.any fun p => decide (p.1 = k)) = kvs.any fun p => decide (p.1 = akey k)
  | _, _, .nil => rfl
  | _, _, .cons (k := j) h r => by
    rw [List.any_cons, List.any_cons, VRk.any k r]
    congr 1
    by_cases e : j = k
    · subst e; simp
    · rw [decide_eq_false e, decide_eq_false fun z => e (akey_inj z)]
theorem VRk.repl {K : PySem.W.Frag} {m : MM} {H : Hp} (k : AK) {v : AV} {x : V} (hv : VR K m H v x) : ∀ {l : List (AK × AV)} {kvs : List (Key × V)}, VRk K m H l kvs → VRk K m H (l.map fun p => if p.1 = k then (p.1, v) else p) (kvs.map fun p => if p.1 = akey k then (p.1, x) else p)
  | _, _, .nil => .nil
  | _, _, .cons (k := j) h r => by
    rw [List.map_cons, List.map_cons]
    by_cases e : j = k
    · subst e
      rw [if_pos rfl, if_pos rfl]
      exact .cons hv (VRk.repl _ hv r)
    · rw [if_neg e, if_neg fun z => e (akey_inj z)]
      exact .cons h (VRk.repl _ hv r)
theorem VRk.append {K : PySem.W.Frag} {m : MM} {H : Hp} : ∀ {l l' : List (AK × AV)} {xs ys : List (Key × V)}, VRk K m H l xs → VRk K m H l' ys → VRk K m H (l ++ l') (xs ++ ys)
  | _, _, _, _, .nil, s => s
  | _, _, _, _, .cons h r, s => .cons h (VRk.append r s)
theorem VRk.put {K : PySem.W.Frag} {m : MM} {H : Hp} (k : AK) {v : AV} {x : V} {l : List (AK × AV)} {kvs : List (Key × V)} (hv : VR K m H v x) (h : VRk K m H l kvs) : VRk K m H (putA l k v) (putK kvs (akey k) x) := by
  unfold putA putK
  rw [h.any k]
  split
  · exact h.repl k hv
  · exact h.append (.cons hv .nil)
def stL (l : List AV) (k v : AV) : Option (List AV) := match k with
  | .int i => (ixN l.length i).map fun j => l.set j v
  | _ => none
def stD (l : List (AK × AV)) (k v : AV) : Option (List (AK × AV)) := match keyA k with
  | some q => if l.length < 1000000 then some (putA l q v) else none
  | none => none
def stA (ah : AH) (w k v : AV) : Option AH := match w with
  | .ref n => match ah[n]? with
    | some (.lst l) => (stL l k v).map fun l' => ah.set n (.lst l')
    | some (.dk l) => (stD l k v).map fun l' => ah.set n (.dk l')
    | none => none
  | _ => none
def rSetD : TSet := fun o i v H Q => ∃ a kvs k, o = .ref a ∧ i = kV k ∧ H a = some (.dK kvs) ∧ kvs.length < sizeLine ∧ Q (upd H a (.dK (putK kvs k v)))
theorem set_dict (hu : X.A.units + 1 < cLine) : PSet X rSetD := by
  intro pins s σ H o i v ov iv u Q I r1 r2 r3 h
  obtain ⟨a, kvs, k, rfl, rfl, hd, hl, q⟩ := h
  cases r1
  exact d_setItem hu I (DPut.k hd hl) r2 r3 fun s' I' => ⟨_, I', q⟩
theorem PSet.or {t t' : TSet} (h : PSet X t) (h' : PSet X t') : PSet X (fun o i v H Q => t o i v H Q ∨ t' o i v H Q) := by
  intro pins s σ H o i v ov iv u Q I r1 r2 r3 q
  rcases q with q | q
  · exact h pins s σ H o i v ov iv u Q I r1 r2 r3 q
  · exact h' pins s σ H o i v ov iv u Q I r1 r2 r3 q
theorem st_read {m : MM} {H : Hp} {ah ah' : AH} {w k v : AV} {o i x : V} {Q : Hp → Prop} (r : Rel X.K m ah H) (hw : VR X.K m H w o) (hk : VR X.K m H k i) (hv : VR X.K m H v x) (hf : stA ah w k v = some ah')
    (q : ∀ m' H', Ext m H m' H' → Rel X.K m' ah' H' → Q H') : rSetL o i x H Q ∨ rSetD o i x H Q := by
  unfold stA at hf
  split at hf
  · cases hw with
    | ref hm =>
      rename_i n a
      obtain ⟨ob, ho, qo⟩ := r.at hm
      rw [ho] at hf
      cases ob with
      | lst l =>
        obtain ⟨vs, h1, h2⟩ := qo
        obtain ⟨l', hf2, rfl⟩ := Option.map_eq_some_iff.mp hf
        clear hf
        unfold stL at hf2
        split at hf2
        · cases hk
          obtain ⟨j, hj, rfl⟩ := Option.map_eq_some_iff.mp hf2
          have ex : Ext m H m (upd H a (.lst (vs.set j x))) := Ext.write r (List.mem_of_getElem? hm)
          exact .inl ⟨a, vs, _, j, rfl, rfl, h1, by rw [← h2.length]; exact hj, q m _ ex (r.write hm rfl ⟨_, rfl, (h2.set hv j).mono ex⟩)⟩
        · cases hf2
      | dk l =>
        obtain ⟨kvs, h1, h2⟩ := qo
        obtain ⟨l', hf2, rfl⟩ := Option.map_eq_some_iff.mp hf
        clear hf
        unfold stD at hf2
        split at hf2
        · rename_i kq hkq
          split at hf2
          · rename_i hl
            cases hf2
            have ex : Ext m H m (upd H a (.dK (putK kvs (akey kq) x))) := Ext.write r (List.mem_of_getElem? hm)
            have h16 : sizeLine = 16777216 := sizeLine_eq
            exact .inr ⟨a, kvs, akey kq, rfl, keyA_kV hkq hk, h1, by rw [← h2.length]; omega, q m _ ex (r.write hm rfl ⟨_, rfl, (h2.put kq hv).mono ex⟩)⟩
          · cases hf2
        · cases hf2
  · cases hf
def gStore (e o i : GE) : GS := fun env ah => sb (e env ah) env fun v ah1 => sb (o env ah1) env fun w ah2 => sb (i env ah2) env fun k ah3 => match stA ah3 w k v with
  | some ah4 => .nx env ah4
  | none => .bad
theorem gs_store {tpos : Pos} {k : Nat} (hr : Room k X.A) (ha : PE X a (tG X W fa)) (hb : PE X b (tG X W fb)) (hc : PE X c (tG X W fc))
    (has : ∀ v, assign (.Subscript b c tpos) X.env v = (do
      let ov ← holding [v] (eval b X.env)
      let iv ← holding [v, ov] (eval c X.env)
      standAt tpos
      holding [v, ov, iv] (setItem ov iv v)
      release [v, ov, iv] []) := by intro _; rfl)
    (hs : swapsWithSole [.Subscript b c tpos] a pos.line X.env = pure false := by rfl) (hw : swappedStores [.Subscript b c tpos] a X.env = pure none := by rfl)
    (h1 : (assignEach [.Subscript b c tpos] X.env).map (·.2) = [assign (.Subscript b c tpos) X.env] := by rfl) : PS X (.Assign [.Subscript b c tpos] a pos) (tGS X W (gStore fa fb fc)) :=
  PS.weak (ps_asg ha (pg_sub hb hc (PSet.or set_list (set_dict (hu_of hr))) has) hs hw h1) fun D σ H hh => by
    obtain ⟨m, env, ah, hE, hR, hp⟩ := hh
    refine sG_step hE hR hp fun v ah1 m1 H1 x e1 r1 v1 hp1 => ?_
    refine sG_step (hE.mono e1) r1 hp1 fun w ah2 m2 H2 o e2 r2 v2 hp2 => ?_
    refine sG_step ((hE.mono e1).mono e2) r2 hp2 fun k ah3 m3 H3 i e3 r3 v3 hp3 => ?_
    cases q : stA ah3 w k v with
    | none => rw [q] at hp3; exact hp3.elim
    | some ah4 =>
      rw [q] at hp3
      exact st_read r3 (v2.mono e3) v3 ((v1.mono e2).mono e3) q fun m' H' ex r' => hp3 m' H' σ ex r' (((hE.mono e1).mono e2).mono (e3.trans ex))

def lref (ah : AH) (w : AV) : Option Nat := match w with
  | .ref n => match ah[n]? with
    | some (.lst _) => some n
    | _ => none
  | _ => none
theorem lref_eq {ah : AH} {n : Nat} {l : List AV} (h : ah[n]? = some (.lst l)) : lref ah (.ref n) = some n := by
  show (match ah[n]? with | some (.lst _) => some n | _ => none) = some n
  rw [h]
def apA (ah : AH) (n : Nat) (v : AV) : Res AV := match ah[n]? with
  | some (.lst l) => if l.length < 1000000 then .ok .non (ah.set n (.lst (l ++ [v]))) else .bad
  | _ => .bad
theorem apA_eq {ah : AH} {n : Nat} {l : List AV} {v : AV} (h : ah[n]? = some (.lst l)) (hl : l.length < 1000000) : apA ah n v = .ok .non (ah.set n (.lst (l ++ [v]))) := by
  unfold apA
  rw [h]
  exact if_pos hl
def gApp (o e : GE) : GE := fun env ah => rb (o env ah) fun w ah1 => match lref ah1 w with
  | some n => rb (e env ah1) fun v ah2 => apA ah2 n v
  | none => .bad
/-- o.pop() -/
def ppA (ah : AH) (n : Nat) : Res AV := match ah[n]? with
  | some (.lst l) => match l[l.length - 1]? with
    | some v => .ok v (ah.set n (.lst l.dropLast))
    | none => .bad
  | _ => .bad
def gPop (o : GE) : GE := fun env ah => rb (o env ah) fun w ah1 => match lref ah1 w with
  | some n => ppA ah1 n
  | none => .bad
/-- o.extend(e) -/
def exA (ah : AH) (n : Nat) (v : AV) : Res AV := match ah[n]?, dr ah v with
  | some (.lst l), .lst l' => if l.length + l'.length < 1000000 then .ok .non (ah.set n (.lst (l ++ l'))) else .bad
  | _, _ => .bad
def gExt (o e : GE) : GE := fun env ah => rb (o env ah) fun w ah1 => match lref ah1 w with
  | some n => rb (e env ah1) fun v ah2 => exA ah2 n v
  | none => .bad
/-- o.clear() -/
def clA (ah : AH) (n : Nat) : Res AV := match ah[n]? with
  | some (.lst l) => .ok .non (ah.set n (.lst []))
  | _ => .bad
theorem lref_of {m : MM} {H : Hp} {ah : AH} {w : AV} {n : Nat} {x : V} (r : Rel X.K m ah H) (h : VR X.K m H w x) (e : lref ah w = some n) : w = .ref n ∧ ∃ a, x = .ref a ∧ m.l[n]? = some a ∧ tyV X.K "list" x H := by
  cases h with
  | ref hm =>
    rename_i k a
    obtain ⟨ob, ho, q⟩ := r.at hm
    have e : (match ah[k]? with | some (.lst _) => some k | _ => none) = some n := e
    rw [ho] at e
    cases ob with
    | lst l =>
      cases e
      obtain ⟨vs, h1, _⟩ := q
      exact ⟨rfl, a, rfl, hm, .inl ⟨rfl, vs, SqL.of h1⟩⟩
    | dk l => cases e
  | _ => cases e
variable {o : Expr} {apos cpos : Pos}
/-- o.append(e) -/
theorem ge_app (ha : PE X o (tG X W fa)) (hb : PE X b (tG X W fb)) (hbase : attributeBase o "append" X.env (eval o X.env) = eval o X.env := by rfl)
    (hfew : ((backTo cpos (starEach [b] X.env)).all (fun x => !x.1) && (backToKw cpos (keywordEach [] X.env)).all (fun x => x.1.isSome)
      && decide ([b].length + ([] : List Keyword).length + (if ([] : List Keyword).isEmpty then 0 else 1) < 30)) = true := by rfl)
    (hline : (apos.endLine == cpos.line) = true := by rfl) (hs : starEach [b] X.env = (false, eval b X.env) :: starEach [] X.env := by rfl) (hplain : (backTo cpos (starEach [] X.env)).any (·.1) = false := by rfl) :
    PE X (.Call (.Attribute o "append" apos) [b] [] cpos) (tG X W (gApp fa fb)) :=
  PE.weak (pe_bm PySem.F.plainAttrs_list PySem.F.slot_list_append PySem.F.type_list_append mt_append ha (pa_cons hb pa_nil hs) hbase hfew hline hs hplain) fun σ H Q hh => by
    obtain ⟨m, env, ah, hE, hR, hp⟩ := hh
    refine tG_step hE hR hp (fun _ _ h => h) fun w ah1 m1 H1 x e1 r1 v1 hp1 => ?_
    cases q : lref ah1 w with
    | none => rw [q] at hp1; exact hp1.elim
    | some n =>
      rw [q] at hp1
      obtain ⟨rfl, a, rfl, hm, ty⟩ := lref_of r1 v1 q
      refine ⟨ty, tG_step (hE.mono e1) r1 (Res.post_imp hp1 (fun _ _ _ h => PQ.mono e1 h) (fun _ _ h => PX.mono e1 h)) (fun _ _ h => h) fun v ah2 m2 H2 y e2 r2 v2 hp2 => ?_⟩
      obtain ⟨ob, ho, qo⟩ := r2.at (e2.get hm)
      have hp2 : (apA ah2 n v).post _ _ := hp2
      unfold apA at hp2
      rw [ho] at hp2
      cases ob with
      | dk l => exact hp2.elim
      | lst l =>
        obtain ⟨vs, h1, h2⟩ := qo
        have hp2 : (if l.length < 1000000 then Res.ok AV.non (ah2.set n (.lst (l ++ [v]))) else .bad).post _ _ := hp2
        split at hp2
        · rename_i hl
          have h16 : sizeLine = 16777216 := sizeLine_eq
          have ex : Ext m2 H2 m2 (upd H2 a (.lst (vs ++ [y]))) := Ext.write r2 (List.mem_of_getElem? (e2.get hm))
          exact ⟨a, vs, y, rfl, rfl, h1, by rw [← h2.length]; omega, hp2 m2 _ _ (e2.trans ex) (r2.write (e2.get hm) rfl ⟨_, rfl, (h2.append (.cons v2 .nil)).mono ex⟩) .non⟩
        · exact hp2.elim
theorem ge_pop (ha : PE X o (tG X W fa)) (hbase : attributeBase o "pop" X.env (eval o X.env) = eval o X.env := by rfl) (hline : (apos.endLine == cpos.line) = true := by rfl) :
    PE X (.Call (.Attribute o "pop" apos) [] [] cpos) (tG X W (gPop fa)) :=
  PE.weak (pe_bm0 PySem.F.plainAttrs_list PySem.F.slot_list_pop PySem.F.type_list_pop mt_pop ha hbase hline) fun σ H Q hh => by
    obtain ⟨m, env, ah, hE, hR, hp⟩ := hh
    refine tG_step hE hR hp (fun _ _ h => h) fun w ah1 m1 H1 x e1 r1 v1 hp1 => ?_
    cases q : lref ah1 w with
    | none => rw [q] at hp1; exact hp1.elim
    | some n =>
      rw [q] at hp1
      obtain ⟨rfl, a, rfl, hm, ty⟩ := lref_of r1 v1 q
      refine ⟨ty, ?_⟩
      obtain ⟨ob, ho, qo⟩ := r1.at hm
      have hp1 : (ppA ah1 n).post _ _ := hp1
      unfold ppA at hp1
      rw [ho] at hp1
      cases ob with
      | dk l => exact hp1.elim
      | lst l =>
        obtain ⟨vs, h1, h2⟩ := qo
        have hp1 : (match l[l.length - 1]? with | some v => Res.ok v (ah1.set n (.lst l.dropLast)) | none => .bad).post _ _ := hp1
        cases q2 : l[l.length - 1]? with
        | none => rw [q2] at hp1; exact hp1.elim
        | some v =>
          rw [q2] at hp1
          obtain ⟨y, hy, ry⟩ := h2.get q2
          have ex : Ext m1 H1 m1 (upd H1 a (.lst vs.dropLast)) := Ext.write r1 (List.mem_of_getElem? hm)
          exact ⟨a, vs, y, rfl, rfl, h1, by rw [← h2.length]; exact hy, hp1 m1 _ _ (e1.trans ex) (r1.write hm rfl ⟨_, rfl, h2.dropLast.mono ex⟩) (ry.mono ex)⟩
end

def SRes.loop (r : SRes) (k : GS) : SRes := match r with
  | .nx env ah => k env ah
  | .ct env ah => k env ah
  | .bk env ah => .nx env ah
  | .rt v ah => .rt v ah
  | .exc e env ah => .exc e env ah
  | .bad => .bad
@[simp] theorem loop_nx {env : Env} {ah : AH} {k : GS} : (SRes.nx env ah).loop k = k env ah := rfl
@[simp] theorem loop_ct {env : Env} {ah : AH} {k : GS} : (SRes.ct env ah).loop k = k env ah := rfl
@[simp] theorem loop_bk {env : Env} {ah : AH} {k : GS} : (SRes.bk env ah).loop k = .nx env ah := rfl
@[simp] theorem loop_rt {v : AV} {ah : AH} {k : GS} : (SRes.rt v ah).loop k = .rt v ah := rfl
@[simp] theorem loop_exc {e : EV} {env : Env} {ah : AH} {k : GS} : (SRes.exc e env ah).loop k = .exc e env ah := rfl
@[simp] theorem loop_bad {k : GS} : SRes.bad.loop k = .bad := rfl
noncomputable def forL (src : Src) (h : GG) (body : GS) : List AV → GS
  | [] => fun env ah => @ite _ (ckS src ah) (Classical.propDecidable _) (.nx env ah) .bad
  | v :: vs => fun env ah => @ite _ (ckS src ah) (Classical.propDecidable _) (match h env v with
    | none => .bad
    | some env1 => (body env1 ah).loop (forL src h body vs)) .bad
noncomputable def gFor (it : GI) (h : GG) (body : GS) : GS := fun env ah => sb (it env ah) env fun src ah1 => forL src h body src.2 env ah1
section
variable {X : Cx} {W : WX} {a b c tg iter : Expr} {sts : List Stmt} {f : GS} {t : GT} {it : GI} {h : GG} {is : List Nat} {pos : Pos}
theorem gs_for {k : Nat} (hx : XG X W k) (hi : PI X tg iter (tGI X W it)) (hg : PG X tg (tGG X.K is h)) (hb : PSs X sts (tGS X W f)) (hs : ∀ x, foldedSetIterable iter X.env x = pure x := by intro _; rfl) : PS X (.For tg iter sts [] pos) (tGS X W (gFor it h f)) :=
  PS.weak (ps_for hx.po hx.calm hi hg hb hs) fun D σ H hh => by
    obtain ⟨m, env, ah, hE, hR, hp⟩ := hh
    refine ⟨m, env, ah, hE, hR, ?_⟩
    unfold gFor at hp
    cases q : it env ah with
    | bad => rw [q] at hp; exact hp.elim
    | exc ev ah1 =>
      rw [q] at hp
      exact fun m1 H1 cl d e1 r1 xr => hp m1 H1 σ cl d e1 r1 (hE.mono e1) xr
    | ok src ah1 =>
      rw [q] at hp
      intro m1 H1 J e1 r1 jg
      have hp : sPost X W m H D (forL src h f src.2 env ah1) := hp
      refine ⟨fun i k σ H => k = src.2.length - i ∧ i ≤ src.2.length ∧ ∃ m2 env ah, Ext m1 H1 m2 H ∧ EnvR X.K m2 H env σ ∧ Rel X.K m2 ah H ∧ sPost X W m2 H D (forL src h f (src.2.drop i) env ah), ⟨src.2.length, by simp, Nat.zero_le _, m1, env, ah1, Ext.refl _ _, hE.mono e1, r1, sPost.mono e1 hp⟩, ?_⟩
      rintro i k σ2 H2 ⟨rfl, hile, m2, env2, ah2, e2, E2, r2, hp2⟩
      by_cases hlt : i < src.2.length
      · right
        have hv : src.2[i]? = some src.2[i] := List.getElem?_eq_getElem hlt
        generalize src.2[i] = v at hv
        have hdrop : src.2.drop i = v :: src.2.drop (i + 1) := by
          rw [List.drop_eq_getElem_cons hlt]
          congr 1
          have := List.getElem?_eq_getElem hlt
          rw [hv] at this; exact (Option.some.inj this).symm
        rw [hdrop] at hp2
        unfold forL at hp2
        by_cases hck : ckS src ah2
        · rw [if_pos hck] at hp2
          refine ⟨jg.go m2 H2 ah2 i v e2 r2 hck hv, fun σ' H' => ∃ m2 env ah, Ext m1 H1 m2 H' ∧ EnvR X.K m2 H' env σ' ∧ Rel X.K m2 ah H' ∧ sPost X W m2 H' D (forL src h f (src.2.drop (i + 1)) env ah), fun σ' H' hn => ⟨src.2.length - (i + 1), by omega, rfl, by omega, hn⟩, fun x H' y => ?_⟩
          obtain ⟨hgr, hvx⟩ := jg.yld m2 H2 ah2 i v x H' e2 r2 hck hv y
          have eg : Ext m2 H2 m2 H' := Ext.grow hgr
          cases q2 : h env2 v with
          | none => rw [q2] at hp2; exact hp2.elim
          | some env3 =>
            rw [q2] at hp2
            have hp2 : sPost X W m2 H2 D ((f env3 ah2).loop (forL src h f (src.2.drop (i + 1)))) := hp2
            refine ⟨m2, env2, v, env3, E2.mono eg, hvx, q2, fun σ' E' _ => ⟨m2, env3, ah2, E', r2.grow hgr, ?_⟩⟩
            have hp3 := sPost.mono eg hp2
            cases q3 : f env3 ah2 with
            | nx env4 ah4 => rw [q3] at hp3; exact fun m' H'' σ'' ex rl er => ⟨m', env4, ah4, (e2.trans eg).trans ex, er, rl, sPost.mono ex hp3⟩
            | ct env4 ah4 => rw [q3] at hp3; exact fun m' H'' σ'' ex rl er => ⟨m', env4, ah4, (e2.trans eg).trans ex, er, rl, sPost.mono ex hp3⟩
            | bk env4 ah4 => rw [q3] at hp3; exact hp3
            | rt v ah4 => rw [q3] at hp3; exact hp3
            | exc ev env4 ah4 => rw [q3] at hp3; exact hp3
            | bad => rw [q3] at hp3; exact hp3
        · rw [if_neg hck] at hp2; exact hp2.elim
      · left
        have ei : i = src.2.length := by omega
        subst ei
        rw [List.drop_length] at hp2
        unfold forL at hp2
        by_cases hck : ckS src ah2
        · rw [if_pos hck] at hp2
          exact ⟨jg.stop m2 H2 ah2 e2 r2 hck, hp2 m2 H2 σ2 (Ext.refl _ _) r2 E2⟩
        · rw [if_neg hck] at hp2; exact hp2.elim
def whN (t : GT) (f : GS) : Nat → GS
  | 0 => fun _ _ => .bad
  | n + 1 => fun env ah => sb (t env ah) env fun b ah1 => if b = true then (f env ah1).loop (whN t f n) else .nx env ah1
theorem whN_mono (t : GT) (f : GS) : ∀ (n k : Nat) (env : Env) (ah : AH), n ≤ k → whN t f n env ah ≠ .bad → whN t f k env ah = whN t f n env ah
  | 0, k, env, ah, _, h => absurd rfl h
  | n + 1, k, env, ah, hk, h => by
    obtain ⟨k, rfl⟩ : ∃ j, k = j + 1 := ⟨k - 1, by omega⟩
    unfold whN at h ⊢
    cases q : t env ah with
    | bad => rfl
    | exc ev ah1 => rfl
    | ok b ah1 =>
      rw [q] at h
      cases b with
      | false => rfl
      | true =>
        have h : (f env ah1).loop (whN t f n) ≠ .bad := h
        show (f env ah1).loop (whN t f k) = (f env ah1).loop (whN t f n)
        cases q2 : f env ah1 with
        | nx env2 ah2 => rw [q2] at h; exact whN_mono t f n k env2 ah2 (by omega) h
        | ct env2 ah2 => rw [q2] at h; exact whN_mono t f n k env2 ah2 (by omega) h
        | _ => rfl
open Classical in
noncomputable def gWhile (t : GT) (f : GS) : GS := fun env ah => if h : ∃ n, whN t f n env ah ≠ .bad then whN t f (Classical.choose h) env ah else .bad
theorem gWhile_of {t : GT} {f : GS} {n : Nat} {env : Env} {ah : AH} (h : whN t f n env ah ≠ .bad) : gWhile t f env ah = whN t f n env ah := by
  have he : ∃ n, whN t f n env ah ≠ .bad := ⟨n, h⟩
  unfold gWhile
  rw [dif_pos he]
  have hc := Classical.choose_spec he
  by_cases hn : n ≤ Classical.choose he
  · exact whN_mono t f _ _ env ah hn h
  · exact (whN_mono t f _ _ env ah (by omega) hc).symm
theorem gWhile_eq (t : GT) (f : GS) (env : Env) (ah : AH) : gWhile t f env ah = sb (t env ah) env fun b ah1 => if b = true then (f env ah1).loop (gWhile t f) else .nx env ah1 := by
  by_cases he : ∃ n, whN t f n env ah ≠ .bad
  · obtain ⟨n, hn⟩ := he
    rw [gWhile_of hn]
    obtain ⟨n, rfl⟩ : ∃ j, n = j + 1 := ⟨n - 1, by cases n with | zero => exact absurd rfl hn | succ n => rfl⟩
    unfold whN at hn ⊢
    cases q : t env ah with
    | bad => rfl
    | exc ev ah1 => rfl
    | ok b ah1 =>
      rw [q] at hn
      cases b with
      | false => rfl
      | true =>
        have hn : (f env ah1).loop (whN t f n) ≠ .bad := hn
        show (f env ah1).loop (whN t f n) = (f env ah1).loop (gWhile t f)
        cases q2 : f env ah1 with
        | nx env2 ah2 => rw [q2] at hn; exact (gWhile_of hn).symm
        | ct env2 ah2 => rw [q2] at hn; exact (gWhile_of hn).symm
        | _ => rfl
  · have e : gWhile t f env ah = .bad := by unfold gWhile; rw [dif_neg he]
    rw [e]
    have hb : ∀ n, whN t f n env ah = .bad := fun n => Classical.byContradiction fun h => he ⟨n, h⟩
    cases q : t env ah with
    | bad => rfl
    | exc ev ah1 => have := hb 1; unfold whN at this; rw [q] at this; cases this
    | ok b ah1 =>
      cases b with
      | false => have := hb 1; unfold whN at this; rw [q] at this; cases this
      | true =>
        have hb2 : ∀ n, (f env ah1).loop (whN t f n) = .bad := fun n => by
          have := hb (n + 1); unfold whN at this; rw [q] at this; exact this
        show SRes.bad = (f env ah1).loop (gWhile t f)
        cases q2 : f env ah1 with
        | nx env2 ah2 =>
          show SRes.bad = gWhile t f env2 ah2
          unfold gWhile
          rw [dif_neg]
          intro ⟨n, hn⟩
          have := hb2 n; rw [q2] at this; exact hn this
        | ct env2 ah2 =>
          show SRes.bad = gWhile t f env2 ah2
          unfold gWhile
          rw [dif_neg]
          intro ⟨n, hn⟩
          have := hb2 n; rw [q2] at this; exact hn this
        | bad => rfl
        | _ => have := hb2 0; rw [q2] at this; cases this
theorem gs_while {k : Nat} (hx : XG X W k) (hc : PT X c (tGT X W t)) (hb : PSs X sts (tGS X W f)) : PS X (.While c sts [] pos) (tGS X W (gWhile t f)) :=
  PS.weak (ps_while hx.po hc hb) fun D σ H hh => by
    obtain ⟨m, env, ah, hE, hR, hp⟩ := hh
    have he : ∃ n, whN t f n env ah ≠ .bad := Classical.byContradiction fun he => by
      unfold gWhile at hp
      rw [dif_neg he] at hp
      exact hp
    obtain ⟨n, hn⟩ := he
    rw [gWhile_of hn] at hp
    refine ⟨fun k σ H => ∃ m env ah, EnvR X.K m H env σ ∧ Rel X.K m ah H ∧ sPost X W m H D (whN t f k env ah), ⟨n, m, env, ah, hE, hR, hp⟩, ?_⟩
    rintro k σ2 H2 ⟨m2, env2, ah2, E2, r2, hp2⟩
    cases k with
    | zero => exact hp2.elim
    | succ k =>
      unfold whN at hp2
      refine sGT_step E2 r2 hp2 fun b ah3 m3 H3 e3 r3 hp3 => ?_
      cases b with
      | false => exact iteF (hp3 m3 H3 σ2 (Ext.refl _ _) r3 (E2.mono e3))
      | true =>
        refine iteT ⟨fun σ' H' => ∃ m env ah, EnvR X.K m H' env σ' ∧ Rel X.K m ah H' ∧ sPost X W m H' D (whN t f k env ah), fun σ' H' hn => ⟨k, Nat.lt_succ_self _, hn⟩, m3, env2, ah3, E2.mono e3, r3, ?_⟩
        have hp3 : sPost X W m3 H3 D ((f env2 ah3).loop (whN t f k)) := hp3
        cases q3 : f env2 ah3 with
        | nx env4 ah4 => rw [q3] at hp3; exact fun m' H'' σ'' ex rl er => ⟨m', env4, ah4, er, rl, sPost.mono ex hp3⟩
        | ct env4 ah4 => rw [q3] at hp3; exact fun m' H'' σ'' ex rl er => ⟨m', env4, ah4, er, rl, sPost.mono ex hp3⟩
        | bk env4 ah4 => rw [q3] at hp3; exact hp3
        | rt v ah4 => rw [q3] at hp3; exact hp3
        | exc ev env4 ah4 => rw [q3] at hp3; exact hp3
        | bad => rw [q3] at hp3; exact hp3
end
end G
namespace G
open PySem PySem.Spec PyProof.Rows L2
set_option autoImplicit false

/-- what a def means -/
abbrev Den := List AV → AH → Res AV
structure FnG (P : Program) (w : World) (K : PySem.W.Frag) (mg : Str → Option Value) (base : Heap) (k : Nat) (f : Addr) (fd : FuncData) (ps : List Str) (den : Den) : Prop where
  len : ∀ l ah, den l ah ≠ .bad → l.length = ps.length
  run : ∀ (A : Around) (outer : List PySem.Env) (s : Shared) (H : Hp) (args : Args) (us : List Value) (vs : List V) (m : MM) (ah : AH) (l : List AV) (Q : VK) (E : XK), Room k A → A.guards = some [] → Env0 P w K mg base A outer s H → BindsTo s fd args (ps.zip us) → Vals vs us →
    Rel K m ah H → VRs K m H l vs → (den l ah).post (PQ K m H Q) (PX K mg m H E) → codeAny (model P w) A (.call (.ref f) args) (CR (L2.CX P w) outer P w H s Q E) s
theorem FnG.mono {P : Program} {w : World} {K : PySem.W.Frag} {mg : Str → Option Value} {base : Heap} {j k : Nat} {f : Addr} {fd : FuncData} {ps : List Str} {den : Den} (F : FnG P w K mg base j f fd ps den) (h : j ≤ k) : FnG P w K mg base k f fd ps den :=
  ⟨F.len, fun A outer s H args us vs m ah l Q E hr => F.run A outer s H args us vs m ah l Q E (hr.mono h)⟩
/-- a name of the module that is a def with that meaning -/
def FnD (P : Program) (w : World) (K : PySem.W.Frag) (mg : Str → Option Value) (base : Heap) (x : Str) (k : Nat) (den : Den) : Prop :=
  ∃ (f : Addr) (fd : FuncData) (ps : List Str), mg x = some (.ref f) ∧ PySem.W.keepIn K (.ref f) = true ∧ Binds K fd ps [] ∧ FnG P w K mg base k f fd ps den
theorem FnD.mono {P : Program} {w : World} {K : PySem.W.Frag} {mg : Str → Option Value} {base : Heap} {x : Str} {j k : Nat} {den : Den} (F : FnD P w K mg base x j den) (h : j ≤ k) : FnD P w K mg base x k den := by
  obtain ⟨f, fd, ps, h1, h2, h3, h4⟩ := F
  exact ⟨f, fd, ps, h1, h2, h3, h4.mono h⟩
def gCall (den : Den) (r : GA) : GE := fun env ah => rb (r env ah) fun l ah1 => den l ah1
section
variable {X : Cx} {W : WX} {e : Expr} {es : List Expr} {fr : GA} {pos p : Pos} {x : Str} {k j : Nat} {den : Den}
theorem call_run {pins : List (Addr × Obj)} {σ : L2.St} {H : Hp} {s : Shared} {Q : VK} {us : List Value} {vs : List V} {m : MM} {ah : AH} {l : List AV} {f : Addr} {fd : FuncData} {ps : List Str} (F : FnG X.prog X.w X.K X.mg X.base k f fd ps den) (hx : XG X W k) (hb : Binds X.K fd ps [])
    (I : Inv X pins σ H s) (r : Vals vs us) (hR : Rel X.K m ah H) (hv : VRs X.K m H l vs) (h : (den l ah).post (PQ X.K m H Q) (PX X.K X.mg m H fun c d H' => W c d σ H')) : wpAny (model X.prog X.w) X.A (call (.ref f) us) (EP X pins σ Q) X.xe s := by
  have hl : us.length = ps.length := by
    rw [← r.length, ← hv.length]
    refine F.len l ah fun z => ?_
    rw [z] at h; exact h
  have hbd := hb s us I.kIn (by rw [List.append_nil]; exact hl)
  rw [List.append_nil] at hbd
  have go := F.run X.A X.stack s H ⟨us, []⟩ us vs m ah l Q (fun c d H' => W c d σ H') hx.room hx.gd I.env0 hbd r hR hv h
  refine wpAny_call (codeAny_mono go fun res s' hq => ?_)
  match res, hq with
  | .error ev, hq => exact passAt hx.tk σ pins H s ev s' I hq
  | .ok (.ret u), hq => exact I.after hq
theorem ge_call (F : FnD X.prog X.w X.K X.mg X.base x k den) (hx : XG X W k) (hg : Gl X x) (ha : PA X (e :: es) (tGA X W fr)) (hdb : (x == ("__debug__" : Str)) = false := by decide) (he : starEach (e :: es) X.env = (false, eval e X.env) :: starEach es X.env := by rfl) (hpl : (backTo pos (starEach es X.env)).any (·.1) = false := by rfl) :
    PE X (.Call (.Name x p) (e :: es) [] pos) (tG X W (gCall den fr)) := by
  obtain ⟨f, fd, ps, hm, hk, hb, F⟩ := F
  refine ⟨fun pins s σ H Q I h => ?_⟩
  refine wpAny_Call_Name_kw (ld_glob I hg hm ?_ hdb)
  obtain ⟨m, env, ah, hE, hR, hp⟩ := h
  have go : tGA X W fr σ H fun vs H1 => ∃ m1 ah1 l, Rel X.K m1 ah1 H1 ∧ VRs X.K m1 H1 l vs ∧ (den l ah1).post (PQ X.K m1 H1 Q) (PX X.K X.mg m1 H1 fun c d H' => W c d σ H') :=
    tGA_step hE hR hp (fun _ _ h => h) fun l ah1 m1 H1 xs e1 r1 v1 hp1 => ⟨m1, ah1, l, r1, v1, Res.post_imp hp1 (fun _ _ _ h => PQ.mono e1 h) (fun _ _ h => PX.mono e1 h)⟩
  refine PySem.W.callWith_K (h₀ := X.base) I.ok.mod.kin hk (thn (ha.run pos pins s σ H _ I go) fun us s1 hq => ?_) he hpl
  obtain ⟨vs, H1, I1, r, m1, ah1, l, hR1, hv1, hp1⟩ := hq
  exact ⟨I1.kIn, call_run F hx hb I1 r hR1 hv1 hp1⟩
theorem ge_call0 (F : FnD X.prog X.w X.K X.mg X.base x k den) (hx : XG X W k) (hg : Gl X x) (hdb : (x == ("__debug__" : Str)) = false := by decide) :
    PE X (.Call (.Name x p) [] [] pos) (tG X W (gCall den gNil)) := by
  obtain ⟨f, fd, ps, hm, hk, hb, F⟩ := F
  refine ⟨fun pins s σ H Q I h => ?_⟩
  obtain ⟨m, env, ah, hE, hR, hp⟩ := h
  refine wpAny_Call_Name_kw (ld_glob I hg hm ?_ hdb)
  exact PySem.W.callWith_K0 I.kIn hk (call_run (us := []) F hx hb I .nil hR .nil hp)
end
/-- a body as a def: np parameters, n names -/
def gFun (np n : Nat) (body : GS) : Den := fun l ah => if l.length = np then (match body (l.map some ++ List.replicate (n - l.length) none) ah with
  | .rt v ah1 => .ok v ah1
  | .nx _ ah1 => .ok .non ah1
  | .exc e _ ah1 => .exc e ah1
  | _ => .bad) else .bad
theorem env_start {K : PySem.W.Frag} {m : MM} {H : Hp} {l : List AV} {vs : List V} {N : List Str} (h : VRs K m H l vs) : EnvR K m H (l.map some ++ List.replicate (N.length - l.length) none) (L2.start N vs) := by
  unfold L2.start
  have hl := h.length
  refine ⟨by simp [hl], fun i v q => ?_⟩
  by_cases hi : i < l.length
  · rw [List.getElem?_append_left (by simpa using hi), List.getElem?_map] at q
    obtain ⟨v', e1, e2⟩ := Option.map_eq_some_iff.mp q
    cases e2
    obtain ⟨x, hx, r⟩ := h.get e1
    refine ⟨x, ?_, r⟩
    rw [List.getElem?_append_left (by rw [List.length_map, ← hl]; exact hi), List.getElem?_map, hx]
    rfl
  · rw [List.getElem?_append_right (by simpa using Nat.le_of_not_lt hi), List.getElem?_replicate] at q
    split at q <;> cases q
section
variable {P : Program} {w : World} {K : PySem.W.Frag} {mg : Str → Option Value} {base : Heap}
theorem fnG_of {x qual : Str} {st : Stmt} {f : Addr} {fd : FuncData} {N ps : List Str} {k : Nat} {body : GS} (F : Fun K x qual st f fd) (S : FnScope N ps (defScope st))
    (hbody : ∀ (cdv : Value) (A : Around) (outer : List PySem.Env) (s : Shared) (H : Hp) (E : XK) (W : WX), XG (cxOf (L2.CX P w) P w K mg base N qual (defScope st) f cdv A outer s H E) W k →
      PSs (cxOf (L2.CX P w) P w K mg base N qual (defScope st) f cdv A outer s H E) (defBody st) (tGS (cxOf (L2.CX P w) P w K mg base N qual (defScope st) f cdv A outer s H E) W body)) :
    FnG P w K mg base (k + 1) f fd ps (gFun ps.length N.length body) := by
  obtain ⟨oc, od, kV, doc, pm, an, cdv, ct, osl, rfl, lk, hcd⟩ := F.ex
  refine ⟨fun l ah h => ?_, fun A outer s H args us vs m ah l Q E hr hgd e0 hb r hR hv hp => ?_⟩
  · unfold gFun at h
    split at h
    · assumption
    · exact absurd rfl h
  · have hl : l.length = ps.length := by
      unfold gFun at hp
      split at hp
      · assumption
      · exact hp.elim
    have hlv : vs.length = ps.length := by rw [← hv.length]; exact hl
    have same : ∀ b o, base.get? b = some o → s.heap.get? b = some o := fun b o z => (e0.bs b o z).1
    have KX : K.In s.heap := e0.mod.kin.keeps same
    have lim : s.heap.NoLimit := e0.mod.nolimit.keeps same
    refine codeAny_call_function hr.depth (KX _ _ lk) rfl S.co S.gen rfl (PySem.W.codeRec_of KX hcd) (hb _ _ _ _ ?_)
    refine wpAny_newFunctionEnv_cells S.kind (fun ⟨n, v⟩ hy => ?_) fun env he s1 ic => ?_
    · rcases S.par n (List.of_mem_zip hy).1 with q | q
      · exact .inl q
      · exact .inr ⟨q, PySem.W.cellsFrom_some _ _ _ (.inl q)⟩
    · subst he
      refine ⟨lim.keeps ic.toInCall.keep, codeAny_func ?_⟩
      have xg : XG (cxOf (L2.CX P w) P w K mg base N qual (defScope st) f cdv A outer s H E) (fun c d _ H' => E c d H') k := ⟨hr.deeper _, hgd, rfl, takes_of rfl rfl rfl rfl, passes_of rfl⟩
      have ht := hbody cdv A outer s H E _ xg
      have I := inv_start (CX := L2.CX P w) (E := E) S hr.hd e0 hlv r ic
      let D : Ends := { nx := fun _ H' => Q .non H', rt := Q }
      have hq : tGS (cxOf (L2.CX P w) P w K mg base N qual (defScope st) f cdv A outer s H E) (fun c d _ H' => E c d H') body D (L2.start N vs) H := by
        refine ⟨m, _, ah, env_start hv, hR, ?_⟩
        unfold gFun at hp
        rw [if_pos hl] at hp
        cases q : body (l.map some ++ List.replicate (N.length - l.length) none) ah with
        | rt v ah1 => rw [q] at hp; exact hp
        | nx env1 ah1 => rw [q] at hp; exact fun m' H' σ' e1 r1 _ => hp m' H' .non e1 r1 .non
        | exc ev env1 ah1 => rw [q] at hp; exact fun m' H' σ' c d e1 r1 _ xr => hp m' H' c d e1 r1 xr
        | bk _ _ => rw [q] at hp; exact hp.elim
        | ct _ _ => rw [q] at hp; exact hp.elim
        | bad => rw [q] at hp; exact hp.elim
      refine wpAny_mono (ht.run [] s1 (L2.start N vs) H _ I hq) (fun fl s' hs => ?_) fun ev s' hs => hs
      match fl, hs with
      | .ret u, ⟨v, σ', H', J, rv, q⟩ => exact ⟨v, H', J.os, J.bare, J.base, J.hok, rv, q⟩
      | .next, ⟨σ', H', J, q⟩ => exact ⟨V.non, H', J.os, J.bare, J.base, J.hok, rfl, q⟩
      | .brk, ⟨_, _, _, q⟩ => exact False.elim q
      | .cont, ⟨_, _, _, q⟩ => exact False.elim q
theorem fnD_of {x qual y : Str} {st : Stmt} {f : Addr} {fd : FuncData} {N ps : List Str} {k : Nat} {body : GS} (F : Fun K x qual st f fd) (hm : mg y = some (.ref f)) (hb : Binds K fd ps []) (G : FnG P w K mg base k f fd ps (gFun ps.length N.length body)) : FnD P w K mg base y k (gFun ps.length N.length body) := ⟨f, fd, ps, hm, F.kp, hb, G⟩
end

mutual
def frzV (res : Nat → Option AV) : AV → Option AV
  | .tup l => (frzVs res l).map .tup
  | .lst l => (frzVs res l).map .lst
  | .dk l => (frzVk res l).map .dk
  | .fl l => (frzVs res l).map .fl
  | .ref n => res n
  | v => some v
def frzVs (res : Nat → Option AV) : List AV → Option (List AV)
  | [] => some []
  | v :: l => match frzV res v, frzVs res l with
    | some v', some l' => some (v' :: l')
    | _, _ => none
def frzVk (res : Nat → Option AV) : List (AK × AV) → Option (List (AK × AV))
  | [] => some []
  | (k, v) :: l => match frzV res v, frzVk res l with
    | some v', some l' => some ((k, v') :: l')
    | _, _ => none
end
def resF (L : Nat) (ah : AH) : Nat → Nat → Option AV
  | 0, _ => none
  | f + 1, n => if n < L then some (.ref n) else match ah[n]? with
    | some (.lst l) => (frzVs (resF L ah f) l).map .lst
    | some (.dk l) => (frzVk (resF L ah f) l).map .dk
    | none => none
mutual
/-- its refs lie below -/
def blw (L : Nat) : AV → Bool
  | .tup l => blws L l
  | .lst l => blws L l
  | .dk l => blwk L l
  | .fl l => blws L l
  | .ref n => decide (n < L)
  | _ => true
def blws (L : Nat) : List AV → Bool
  | [] => true
  | v :: l => blw L v && blws L l
def blwk (L : Nat) : List (AK × AV) → Bool
  | [] => true
  | (_, v) :: l => blw L v && blwk L l
end
def blwO (L : Nat) : HObj → Bool
  | .lst l => blws L l
  | .dk l => blwk L l
section
variable {K : PySem.W.Frag} {m m' : MM} {H : Hp}
mutual
theorem VR.cutm (L : Nat) (hm : ∀ n, n < L → m.l[n]? = m'.l[n]?) (hs : ∀ a, a ∈ m → a ∈ m') : ∀ (v : AV) (x : V), VR K m' H v x → blw L v = true → VR K m H v x
  | .non, x, h, _ => by cases h; exact .non
  | .bl b, x, h, _ => by cases h; exact .bl b
  | .int b, x, h, _ => by cases h; exact .int b
  | .str b, x, h, _ => by cases h; exact .str b
  | .tup l, x, h, b => by
    cases h with
    | tup h1 h2 => exact .tup h1 (VRs.cutm L hm hs l _ h2 b)
  | .lst l, x, h, b => by
    cases h with
    | lst h1 h3 h2 => exact .lst h1 (fun z => h3 (hs _ z)) (VRs.cutm L hm hs l _ h2 b)
  | .dk l, x, h, b => by
    cases h with
    | dk h1 h3 h2 => exact .dk h1 (fun z => h3 (hs _ z)) (VRk.cutm L hm hs l _ h2 b)
  | .fl l, x, h, b => by
    cases h with
    | fl h1 h2 => exact .fl h1 (VRs.cutm L hm hs l _ h2 b)
  | .ref n, x, h, b => by
    cases h with
    | ref h1 => exact .ref (by rw [hm n (of_decide_eq_true b)]; exact h1)
theorem VRs.cutm (L : Nat) (hm : ∀ n, n < L → m.l[n]? = m'.l[n]?) (hs : ∀ a, a ∈ m → a ∈ m') : ∀ (l : List AV) (x : List V), VRs K m' H l x → blws L l = true → VRs K m H l x
  | [], x, h, _ => by cases h; exact .nil
  | v :: l, x, h, b => by
    have b : (blw L v && blws L l) = true := b
    rw [Bool.and_eq_true] at b
    cases h with
    | cons h1 h2 => exact .cons (VR.cutm L hm hs v _ h1 b.1) (VRs.cutm L hm hs l _ h2 b.2)
theorem VRk.cutm (L : Nat) (hm : ∀ n, n < L → m.l[n]? = m'.l[n]?) (hs : ∀ a, a ∈ m → a ∈ m') : ∀ (l : List (AK × AV)) (x : List (Key × V)), VRk K m' H l x → blwk L l = true → VRk K m H l x
  | [], x, h, _ => by cases h; exact .nil
  | (k, v) :: l, x, h, b => by
    have b : (blw L v && blwk L l) = true := b
    rw [Bool.and_eq_true] at b
    cases h with
    | cons h1 h2 => exact .cons (VR.cutm L hm hs v _ h1 b.1) (VRk.cutm L hm hs l _ h2 b.2)
end
mutual
theorem VR.blw : ∀ (v : AV) (x : V), VR K m H v x → blw m.l.length v = true
  | .non, x, h => rfl
  | .bl b, x, h => rfl
  | .int b, x, h => rfl
  | .str b, x, h => rfl
  | .tup l, x, h => by cases h with | tup h1 h2 => exact VRs.blw l _ h2
  | .lst l, x, h => by cases h with | lst h1 h3 h2 => exact VRs.blw l _ h2
  | .dk l, x, h => by cases h with | dk h1 h3 h2 => exact VRk.blw l _ h2
  | .fl l, x, h => by cases h with | fl h1 h2 => exact VRs.blw l _ h2
  | .ref n, x, h => by cases h with | ref h1 => exact decide_eq_true (List.getElem?_eq_some_iff.mp h1).1
theorem VRs.blw : ∀ (l : List AV) (x : List V), VRs K m H l x → blws m.l.length l = true
  | [], x, h => rfl
  | v :: l, x, h => by
    cases h with
    | cons h1 h2 => show (_ && _) = true; rw [VR.blw v _ h1, VRs.blw l _ h2]; rfl
theorem VRk.blw : ∀ (l : List (AK × AV)) (x : List (Key × V)), VRk K m H l x → blwk m.l.length l = true
  | [], x, h => rfl
  | (k, v) :: l, x, h => by
    cases h with
    | cons h1 h2 => show (_ && _) = true; rw [VR.blw v _ h1, VRk.blw l _ h2]; rfl
end
mutual
theorem VR.frz {res : Nat → Option AV} (hs : ∀ a, a ∈ m → a ∈ m') (hres : ∀ n v' x, VR K m' H (.ref n) x → res n = some v' → VR K m H v' x) : ∀ (v : AV) (x : V) (v' : AV), VR K m' H v x → frzV res v = some v' → VR K m H v' x
  | .non, x, v', h, e => by cases h; cases e; exact .non
  | .bl b, x, v', h, e => by cases h; cases e; exact .bl b
  | .int b, x, v', h, e => by cases h; cases e; exact .int b
  | .str b, x, v', h, e => by cases h; cases e; exact .str b
  | .tup l, x, v', h, e => by
    obtain ⟨l', e1, rfl⟩ := Option.map_eq_some_iff.mp e
    cases h with
    | tup h1 h2 => exact .tup h1 (VRs.frz hs hres l _ l' h2 e1)
  | .lst l, x, v', h, e => by
    obtain ⟨l', e1, rfl⟩ := Option.map_eq_some_iff.mp e
    cases h with
    | lst h1 h3 h2 => exact .lst h1 (fun z => h3 (hs _ z)) (VRs.frz hs hres l _ l' h2 e1)
  | .dk l, x, v', h, e => by
    obtain ⟨l', e1, rfl⟩ := Option.map_eq_some_iff.mp e
    cases h with
    | dk h1 h3 h2 => exact .dk h1 (fun z => h3 (hs _ z)) (VRk.frz hs hres l _ l' h2 e1)
  | .fl l, x, v', h, e => by
    obtain ⟨l', e1, rfl⟩ := Option.map_eq_some_iff.mp e
    cases h with
    | fl h1 h2 => exact .fl h1 (VRs.frz hs hres l _ l' h2 e1)
  | .ref n, x, v', h, e => hres n v' x h e
theorem VRs.frz {res : Nat → Option AV} (hs : ∀ a, a ∈ m → a ∈ m') (hres : ∀ n v' x, VR K m' H (.ref n) x → res n = some v' → VR K m H v' x) : ∀ (v : List AV) (x : List V) (v' : List AV), VRs K m' H v x → frzVs res v = some v' → VRs K m H v' x
  | [], x, v', h, e => by cases h; cases e; exact .nil
  | v :: l, x, v', h, e => by
    cases h with
    | cons h1 h2 =>
      have e : (match frzV res v, frzVs res l with | some v', some l' => some (v' :: l') | _, _ => none) = some v' := e
      cases q1 : frzV res v with
      | none => rw [q1] at e; cases e
      | some w =>
        cases q2 : frzVs res l with
        | none => rw [q1, q2] at e; cases e
        | some l' => rw [q1, q2] at e; cases e; exact .cons (VR.frz hs hres v _ w h1 q1) (VRs.frz hs hres l _ l' h2 q2)
theorem VRk.frz {res : Nat → Option AV} (hs : ∀ a, a ∈ m → a ∈ m') (hres : ∀ n v' x, VR K m' H (.ref n) x → res n = some v' → VR K m H v' x) : ∀ (v : List (AK × AV)) (x : List (Key × V)) (v' : List (AK × AV)), VRk K m' H v x → frzVk res v = some v' → VRk K m H v' x
  | [], x, v', h, e => by cases h; cases e; exact .nil
  | (k, v) :: l, x, v', h, e => by
    cases h with
    | cons h1 h2 =>
      have e : (match frzV res v, frzVk res l with | some v', some l' => some ((k, v') :: l') | _, _ => none) = some v' := e
      cases q1 : frzV res v with
      | none => rw [q1] at e; cases e
      | some w =>
        cases q2 : frzVk res l with
        | none => rw [q1, q2] at e; cases e
        | some l' => rw [q1, q2] at e; cases e; exact .cons (VR.frz hs hres v _ w h1 q1) (VRk.frz hs hres l _ l' h2 q2)
end
end
def keepsUp (ah ah' : AH) : Prop := ah.length ≤ ah'.length ∧ ∀ i, i < ah.length → ah'[i]? = ah[i]? ∨ ∃ o, ah'[i]? = some o ∧ blwO ah.length o = true
noncomputable def own1 (den : Den) : Den := fun l ah => match den l ah with
  | .ok v ah' => @ite _ (keepsUp ah ah') (Classical.propDecidable _) (match frzV (resF ah.length ah' (ah'.length + 1)) v with
    | some v' => .ok v' (ah'.take ah.length)
    | none => .bad) .bad
  | .exc e ah' => @ite _ (keepsUp ah ah' ∧ e.fs.all (fun p => blw 0 p.2) = true) (Classical.propDecidable _) (.exc e (ah'.take ah.length)) .bad
  | .bad => .bad
theorem scope_back {K : PySem.W.Frag} {m m' : MM} {H H' : Hp} {ah ah' : AH} (hR : Rel K m ah H) (e : Ext m H m' H') (r : Rel K m' ah' H') (k : keepsUp ah ah') :
    Ext m H m H' ∧ Rel K m (ah'.take ah.length) H' ∧ (∀ n, n < ah.length → m.l[n]? = m'.l[n]?) ∧ (∀ a, a ∈ m → a ∈ m') := by
  have hml : m.l.length = ah.length := hR.len
  obtain ⟨t, q, hpre⟩ := e.pre
  have hget : ∀ n, n < ah.length → m.l[n]? = m'.l[n]? := fun n hn => by
    rw [hpre]
    show m.l[n]? = (m.l ++ t)[n]?
    rw [List.getElem?_append_left (by omega)]
  have hsub : ∀ a, a ∈ m → a ∈ m' := fun a ha => by
    rw [hpre]
    rcases ha with ha | ha
    · exact .inl (List.mem_append_left _ ha)
    · exact .inr (List.mem_append_right _ ha)
  refine ⟨⟨⟨[], [], by simp⟩, e.keep, e.still, fun a ha => .inl ha, e.hold⟩, ⟨?_, hR.nd, fun n a o h1 h2 => ?_, fun a ha => ?_⟩, hget, hsub⟩
  · rw [List.length_take, hml]; have := k.1; omega
  · have hn : n < ah.length := by rw [← hml]; exact (List.getElem?_eq_some_iff.mp h1).1
    rw [List.getElem?_take_of_lt hn] at h2
    have h1' : m'.l[n]? = some a := by rw [← hget n hn]; exact h1
    have q := r.obj n a o h1' h2
    have hb : blwO ah.length o = true := by
      rcases k.2 n hn with z | ⟨o', z1, z2⟩
      · have h3 : ah[n]? = some o := by rw [← z]; exact h2
        have q2 := hR.obj n a o h1 h3
        cases o with
        | lst l => obtain ⟨vs, _, h⟩ := q2; have := VRs.blw l _ h; rw [hml] at this; exact this
        | dk l => obtain ⟨vs, _, h⟩ := q2; have := VRk.blw l _ h; rw [hml] at this; exact this
      · rw [h2] at z1; cases z1; exact z2
    cases o with
    | lst l => obtain ⟨vs, g, h⟩ := q; exact ⟨vs, g, VRs.cutm _ hget hsub l _ h hb⟩
    | dk l => obtain ⟨vs, g, h⟩ := q; exact ⟨vs, g, VRk.cutm _ hget hsub l _ h hb⟩
  · have ha' : a ∈ m'.p := by rw [hpre]; exact List.mem_append_right _ ha
    exact ⟨(hR.prot a ha).1, (r.prot a ha').2⟩
theorem resF_ok {K : PySem.W.Frag} {m m' : MM} {H : Hp} {L : Nat} {ah : AH} (hm : ∀ n, n < L → m.l[n]? = m'.l[n]?) (hL : m.l.length = L) (hnd : m'.l.Nodup) (hp : ∀ a, a ∈ m.p → a ∉ m'.l) (hs : ∀ a, a ∈ m → a ∈ m') (r : Rel K m' ah H) : ∀ (f n : Nat) (v' : AV) (x : V), VR K m' H (.ref n) x → resF L ah f n = some v' → VR K m H v' x
  | 0, n, v', x, h, e => by cases e
  | f + 1, n, v', x, h, e => by
    unfold resF at e
    split at e
    · rename_i hn
      cases e
      exact VR.cutm L hm hs _ _ h (decide_eq_true hn)
    · rename_i hn
      cases h with
      | ref h1 =>
        rename_i a
        obtain ⟨o, ho, q⟩ := r.at h1
        rw [ho] at e
        have hna : a ∉ m := fun z => by
          rcases z with z | z
          · obtain ⟨j, hj⟩ := List.getElem?_of_mem z
            have hjl : j < L := by rw [← hL]; exact (List.getElem?_eq_some_iff.mp hj).1
            rw [hm j hjl] at hj
            obtain ⟨l1, e1⟩ := List.getElem?_eq_some_iff.mp hj
            obtain ⟨l2, e2⟩ := List.getElem?_eq_some_iff.mp h1
            have := (List.getElem_inj hnd).mp (e1.trans e2.symm)
            omega
          · exact hp a z (List.mem_of_getElem? h1)
        cases o with
        | lst l =>
          obtain ⟨l', e1, rfl⟩ := Option.map_eq_some_iff.mp e
          obtain ⟨vs, g1, g2⟩ := q
          exact .lst g1 hna (VRs.frz hs (fun n v' x h e => resF_ok hm hL hnd hp hs r f n v' x h e) l _ l' g2 e1)
        | dk l =>
          obtain ⟨l', e1, rfl⟩ := Option.map_eq_some_iff.mp e
          obtain ⟨vs, g1, g2⟩ := q
          exact .dk (.inl g1) hna (VRk.frz hs (fun n v' x h e => resF_ok hm hL hnd hp hs r f n v' x h e) l _ l' g2 e1)
theorem FnG.own1 {P : Program} {w : World} {K : PySem.W.Frag} {mg : Str → Option Value} {base : Heap} {k : Nat} {f : Addr} {fd : FuncData} {ps : List Str} {den : Den} (F : FnG P w K mg base k f fd ps den) : FnG P w K mg base k f fd ps (G.own1 den) := by
  refine ⟨fun l ah h => F.len l ah fun z => h ?_, fun A outer s H args us vs m ah l Q E hr hg e0 hb r hR hv hp => F.run A outer s H args us vs m ah l Q E hr hg e0 hb r hR hv ?_⟩
  · unfold G.own1; rw [z]
  · unfold G.own1 at hp
    cases q : den l ah with
    | bad => rw [q] at hp; exact hp
    | exc ev ah' =>
      rw [q] at hp
      have hp : (@ite (Res AV) (keepsUp ah ah' ∧ ev.fs.all (fun p => blw 0 p.2) = true) (Classical.propDecidable _) (.exc ev (ah'.take ah.length)) .bad).post _ _ := hp
      by_cases hk : keepsUp ah ah' ∧ ev.fs.all (fun p => blw 0 p.2) = true
      · rw [if_pos hk] at hp
        intro m' H' c d e1 r1 xr
        obtain ⟨h1, h2, h3, h4⟩ := scope_back hR e1 r1 hk.1
        refine hp m H' c d h1 h2 ⟨xr.1, xr.2.imp id fun ⟨dd, fs, gn, g1, g2, g0, g3⟩ => ⟨dd, fs, gn, g1, g2, fun z => g0 (h4 _ z), fun f v hf => ?_⟩⟩
        obtain ⟨x, hx, hvx⟩ := g3 f v hf
        refine ⟨x, hx, VR.cutm 0 (fun n hn => absurd hn (Nat.not_lt_zero n)) h4 v x hvx ?_⟩
        have : (f, v) ∈ ev.fs := PySem.mem_of_lookup hf
        exact List.all_eq_true.mp hk.2 _ this
      · rw [if_neg hk] at hp; exact hp.elim
    | ok v ah' =>
      rw [q] at hp
      have hp : (@ite (Res AV) (keepsUp ah ah') (Classical.propDecidable _) (match frzV (resF ah.length ah' (ah'.length + 1)) v with | some v' => .ok v' (ah'.take ah.length) | none => .bad) .bad).post _ _ := hp
      by_cases hk : keepsUp ah ah'
      · rw [if_pos hk] at hp
        cases q2 : frzV (resF ah.length ah' (ah'.length + 1)) v with
        | none => rw [q2] at hp; exact hp.elim
        | some v' =>
          rw [q2] at hp
          intro m' H' x e1 r1 vr
          obtain ⟨h1, h2, h3, h4⟩ := scope_back hR e1 r1 hk
          refine hp m H' x h1 h2 (VR.frz h4 (fun n v' x h e => resF_ok h3 hR.len r1.nd (fun a ha => (r1.prot a (e1.memp ha)).1) h4 r1 _ n v' x h e) v x v' vr q2)
      · rw [if_neg hk] at hp; exact hp.elim
theorem FnD.own1 {P : Program} {w : World} {K : PySem.W.Frag} {mg : Str → Option Value} {base : Heap} {x : Str} {k : Nat} {den : Den} (F : FnD P w K mg base x k den) : FnD P w K mg base x k (G.own1 den) := by
  obtain ⟨f, fd, ps, h1, h2, h3, h4⟩ := F
  exact ⟨f, fd, ps, h1, h2, h3, h4.own1⟩
end G
namespace G
open PySem PySem.Spec PyProof.Rows L2
set_option autoImplicit false
theorem frag_fl {K : PySem.W.Frag} {m : MM} {H : Hp} {a : Addr} {ns : List Int} (h : (∃ o, H a = some (.frz o (.lst (ns.map V.int)))) ∨ WL K a (ns.map V.int)) : VR K m H (.fl (ns.map AV.int)) (.ref a) := .fl h VRs.ints
/-- the law's def is called by what stands outside: nothing is ours, the script is read only -/
theorem law_end {P : Program} {w : World} {K : PySem.W.Frag} {mg mb : Str → Option Value} {k : Nat} {fa a : Addr} {fd : FuncData} {x : Str} {den : Den} {s1 : Shared} {vs : List Value} {ns : List Int}
    (KX : K.In s1.heap) (hns : s1.heap.Ns mainGlobals mg) (hb : s1.heap.Ns builtinsNs mb) (hbb : ∀ x : Str, x ≠ "__name__" → mb x = bootBuiltins x) (hlim : s1.heap.NoLimit) (hg : s1.gens = #[])
    (ha : s1.heap.get? a = some { cls := .type "list", data := .seq vs.toArray }) (hi : IntsAre vs ns) (hl : ns.length ≤ sizeLine) (hr : Room k callerA)
    (F : ∀ base : Heap, K.In base → base.Ns mainGlobals mg → FnG P w K mg base k fa fd [x] den) (hbind : ∀ (s : Shared) (u : Value), BindsTo s fd ⟨[u], []⟩ [(x, u)])
    (hden : ∃ ah, den [.fl (ns.map AV.int)] [] = .ok (.bl true) ah) :
    codeAny (model P w) callerA (.call (.ref fa) ⟨[.ref a], []⟩) (fun r s' => r = .ok (.ret (.bool true)) ∧ OldK s1.heap s'.heap ∧ s'.os = s1.os ∧ AllBare s'.gens) s1 := by
  obtain ⟨ah2, hden⟩ := hden
  have rv := vals_ints hi
  have nlen := hi.length
  -- the script is known to the object, where it is no object of the module's
  let ob : Obj := { cls := .type "list", data := .seq vs.toArray }
  let H : Hp := fun b => if b = a ∧ K.lookup a = none then some (.frz ob (.lst (ns.map V.int))) else none
  have hH : ∀ b u, H b = some u → b = a ∧ K.lookup a = none ∧ u = .frz ob (.lst (ns.map V.int)) := fun b u z => by
    by_cases q : b = a ∧ K.lookup a = none
    · have z' := (if_pos q).symm.trans z
      exact ⟨q.1, q.2, (Option.some.inj z').symm⟩
    · have z' := (if_neg q).symm.trans z
      cases z'
  have hnone : ∀ b, b ≠ a → H b = none := fun b hb => if_neg fun q => hb q.1
  have ok : HOk P w H s1.heap := fun b u z => by
    obtain ⟨rfl, _, rfl⟩ := hH b u z
    exact ⟨ha, by rw [List.length_map]; exact hl, vs, _, rv, ha⟩
  have apart : ∀ {b : Addr} {o : Obj} {es : Array DictEntry} {ep : Nat}, s1.heap.get? b = some o → o.data = .dict es ep → H b = none := fun {b o es ep} e d => hnone b fun z => by
    subst z
    rw [ha] at e
    have e' := Option.some.inj e
    rw [← e'] at d
    cases d
  have nsB : ∀ {b : Addr} {f : Str → Option Value}, s1.heap.Ns b f → (hidT s1.heap H).Ns b f := fun {b f} ⟨o, es, ep, e, d, r⟩ => ⟨o, es, ep, hidT_get e (apart e d), d, r⟩
  have kinB : K.In (hidT s1.heap H) := fun b o e => hidT_get (KX b o e) (by
    cases q : H b with
    | none => rfl
    | some u =>
      obtain ⟨rfl, q2, _⟩ := hH b u q
      rw [q2] at e; cases e)
  have md : Mod K mg (hidT s1.heap H) := by
    obtain ⟨mc, l1, l2⟩ := hlim
    exact ⟨kinB, nsB hns, ⟨mb, nsB hb, hbb⟩, mc, nsB l1, l2⟩
  have noF : ∀ b : Addr, b ∉ frs ([] : List PySem.Env) := fun b z => (nomatch z)
  have e0 : Env0 P w K mg (hidT s1.heap H) callerA [] s1 H := ⟨rfl, md, fun b o e => of_hidT e, Nat.le_of_eq (hidT_size _ _), trivial, fun b z => absurd z (noF b), ok, .of_eq hg⟩
  have rel0 : Rel K ⟨[], []⟩ [] H := ⟨rfl, List.nodup_nil, fun n a o z => (nomatch z), fun a z => (nomatch z)⟩
  have hv : VRs K ⟨[], []⟩ H [.fl (ns.map AV.int)] [.ref a] := .cons (frag_fl (by
    cases q : K.lookup a with
    | none => exact .inl ⟨ob, if_pos ⟨rfl, q⟩⟩
    | some o =>
      have z := KX a o q
      rw [ha] at z
      cases z
      exact .inr ⟨_, vs.toArray, _, q, rfl, rfl, rfl, by rw [List.size_toArray, nlen]; exact hl, by simpa using rv⟩)) .nil
  have go := (F _ kinB (nsB hns)).run callerA [] s1 H ⟨[.ref a], []⟩ [.ref a] [.ref a] ⟨[], []⟩ [] [.fl (ns.map AV.int)] (fun v _ => v = .bl true) (fun _ _ _ => False) hr rfl e0 (hbind s1 (.ref a)) (.cons rfl .nil) rel0 hv
    (by rw [hden]; exact fun m' H' y _ _ vr => by cases vr; rfl)
  refine codeAny_mono go fun res s' hq => ?_
  match res, hq with
  | .error ev, ⟨_, _, _, _, _, _, _, _, _, _, _, _, z⟩ => exact z.elim
  | .ok (.ret u), ⟨v, H', os, bare, un, hok', r', q⟩ =>
    have q' : v = .bl true := q
    subst q'
    have r2 : u = Value.bool true := r'
    subst r2
    refine ⟨rfl, OldK.of_keep fun b o e => ?_, os, bare⟩
    cases z : H b with
    | none => exact un.keep b o e z (noF b) (fun z => (nomatch z))
    | some hb =>
      obtain ⟨rfl, _, rfl⟩ := hH b hb z
      have z2 := un.frzs b ob _ z
      have e2 := (hok' b _ z2).1
      rw [ha] at e
      rw [← Option.some.inj e]
      exact e2
theorem walk {l : PySem.W.OpenLaw} {n k : Nat} {q : Program} {loose : List Str} {XP : (Str → Option Value) → Heap → Prop} {YP : World → Heap → Prop} {d : DefRec} {K : Params → PySem.W.Frag} {den : Den} {x : Str}
    (hn : l.most = some n) (hn2 : n ≤ sizeLine) (hdf : d.params.defaults = []) (hr : Room k callerA) (hY : ∀ (w : World) (h : Heap), YP w h → (K w.params).In h)
    (F : ∀ (w : World) (mg : Str → Option Value) (fa : Addr) (h : Heap), (K w.params).In h → h.Ns mainGlobals mg → mg d.name = some (.ref fa) →
      ∃ fd : FuncData, (∀ (s : Shared) (u : Value), BindsTo s fd ⟨[u], []⟩ [(x, u)]) ∧ ∀ base : Heap, (K w.params).In base → base.Ns mainGlobals mg → FnG l.prog w (K w.params) mg base k fa fd [x] den)
    (hden : ∀ ns : List Int, ns.length ≤ n → ∃ ah, den [.fl (ns.map AV.int)] [] = .ok (.bl true) ah) :
    PySem.W.WalkO q loose XP YP l.row.toRowW d [] (fun f vs => PySem.call f vs) := by
  refine Att.attach_call hn hdf fun w s0 s1 mg mb fa o pm cd doc a vs ns T Y ho hd hcd hmg hobj hints hlen hg => ?_
  have KX := hY w _ Y
  obtain ⟨fd, hb, hF⟩ := F w mg fa _ KX T.T.g hmg
  exact law_end KX T.T.g T.T.b T.T.builtins T.T.nolimit hg hobj hints (Nat.le_trans hlen hn2) hr hF hb (hden ns hlen)
end G
namespace G
open PySem PySem.Spec PyProof.Rows L2
set_option autoImplicit false
/-- a constant of the module -/
def GC (K : PySem.W.Frag) (mg : Str → Option Value) (x : Str) (v : AV) : Prop := ∃ (u : Value) (y : V), mg x = some u ∧ RelV y u ∧ ∀ m H, VR K m H v y
theorem GC.int {K : PySem.W.Frag} {mg : Str → Option Value} {x : Str} {i : Int} {t : Tok} (h : mg x = some (.int i t)) : GC K mg x (.int i) := ⟨_, .int i, h, ⟨t, rfl⟩, fun _ _ => .int i⟩
theorem GC.str {K : PySem.W.Frag} {mg : Str → Option Value} {x : Str} {s : List Nat} {y : Str} {t : Tok} (h : mg x = some (.str y t)) (e : y = mkS s) : GC K mg x (.str s) := ⟨_, .str (mkS s), h, ⟨t, by rw [e]⟩, fun _ _ => .str s⟩
/-- flat data as values of the model -/
inductive FV : AV → Value → Prop where
  | non : FV .non .none
  | bl (b : Bool) : FV (.bl b) (.bool b)
  | int (i : Int) (t : Tok) : FV (.int i) (.int i t)
  | str (s : List Nat) (y : Str) (t : Tok) (e : y = mkS s) : FV (.str s) (.str y t)
theorem FV.rel {K : PySem.W.Frag} {v : AV} {u : Value} (h : FV v u) : ∃ x : V, RelV x u ∧ ∀ m H, VR K m H v x := by
  cases h with
  | non => exact ⟨.non, rfl, fun _ _ => .non⟩
  | bl b => exact ⟨.bl b, rfl, fun _ _ => .bl b⟩
  | int i t => exact ⟨.int i, ⟨t, rfl⟩, fun _ _ => .int i⟩
  | str s y t e => exact ⟨.str (mkS s), ⟨t, by rw [e]⟩, fun _ _ => .str s⟩
theorem FV.all {K : PySem.W.Frag} : ∀ {l : List AV} {us : List Value}, Paired FV l us → ∃ xs : List V, Vals xs us ∧ ∀ m H, VRs K m H l xs
  | _, _, .nil => ⟨[], .nil, fun _ _ => .nil⟩
  | _, _, .cons h r => by
    obtain ⟨x, h1, h2⟩ := h.rel (K := K)
    obtain ⟨xs, h3, h4⟩ := FV.all (K := K) r
    exact ⟨x :: xs, .cons h1 h3, fun m H => .cons (h2 m H) (h4 m H)⟩
theorem GC.tup {K : PySem.W.Frag} {mg : Str → Option Value} {x : Str} {a : Addr} {l : List AV} {us : List Value} {dd : Option Addr} {n : Nat} {sl : Array (Option Value)} (h : mg x = some (.ref a)) (lk : K.lookup a = some ⟨.type "tuple", dd, .seq us.toArray n, sl⟩) (hl : us.length ≤ sizeLine) (r : Paired FV l us) : GC K mg x (.tup l) := by
  obtain ⟨xs, h1, h2⟩ := FV.all (K := K) r
  exact ⟨_, .ref a, h, rfl, fun m H => .tup (.inr ⟨_, us.toArray, n, lk, rfl, rfl, by simpa using hl, by simpa using h1⟩) (h2 m H)⟩
section
variable {X : Cx} {W : WX} {a b c e : Expr} {es : List Expr} {fa fb fc : GE} {fr : GA} {pos p : Pos} {x : Str} {k : Nat} {f g : O2}
theorem ge_glob {v : AV} (hg : Gl X x) (h : GC X.K X.mg x v) (hd : (x == ("__debug__" : Str)) = false := by decide) : PE X (.Name x pos) (tG X W (gC v)) := by
  obtain ⟨u, y, h1, h2, h3⟩ := h
  exact ge_const v (pe_glob hg h1 h2 hd) h3
theorem ge_bin {op : Operator} (h : ∃ r, OpR X (binaryOp op) r ∧ OpG X r f) (ha : PE X a (tG X W fa)) (hb : PE X b (tG X W fb)) : PE X (.BinOp a op b pos) (tG X W (gOp f fa fb)) := by
  obtain ⟨r, h1, h2⟩ := h
  exact ge_op h1 h2 ha hb
theorem ge_cm {op : CmpOp} (h : ∃ r, OpR X (compareOp op) r ∧ OpG X r f) (ha : PE X a (tG X W fa)) (hb : PE X b (tG X W fb)) (hm : behindInMarks op b = false := by first | exact nomark _ | rfl) : PE X (.Compare a [op] [b] pos) (tG X W (gOp f fa fb)) := by
  obtain ⟨r, h1, h2⟩ := h
  exact ge_cmp h1 h2 ha hb hm
theorem gt_cm {op : CmpOp} (h : ∃ r, OpR X (compareOp op) r ∧ OpG X r f) (ha : PE X a (tG X W fa)) (hb : PE X b (tG X W fb)) (hm : behindInMarks op b = false := by first | exact nomark _ | rfl) : PT X (.Compare a [op] [b] pos) (tGT X W (gTB (gOp f fa fb))) := by
  obtain ⟨r, h1, h2⟩ := h
  exact gt_cmp h1 h2 ha hb hm
theorem ge_chn {op op' : CmpOp} (h : ∃ r, OpR X (compareOp op) r ∧ OpG X r f) (h' : ∃ r, OpR X (compareOp op') r ∧ OpG X r g) (ha : PE X a (tG X W fa)) (hb : PE X b (tG X W fb)) (hc : PE X c (tG X W fc))
    (hm : lastMarks [op, op'] [b, c] = false := by with_unfolding_all rfl) : PE X (.Compare a [op, op'] [b, c] pos) (tG X W (gChain f g fa fb fc)) := by
  obtain ⟨r, h1, h2⟩ := h
  obtain ⟨r', h3, h4⟩ := h'
  exact ge_chain h1 h2 h3 h4 ha hb hc hm
theorem gt_chn {op op' : CmpOp} (h : ∃ r, OpR X (compareOp op) r ∧ OpG X r f) (h' : ∃ r, OpR X (compareOp op') r ∧ OpG X r g) (ha : PE X a (tG X W fa)) (hb : PE X b (tG X W fb)) (hc : PE X c (tG X W fc))
    (hm : lastMarks [op, op'] [b, c] = false := by with_unfolding_all rfl) : PT X (.Compare a [op, op'] [b, c] pos) (tGT X W (gTB (gChain f g fa fb fc))) := by
  obtain ⟨r, h1, h2⟩ := h
  obtain ⟨r', h3, h4⟩ := h'
  exact gt_chain h1 h2 h3 h4 ha hb hc hm
theorem ge_bi {id : String} {f : OL} (h : ∃ r, CallR X (.builtin id) r ∧ CallG X r f) (hg : Gl X x) (hm : X.mg x = none) (hv : bootBuiltins x = some (.builtin id)) (ha : PA X (e :: es) (tGA X W fr)) (hn : x ≠ "__name__" := by decide) (hdb : (x == ("__debug__" : Str)) = false := by decide)
    (he : starEach (e :: es) X.env = (false, eval e X.env) :: starEach es X.env := by rfl) (hpl : (backTo pos (starEach es X.env)).any (·.1) = false := by rfl) : PE X (.Call (.Name x p) (e :: es) [] pos) (tG X W (gB f fr)) := by
  obtain ⟨r, h1, h2⟩ := h
  exact ge_callB h1 h2 hg hm hv ha hn hdb he hpl
theorem ge_ti {T : String} {f : OL} (h : ∃ r, CallR X (.type T) r ∧ CallG X r f) (hg : Gl X x) (hm : X.mg x = none) (hv : bootBuiltins x = some (.type T)) (ha : PA X (e :: es) (tGA X W fr)) (hn : x ≠ "__name__" := by decide) (hdb : (x == ("__debug__" : Str)) = false := by decide)
    (he : starEach (e :: es) X.env = (false, eval e X.env) :: starEach es X.env := by rfl) (hpl : (backTo pos (starEach es X.env)).any (·.1) = false := by rfl) : PE X (.Call (.Name x p) (e :: es) [] pos) (tG X W (gB f fr)) := by
  obtain ⟨r, h1, h2⟩ := h
  exact ge_callT h1 h2 hg hm hv ha hn hdb he hpl
theorem ge_tl {T : String} {f : AH → List AV → Option (List AV)} (h : ∃ r, CallR X (.type T) r ∧ CallGL X r f) (hg : Gl X x) (hm : X.mg x = none) (hv : bootBuiltins x = some (.type T)) (ha : PA X (e :: es) (tGA X W fr)) (hn : x ≠ "__name__" := by decide) (hdb : (x == ("__debug__" : Str)) = false := by decide)
    (he : starEach (e :: es) X.env = (false, eval e X.env) :: starEach es X.env := by rfl) (hpl : (backTo pos (starEach es X.env)).any (·.1) = false := by rfl) : PE X (.Call (.Name x p) (e :: es) [] pos) (tG X W (gBL f fr)) := by
  obtain ⟨r, h1, h2⟩ := h
  exact ge_callT h1 h2.v hg hm hv ha hn hdb he hpl
theorem ge_tlH {T : String} {f : AH → List AV → Option (List AV)} (h : ∃ r, CallR X (.type T) r ∧ CallGL X r f) (hg : Gl X x) (hm : X.mg x = none) (hv : bootBuiltins x = some (.type T)) (ha : PA X (e :: es) (tGA X W fr)) (hn : x ≠ "__name__" := by decide) (hdb : (x == ("__debug__" : Str)) = false := by decide)
    (he : starEach (e :: es) X.env = (false, eval e X.env) :: starEach es X.env := by rfl) (hpl : (backTo pos (starEach es X.env)).any (·.1) = false := by rfl) : PE X (.Call (.Name x p) (e :: es) [] pos) (tG X W (gBLH f fr)) := by
  obtain ⟨r, h1, h2⟩ := h
  exact ge_callTH h1 h2 hg hm hv ha hn hdb he hpl
theorem XG.u64 (h : XG X W k) : X.A.units + 64 < cLine := h.room.units
theorem XG.u65 (h : XG X W k) : X.A.units + 65 < cLine := by have := h.room.un; omega
theorem XG.blk (h : XG X W k) {s : Shared} {H : Hp} {scope : Scope} {cl : List (Str × Addr)} {C : Addr} {fp : List Addr} : XG (X.blk s H scope (compEnvC scope cl C X.env) fp) (fun _ _ _ _ => False) k := ⟨h.room, h.gd, h.calm, takes0, PassesOwn.never⟩
theorem gts_one {t : GT} (h : PT X c (tGT X W t)) : PTs X [c] (tGT X W t) := pts_one h
def gAug (i : Nat) (fa : GE) : GS := fun env ah => match env[i]? with
  | some (some (.int v)) => sb (fa env ah) env fun w ah1 => match w with
    | .int z => .nx (env.set i (some (.int (v + z)))) ah1
    | _ => .bad
  | _ => .bad
theorem gs_aug {i : Nat} {y : Str} {pos' : Pos} (hN : X.N.Nodup) (hi : X.N[i]? = some y) (hx : Loc X.env.scope y) (ha : PE X a (tG X W fa)) (hf : X.fn y = true ∨ X.env.scope.names.lookup y = some .local := by first | exact .inl rfl | exact .inr rfl) :
    PS X (.AugAssign (.Name y pos') .Add a pos) (tGS X W (gAug i fa)) :=
  PS.weak (ps_aug hN hi hx ha ip_add hf) fun D σ H hh => by
    obtain ⟨m, env, ah, hE, hR, hp⟩ := hh
    unfold gAug at hp
    cases q : env[i]? with
    | none => rw [q] at hp; exact hp.elim
    | some o =>
      rw [q] at hp
      cases o with
      | none => exact hp.elim
      | some u =>
        cases u with
        | int v =>
          obtain ⟨y, hy, ry⟩ := hE.2 i _ q
          cases ry
          refine ⟨_, hy, sG_step hE hR hp fun w ah1 m1 H1 x e1 r1 v1 hp1 => ?_⟩
          cases v1 with
          | int z => exact ⟨v, z, rfl, rfl, hp1 m1 H1 _ (Ext.refl _ _) r1 ((hE.mono e1).set i (.int _))⟩
          | _ => exact hp1.elim
        | _ => exact hp.elim
end
/-- nothing is said -/
theorem fnG_bad {P : Program} {w : World} {K : PySem.W.Frag} {mg : Str → Option Value} {base : Heap} {k : Nat} {f : Addr} {fd : FuncData} {ps : List Str} : FnG P w K mg base k f fd ps (fun _ _ => .bad) :=
  ⟨fun l ah h => absurd rfl h, fun A outer s H args us vs m ah l Q E _ _ _ _ _ _ _ h => h.elim⟩
end G
namespace G
open PySem PySem.Spec PyProof.Rows L2
set_option autoImplicit false
section
variable {X : Cx} {W : WX} {a b : Expr} {fa fb : GE} {apos pos : Pos}
def upA (s : List Nat) : List Nat := (Txt.upper (mkS s)).cps.toList
theorem mkS_up (s : List Nat) : mkS (upA s) = Txt.upper (mkS s) := by
  show (⟨(Txt.upper (mkS s)).cps.toList.toArray⟩ : Str) = _
  rw [Array.toArray_toList]
def upO : O1 := fun _ v => match v with
  | .str s => if s.length ≤ 1000000 then some (.str (upA s)) else none
  | _ => none
def gUp (a : GE) : GE := fun env ah => rb (a env ah) fun v ah1 => lift1 (upO ah1 v) ah1
theorem ge_up (ha : PE X a (tG X W fa)) (hbase : attributeBase a "upper" X.env (eval a X.env) = eval a X.env := by rfl) (hline : (apos.endLine == pos.line) = true := by rfl) :
    PE X (.Call (.Attribute a "upper" apos) [] [] pos) (tG X W (gUp fa)) :=
  PE.weak (pe_upper ha hbase hline) fun σ H Q h => by
    obtain ⟨m, env, ah, hE, hR, hp⟩ := h
    refine tG_step hE hR hp (fun _ _ h => h) fun v ah1 m1 H1 x e1 r1 v1 hp1 => ?_
    cases v1 with
    | str s =>
      have hp1 : (lift1 (if s.length ≤ 1000000 then some (AV.str (upA s)) else none) ah1).post _ _ := hp1
      split at hp1
      · rename_i hl
        refine ⟨⟨_, rfl⟩, mkS s, rfl, rfl, by rw [mkS_length]; omega, ?_⟩
        rw [← mkS_up]
        exact hp1 m1 H1 _ e1 r1 (.str _)
      · exact hp1.elim
    | _ => exact hp1.elim
def gAddH (a b : GE) : GE := fun env ah => rb (a env ah) fun v ah1 => rb (b env ah1) fun w ah2 => match v, w with
  | .lst s, .lst t => if s.length + t.length ≤ 1000000 then .ok (.ref ah2.length) (ah2 ++ [.lst (s ++ t)]) else .bad
  | _, _ => .bad
theorem ge_addH (ha : PE X a (tG X W fa)) (hb : PE X b (tG X W fb)) : PE X (.BinOp a .Add b pos) (tG X W (gAddH fa fb)) :=
  PE.weak (pe_op op_cat ha hb) fun σ H Q h => by
    obtain ⟨m, env, ah, hE, hR, hp⟩ := h
    refine tG_step hE hR hp (fun _ _ h => h) fun v ah1 m1 H1 x e1 r1 v1 hp1 => ?_
    refine tG_step (hE.mono e1) r1 (Res.post_imp hp1 (fun _ _ _ h => PQ.mono e1 h) (fun _ _ h => PX.mono e1 h)) (fun _ _ h => h) fun w ah2 m2 H2 y e2 r2 v2 hp2 => ?_
    cases v with
    | lst s =>
      cases w with
      | lst t =>
        have hp2 : (if s.length + t.length ≤ 1000000 then Res.ok (AV.ref ah2.length) (ah2 ++ [.lst (s ++ t)]) else .bad).post _ _ := hp2
        split at hp2
        · rename_i hl
          cases v1.mono e2 with
          | lst h1 n1 h2 =>
            cases v2 with
            | lst h3 n3 h4 => exact ⟨_, _, _, _, rfl, rfl, h1, h3, lim2 h2 h4 hl, fun p hp => PQ.newH (PQ.mono e2 hp2) r2 (h2.append h4) hp⟩
        · exact hp2.elim
      | _ => exact hp2.elim
    | _ => exact hp2.elim
end
end G
namespace G
open PySem PySem.Spec PyProof.Rows L2
set_option autoImplicit false
/-- a dict of the module: texts to flat data -/
abbrev Tb := List (List Nat × AV)
def tget (t : Tb) (s : List Nat) : Option AV := (t.find? fun p => decide (p.1 = s)).map (·.2)
/-- what a value of the module is, wherever -/
def GVv (K : PySem.W.Frag) (v : AV) (u : Value) : Prop := ∃ x : V, RelV x u ∧ ∀ m H, VR K m H v x
theorem FV.gv {K : PySem.W.Frag} {v : AV} {u : Value} (h : FV v u) : GVv K v u := h.rel
theorem GVv.tup {K : PySem.W.Frag} {a : Addr} {l : List AV} {us : List Value} {dd : Option Addr} {n : Nat} {sl : Array (Option Value)} (lk : K.lookup a = some ⟨.type "tuple", dd, .seq us.toArray n, sl⟩) (hl : us.length ≤ sizeLine) (r : Paired FV l us) : GVv K (.tup l) (.ref a) := by
  obtain ⟨xs, h1, h2⟩ := FV.all (K := K) r
  exact ⟨.ref a, rfl, fun m H => .tup (.inr ⟨_, us.toArray, n, lk, rfl, rfl, by simpa using hl, by simpa using h1⟩) (h2 m H)⟩
inductive DE (K : PySem.W.Frag) (P : Params) : List Nat × AV → DictEntry → Prop
  | mk (s : List Nat) (v : AV) (x : Str) (k : Tok) (u : Value) (e : x = mkS s) (h : GVv K v u) : DE K P (s, v) ⟨PyData.keyHash P x, .str x k, u⟩
structure GD (K : PySem.W.Frag) (w : World) (mg : Str → Option Value) (x : Str) (t : Tb) : Prop where
  ex : ∃ (d : Addr) (es : Array DictEntry) (n : Nat), mg x = some (.ref d) ∧ KDict K w d es n ∧ Paired (DE K w.params) t es.toList
theorem DE.lits {K : PySem.W.Frag} {P : Params} : ∀ {t : Tb} {es : List DictEntry}, Paired (DE K P) t es → PySem.W.KeysLit P es
  | _, _, .nil => trivial
  | _, _, .cons (.mk s v x k u e h) r => ⟨⟨x, k, rfl, rfl⟩, DE.lits r⟩
theorem DE.find {K : PySem.W.Frag} {P : Params} (s : List Nat) : ∀ {t : Tb} {es : List DictEntry}, Paired (DE K P) t es → (∀ v, tget t s = some v → ∃ e, es.find? (·.key.isStr (mkS s)) = some e ∧ GVv K v e.val) ∧ (tget t s = none → es.find? (·.key.isStr (mkS s)) = none) ∧ es.any (·.refKey) = false
  | _, _, .nil => ⟨fun v h => by simp [tget] at h, fun _ => rfl, rfl⟩
  | _, _, .cons (l₁ := t) (l₂ := es) (.mk s' v' x k u e h) r => by
    obtain ⟨h1, h2, h3⟩ := DE.find s r
    have hx : (mkS s' == mkS s) = decide (s' = s) := by
      by_cases q : s' = s
      · subst q; simp
      · rw [decide_eq_false q, beq_eq_false_iff_ne]; exact fun z => q (mkS_inj z)
    subst e
    have hh : Value.isStr (.str (mkS s') k) (mkS s) = decide (s' = s) := hx
    by_cases q : s' = s
    · have e1 : tget ((s', v') :: t) s = some v' := by unfold tget; rw [List.find?_cons_of_pos (by simp [q])]; rfl
      refine ⟨fun v hv => ?_, fun hn => ?_, ?_⟩
      · rw [e1] at hv; cases hv
        exact ⟨_, List.find?_cons_of_pos (by rw [hh, decide_eq_true q]), h⟩
      · rw [e1] at hn; cases hn
      · rw [List.any_cons, h3]; rfl
    · have e1 : tget ((s', v') :: t) s = tget t s := by unfold tget; rw [List.find?_cons_of_neg (by simp [q])]
      have e2 : ((⟨PyData.keyHash P (mkS s'), .str (mkS s') k, u⟩ : DictEntry) :: es).find? (·.key.isStr (mkS s)) = es.find? (·.key.isStr (mkS s)) := List.find?_cons_of_neg (by rw [hh, decide_eq_false q]; simp)
      rw [e1, e2]
      exact ⟨h1, h2, by rw [List.any_cons, h3]; rfl⟩
theorem DE.ns {P : Params} {K : PySem.W.Frag} {w : World} {d : Addr} {es : Array DictEntry} {n : Nat} (D : KDict K w d es n) {t : Tb} (r : Paired (DE K P) t es.toList) (s : List Nat) :
    (∀ v, tget t s = some v → ∃ u, PySem.W.nsIn K d (mkS s) = some (some u) ∧ GVv K v u) ∧ (tget t s = none → PySem.W.nsIn K d (mkS s) = some none) := by
  obtain ⟨h1, h2, h3⟩ := DE.find s r
  have e : PySem.W.nsIn K d (mkS s) = (match es.toList.find? (·.key.isStr (mkS s)) with | some e => some (some e.val) | none => if es.toList.any (·.refKey) then none else some none) := by
    unfold PySem.W.nsIn
    rw [D.at_]
    rfl
  refine ⟨fun v hv => ?_, fun hn => ?_⟩
  · obtain ⟨en, q, f⟩ := h1 v hv
    rw [e, q]
    exact ⟨_, rfl, f⟩
  · rw [e, h2 hn, h3]; rfl
section
variable {X : Cx} {W : WX} {a b : Expr} {fa fb : GE} {pos p : Pos} {x : Str} {t : Tb}
def gM1 (f : O1) (a : GE) : GE := fun env ah => rb (a env ah) fun v ah1 => lift1 (f ah1 v) ah1
def tInO (t : Tb) : O1 := fun _ v => match v with
  | .str s => some (.bl (tget t s).isSome)
  | _ => none
def tIxO (t : Tb) : O1 := fun _ v => match v with
  | .str s => tget t s
  | _ => none
theorem ge_tin (hg : Gl X x) (D : GD X.K X.w X.mg x t) (ha : PE X a (tG X W fa)) (hd : (x == ("__debug__" : Str)) = false := by decide) : PE X (.Compare a [.In] [.Name x p] pos) (tG X W (gM1 (tInO t) fa)) := by
  obtain ⟨d, es, n, h1, h2, h3⟩ := D.ex
  refine PE.weak (pe_cmpR (op_in_kd h2) ha (pe_glob hg h1 (show RelV (.ref d) (.ref d) from rfl) hd) (by first | exact nomark _ | rfl)) fun σ H Q h => ?_
  obtain ⟨m, env, ah, hE, hR, hp⟩ := h
  refine tG_step hE hR hp (fun _ _ h => h) fun v ah1 m1 H1 y e1 r1 v1 hp1 => ?_
  cases v1 with
  | str s =>
    cases q : tget t s with
    | none =>
      have hp1 : (lift1 (some (AV.bl (tget t s).isSome)) ah1).post _ _ := hp1
      rw [q] at hp1
      exact ⟨_, none, rfl, rfl, (DE.ns h2 h3 s).2 q, hp1 m1 H1 _ e1 r1 (.bl _)⟩
    | some z =>
      have hp1 : (lift1 (some (AV.bl (tget t s).isSome)) ah1).post _ _ := hp1
      rw [q] at hp1
      obtain ⟨u, hu, _⟩ := (DE.ns h2 h3 s).1 z q
      exact ⟨_, some u, rfl, rfl, hu, hp1 m1 H1 _ e1 r1 (.bl _)⟩
  | _ => exact hp1.elim
theorem gt_tin (hg : Gl X x) (D : GD X.K X.w X.mg x t) (ha : PE X a (tG X W fa)) (hd : (x == ("__debug__" : Str)) = false := by decide) : PT X (.Compare a [.In] [.Name x p] pos) (tGT X W (gTB (gM1 (tInO t) fa))) := by
  obtain ⟨d, es, n, h1, h2, h3⟩ := D.ex
  refine PT.weak (pt_cmpR (op_in_kd h2) ha (pe_glob hg h1 (show RelV (.ref d) (.ref d) from rfl) hd) (by first | exact nomark _ | rfl)) fun σ H Q h => ?_
  obtain ⟨m, env, ah, hE, hR, hp⟩ := h
  have hp : (rb (gM1 (tInO t) fa env ah) _).post _ _ := hp
  unfold gM1 at hp
  rw [rb_rb] at hp
  refine tG_step hE hR hp (fun _ _ h => h) fun v ah1 m1 H1 y e1 r1 v1 hp1 => ?_
  cases v1 with
  | str s =>
    have hp1 : (rb (lift1 (some (AV.bl (tget t s).isSome)) ah1) fun v ah1 => match v with | .bl b => Res.ok b ah1 | _ => .bad).post _ _ := hp1
    cases q : tget t s with
    | none =>
      rw [q] at hp1
      exact ⟨_, none, rfl, rfl, (DE.ns h2 h3 s).2 q, _, rfl, hp1 m1 H1 e1 r1⟩
    | some z =>
      rw [q] at hp1
      obtain ⟨u, hu, _⟩ := (DE.ns h2 h3 s).1 z q
      exact ⟨_, some u, rfl, rfl, hu, _, rfl, hp1 m1 H1 e1 r1⟩
  | _ => exact hp1.elim
theorem ge_tix (hg : Gl X x) (D : GD X.K X.w X.mg x t) (hb : PE X b (tG X W fb)) (hs : PlainIx b := by exact fun _ _ => rfl) (hd : (x == ("__debug__" : Str)) = false := by decide) : PE X (.Subscript (.Name x p) b pos) (tG X W (gM1 (tIxO t) fb)) := by
  obtain ⟨d, es, n, h1, h2, h3⟩ := D.ex
  refine PE.weak (pe_ix (ix_kdict (X := X)) (pe_glob hg h1 (show RelV (.ref d) (.ref d) from rfl) hd) hb hs) fun σ H Q h => ?_
  obtain ⟨m, env, ah, hE, hR, hp⟩ := h
  refine tG_step hE hR hp (fun _ _ h => h) fun v ah1 m1 H1 y e1 r1 v1 hp1 => ?_
  cases v1 with
  | str s =>
    have hp1 : (lift1 (tget t s) ah1).post _ _ := hp1
    cases q : tget t s with
    | none => rw [q] at hp1; exact hp1.elim
    | some z =>
      rw [q] at hp1
      obtain ⟨u, hu, f⟩ := (DE.ns h2 h3 s).1 z q
      obtain ⟨y, ry, vy⟩ := f
      exact ⟨d, mkS s, y, rfl, rfl, ⟨es, n, u, h2.at_, h2.lit, hu, ry⟩, hp1 m1 H1 _ e1 r1 (vy _ _)⟩
  | _ => exact hp1.elim
end
end G
namespace G
open PySem PySem.Spec PyProof.Rows L2
set_option autoImplicit false
section
variable {X : Cx} {W : WX} {o e f : Expr} {apos cpos : Pos} {td ty tx : TE} {fo fe ff : GE}
def tGetK (K : PySem.W.Frag) (td ty tx : TE) : TE := fun σ H Q => td σ H fun x H1 => ∃ a, x = .ref a ∧ (∃ kvs, DKR K H1 a kvs) ∧ ty σ H1 fun y H2 => tx σ H2 fun z H3 => ∃ k kvs, y = kV k ∧ DKR K H3 a kvs ∧ Q ((valV kvs k).getD z) H3
theorem pe_getK (ho : PE X o td) (he : PE X e ty) (hf : PE X f tx) (m : M2 X o "get" apos e f cpos) : PE X (.Call (.Attribute o "get" apos) [e, f] [] cpos) (tGetK X.K td ty tx) := by
  refine ⟨fun pins s σ H Q I h => ?_⟩
  refine wpAny_Call_method m.base m.few m.line PySem.F.plainAttrs_dict PySem.F.slot_dict_get PySem.F.type_dict_get (thn (ho.run pins s σ H _ I h) fun u s1 ⟨x, H1, I1, rx, a, ex, ⟨kvs, d⟩, q1⟩ => ?_)
  subst ex
  obtain rfl : u = Value.ref a := rx
  obtain ⟨_, hd, vs, _, dd⟩ := d.at I1
  refine ⟨dd.typeIs, fun b q => ?_, ?_⟩
  · cases q
    obtain ⟨ob, _, _, h1, h2, _⟩ := dd
    exact ⟨ob, h1, h2.2.1⟩
  rw [m.trees]
  refine Calls.callWith_builtin rfl (Calls.evalArgs_plain (Calls.spliced_cons (thn (he.run pins s1 σ H1 _ I1 q1) fun iv s2 ⟨y, H2, I2, ry, q2⟩ =>
    Calls.spliced_cons (thn (hf.run pins s2 σ H2 _ I2 q2) fun fv s3 ⟨z, H3, I3, rz, k, kvs3, ek, d3, q3⟩ => Calls.spliced_nil ?_))))
  subst ek
  obtain ⟨_, hd3, vs3, rel3, dd3⟩ := d3.at I3
  refine call_meetsIn PySem.F.slot_dict_get dd3.typeIs PySem.F.entry_dict_get (PySem.F.args_dict_get_3 _ _ _) (meets_dict_get_default (mixKind X.prog X.w) a (kV_is ry) hd3 fv) ⟨_, dd3.mapOf, ⟨_, H3, I3.tok _, ?_, q3⟩⟩
  exact (rel3.val k).getD rz
def gGet2 (o k d : GE) : GE := fun env ah => rb (o env ah) fun w ah1 => match w with
  | .dk l => rb (k env ah1) fun kv ah2 => rb (d env ah2) fun dv ah3 => match keyA kv with
    | some q => .ok ((lookK l q).getD dv) ah3
    | none => .bad
  | _ => .bad
theorem ge_get2 (ho : PE X o (tG X W fo)) (he : PE X e (tG X W fe)) (hf : PE X f (tG X W ff)) (m : M2 X o "get" apos e f cpos := by exact ⟨rfl, rfl, rfl, rfl⟩) : PE X (.Call (.Attribute o "get" apos) [e, f] [] cpos) (tG X W (gGet2 fo fe ff)) :=
  PE.weak (pe_getK ho he hf m) fun σ H Q h => by
    obtain ⟨m, env, ah, hE, hR, hp⟩ := h
    refine tG_step hE hR hp (fun _ _ h => h) fun v ah1 m1 H1 x e1 r1 v1 hp1 => ?_
    cases v with
    | dk l =>
      obtain ⟨a, kvs, rfl, h1, h2⟩ := VR.dict r1 v1 (show dr ah1 (.dk l) = .dk l from rfl)
      refine ⟨a, rfl, ⟨kvs, h1⟩, ?_⟩
      refine tG_step (hE.mono e1) r1 (Res.post_imp hp1 (fun _ _ _ h => PQ.mono e1 h) (fun _ _ h => PX.mono e1 h)) (fun _ _ h => h) fun kv ah2 m2 H2 y e2 r2 v2 hp2 => ?_
      refine tG_step ((hE.mono e1).mono e2) r2 (Res.post_imp hp2 (fun _ _ _ h => PQ.mono e2 h) (fun _ _ h => PX.mono e2 h)) (fun _ _ h => h) fun dv ah3 m3 H3 z e3 r3 v3 hp3 => ?_
      have v1' := (v1.mono e2).mono e3
      obtain ⟨a', kvs', ea, h1', h2'⟩ := VR.dict r3 v1' (show dr ah3 (.dk l) = .dk l from rfl)
      cases ea
      cases hk : keyA kv with
      | none => rw [hk] at hp3; exact hp3.elim
      | some q =>
        rw [hk] at hp3
        refine ⟨akey q, kvs', keyA_kV hk v2, h1', ?_⟩
        rcases h2'.look q with ⟨g1, g2⟩ | ⟨v', x', g1, g2, hx⟩
        · have hp3 : PQ X.K m2 H2 Q ((lookK l q).getD dv) ah3 := hp3
          rw [g1] at hp3
          rw [g2]
          exact hp3 m3 H3 z e3 r3 v3
        · have hp3 : PQ X.K m2 H2 Q ((lookK l q).getD dv) ah3 := hp3
          rw [g1] at hp3
          rw [g2]
          exact hp3 m3 H3 x' e3 r3 hx
    | _ => exact hp1.elim
end
end G
namespace G
open PySem PySem.Spec PyProof.Rows L2
set_option autoImplicit false
def sortA (l : List (List Nat)) : List (List Nat) := l.mergeSort fun a b => decide (a ≤ b)
theorem sortA_perm (l : List (List Nat)) : (sortA l).Perm l := List.mergeSort_perm l _
theorem sortA_pw (l : List (List Nat)) : (sortA l).Pairwise (· ≤ ·) := by
  have := List.pairwise_mergeSort (le := fun a b : List Nat => decide (a ≤ b)) (fun a b c h1 h2 => decide_eq_true (List.le_trans (of_decide_eq_true h1) (of_decide_eq_true h2))) (fun a b => by
    rcases List.le_total a b with h | h <;> simp [h]) l
  exact this.imp fun h => of_decide_eq_true h
theorem rising_pw : ∀ (p : Str) (l : List Str), risingS p l = true → (p :: l).Pairwise fun a b => a.cps.toList ≤ b.cps.toList
  | p, [], _ => List.pairwise_singleton _ _
  | p, x :: r, h => by
    have h : (!ltCps x.cps.toList p.cps.toList && risingS x r) = true := h
    rw [Bool.and_eq_true, ltCps_eq] at h
    have ih := rising_pw x r h.2
    have hx : p.cps.toList ≤ x.cps.toList := by
      have := h.1
      simpa using this
    refine List.pairwise_cons.mpr ⟨fun y hy => ?_, ih⟩
    rcases List.mem_cons.mp hy with rfl | hy
    · exact hx
    · exact List.le_trans hx ((List.pairwise_cons.mp ih).1 y hy)
theorem sortedS_pw {l : List Str} (h : sortedS l = true) : l.Pairwise fun a b => a.cps.toList ≤ b.cps.toList := by
  cases l with
  | nil => exact .nil
  | cons x r => exact rising_pw x r h
theorem sort_only {ys : List Str} {ks : List (List Nat)} (hp : ys.Perm (ks.map mkS)) (hs : sortedS ys = true) : ys = (sortA ks).map mkS := by
  refine List.Perm.eq_of_pairwise (le := fun a b : Str => a.cps.toList ≤ b.cps.toList) (fun a b _ _ h1 h2 => ?_) (sortedS_pw hs) ?_ (hp.trans ((sortA_perm ks).symm.map mkS))
  · have e := List.le_antisymm h1 h2
    cases a; cases b
    simp only [Str.mk.injEq]
    exact Array.toList_inj.mp e
  · rw [List.pairwise_map]
    refine (sortA_pw ks).imp fun h => ?_
    simpa using h
def strsA : List AV → Option (List (List Nat))
  | [] => some []
  | .str s :: l => (strsA l).map (s :: ·)
  | _ :: _ => none
def skeys : List (AK × AV) → Option (List (List Nat))
  | [] => some []
  | (.inr s, _) :: l => (skeys l).map (s :: ·)
  | _ :: _ => none
theorem strs_vs {K : PySem.W.Frag} {m : MM} {H : Hp} : ∀ {l : List AV} {xs : List V} {ss : List (List Nat)}, VRs K m H l xs → strsA l = some ss → xs = (ss.map mkS).map V.str
  | _, _, _, .nil, h => by cases h; rfl
  | _, _, ss, .cons (v := v) (l := l) h r, e => by
    cases v <;> first | cases e | skip
    rename_i b
    have e : (strsA l).map (b :: ·) = some ss := e
    obtain ⟨bs', e1, rfl⟩ := Option.map_eq_some_iff.mp e
    cases h
    rw [strs_vs r e1]; rfl
theorem skeys_vs {K : PySem.W.Frag} {m : MM} {H : Hp} : ∀ {l : List (AK × AV)} {kvs : List (Key × V)} {ss : List (List Nat)}, VRk K m H l kvs → skeys l = some ss → kvs.map (·.1) = (ss.map mkS).map Sum.inr
  | _, _, _, .nil, h => by cases h; rfl
  | _, _, ss, .cons (k := k) (v := v) (l := l) h r, e => by
    cases k with
    | inl i => cases e
    | inr b =>
      have e : (skeys l).map (b :: ·) = some ss := e
      obtain ⟨bs', e1, rfl⟩ := Option.map_eq_some_iff.mp e
      show akey (.inr b) :: _ = _
      rw [skeys_vs r e1]; rfl
theorem strs_vr {K : PySem.W.Frag} {m : MM} {H : Hp} (ss : List (List Nat)) : VRs K m H (ss.map AV.str) ((ss.map mkS).map V.str) := by
  induction ss with
  | nil => exact .nil
  | cons s ss ih => exact .cons (.str s) ih
/-- texts of a list, keys of a dict: fewer than 64 -/
def sorS : AH → List AV → Option (List AV) := fun ah l => match l with
  | [v] => match dr ah v with
    | .lst l => match strsA l with
      | some ss => if ss.length < 64 then some ((sortA ss).map .str) else none
      | none => none
    | .dk l => match skeys l with
      | some ss => if ss.length < 64 then some ((sortA ss).map .str) else none
      | none => none
    | _ => none
  | _ => none
def sorO : OL := fun ah l => (sorS ah l).map AV.lst
section
variable {X : Cx}
theorem sor_gl (hc : X.calm = true) : ∃ r, CallR X (.builtin "sorted") r ∧ CallGL X r sorS := by
  refine ⟨_, cr_sortedS.or (call_sortedD hc), ?_⟩
  intro m H ah l xs z Q r hv hf q
  unfold sorS at hf
  split at hf
  · obtain ⟨x, rfl, hx⟩ := hv.one
    split at hf
    · obtain ⟨a, vs, rfl, h1, h2⟩ := VR.list r hx (by assumption)
      split at hf
      · rename_i ss hss
        split at hf
        · rename_i h64
          cases hf
          have e := strs_vs h2 hss
          subst e
          refine .inl ⟨a, ss.map mkS, rfl, SqL.of h1, by simpa using h64, fun ys p hp hs hn => ?_⟩
          rw [sort_only hp hs]
          exact q p _ hn (strs_vr _)
        · cases hf
      · cases hf
    · obtain ⟨a, kvs, rfl, h1, h2⟩ := VR.dict r hx (by assumption)
      split at hf
      · rename_i ss hss
        split at hf
        · rename_i h64
          cases hf
          refine .inr ⟨a, kvs, ss.map mkS, rfl, h1, skeys_vs h2 hss, by simpa using h64, fun ys p hp hs hn => ?_⟩
          rw [sort_only hp hs]
          exact q p _ hn (strs_vr _)
        · cases hf
      · cases hf
    · cases hf
  · cases hf
theorem sor_g (hc : X.calm = true) : ∃ r, CallR X (.builtin "sorted") r ∧ CallG X r sorO := by
  obtain ⟨r, h1, h2⟩ := sor_gl (X := X) hc
  exact ⟨r, h1, h2.v⟩
end
end G
namespace G
open PySem PySem.Spec PyProof.Rows L2 RZ
set_option autoImplicit false
def zipA (l l' : List AV) : List AV := List.zipWith (fun x y => .tup [x, y]) l l'
theorem zipA_get {l l' : List AV} {i : Nat} {v : AV} (h : (zipA l l')[i]? = some v) : ∃ p q, l[i]? = some p ∧ l'[i]? = some q ∧ v = .tup [p, q] := by
  unfold zipA at h
  rw [List.getElem?_zipWith] at h
  cases e1 : l[i]? with
  | none => rw [e1] at h; simp at h
  | some p =>
    cases e2 : l'[i]? with
    | none => rw [e1, e2] at h; simp at h
    | some q =>
      rw [e1, e2] at h
      exact ⟨p, q, rfl, rfl, by simpa using h.symm⟩
section
variable {K : PySem.W.Frag} {m : MM} {H : Hp}
theorem jg_zipL {a b : Addr} {l l' : List AV} (h : ∀ m' H' ah', Ext m H m' H' → Rel K m' ah' H' → ∃ vs ws, SqL K H' a vs ∧ VRs K m' H' l vs ∧ SqL K H' b ws ∧ VRs K m' H' l' ws) : JG K (Itz K a b) m H (none, zipA l l') := by
  refine ⟨fun m' H' ah' e r c => ?_, fun m' H' ah' i v e r c hv => ?_, fun m' H' ah' i v x H'' e r c hv y => ?_⟩
  · obtain ⟨vs, ws, h1, h2, h3, h4⟩ := h m' H' ah' e r
    refine ⟨vs, ws, h1, h3, ?_⟩
    have : (zipA l l').length = min l.length l'.length := by simp [zipA]
    show vs.length ≤ (zipA l l').length ∨ ws.length ≤ (zipA l l').length
    rw [this, h2.length, h4.length]
    omega
  · obtain ⟨vs, ws, h1, h2, h3, h4⟩ := h m' H' ah' e r
    obtain ⟨p, q, e1, e2, rfl⟩ := zipA_get hv
    obtain ⟨x, hx, _⟩ := h2.get e1
    obtain ⟨z, hz, _⟩ := h4.get e2
    exact ⟨vs, ws, x, z, h1, h3, hx, hz⟩
  · obtain ⟨vs, ws, h1, h2, h3, h4⟩ := h m' H' ah' e r
    obtain ⟨p, q, e1, e2, rfl⟩ := zipA_get hv
    obtain ⟨T, x', y', rfl, hT, rfl, g1, g2⟩ := y
    obtain ⟨x2, hx, rx⟩ := h2.get e1
    obtain ⟨z2, hz, rz⟩ := h4.get e2
    have ex : x2 = x' := Option.some.inj (hx.symm.trans (g1 vs h1))
    have ez : z2 = y' := Option.some.inj (hz.symm.trans (g2 ws h3))
    subst ex; subst ez
    refine ⟨fun c o hc => ?_, VR.newT r hT (.cons rx (.cons rz .nil))⟩
    by_cases z : c = T
    · subst z; rw [hT] at hc; cases hc
    · rw [upd_ne z]; exact hc
theorem jg_zipT {a b : Addr} {l l' : List AV} (h : ∀ m' H' ah', Ext m H m' H' → Rel K m' ah' H' → ∃ vs ws, SqT K H' a vs ∧ VRs K m' H' l vs ∧ SqT K H' b ws ∧ VRs K m' H' l' ws) : JG K (ItzT K a b) m H (none, zipA l l') := by
  refine ⟨fun m' H' ah' e r c => ?_, fun m' H' ah' i v e r c hv => ?_, fun m' H' ah' i v x H'' e r c hv y => ?_⟩
  · obtain ⟨vs, ws, h1, h2, h3, h4⟩ := h m' H' ah' e r
    refine ⟨vs, ws, h1, h3, ?_⟩
    have : (zipA l l').length = min l.length l'.length := by simp [zipA]
    show vs.length ≤ (zipA l l').length ∨ ws.length ≤ (zipA l l').length
    rw [this, h2.length, h4.length]
    omega
  · obtain ⟨vs, ws, h1, h2, h3, h4⟩ := h m' H' ah' e r
    obtain ⟨p, q, e1, e2, rfl⟩ := zipA_get hv
    obtain ⟨x, hx, _⟩ := h2.get e1
    obtain ⟨z, hz, _⟩ := h4.get e2
    exact ⟨vs, ws, x, z, h1, h3, hx, hz⟩
  · obtain ⟨vs, ws, h1, h2, h3, h4⟩ := h m' H' ah' e r
    obtain ⟨p, q, e1, e2, rfl⟩ := zipA_get hv
    obtain ⟨T, x', y', rfl, hT, rfl, g1, g2⟩ := y
    obtain ⟨x2, hx, rx⟩ := h2.get e1
    obtain ⟨z2, hz, rz⟩ := h4.get e2
    have ex : x2 = x' := Option.some.inj (hx.symm.trans (g1 vs h1))
    have ez : z2 = y' := Option.some.inj (hz.symm.trans (g2 ws h3))
    subst ex; subst ez
    refine ⟨fun c o hc => ?_, VR.newT r hT (.cons rx (.cons rz .nil))⟩
    by_cases z : c = T
    · subst z; rw [hT] at hc; cases hc
    · rw [upd_ne z]; exact hc
end
section
variable {X : Cx} {W : WX} {e e2 : Expr} {fr : GA} {p pos tpos : Pos} {elts : List Expr} {kk : Nat}
def zipR (l : List AV) (ah : AH) : Res Src := match l with
  | [.lst p, .lst q] => .ok (none, zipA p q) ah
  | [.tup p, .tup q] => .ok (none, zipA p q) ah
  | _ => .bad
def gZip (r : GA) : GI := fun env ah => rb (r env ah) fun l ah1 => zipR l ah1
theorem gi_zip (hg : Gl X "zip") (hm : X.mg "zip" = none) (ha : PA X [e, e2] (tGA X W fr))
    (hs : starEach [e, e2] X.env = (false, eval e X.env) :: starEach [e2] X.env := by rfl) (hpl : (backTo pos (starEach [e2] X.env)).any (·.1) = false := by rfl) :
    PI X (.Tuple elts kk tpos) (.Call (.Name "zip" p) [e, e2] [] pos) (tGI X W (gZip fr)) :=
  PI.weak (pi_zipA hg hm ha hs hpl) fun σ H R h => by
    obtain ⟨m, env, ah, hE, hR, hp⟩ := h
    refine tGA_step hE hR hp (fun _ _ h => h) fun l ah1 m1 H1 xs e1 r1 v1 hp1 => ?_
    unfold zipR at hp1
    split at hp1
    · obtain ⟨x, y, rfl, hx, hy⟩ := v1.two
      cases hx with
      | lst a1 a2 a3 =>
        cases hy with
        | lst b1 b2 b3 =>
          refine ⟨_, _, _, _, rfl, .inl ⟨SqL.of a1, SqL.of b1, hp1 m1 H1 _ e1 r1 (jg_zipL fun m' H' ah' ex r' => ?_)⟩⟩
          exact ⟨_, _, SqL.of (keep_ne (ex.keep _ _ a1 a2) fun _ z => nomatch z), a3.mono ex, SqL.of (keep_ne (ex.keep _ _ b1 b2) fun _ z => nomatch z), b3.mono ex⟩
    · obtain ⟨x, y, rfl, hx, hy⟩ := v1.two
      cases hx with
      | tup a1 a2 =>
        cases hy with
        | tup b1 b2 =>
          refine ⟨_, _, _, _, rfl, .inr ⟨a1, b1, hp1 m1 H1 _ e1 r1 (jg_zipT fun m' H' ah' ex r' => ?_)⟩⟩
          exact ⟨_, _, ex.sqT a1, a2.mono ex, ex.sqT b1, b2.mono ex⟩
    · exact hp1.elim
end
end G
namespace G
open PySem PySem.Spec PyProof.Rows L2 L2H
set_option autoImplicit false

/-- x is an own class of exceptions; instances are asked by isinstance -/
structure ExA (K : PySem.W.Frag) (mg : Str → Option Value) (x : Str) (C : Addr) : Prop where
  at_ : mg x = some (.ref C)
  keep : PySem.W.keepIn K (.ref C) = true
  asks : ExcC K C
  ty : PySem.W.typeIn K (.ref C) = some (.type "type")
/-- one that is made by a text alone -/
structure ExN (K : PySem.W.Frag) (mg : Str → Option Value) (x : Str) (C : Addr) : Prop extends ExA K mg x C where
  ex : PySem.W.excIn K C [.type "ValueError", .type "Exception", .type "BaseException", .type "object"] "ValueError.__new__" = true
/-- how classes stand to one another -/
abbrev RelTab := List ((Str × Str) × Bool)
structure RelAt (K : PySem.W.Frag) (mg : Str → Option Value) (p : (Str × Str) × Bool) : Prop where
  ex : ∃ C, ExA K mg p.1.1 C ∧ ((∃ D, mg p.1.2 = some (.ref D) ∧ PySem.W.kitOne K (.ref C) (.ref D) = some p.2 ∧ PySem.W.exmOne K (.ref C) (.ref D) = some p.2) ∨ (∃ T : String, mg p.1.2 = none ∧ bootBuiltins p.1.2 = some (.type T) ∧ PySem.W.kitOne K (.ref C) (.type T) = some p.2))
def RelT (K : PySem.W.Frag) (mg : Str → Option Value) (t : RelTab) : Prop := ∀ p ∈ t, RelAt K mg p
theorem RelT.nil {K : PySem.W.Frag} {mg : Str → Option Value} : RelT K mg [] := fun p h => nomatch h
theorem RelT.cons {K : PySem.W.Frag} {mg : Str → Option Value} {p : (Str × Str) × Bool} {t : RelTab} (h : RelAt K mg p) (r : RelT K mg t) : RelT K mg (p :: t) := fun q hq => by
  rcases List.mem_cons.mp hq with rfl | hq
  · exact h
  · exact r q hq
theorem rel_own {K : PySem.W.Frag} {mg : Str → Option Value} {x y : Str} {C D : Addr} {b : Bool} (A : ExA K mg x C) (hy : mg y = some (.ref D)) (hs : PySem.W.subIn K (.ref D) (.type "BaseException") = some true) (hd : PySem.W.hasDictIn K D = true) (ht : PySem.W.typeIn K (.ref D) = some (.type "type")) (hp : PySem.W.subIn K (.ref C) (.ref D) = some b) (hn : (Value.ref C == Value.ref D) = false ∨ b = true) : RelAt K mg ((x, y), b) := by
  refine ⟨C, A, .inl ⟨D, hy, ?_, PySem.W.exm_ref hs hd ht hp⟩⟩
  obtain ⟨cd, hc, _⟩ := PySem.W.any_some hd
  have e2 : ((PySem.W.clsIn K D).isSome && PySem.W.typeIn K (.ref D) == some (.type "type")) = true := by
    rw [hc, ht] <;> rfl
  unfold PySem.W.kitOne
  split
  · rename_i q
    rcases hn with hn | rfl
    · rw [hn] at q; cases q
    · rfl
  · show (if _ = true then PySem.W.subIn K (.ref C) (.ref D) else none) = _
    rw [if_pos e2]; exact hp
theorem rel_blt {K : PySem.W.Frag} {mg : Str → Option Value} {x y : Str} {C : Addr} {T : String} {b : Bool} (A : ExA K mg x C) (hy : mg y = none) (hb : bootBuiltins y = some (.type T)) (hm : PySem.W.kitMeta T = true) (hp : PySem.W.subIn K (.ref C) (.type T) = some b) : RelAt K mg ((x, y), b) := by
  refine ⟨C, A, .inr ⟨T, hy, hb, ?_⟩⟩
  show (if _ = true then PySem.W.subIn K (.ref C) (.type T) else none) = _
  rw [if_pos hm]; exact hp
def relO (t : RelTab) (x y : Str) : Option Bool := t.lookup (x, y)
theorem mem_look {x : Str × Str} {b : Bool} : ∀ {t : RelTab}, t.lookup x = some b → (x, b) ∈ t
  | [], h => nomatch h
  | (y, c) :: t, h => by
    rw [List.lookup_cons] at h
    split at h
    · rename_i q
      cases h
      rw [eq_of_beq q]; exact List.mem_cons_self
    · exact List.mem_cons_of_mem _ (mem_look h)
theorem relO_at {K : PySem.W.Frag} {mg : Str → Option Value} {t : RelTab} (h : RelT K mg t) {x y : Str} {b : Bool} (e : relO t x y = some b) : RelAt K mg ((x, y), b) := h _ (mem_look e)
/-- does an error belong to one of these classes -/
def isX (t : RelTab) (ev : EV) : List Str → Option Bool
  | [] => if ev.fs = [] then some false else none
  | y :: ys => if ev.fs = [] then match relO t ev.cls y with
    | some true => some true
    | some false => isX t ev ys
    | none => none
    else none

def gRaise (x : Str) : GS := fun env ah => .exc ⟨x, []⟩ env ah
section
variable {X : Cx} {W : WX} {k : Nat}
theorem gs_raise {C : Addr} {x m : Str} {j : Nat} {p p2 pos pos2 : Pos} (hx : XG X W k) (N : ExN X.K X.mg x C) (hg : Gl X x) (hdb : (x == ("__debug__" : Str)) = false := by decide) :
    PS X (.Raise (some (.Call (.Name x p) [.Constant (.str m) j p2] [] pos)) none pos2) (tGS X W (gRaise x)) :=
  PS.weak (ps_raise hx.calm hx.tk (pmk_own PySem.F.excBase_ValueError N.ex N.at_ N.keep (raises_own N.asks.hs N.ty) hg hdb)) fun D σ H h => by
    obtain ⟨m, env, ah, hE, hR, hp⟩ := h
    exact hp m H σ (.ref C) none (Ext.refl m H) hR hE ⟨N.at_, .inl ⟨rfl, rfl⟩⟩
end

structure ErrIn (X : Cx) (a : Addr) (cls : Value) (d : Option Addr) : Prop where
  ex : ∃ oe, (a, oe) ∈ X.pn ∧ Zc cls d oe ∧ ∃ vs, oe.data = .fields vs
section
variable (X : Cx) (W : WX) (i : Nat) (a : Addr) (cls : Value) (d : Option Addr)
def hSt (m : MM) (H : Hp) (σ : L2.St) (env : Env) (ah : AH) (ev : EV) : Prop := EnvR X.K m H env σ ∧ Rel X.K m ah H ∧ XR X.K X.mg m H ev cls d ∧ σ[i]? = some (some (.ref a))
def tGe (f : EV → GE) : TE := fun σ H Q => ∃ m env ah ev, hSt X i a cls d m H σ env ah ev ∧ (f ev env ah).post (PQ X.K m H Q) (PX X.K X.mg m H fun c d H' => W c d σ H')
def tGTe (f : EV → GT) : TT := fun σ H Q => ∃ m env ah ev, hSt X i a cls d m H σ env ah ev ∧ (f ev env ah).post (PB X.K m H Q) (PX X.K X.mg m H fun c d H' => W c d σ H')
def sPostE (m : MM) (H : Hp) (D : Ends) : SRes → Prop
  | .nx env ah => ∀ m' H' σ', Ext m H m' H' → Rel X.K m' ah H' → EnvR X.K m' H' env σ' → σ'[i]? = some (some (.ref a)) → D.nx σ' H'
  | r => sPost X W m H D r
def tGSe (f : EV → GS) : TS := fun D σ H => ∃ m env ah ev, hSt X i a cls d m H σ env ah ev ∧ sPostE X W i a m H D (f ev env ah)
end
section
variable {X : Cx} {W : WX} {i : Nat} {a : Addr} {cls : Value} {d : Option Addr}
/-- what doesn't look at it -/
theorem te_of {e : Expr} {f : GE} (h : PE X e (tG X W f)) : PE X e (tGe X W i a cls d fun _ => f) := PE.weak h fun σ H Q ⟨m, env, ah, ev, h, q⟩ => ⟨m, env, ah, h.1, h.2.1, q⟩
theorem tt_of {e : Expr} {f : GT} (h : PT X e (tGT X W f)) : PT X e (tGTe X W i a cls d fun _ => f) := PT.weak h fun σ H Q ⟨m, env, ah, ev, h, q⟩ => ⟨m, env, ah, h.1, h.2.1, q⟩
theorem hSt.mono {m m' : MM} {H H' : Hp} {σ : L2.St} {env : Env} {ah ah' : AH} {ev : EV} (h : hSt X i a cls d m H σ env ah ev) (e : Ext m H m' H') (r : Rel X.K m' ah' H') : hSt X i a cls d m' H' σ env ah' ev := ⟨h.1.mono e, r, h.2.2.1.mono e, h.2.2.2⟩
/-- isinstance(e, C), isinstance(e, (C, ..)) -/
def gIsX (t : RelTab) (ys : List Str) : EV → GE := fun ev _ ah => if ys ≠ [] ∧ ys.all (fun y => (relO t ev.cls y).isSome) = true then lift1 ((isX t ev ys).map AV.bl) ah else .bad
theorem kit_at {K : PySem.W.Frag} {mg : Str → Option Value} {p : (Str × Str) × Bool} {C : Addr} (h : RelAt K mg p) (e : mg p.1.1 = some (.ref C)) : ExcC K C ∧ ∃ (u : Value) (v : V), (mg p.1.2 = some u ∨ (mg p.1.2 = none ∧ bootBuiltins p.1.2 = some u)) ∧ RelV v u ∧ ClsV v u ∧ PySem.W.kitOne K (.ref C) u = some p.2 := by
  obtain ⟨C', hA, h⟩ := h.ex
  have q := hA.at_
  rw [e] at q; cases q
  refine ⟨hA.asks, ?_⟩
  rcases h with ⟨D, h1, h2, _⟩ | ⟨T, h1, h2, h3⟩
  · exact ⟨.ref D, .ref D, .inl h1, rfl, .own D, h2⟩
  · exact ⟨.type T, .ty T, .inr ⟨h1, h2⟩, rfl, .ty T, h3⟩
/-- the object asked about -/
theorem inst_at {pins : List (Addr × Obj)} {σ : L2.St} {H : Hp} {s : Shared} {C : Addr} {oe : Obj} (I : Inv X pins σ H s) (hp : (a, oe) ∈ X.pn) (hz : Zc (.ref C) none oe) (hf : ∃ vs, oe.data = .fields vs) : PySem.W.InstAt s.heap a oe C none := by
  obtain ⟨g, _⟩ := I.pin (a, oe) (List.mem_append_left _ hp)
  obtain ⟨vs, hv⟩ := hf
  cases oe with
  | mk c dd dt sl =>
    obtain ⟨z1, z2⟩ := hz
    simp only at z1 z2 hv
    subst z1; subst z2; subst hv
    exact ⟨g, rfl, rfl, trivial⟩
def rIsX (K : PySem.W.Frag) (C a : Addr) : List V → Hp → VK → Prop := fun xs H Q => (∃ (c : V) (u : Value) (b : Bool), xs = [.ref a, c] ∧ ClsV c u ∧ PySem.W.kitOne K (.ref C) u = some b ∧ Q (.bl b) H) ∨
  ∃ (tp : Addr) (cs : List V) (us : List Value) (b : Bool), xs = [.ref a, .ref tp] ∧ H tp = some (.tup cs) ∧ Paired ClsV cs us ∧ PySem.W.kitAny K (.ref C) us = some b ∧ Q (.bl b) H
theorem call_isX {C : Addr} (E : ErrIn X a (.ref C) none) (A : ExcC X.K C) : CallR X (.builtin "isinstance") (rIsX X.K C a) := by
  intro pins s σ H xs us Q I r h
  obtain ⟨oe, hp, hz, hf⟩ := E.ex
  have J := inst_at I hp hz hf
  have Z := PySem.W.handS_kitx_exc (x := a) (ox := oe) A.hg A.hk A.hs A.hd A.ha A.hn A.ht A.hm
  rcases h with ⟨c, u, b, rfl, hc, hk, q⟩ | ⟨tp, cs, ws, b, rfl, hT, hc, hk, q⟩
  · obtain ⟨u1, u2, rfl, r1, r2⟩ := vals2 r
    cases (show u1 = Value.ref a from r1)
    have e2 := hc.eq r2
    subst e2
    exact PySem.W.kia_one Z I.kIn J hk (fun z => nomatch z) fun tk => ⟨.bl b, H, I.tok tk, rfl, q⟩
  · obtain ⟨u1, u2, rfl, r1, r2⟩ := vals2 r
    cases (show u1 = Value.ref a from r1)
    cases (show u2 = Value.ref tp from r2)
    obtain ⟨_, its, rv, o, h1, h2, n, h3⟩ := (show ObjOk X.prog X.w H s.heap tp (.tup cs) from I.hok tp _ hT)
    have e3 := ClsV.all hc rv
    subst e3
    obtain ⟨oc, od, dt, sl⟩ := o
    simp only at h2 h3
    subst h2; subst h3
    exact PySem.W.kia_tup Z I.kIn J h1 hk (fun z => nomatch z) fun tk => ⟨.bl b, H, I.tok tk, rfl, q⟩
/-- a class by its name -/
theorem pe_cls {y : Str} {u : Value} {v : V} {p : Pos} (hg : Gl X y) (h : X.mg y = some u ∨ (X.mg y = none ∧ bootBuiltins y = some u)) (r : RelV v u) (hn : y ≠ "__name__") (hd : (y == ("__debug__" : Str)) = false) : PE X (.Name y p) (tC v) := by
  rcases h with h | ⟨h1, h2⟩
  · exact pe_glob hg h r hd
  · exact pe_bltn hg h1 h2 r hn hd

/-- classes by their names, as arguments -/
inductive ClsNs (X : Cx) : List Expr → List Str → Prop
  | nil : ClsNs X [] []
  | cons {y : Str} {p : Pos} {es : List Expr} {ys : List Str} (hg : Gl X y) (hn : y ≠ "__name__") (hd : (y == ("__debug__" : Str)) = false) (hs : starEach (.Name y p :: es) X.env = (false, eval (.Name y p) X.env) :: starEach es X.env) (r : ClsNs X es ys) : ClsNs X (.Name y p :: es) (y :: ys)
theorem isX_fs {t : RelTab} {ev : EV} {ys : List Str} {b : Bool} (h : isX t ev ys = some b) : ev.fs = [] := by
  cases ys with
  | nil => unfold isX at h; split at h; assumption; cases h
  | cons y ys => unfold isX at h; split at h; assumption; cases h
theorem isX_cons {t : RelTab} {ev : EV} {y : Str} {ys : List Str} {b : Bool} (h : isX t ev (y :: ys) = some b) : (relO t ev.cls y = some true ∧ b = true) ∨ (relO t ev.cls y = some false ∧ isX t ev ys = some b) := by
  unfold isX at h
  split at h
  · split at h
    · cases h; exact .inl ⟨by assumption, rfl⟩
    · exact .inr ⟨by assumption, h⟩
    · cases h
  · cases h
/-- the classes that are named, and the answer -/
theorem cls_all {t : RelTab} (T : RelT X.K X.mg t) {ev : EV} {C : Addr} (hC : X.mg ev.cls = some (.ref C)) {es : List Expr} {ys : List Str} (N : ClsNs X es ys) :
    ∀ b, isX t ev ys = some b → (∀ y ∈ ys, ∃ c, relO t ev.cls y = some c) → ∃ cs us, PA X es (fun σ H Q => Q cs H) ∧ Paired ClsV cs us ∧ PySem.W.kitAny X.K (.ref C) us = some b ∧ cs.length = ys.length := by
  induction N with
  | nil =>
    intro b h _
    unfold isX at h
    split at h
    · cases h
      exact ⟨[], [], pa_nil, .nil, rfl, rfl⟩
    · cases h
  | @cons y p es ys hg hn hd hs r ih =>
    intro b h hall
    obtain ⟨c, hc⟩ := hall y (by simp)
    obtain ⟨_, u, v, hm, rv, cv, hk⟩ := kit_at (relO_at T hc) hC
    have hpe := pe_cls (p := p) hg hm rv hn hd
    rcases isX_cons h with ⟨h1, rfl⟩ | ⟨h1, h2⟩
    · rw [hc] at h1; cases h1
      -- what is behind is only read
      have hf := isX_fs h
      have tot : ∃ b', isX t ev ys = some b' := by
        clear ih h hs r
        have : ∀ ys, (∀ y ∈ ys, ∃ c, relO t ev.cls y = some c) → ∃ b', isX t ev ys = some b' := by
          intro ys
          induction ys with
          | nil => intro _; exact ⟨false, by unfold isX; rw [if_pos hf]⟩
          | cons z zs ih =>
            intro hz
            obtain ⟨c, hc⟩ := hz z (by simp)
            obtain ⟨b', hb'⟩ := ih fun w hw => hz w (by simp [hw])
            unfold isX
            rw [if_pos hf, hc]
            cases c
            · exact ⟨b', hb'⟩
            · exact ⟨true, rfl⟩
        exact this ys fun z hz => hall z (by simp [hz])
      obtain ⟨b', hb'⟩ := tot
      obtain ⟨cs, us, h3, h4, h5, h6⟩ := ih b' hb' fun z hz => hall z (by simp [hz])
      refine ⟨v :: cs, u :: us, PA.weak (pa_cons hpe h3 hs) fun σ H Q q => q, .cons cv h4, kitAny_cons hk (fun z => nomatch z) (fun _ => rfl), by simp [h6]⟩
    · rw [hc] at h1; cases h1
      obtain ⟨cs, us, h3, h4, h5, h6⟩ := ih b h2 fun z hz => hall z (by simp [hz])
      refine ⟨v :: cs, u :: us, PA.weak (pa_cons hpe h3 hs) fun σ H Q q => q, .cons cv h4, kitAny_cons hk (fun _ => h5) (fun z => nomatch z), by simp [h6]⟩
theorem isX_read {t : RelTab} (T : RelT X.K X.mg t) {ev : EV} {cls : Value} {d : Option Addr} {m : MM} {H : Hp} {ys : List Str} (xr : XR X.K X.mg m H ev cls d) (hne : ys ≠ []) (hall : ys.all (fun y => (relO t ev.cls y).isSome) = true) {b : Bool} (h : isX t ev ys = some b) :
    ∃ C, cls = .ref C ∧ d = none ∧ ExcC X.K C ∧ X.mg ev.cls = some (.ref C) ∧ ∀ y ∈ ys, ∃ c, relO t ev.cls y = some c := by
  have all : ∀ y ∈ ys, ∃ c, relO t ev.cls y = some c := fun y hy => Option.isSome_iff_exists.mp (List.all_eq_true.mp hall y hy)
  obtain ⟨y, ys', rfl⟩ : ∃ y ys', ys = y :: ys' := by cases ys with | nil => exact absurd rfl hne | cons y ys' => exact ⟨y, ys', rfl⟩
  obtain ⟨c, hc⟩ := all y (by simp)
  obtain ⟨C, hA, _⟩ := (relO_at T hc).ex
  have hC := hA.at_
  have e1 := xr.1
  have hC' : X.mg ev.cls = some (.ref C) := hC
  rw [hC'] at e1; cases e1
  have hfs := isX_fs h
  have hd : d = none := by
    rcases xr.2 with ⟨_, q⟩ | ⟨_, _, q, _⟩
    · exact q
    · exact absurd hfs q
  exact ⟨C, rfl, hd, hA.asks, hC', all⟩
theorem gIsX_post {t : RelTab} {ys : List Str} {ev : EV} {env : Env} {ah : AH} {P : AV → AH → Prop} {E : EV → AH → Prop} (h : (gIsX t ys ev env ah).post P E) : ys ≠ [] ∧ ys.all (fun y => (relO t ev.cls y).isSome) = true ∧ ∃ b, isX t ev ys = some b ∧ P (.bl b) ah := by
  unfold gIsX at h
  split at h
  · rename_i q
    cases e : isX t ev ys with
    | none => rw [e] at h; exact h.elim
    | some b => rw [e] at h; exact ⟨q.1, q.2, b, rfl, h⟩
  · exact h.elim
theorem te_is1 {t : RelTab} {e y : Str} {p pe py pos : Pos} (T : RelT X.K X.mg t) (E : ErrIn X a cls d) (hN : X.N[i]? = some e) (hv : Vis X.env.scope e) (hed : (e == ("__debug__" : Str)) = false) (hec : (e == ("__classdict__" : Str)) = false) (hg : Gl X "isinstance") (hm : X.mg "isinstance" = none)
    (hgy : Gl X y) (hn : y ≠ "__name__") (hd : (y == ("__debug__" : Str)) = false) (hs : starEach [.Name e pe, .Name y py] X.env = (false, eval (.Name e pe) X.env) :: starEach [.Name y py] X.env := by rfl) (hs2 : starEach [.Name y py] X.env = (false, eval (.Name y py) X.env) :: starEach [] X.env := by rfl)
    (hpl : (backTo pos (starEach [.Name y py] X.env)).any (·.1) = false := by rfl) : PE X (.Call (.Name "isinstance" p) [.Name e pe, .Name y py] [] pos) (tGe X W i a cls d (gIsX t [y])) := by
  refine ⟨fun pins s σ H Q I h => ?_⟩
  obtain ⟨m, env, ah, ev, ⟨hE, hR, xr, hσ⟩, q⟩ := h
  obtain ⟨h1, h2, b, h3, q⟩ := gIsX_post q
  obtain ⟨C, rfl, rfl, hA, hC, hall⟩ := isX_read T xr h1 h2 h3
  obtain ⟨c, hc⟩ := hall y (by simp)
  obtain ⟨_, u, v, hmy, rv, cv, hk⟩ := kit_at (relO_at T hc) hC
  have hb : c = b := by
    rcases isX_cons h3 with ⟨e1, rfl⟩ | ⟨e1, e2⟩
    · rw [hc] at e1; cases e1; rfl
    · rw [hc] at e1; cases e1
      unfold isX at e2
      split at e2
      · cases e2; rfl
      · cases e2
  subst hb
  have P := pe_callB (pos := pos) (p := p) (call_isX E hA) hg hm (by decide +kernel) (pa_cons (pe_var (pos := pe) hN hv hed hec) (pa_cons (pe_cls (p := py) hgy hmy rv hn hd) pa_nil hs2) hs) (by decide) (by decide) hs hpl
  exact P.run pins s σ H Q I ⟨_, hσ, .inl ⟨v, u, c, rfl, cv, hk, q m H _ (Ext.refl m H) hR (.bl c)⟩⟩
theorem te_isT {t : RelTab} {e : Str} {es : List Expr} {ys : List Str} {kk : Nat} {p pe pt pos : Pos} (T : RelT X.K X.mg t) (E : ErrIn X a cls d) (hN : X.N[i]? = some e) (hv : Vis X.env.scope e) (hed : (e == ("__debug__" : Str)) = false) (hec : (e == ("__classdict__" : Str)) = false) (hg : Gl X "isinstance") (hm : X.mg "isinstance" = none)
    (N : ClsNs X es ys) (hl : ys.length ≤ 1000) (hs : starEach [.Name e pe, .Tuple es kk pt] X.env = (false, eval (.Name e pe) X.env) :: starEach [.Tuple es kk pt] X.env := by rfl) (hs2 : starEach [.Tuple es kk pt] X.env = (false, eval (.Tuple es kk pt) X.env) :: starEach [] X.env := by rfl)
    (hpl : (backTo pos (starEach [.Tuple es kk pt] X.env)).any (·.1) = false := by rfl) : PE X (.Call (.Name "isinstance" p) [.Name e pe, .Tuple es kk pt] [] pos) (tGe X W i a cls d (gIsX t ys)) := by
  refine ⟨fun pins s σ H Q I h => ?_⟩
  obtain ⟨m, env, ah, ev, ⟨hE, hR, xr, hσ⟩, q⟩ := h
  obtain ⟨h1, h2, b, h3, q⟩ := gIsX_post q
  obtain ⟨C, rfl, rfl, hA, hC, hall⟩ := isX_read T xr h1 h2 h3
  obtain ⟨cs, us, hpa, hcs, hk, hlen⟩ := cls_all T hC N b h3 hall
  have P := pe_callB (pos := pos) (p := p) (call_isX E hA) hg hm (by decide +kernel) (pa_cons (pe_var (pos := pe) hN hv hed hec) (pa_cons (pe_tup (x1 := kk) (pos := pt) hpa) pa_nil hs2) hs) (by decide) (by decide) hs hpl
  refine P.run pins s σ H Q I ⟨_, hσ, by rw [hlen]; exact lim_line (by omega), fun tp htp => .inr ⟨tp, cs, us, b, rfl, upd_same, hcs, hk, ?_⟩⟩
  exact q m _ _ (Ext.new htp) (hR.new htp) (.bl b)

variable {e e2 : Expr} {rest : List Expr} {f g : EV → GE} {t u : EV → GT} {pos : Pos}
theorem hE_step {β : Type} {m : MM} {H : Hp} {σ : L2.St} {env : Env} {ah : AH} {ev : EV} {k : AV → AH → Res β} {P : β → AH → Prop} {E : EV → AH → Prop} {Q : VK} (hS : hSt X i a cls d m H σ env ah ev) (h : (rb (f ev env ah) k).post P E)
    (hx : ∀ e ah1, E e ah1 → PX X.K X.mg m H (fun c d H' => W c d σ H') e ah1)
    (hk : ∀ v ah1 m1 H1 x, Ext m H m1 H1 → hSt X i a cls d m1 H1 σ env ah1 ev → VR X.K m1 H1 v x → (k v ah1).post P E → Q x H1) : tGe X W i a cls d f σ H Q := by
  refine ⟨m, env, ah, ev, hS, ?_⟩
  cases q : f ev env ah with
  | ok v ah1 =>
    rw [q] at h
    exact fun m1 H1 x e1 r1 v1 => hk v ah1 m1 H1 x e1 (hS.mono e1 r1) v1 h
  | exc x ah1 => rw [q] at h; exact hx x ah1 h
  | bad => rw [q] at h; exact h
theorem hT_step {β : Type} {m : MM} {H : Hp} {σ : L2.St} {env : Env} {ah : AH} {ev : EV} {k : Bool → AH → Res β} {P : β → AH → Prop} {E : EV → AH → Prop} {Q : Bool → Hp → Prop} (hS : hSt X i a cls d m H σ env ah ev) (h : (rb (t ev env ah) k).post P E)
    (hx : ∀ e ah1, E e ah1 → PX X.K X.mg m H (fun c d H' => W c d σ H') e ah1)
    (hk : ∀ v ah1 m1 H1, Ext m H m1 H1 → hSt X i a cls d m1 H1 σ env ah1 ev → (k v ah1).post P E → Q v H1) : tGTe X W i a cls d t σ H Q := by
  refine ⟨m, env, ah, ev, hS, ?_⟩
  cases q : t ev env ah with
  | ok v ah1 =>
    rw [q] at h
    exact fun m1 H1 e1 r1 => hk v ah1 m1 H1 e1 (hS.mono e1 r1) h
  | exc x ah1 => rw [q] at h; exact hx x ah1 h
  | bad => rw [q] at h; exact h
theorem tt_val (ha : PE X e (tGe X W i a cls d f)) (he : ∀ whole, isTrue e X.env whole = (do let v ← whole; standAt e.pos; holding [v] (truthy v)) := by intro _; rfl) : PT X e (tGTe X W i a cls d fun ev => gTB (f ev)) :=
  PT.weak (pt_val ha he) fun σ H Q h => by
    obtain ⟨m, env, ah, ev, hS, hp⟩ := h
    refine hE_step hS hp (fun _ _ h => h) fun v ah1 m1 H1 x e1 hS1 v1 hp1 => ?_
    cases v1 with
    | bl k => exact ⟨k, rfl, hp1 m1 H1 e1 hS1.2.1⟩
    | _ => exact hp1.elim
theorem tt_not (ha : PT X e (tGTe X W i a cls d t)) : PT X (.UnaryOp .Not e pos) (tGTe X W i a cls d fun ev => gNotT (t ev)) :=
  PT.weak (pt_not ha) fun σ H Q h => by
    obtain ⟨m, env, ah, ev, hS, hp⟩ := h
    exact hT_step hS hp (fun _ _ h => h) fun v ah1 m1 H1 e1 hS1 hp1 => hp1 m1 H1 e1 hS1.2.1
theorem tt_and1 (ha : PT X e (tGTe X W i a cls d t)) : PW X (.BoolOp .And [e] pos) (tGTe X W i a cls d t) := pw_and1 ha
theorem tt_or1 (ha : PT X e (tGTe X W i a cls d t)) : PW X (.BoolOp .Or [e] pos) (tGTe X W i a cls d t) := pw_or1 ha
theorem tt_and (ha : PT X e (tGTe X W i a cls d t)) (hb : PW X (.BoolOp .And (e2 :: rest) pos) (tGTe X W i a cls d u)) : PW X (.BoolOp .And (e :: e2 :: rest) pos) (tGTe X W i a cls d fun ev => gAndT (t ev) (u ev)) :=
  PW.weak (pw_and ha hb) fun σ H Q h => by
    obtain ⟨m, env, ah, ev, hS, hp⟩ := h
    refine hT_step hS hp (fun _ _ h => h) fun v ah1 m1 H1 e1 hS1 hp1 => ?_
    cases v with
    | true => exact iteT ⟨m1, env, ah1, ev, hS1, Res.post_imp hp1 (fun _ _ _ h => PB.mono e1 h) fun _ _ h => PX.mono e1 h⟩
    | false => exact iteF (hp1 m1 H1 e1 hS1.2.1)
theorem tt_or (ha : PT X e (tGTe X W i a cls d t)) (hb : PW X (.BoolOp .Or (e2 :: rest) pos) (tGTe X W i a cls d u)) : PW X (.BoolOp .Or (e :: e2 :: rest) pos) (tGTe X W i a cls d fun ev => gOrT (t ev) (u ev)) :=
  PW.weak (pw_or ha hb) fun σ H Q h => by
    obtain ⟨m, env, ah, ev, hS, hp⟩ := h
    refine hT_step hS hp (fun _ _ h => h) fun v ah1 m1 H1 e1 hS1 hp1 => ?_
    cases v with
    | true => exact iteT (hp1 m1 H1 e1 hS1.2.1)
    | false => exact iteF ⟨m1, env, ah1, ev, hS1, Res.post_imp hp1 (fun _ _ _ h => PB.mono e1 h) fun _ _ h => PX.mono e1 h⟩
variable {st : Stmt} {sts sts' : List Stmt} {fs gs : EV → GS}
theorem sPostE.mono {m m1 : MM} {H H1 : Hp} {D : Ends} {r : SRes} (e : Ext m H m1 H1) (h : sPostE X W i a m H D r) : sPostE X W i a m1 H1 D r := by
  cases r with
  | nx env ah => exact fun m' H' σ' e' => h m' H' σ' (e.trans e')
  | rt v ah => exact sPost.mono (X := X) (W := W) (r := .rt v ah) e h
  | bk v ah => exact sPost.mono (X := X) (W := W) (r := .bk v ah) e h
  | ct v ah => exact sPost.mono (X := X) (W := W) (r := .ct v ah) e h
  | exc ev env ah => exact sPost.mono (X := X) (W := W) (D := D) (r := .exc ev env ah) e h
  | bad => exact h
theorem hSE {m : MM} {H : Hp} {σ : L2.St} {env : Env} {ah : AH} {ev : EV} {k : AV → AH → SRes} {D : Ends} {Q : VK} (hS : hSt X i a cls d m H σ env ah ev) (h : sPostE X W i a m H D (sb (f ev env ah) env k))
    (hk : ∀ v ah1 m1 H1 x, Ext m H m1 H1 → hSt X i a cls d m1 H1 σ env ah1 ev → VR X.K m1 H1 v x → sPostE X W i a m1 H1 D (k v ah1) → Q x H1) : tGe X W i a cls d f σ H Q := by
  refine ⟨m, env, ah, ev, hS, ?_⟩
  cases q : f ev env ah with
  | ok v ah1 =>
    rw [q] at h
    exact fun m1 H1 x e1 r1 v1 => hk v ah1 m1 H1 x e1 (hS.mono e1 r1) v1 (sPostE.mono e1 h)
  | exc x ah1 =>
    rw [q] at h
    exact fun m1 H1 c d e1 r1 xr => h m1 H1 σ c d e1 r1 (hS.1.mono e1) xr
  | bad => rw [q] at h; exact h
theorem hST {m : MM} {H : Hp} {σ : L2.St} {env : Env} {ah : AH} {ev : EV} {k : Bool → AH → SRes} {D : Ends} {Q : Bool → Hp → Prop} (hS : hSt X i a cls d m H σ env ah ev) (h : sPostE X W i a m H D (sb (t ev env ah) env k))
    (hk : ∀ v ah1 m1 H1, Ext m H m1 H1 → hSt X i a cls d m1 H1 σ env ah1 ev → sPostE X W i a m1 H1 D (k v ah1) → Q v H1) : tGTe X W i a cls d t σ H Q := by
  refine ⟨m, env, ah, ev, hS, ?_⟩
  cases q : t ev env ah with
  | ok v ah1 =>
    rw [q] at h
    exact fun m1 H1 e1 r1 => hk v ah1 m1 H1 e1 (hS.mono e1 r1) (sPostE.mono e1 h)
  | exc x ah1 =>
    rw [q] at h
    exact fun m1 H1 c d e1 r1 xr => h m1 H1 σ c d e1 r1 (hS.1.mono e1) xr
  | bad => rw [q] at h; exact h
theorem tss_nil : PSs X [] (tGSe X W i a cls d fun _ => gSkip) := PSs.weak pss_nil fun D σ H ⟨m, env, ah, ev, hS, hp⟩ => hp m H σ (Ext.refl m H) hS.2.1 hS.1 hS.2.2.2
theorem tss_one (h : PS X st (tGSe X W i a cls d fs)) : PSs X [st] (tGSe X W i a cls d fs) := pss_one h
theorem tss_cons {sts : List Stmt} (h1 : PS X st (tGSe X W i a cls d fs)) (h2 : PSs X sts (tGSe X W i a cls d gs)) : PSs X (st :: sts) (tGSe X W i a cls d fun ev => gSeq (fs ev) (gs ev)) :=
  PSs.weak (pss_cons h1 h2) fun D σ H hh => by
    obtain ⟨m, env, ah, ev, hS, hp⟩ := hh
    refine ⟨m, env, ah, ev, hS, ?_⟩
    have hp : sPostE X W i a m H D ((fs ev env ah).andThen (gs ev)) := hp
    cases q : fs ev env ah with
    | nx env1 ah1 =>
      rw [q] at hp
      intro m' H' σ' e1 r1 E1 hs
      exact ⟨m', env1, ah1, ev, ⟨E1, r1, hS.2.2.1.mono e1, hs⟩, sPostE.mono e1 hp⟩
    | rt v ah1 => rw [q] at hp; exact hp
    | bk env1 ah1 => rw [q] at hp; exact hp
    | ct env1 ah1 => rw [q] at hp; exact hp
    | exc ev env1 ah1 => rw [q] at hp; exact hp
    | bad => rw [q] at hp; exact hp
theorem ts_if (hc : PT X e (tGTe X W i a cls d t)) (ha : PSs X sts (tGSe X W i a cls d fs)) (hb : PSs X sts' (tGSe X W i a cls d gs)) : PS X (.If e sts sts' pos) (tGSe X W i a cls d fun ev => gIf (t ev) (fs ev) (gs ev)) :=
  PS.weak (ps_if hc ha hb) fun D σ H hh => by
    obtain ⟨m, env, ah, ev, hS, hp⟩ := hh
    refine hST hS hp fun v ah1 m1 H1 e1 hS1 hp1 => ?_
    cases v with
    | true => exact iteT ⟨m1, env, ah1, ev, hS1, hp1⟩
    | false => exact iteF ⟨m1, env, ah1, ev, hS1, hp1⟩
theorem ts_ret (ha : PE X e (tGe X W i a cls d f)) : PS X (.Return (some e) pos) (tGSe X W i a cls d fun ev => gRet (f ev)) :=
  PS.weak (ps_ret ha) fun D σ H hh => by
    obtain ⟨m, env, ah, ev, hS, hp⟩ := hh
    exact hSE hS hp fun v ah1 m1 H1 x e1 hS1 v1 hp1 => PQ.here hp1 hS1.2.1 v1
theorem ts_drop (ha : PE X e (tGe X W i a cls d f)) (hs : swapsWith e none pos.line X.env = pure false := by rfl) : PS X (.Expr e pos) (tGSe X W i a cls d fun ev => gDrop (f ev)) :=
  PS.weak (ps_expr ha hs) fun D σ H hh => by
    obtain ⟨m, env, ah, ev, hS, hp⟩ := hh
    exact hSE hS hp fun v ah1 m1 H1 x e1 hS1 v1 hp1 => hp1 m1 H1 σ (Ext.refl _ _) hS1.2.1 hS1.1 hS1.2.2.2
theorem ts_set {j : Nat} {x : Str} {pos' : Pos} (hj : i ≠ j) (hN : X.N.Nodup) (hi : X.N[j]? = some x) (hx : Loc X.env.scope x) (ha : PE X e (tGe X W i a cls d f)) (hs : swapsWith e (some (.Name x pos')) pos.line X.env = pure false := by rfl) (hf : X.fn x = true ∨ X.env.scope.names.lookup x = some .local := by first | exact .inl rfl | exact .inr rfl) :
    PS X (.Assign [.Name x pos'] e pos) (tGSe X W i a cls d fun ev => gSet j (f ev)) :=
  PS.weak (ps_set hN hi hx ha hs hf) fun D σ H hh => by
    obtain ⟨m, env, ah, ev, hS, hp⟩ := hh
    exact hSE hS hp fun v ah1 m1 H1 x e1 hS1 v1 hp1 => hp1 m1 H1 _ (Ext.refl _ _) hS1.2.1 (hS1.1.set j v1) (by rw [List.getElem?_set_ne (Ne.symm hj)]; exact hS1.2.2.2)
end

abbrev DenE := EV → AH → Res AV
/-- without an error of its own -/
structure FnE (P : Program) (w : World) (K : PySem.W.Frag) (mg : Str → Option Value) (base : Heap) (k : Nat) (f : Addr) (fd : FuncData) (x : Str) (den : DenE) : Prop where
  run : ∀ (A : Around) (outer : List PySem.Env) (s : Shared) (H : Hp) (us : List Value) (m : MM) (ah : AH) (ev : EV) (p : Addr × Obj) (cls : Value) (d : Option Addr) (Q : VK) (E : XK), RoomH k A → PinOk outer H s p → Zc cls d p.2 → (∃ vs, p.2.data = .fields vs) → Env0 P w K mg base A outer s H → BindsTo s fd ⟨us, []⟩ ([x].zip us) → us = [.ref p.1] →
    Rel K m ah H → XR K mg m H ev cls d → (den ev ah).post (PQ K m H Q) (fun _ _ => False) → codeAny (model P w) A (.call (.ref f) ⟨us, []⟩) (CR (L2.CX P w) outer P w H s Q E) s
def FnDE (P : Program) (w : World) (K : PySem.W.Frag) (mg : Str → Option Value) (base : Heap) (y : Str) (k : Nat) (den : DenE) : Prop :=
  ∃ (f : Addr) (fd : FuncData) (x : Str), mg y = some (.ref f) ∧ PySem.W.keepIn K (.ref f) = true ∧ Binds K fd [x] [] ∧ FnE P w K mg base k f fd x den
def gFunE (n : Nat) (body : EV → GS) : DenE := fun ev ah => match body ev (List.replicate n none) ah with
  | .rt v ah1 => .ok v ah1
  | .nx _ ah1 => .ok .non ah1
  | _ => .bad
section
variable {P : Program} {w : World} {K : PySem.W.Frag} {mg : Str → Option Value} {base : Heap}
theorem fnE_of {x qual : Str} {st : Stmt} {f : Addr} {fd : FuncData} {N : List Str} {y : Str} {k : Nat} {body : EV → GS} (F : Fun K x qual st f fd) (S : FnScope N [y] (defScope st))
    (hbody : ∀ (cdv : Value) (A : Around) (outer : List PySem.Env) (s : Shared) (H : Hp) (E : XK) (p : Addr × Obj) (cls : Value) (d : Option Addr), ErrIn (cxH (L2.CX P w) P w K mg base N qual (defScope st) f cdv A outer s H E p) p.1 cls d →
      PSs (cxH (L2.CX P w) P w K mg base N qual (defScope st) f cdv A outer s H E p) (defBody st) (tGSe (cxH (L2.CX P w) P w K mg base N qual (defScope st) f cdv A outer s H E p) (fun _ _ _ _ => False) 0 p.1 cls d body)) :
    FnE P w K mg base (k + 1) f fd y (gFunE N.length body) := by
  obtain ⟨oc, od, kV, doc, pm, an, cdv, ct, osl, rfl, lk, hcd⟩ := F.ex
  refine ⟨fun A outer s H us m ah ev p cls d Q E hr hpin hz hf e0 hb hu hR xr hp => ?_⟩
  subst hu
  have same : ∀ b o, base.get? b = some o → s.heap.get? b = some o := fun b o z => (e0.bs b o z).1
  have KX : K.In s.heap := e0.mod.kin.keeps same
  have lim : s.heap.NoLimit := e0.mod.nolimit.keeps same
  have r : Vals [V.ref p.1] [Value.ref p.1] := .cons rfl .nil
  refine codeAny_call_function hr.depth (KX _ _ lk) rfl S.co S.gen rfl (PySem.W.codeRec_of KX hcd) (hb _ _ _ _ ?_)
  refine wpAny_newFunctionEnv_cells S.kind (fun ⟨n, v⟩ hy => ?_) fun env he s1 ic => ?_
  · rcases S.par n (List.of_mem_zip hy).1 with q | q
    · exact .inl q
    · exact .inr ⟨q, PySem.W.cellsFrom_some _ _ _ (.inl q)⟩
  · subst he
    refine ⟨lim.keeps ic.toInCall.keep, codeAny_func ?_⟩
    have ht := hbody cdv A outer s H E p cls d ⟨⟨p.2, List.mem_singleton.mpr rfl, hz, hf⟩⟩
    have I := inv_startH (CX := L2.CX P w) (E := E) S hpin e0 (vs := [V.ref p.1]) rfl r ic
    let D : Ends := { nx := fun _ H' => Q .non H', rt := Q }
    have hN : 0 < N.length := by
      have := congrArg List.length S.pre
      rw [List.length_take] at this
      have h1 : ([y] : List Str).length = 1 := rfl
      omega
    have hq : tGSe (cxH (L2.CX P w) P w K mg base N qual (defScope st) f cdv A outer s H E p) (fun _ _ _ _ => False) 0 p.1 cls d body D (L2.start N [V.ref p.1]) H := by
      refine ⟨m, List.replicate N.length none, ah, ev, ⟨⟨?_, fun i v q => ?_⟩, hR, xr, ?_⟩, ?_⟩
      · unfold L2.start; simp; omega
      · rw [List.getElem?_replicate] at q
        split at q <;> cases q
      · unfold L2.start; rfl
      · unfold gFunE at hp
        cases q : body ev (List.replicate N.length none) ah with
        | rt v ah1 => rw [q] at hp; exact hp
        | nx env1 ah1 => rw [q] at hp; exact fun m' H' σ' e1 r1 _ _ => hp m' H' .non e1 r1 .non
        | exc ev env1 ah1 => rw [q] at hp; exact hp.elim
        | bk _ _ => rw [q] at hp; exact hp.elim
        | ct _ _ => rw [q] at hp; exact hp.elim
        | bad => rw [q] at hp; exact hp.elim
    refine wpAny_mono (ht.run [] s1 (L2.start N [V.ref p.1]) H _ I hq) (fun fl s' hs => ?_) fun ev s' hs => hs
    match fl, hs with
    | .ret u, ⟨v, σ', H', J, rv, q⟩ => exact ⟨v, H', J.os, J.bare, J.base, J.hok, rv, q⟩
    | .next, ⟨σ', H', J, q⟩ => exact ⟨V.non, H', J.os, J.bare, J.base, J.hok, rfl, q⟩
    | .brk, ⟨_, _, _, q⟩ => exact False.elim q
    | .cont, ⟨_, _, _, q⟩ => exact False.elim q
theorem FnDE.mono {y : Str} {k j : Nat} {den : DenE} (F : FnDE P w K mg base y k den) (h : k ≤ j) : FnDE P w K mg base y j den := by
  obtain ⟨f, fd, x, h1, h2, h3, h4⟩ := F
  exact ⟨f, fd, x, h1, h2, h3, ⟨fun A outer s H us m ah ev p cls d Q E hr => h4.run A outer s H us m ah ev p cls d Q E (hr.mono h)⟩⟩
end
section
variable {X : Cx} {i : Nat} {a : Addr} {cls : Value} {d : Option Addr}
noncomputable def gCallE (den : DenE) : EV → GE := fun ev _ ah => noX (den ev ah)
theorem te_call {y e : Str} {p pe pos : Pos} {k : Nat} {den : DenE} (F : FnDE X.prog X.w X.K X.mg X.base y k den) (hr : RoomH k X.A) (E : ErrIn X a cls d) (hg : Gl X y) (hN : X.N[i]? = some e) (hv : Vis X.env.scope e) (hed : (e == ("__debug__" : Str)) = false) (hec : (e == ("__classdict__" : Str)) = false)
    (hdb : (y == ("__debug__" : Str)) = false := by decide) (hs : starEach [.Name e pe] X.env = (false, eval (.Name e pe) X.env) :: starEach [] X.env := by rfl) (hpl : (backTo pos (starEach [] X.env)).any (·.1) = false := by rfl) :
    PE X (.Call (.Name y p) [.Name e pe] [] pos) (tGe X (fun _ _ _ _ => False) i a cls d (gCallE den)) := by
  obtain ⟨f, fd, x, hm, hk, hb, F⟩ := F
  obtain ⟨oe, hp, hz, hf⟩ := E.ex
  refine ⟨fun pins s σ H Q I h => ?_⟩
  obtain ⟨m, env, ah, ev, ⟨hE, hR, xr, hσ⟩, q⟩ := h
  refine wpAny_Call_Name_kw (ld_glob I hg hm ?_ hdb)
  have ha := pa_cons (pe_var (X := X) (pos := pe) hN hv hed hec) pa_nil hs
  refine PySem.W.callWith_K (h₀ := X.base) I.ok.mod.kin hk (thn (ha.run pos pins s σ H (fun vs H1 => vs = [.ref a] ∧ H1 = H) I ⟨_, hσ, rfl, rfl⟩) fun us s1 hq => ?_) hs hpl
  obtain ⟨vs, H1, I1, r, rfl, rfl⟩ := hq
  refine ⟨I1.kIn, ?_⟩
  cases r with
  | cons r1 r2 =>
    cases r2
    cases r1
    have P1 := I1.pin (a, oe) (List.mem_append_left _ hp)
    have hpin : PinOk X.stack H1 s1 (a, oe) := ⟨P1.1, P1.2.1, fun hm => (List.mem_cons.mp (I1.stkSub a hm)).elim P1.2.2.1 P1.2.2.2.1, P1.2.2.2.2⟩
    have b := hb s1 [.ref a] I1.kIn rfl
    rw [List.append_nil] at b
    have go := F.run X.A X.stack s1 H1 [.ref a] m ah ev (a, oe) cls d Q (fun _ _ _ => False) hr hpin hz hf I1.env0 b rfl hR xr (by
      exact noX_post q)
    refine wpAny_call (codeAny_mono go fun res s' hq => ?_)
    match res, hq with
    | .error ev, hq => obtain ⟨_, _, _, _, _, _, _, _, _, _, _, _, z⟩ := hq; exact z.elim
    | .ok (.ret u), hq => exact I1.after hq
end

def SRes.clr (i : Nat) : SRes → SRes
  | .nx env ah => .nx (env.set i none) ah
  | .rt v ah => .rt v ah
  | .bk env ah => .bk (env.set i none) ah
  | .ct env ah => .ct (env.set i none) ah
  | _ => .bad
def gTry (f : GS) (t : RelTab) (c : Str) (i : Nat) (fs : EV → GS) : GS := fun env ah => match f env ah with
  | .exc ev env1 ah1 => match relO t ev.cls c with
    | some true => if i < env1.length then (fs ev (env1.set i none) ah1).clr i else .bad
    | some false => .exc ev env1 ah1
    | none => .bad
  | r => r
theorem EnvR.unsetAny {K : PySem.W.Frag} {m : MM} {H : Hp} {env : Env} {σ : L2.St} (h : EnvR K m H env σ) (i : Nat) (x : Option V) : EnvR K m H (env.set i none) (σ.set i x) := by
  refine ⟨by rw [List.length_set, List.length_set]; exact h.1, fun j w q => ?_⟩
  by_cases hj : i = j
  · subst hj
    by_cases hl : i < env.length
    · rw [List.getElem?_set_self hl] at q; cases q
    · rw [List.getElem?_eq_none (by rw [List.length_set]; omega)] at q; cases q
  · rw [List.getElem?_set_ne hj] at q
    rw [List.getElem?_set_ne hj]
    exact h.2 j w q
section
variable {X : Cx} {W : WX}
theorem gs_try {t : RelTab} {c n : Str} {i k : Nat} {C : Addr} {body suite : List Stmt} {b₀ : Stmt} {np pos pos' : Pos} {f : GS} {fs : EV → GS} (hx : XG X W k) (hs : X.stack = X.env :: X.outer) (hf : X.env.frame = some X.env.locals) (hN : X.N.Nodup) (hi : X.N[i]? = some n) (hln : X.env.kindOf n = some .local) (hcg : Gl X c) (hcd : (c == ("__debug__" : Str)) = false) (T : RelT X.K X.mg t) (hC : X.mg c = some (.ref C))
    (hb : ∀ (W' : WX) (pn : List (Addr × Obj)) (xe : Value → Shared → Prop), XG (X.tr pn xe) W' k → PSs (X.tr pn xe) body (tGS X W' f))
    (hsu : ∀ (a : Addr) (oe : Obj) (cls : Value) (d : Option Addr) (pn : List (Addr × Obj)), ErrIn (X.suite a ((a, oe) :: pn)) a cls d → RoomH k (X.suite a ((a, oe) :: pn)).A → PSs (X.suite a ((a, oe) :: pn)) (b₀ :: suite) (tGSe X (fun _ _ _ _ => False) i a cls d fs)) :
    PS X (.Try body [.ExceptHandler (some (.Name c np)) (some n) (b₀ :: suite) pos'] [] [] pos) (tGS X W (gTry f t c i fs)) := by
  refine PS.weak (ps_try_as (c := .ref C) (tb := fun W' => tGS X W' f) (ts := fun a cls d => tGSe X (fun _ _ _ _ => False) i a cls d fs) (Wout := W) hs hf hN hi hln ⟨hcg, hcd, .inl hC⟩ hx.tk (fun W' pn xe tk po => hb W' pn xe ⟨hx.room, hx.gd, hx.calm, tk, po⟩)
    (fun a oe cls d pn hz hf => hsu a oe cls d pn ⟨oe, List.mem_cons_self, hz, hf⟩ ⟨hx.room.dp, hx.room.un⟩)) fun D σ H h => ?_
  obtain ⟨m, env, ah, hE, hR, hp⟩ := h
  refine ⟨m, env, ah, hE, hR, ?_⟩
  unfold gTry at hp
  cases q : f env ah with
  | nx env1 ah1 => rw [q] at hp; exact hp
  | rt v ah1 => rw [q] at hp; exact hp
  | bk env1 ah1 => rw [q] at hp; exact hp
  | ct env1 ah1 => rw [q] at hp; exact hp
  | bad => rw [q] at hp; exact hp
  | exc ev env1 ah1 =>
    rw [q] at hp
    intro m' H' σ' cls d e1 r1 E1 xr
    have hp : sPost X W m H D (match relO t ev.cls c with
      | some true => if i < env1.length then (fs ev (env1.set i none) ah1).clr i else .bad
      | some false => .exc ev env1 ah1
      | none => .bad) := hp
    cases qr : relO t ev.cls c with
    | none => rw [qr] at hp; exact hp.elim
    | some b =>
      rw [qr] at hp
      obtain ⟨C', hA, hD⟩ := (relO_at T qr).ex
      have hA1 : X.mg ev.cls = some (.ref C') := hA.at_
      have e2 := xr.1
      rw [hA1] at e2; cases e2
      have exm : PySem.W.exmOne X.K (.ref C') (.ref C) = some b := by
        rcases hD with ⟨D', h1, _, h2⟩ | ⟨T', h1, _⟩
        · have h1 : X.mg c = some (.ref D') := h1
          rw [hC] at h1; cases h1; exact h2
        · have h1 : X.mg c = none := h1
          rw [hC] at h1; cases h1
      refine ⟨b, exm, fun hbt a na => ?_, fun hbf => ?_⟩
      · subst hbt
        have hp : sPost X W m H D (if i < env1.length then (fs ev (env1.set i none) ah1).clr i else .bad) := hp
        split at hp
        · rename_i hil
          refine ⟨m', env1.set i none, ah1, ev, ⟨E1.unsetAny i _, r1, xr, List.getElem?_set_self (by rw [← E1.1]; exact hil)⟩, ?_⟩
          cases q2 : fs ev (env1.set i none) ah1 with
          | nx env2 ah2 =>
            rw [q2] at hp
            exact fun m2 H2 σ2 e2 r2 E2 _ => hp m2 H2 _ (e1.trans e2) r2 (E2.unsetAny i none)
          | rt v ah2 =>
            rw [q2] at hp
            exact PQ.mono e1 hp
          | bk env2 ah2 =>
            rw [q2] at hp
            exact fun m2 H2 σ2 e2 r2 E2 => hp m2 H2 _ (e1.trans e2) r2 (E2.unsetAny i none)
          | ct env2 ah2 =>
            rw [q2] at hp
            exact fun m2 H2 σ2 e2 r2 E2 => hp m2 H2 _ (e1.trans e2) r2 (E2.unsetAny i none)
          | exc _ _ _ => rw [q2] at hp; exact hp.elim
          | bad => rw [q2] at hp; exact hp.elim
        · exact hp.elim
      · subst hbf
        exact hp m' H' σ' _ d e1 r1 E1 xr
end
end G
namespace G
open PySem PySem.Spec PyProof.Rows L2
set_option autoImplicit false
def joinA (s : List Nat) : List (List Nat) → List Nat
  | [] => []
  | [t] => t
  | t :: ts => t ++ s ++ joinA s ts
theorem join_mk (s : List Nat) : ∀ ts : List (List Nat), Str.join (mkS s) (ts.map mkS) = mkS (joinA s ts)
  | [] => rfl
  | [t] => rfl
  | t :: u :: ts => by
    have ih := join_mk s (u :: ts)
    show mkS t ++ mkS s ++ Str.join (mkS s) ((u :: ts).map mkS) = mkS (t ++ s ++ joinA s (u :: ts))
    rw [ih, mkS_app, mkS_app]
def seqA : AV → Option (List AV)
  | .lst l => some l
  | .tup l => some l
  | _ => none
def joinO (s : List Nat) : O1 := fun ah w => match (seqA (dr ah w)).bind strsA with
  | some ss => if (ss.map List.length).sum + ss.length * s.length ≤ 1000000 then some (.str (joinA s ss)) else none
  | none => none
def gJoin (a b : GE) : GE := fun env ah => rb (a env ah) fun v ah1 => match v with
  | .str s => rb (b env ah1) fun w ah2 => lift1 (joinO s ah2 w) ah2
  | _ => .bad
theorem join_len (ss : List (List Nat)) : ((ss.map mkS).map (·.length)).sum = (ss.map List.length).sum := by
  rw [List.map_map]; rfl
theorem seq_of {X : Cx} {m : MM} {H : Hp} {ah : AH} {w : AV} {y : V} {l : List AV} (r : Rel X.K m ah H) (h : VR X.K m H w y) (e : seqA (dr ah w) = some l) : ∃ p vs, y = .ref p ∧ (SqL X.K H p vs ∨ SqT X.K H p vs) ∧ VRs X.K m H l vs := by
  cases q : dr ah w <;> rw [q] at e <;> cases e
  · obtain ⟨p, vs, e1, h1, h2⟩ := VR.tupl r h q
    exact ⟨p, vs, e1, .inr h1, h2⟩
  · obtain ⟨p, vs, e1, h1, h2⟩ := VR.list r h q
    exact ⟨p, vs, e1, .inl (SqL.of h1), h2⟩
section
variable {X : Cx} {W : WX} {a b : Expr} {fa fb : GE} {apos pos : Pos}
theorem ge_join (ha : PE X a (tG X W fa)) (hb : PE X b (tG X W fb)) (hs : starEach [b] X.env = [(false, eval b X.env)] := by rfl) (hbase : attributeBase a "join" X.env (eval a X.env) = eval a X.env := by rfl) (hline : (apos.endLine == pos.line) = true := by rfl) :
    PE X (.Call (.Attribute a "join" apos) [b] [] pos) (tG X W (gJoin fa fb)) :=
  PE.weak (pe_join ha hb hs hbase hline) fun σ H Q h => by
    obtain ⟨m, env, ah, hE, hR, hp⟩ := h
    refine tG_step hE hR hp (fun _ _ h => h) fun v ah1 m1 H1 x e1 r1 v1 hp1 => ?_
    cases v1 with
    | str s =>
      refine ⟨⟨_, rfl⟩, ?_⟩
      refine tG_step (hE.mono e1) r1 (Res.post_imp hp1 (fun _ _ _ h => PQ.mono e1 h) (fun _ _ h => PX.mono e1 h)) (fun _ _ h => h) fun w ah2 m2 H2 y e2 r2 v2 hp2 => ?_
      have hp2 : (lift1 (joinO s ah2 w) ah2).post _ _ := hp2
      unfold joinO at hp2
      cases hb : (seqA (dr ah2 w)).bind strsA with
      | none => rw [hb] at hp2; exact hp2.elim
      | some ss =>
        rw [hb] at hp2
        obtain ⟨l, hl, hss⟩ := Option.bind_eq_some_iff.mp hb
        obtain ⟨p, vs, rfl, h1, h2⟩ := seq_of r2 v2 hl
        have hp2 : (lift1 (if (ss.map List.length).sum + ss.length * s.length ≤ 1000000 then some (AV.str (joinA s ss)) else none) ah2).post _ _ := hp2
        split at hp2
        · rename_i hz
          have e := strs_vs h2 hss
          subst e
          refine ⟨_, p, _, rfl, rfl, h1, ?_, ?_⟩
          · rw [join_len, List.length_map, mkS_length]; omega
          · rw [show Txt.join (mkS s) (ss.map mkS) = Str.join (mkS s) (ss.map mkS) from StrLaws.glued_eq_join _ _, join_mk]
            exact hp2 m2 H2 _ e2 r2 (.str _)
        · exact hp2.elim
    | _ => exact hp1.elim
end
end G
namespace SG
open PySem PySem.Spec PyProof.Rows L2
set_option autoImplicit false
/-- a kind of keys that can be read off the values, of those that C is true of -/
structure RdK (P : Program) (w : World) (K : Type) [DecidableEq K] where
  knd : PySem.KeyKind P w K
  kf : Value → K
  C : Value → Prop
  isC : ∀ v, C v → knd.is (kf v) v = true
  scan : ∀ v, C v → v.scannable = true
section
variable {P : Program} {w : World} {K : Type} [DecidableEq K] (R : RdK P w K)
abbrev RdK.ks (es : List (Int × Value)) : List K := es.map fun e => R.kf e.2
def RdK.good (e : Int × Value) : Prop := R.C e.2 ∧ e.1 = R.knd.hash (R.kf e.2)
/-- a set of keys that can be walked -/
structure SetG' (o : Obj) (es : Array (Int × Value)) (ep : Nat) (t : SetTable) (S : K → Bool) (n : Nat) : Prop where
  ex : o.ExactSet
  dat : o.data = .set es ep t
  gd : ∀ e ∈ es.toList, R.good e
  nd : (R.ks es.toList).Nodup
  mem : ∀ k, S k = true ↔ k ∈ R.ks es.toList
  lt : es.size < scanBound
  fit : t.fits es.size = true
  sz : es.size = n
  ris : Ris t.place.toList
  led : w.params.followText "set-order" = true ∨ t.led = true
def SetG (h : Heap) (a : Addr) (S : K → Bool) (n : Nat) : Prop := ∃ o es ep t, h.get? a = some o ∧ SetG' R o es ep t S n
variable {R}
theorem SetG.at {h h' : Heap} {a : Addr} {S : K → Bool} {n : Nat} (g : SetG R h a S n) (k : ∀ o, h.get? a = some o → h'.get? a = some o) : SetG R h' a S n := by
  obtain ⟨o, es, ep, t, ho, r⟩ := g
  exact ⟨o, es, ep, t, k o ho, r⟩
theorem SetG.congr {h : Heap} {a : Addr} {S S' : K → Bool} {n : Nat} (g : SetG R h a S n) (e : ∀ k, S' k = S k) : SetG R h a S' n := by
  have q : S' = S := funext e
  rw [q]; exact g
theorem is_iff {v : Value} (c : R.C v) (k : K) : R.knd.is k v = true ↔ R.kf v = k :=
  ⟨fun h => R.knd.inj v _ _ (R.isC v c) h, fun h => by rw [← h]; exact R.isC v c⟩
theorem elems {l : List (Int × Value)} (g : ∀ e ∈ l, R.good e) : ElemsOf R.knd l := fun e he => ⟨⟨R.kf e.2, R.isC _ (g e he).1, (g e he).2⟩, R.scan _ (g e he).1⟩
theorem mem_iff' {l : List (Int × Value)} (g : ∀ e ∈ l, R.good e) (k : K) : k ∈ R.ks l ↔ ∃ e ∈ l, R.knd.is k e.2 = true := by
  rw [RdK.ks, List.mem_map]
  exact ⟨fun ⟨e, he, q⟩ => ⟨e, he, (is_iff (g e he).1 k).2 q⟩, fun ⟨e, he, q⟩ => ⟨e, he, (is_iff (g e he).1 k).1 q⟩⟩
variable {A : Around} {E : Value → Shared → Prop} {s : Shared} {a : Addr} {S : K → Bool} {n : Nat}
/-- what is stored behind an entry more, and the table's growing -/
theorem tail {g : Bool → Sem Unit} (hg : ∀ (b : Bool) (s₁ : Shared) (Q' : Unit → Shared → Prop), Q' () s₁ → wpAny (model P w) A (g b) Q' E s₁)
    {o : Obj} {es : Array (Int × Value)} {ep : Nat} {t : SetTable} (ho : s.heap.get? a = some o) (hex : o.ExactSet) (hd : o.data = .set es ep t)
    {es1 : Array (Int × Value)} {t2 : SetTable} {S' : K → Bool} (g1 : ∀ e ∈ es1.toList, R.good e) (nd1 : (R.ks es1.toList).Nodup) (m1 : ∀ k, S' k = true ↔ k ∈ R.ks es1.toList)
    (hb1 : es1.size < scanBound) (hf2 : t2.fits es1.size = true) (hr : Ris t2.place.toList) (hl : w.params.followText "set-order" = true ∨ t2.led = true) {wasDummy : Bool} {Q : Option Bool → Shared → Prop}
    (hQ : ∀ h', Heap.SameBut a s.heap h' → SetG R h' a S' es1.size → Q (some true) { s with heap := h' }) :
    wpAny (model P w) A (do
        storeSet a es1 t2
        if (!wasDummy && t2.tooFull) = true then do
            g (relayAll t2 es1 (SetTable.grown es1.size)).2.2
            storeSet a (relayAll t2 es1 (SetTable.grown es1.size)).1 (relayAll t2 es1 (SetTable.grown es1.size)).2.1
            pure (some true)
          else pure (some true)) Q E s := by
  refine wpAny_bind (wpAny_storeSet_of ho hd ?_ (fits_of_scanBound hb1))
  have ho1 := L2.store_at (es' := es1) (t' := t2) ho hd
  have sb1 := Heap.SameBut.update s.heap a (Obj.putSet es1 t2)
  split
  · have pm := relayAll_perm t2 es1 (SetTable.grown es1.size)
    have hf3 := relayAll_fits t2 es1 (SetTable.grown es1.size)
    have hr3 := relayAll_ris t2 es1 (SetTable.grown es1.size)
    have hl3 := relayAll_led t2 es1 (SetTable.grown es1.size)
    generalize relayAll t2 es1 (SetTable.grown es1.size) = Z at pm hf3 hr3 hl3 ⊢
    obtain ⟨es2, t3, gave⟩ := Z
    dsimp only at pm hf3 hr3 hl3 ⊢
    have hsz : es2.size = es1.size := by rw [← Array.length_toList, pm.length_eq, Array.length_toList]
    refine wpAny_bind (hg _ _ _ ?_)
    refine wpAny_bind (wpAny_storeSet_of ho1 rfl ?_ (fits_of_scanBound (by rw [hsz]; exact hb1)))
    have pk := pm.map fun e => R.kf e.2
    exact wpAny_pure (hQ _ (sb1.trans (Heap.SameBut.update _ a _)) ⟨_, es2, _, t3, L2.store_at (es' := es2) (t' := t3) ho1 rfl,
      ⟨hex, rfl, fun e he => g1 e (pm.mem_iff.mp he), pk.nodup_iff.mpr nd1, fun k => (m1 k).trans pk.mem_iff.symm, by rw [hsz]; exact hb1, hf3, hsz, hr3, hl.imp id fun z => by rw [hl3]; exact z⟩⟩)
  · exact wpAny_pure (hQ _ sb1 ⟨_, es1, _, t2, ho1, ⟨hex, rfl, g1, nd1, m1, hb1, hf2, rfl, hr, hl⟩⟩)
theorem add {v : Value} (c : R.C v) {Q : Bool → Shared → Prop} (r : SetG R s.heap a S n) (room : n + 1 < scanBound)
    (hQ : ∀ h', Heap.SameBut a s.heap h' → SetG R h' a (fun j => S j || decide (j = R.kf v)) (if S (R.kf v) = true then n else n + 1) → Q (!S (R.kf v)) { s with heap := h' }) :
    wpAny (model P w) A (setAddHashed a v (R.knd.hash (R.kf v))) Q E s := by
  obtain ⟨o, es, ep, t, ho, r⟩ := r
  have hsc := R.scan v c
  have hkey := R.isC v c
  have hel := elems r.gd
  generalize hk : R.kf v = k at hkey hQ ⊢
  unfold setAddHashed setAddHashedIn
  refine wpAny_holding (wpAny_bind (wpAny_setState_of ho r.dat r.fit ?_))
  dsimp only
  rw [byScan_of hsc r.lt hel]
  simp only [↓reduceIte]
  unfold setAddByScan
  refine wpAny_bind ?_
  refine wpAny_bind (wpAny_rule ?_)
  refine wpAny_bind (wpAny_setScan_of hkey ho r.dat r.fit hel ?_)
  cases hfi : List.findIdx? (fun e => R.knd.is k e.2) es.toList with
  | some j =>
    dsimp only
    obtain ⟨hj, pj, _⟩ := List.findIdx?_eq_some_iff_getElem.mp hfi
    have hSk : S k = true := (r.mem k).2 ((mem_iff' r.gd k).2 ⟨es.toList[j], List.getElem_mem hj, pj⟩)
    refine wpAny_pure (wpAny_pure ?_)
    have q := hQ s.heap (Heap.SameBut.refl a s.heap) ⟨o, es, ep, t, ho, ⟨r.ex, r.dat, r.gd, r.nd, fun i => by
      rw [Bool.or_eq_true, decide_eq_true_eq, ← r.mem i]
      exact ⟨fun z => z.elim id (fun e => e ▸ hSk), .inl⟩, r.lt, r.fit, by rw [if_pos hSk]; exact r.sz, r.ris, r.led⟩⟩
    rw [hSk] at q
    exact q
  | none =>
    dsimp only
    have hnk : k ∉ R.ks es.toList := fun z => by
      obtain ⟨e, he, q⟩ := (mem_iff' r.gd k).1 z
      have c := List.findIdx?_eq_none_iff.mp hfi e he
      rw [q] at c
      cases c
    have hSk : S k = false := by
      cases q : S k with
      | false => rfl
      | true => exact absurd ((r.mem k).1 q) hnk
    have hgw : ∀ (b : Bool) {s₁ : Shared} {Q' : Unit → Shared → Prop}, Q' () s₁ → wpAny (model P w) A (match b with | true => rule "set.scan.the-table-gave-way" | false => pure ()) Q' E s₁ :=
      fun b s₁ Q' q => by cases b <;> first | exact wpAny_pure q | exact wpAny_rule q
    have pm := layNew_perm t es (R.knd.hash k) v
    have hf1 := layNew_fits t es (R.knd.hash k) v
    have hr1 := layNew_ris t es (R.knd.hash k) v r.ris
    have hl1 := layNew_led t es (R.knd.hash k) v
    generalize layNew t es (R.knd.hash k) v = Z at pm hf1 hr1 hl1 ⊢
    obtain ⟨es1, t1, wasDummy, gave⟩ := Z
    dsimp only at pm hf1 hr1 hl1 ⊢
    rw [Array.toList_push] at pm
    have pc : es1.toList.Perm ((R.knd.hash k, v) :: es.toList) := pm.trans (List.perm_append_singleton _ _)
    have pk : (R.ks es1.toList).Perm (k :: R.ks es.toList) := by
      have := pc.map fun e => R.kf e.2
      rw [List.map_cons, hk] at this
      exact this
    have g1 : ∀ e ∈ es1.toList, R.good e := fun e he => by
      rcases List.mem_cons.mp (pc.mem_iff.mp he) with z | z
      · rw [z]; exact ⟨c, by rw [← hk]⟩
      · exact r.gd e z
    have nd1 : (R.ks es1.toList).Nodup := pk.nodup_iff.mpr (List.nodup_cons.mpr ⟨hnk, r.nd⟩)
    have m1 : ∀ i, (S i || decide (i = k)) = true ↔ i ∈ R.ks es1.toList := fun i => by
      rw [Bool.or_eq_true, decide_eq_true_eq, r.mem i, pk.mem_iff, List.mem_cons]
      exact Or.comm
    have hsz : es1.size = n + 1 := by rw [← Array.length_toList, pc.length_eq, List.length_cons, Array.length_toList, r.sz]
    have hb1 : es1.size < scanBound := by rw [hsz]; exact room
    have hled : w.params.followText "set-order" = true ∨ t1.led = true := r.led.imp id fun z => by rw [hl1]; exact z
    have fin : ∀ h', Heap.SameBut a s.heap h' → SetG R h' a (fun j => S j || decide (j = k)) es1.size → Q true { s with heap := h' } := fun h' sb z => by
      have q := hQ h' sb
      rw [hSk] at q
      rw [hsz] at z
      exact q z
    refine wpAny_bind (hgw _ ?_)
    split
    · refine wpAny_bind ?_
      rw [hashByValue_scannable 8 hsc]
      refine wpAny_pure ?_
      refine tail ?_ ho r.ex r.dat g1 nd1 m1 hb1 ?_ ?_ ?_ ?_
      · intro b s₁ Q' q; cases b <;> first | exact wpAny_pure q | exact wpAny_rule q
      · first | (split <;> first | exact hf1 | exact SetTable.fits_plain_off hf1) | exact hf1
      · first | (split <;> exact hr1) | exact hr1
      · first | (split <;> exact hled) | exact hled
      · intro h' sb z; dsimp only; exact wpAny_pure (fin h' sb z)
    · refine wpAny_bind (wpAny_pure ?_)
      simp only [↓reduceIte]
      refine tail ?_ ho r.ex r.dat g1 nd1 m1 hb1 hf1 hr1 hled ?_
      · intro b s₁ Q' q; cases b <;> first | exact wpAny_pure q | exact wpAny_rule q
      · intro h' sb z; dsimp only; exact wpAny_pure (fin h' sb z)
theorem fresh_at {h : Heap} {ks : List K} (ho : h.get? a = some { cls := .type "set", dict := none, data := .set #[] 0 (.fresh 0 0 (!w.params.followText "set-order")) }) : SetG R h a (fun j => decide (j ∈ ks.take 0)) 0 :=
  ⟨_, #[], 0, _, ho, ⟨⟨rfl, rfl, rfl⟩, rfl, (fun e he => by simp at he), (by simp), (fun k => by simp), (by decide), (by rfl), rfl, List.Pairwise.nil, by
    show _ ∨ (!w.params.followText "set-order") = true
    cases w.params.followText "set-order"
    · exact .inr rfl
    · exact .inl rfl⟩⟩
theorem loop {I : Addr} {fp wr : List Addr} {G : Array GenState → Array GenState → Prop} {Pv : Nat → Value → Prop} {St : Nat → Shared → Prop} {Q : Result → Shared → Prop} {us : List Value}
    (W : WalksS P w A.in1 I fp wr G us.length Pv St) (B : Addr) (hB : B ∉ fp) (hb : us.length + 1 < scanBound) (hC : ∀ u ∈ us, R.C u) (hval : ∀ i v, Pv i v → us[i]? = some v) :
    ∀ (k i : Nat) (s : Shared), us.length - i = k → i ≤ us.length → St i s → (∃ c, c ≤ i ∧ SetG R s.heap B (fun j => decide (j ∈ (us.map R.kf).take i)) c) →
      (∀ s' c, Moved (B :: wr) G s s' → c ≤ us.length → SetG R s'.heap B (fun j => decide (j ∈ us.map R.kf)) c → Q (.ok (.ret .none)) s') →
      codeAny (model P w) A (.builtin "set.update.loop" ⟨[.ref B, .ref I], []⟩) Q s := by
  have hBw : B ∉ wr := fun h => hB (W.sub _ h)
  have hsub : ∀ b ∈ wr, b ∈ B :: wr := fun b hb => List.mem_cons_of_mem _ hb
  intro k
  induction k with
  | zero =>
    intro i s hk hi hst ⟨c, hc, hS⟩ hQ
    have hin : i = us.length := by omega
    subst hin
    refine codeAny_builtin F.entry_set_update_loop ?_
    rw [Around.under_plainId F.plain_set_update_loop _]
    show wpAny _ A.in1 (pyNext (.ref I) >>= _) _ _ s
    refine wpAny_bind (W.done s _ _ hst fun s' hm => ?_)
    show wpAny _ A.in1 (ret Value.none) _ _ s'
    rw [List.take_of_length_le (by simp)] at hS
    exact wpAny_pure (hQ s' c (hm.mono hsub) hc (hS.at fun o e => hm.heap B o hBw e))
  | succ k ih =>
    intro i s hk hi hst ⟨c, hc, hS⟩ hQ
    have hlt : i < us.length := by omega
    refine codeAny_builtin F.entry_set_update_loop ?_
    rw [Around.under_plainId F.plain_set_update_loop _]
    show wpAny _ A.in1 (pyNext (.ref I) >>= _) _ _ s
    refine wpAny_bind (W.item i s _ _ hlt hst fun v s' hP hst' hm => ?_)
    have hv := hval i v hP
    have cv := hC v (List.mem_of_getElem? hv)
    have hS' : SetG R s'.heap B (fun j => decide (j ∈ (us.map R.kf).take i)) c := hS.at fun o e => hm.heap B o hBw e
    show wpAny _ A.in1 (holding [v] (setAdd B v) >>= _) _ _ s'
    refine wpAny_bind (wpAny_holding ?_)
    unfold setAdd
    refine wpAny_holding ?_
    refine wpAny_bind (R.knd.pyHash (R.isC v cv) ?_)
    refine add (s := { s' with toks := s'.toks + 1 }) cv hS' (by omega) fun h' hsb hS2 => ?_
    have hS3 : SetG R h' B (fun j => decide (j ∈ (us.map R.kf).take (i + 1))) (if decide (R.kf v ∈ (us.map R.kf).take i) = true then c else c + 1) := hS2.congr fun j => by
      rw [List.take_add_one, List.getElem?_map, hv]
      simp [List.mem_append]
    have hc3 : (if decide (R.kf v ∈ (us.map R.kf).take i) = true then c else c + 1) ≤ i + 1 := by
      split <;> omega
    refine wpAny_pure ⟨plainId_quiet F.plain_set_update_loop _, ih (i + 1) _ (by omega) hlt (W.frame _ s' _ _ hst' (Nat.le_succ _) fun b hb o e => ?_) ⟨_, hc3, hS3⟩ fun s'' c2 hm'' hc'' hS'' => ?_⟩
    · rw [hsb.2 b (fun h : b = B => hB (by rw [← h]; exact hb))]; exact e
    · refine hQ s'' c2 (Moved.trans W.gtrans ((hm.mono hsub).then_heap (Nat.le_succ _) fun b o hb e => ?_) hm'') hc'' hS''
      rw [hsb.2 b (fun h : b = B => hb (by rw [h]; exact List.mem_cons_self))]; exact e
set_option maxHeartbeats 6400000 in
theorem of_list {l : Addr} {us : List Value} {Q : Value → Shared → Prop} (hh : A.handled = none) (hl : s.heap.IsList l us.toArray) (hC : ∀ u ∈ us, R.C u) (hb : us.length + 1 < scanBound)
    (h : ∀ (h' : Heap) (tk c : Nat), SetG R h' s.heap.objs.size (fun j => decide (j ∈ us.map R.kf)) c → c ≤ us.length → (∀ b o, s.heap.get? b = some o → h'.get? b = some o) → Q (.ref s.heap.objs.size) { s with heap := h', toks := tk }) :
    wpAny (model P w) A (call (.type "set") [.ref l]) Q E s := by
  obtain ⟨c, tl, hmro⟩ := F.called_set.mro
  have hmade := F.called_set.made
  have hsub := F.called_set.sub
  refine wpAny_call (codeAny_of_tree ?_)
  show wpAny _ _ (callAny (.type "set") _) _ _ _
  refine wpAny_pure ⟨Code.quiet_builtin _ (by decide +kernel), codeAny_builtin F.entry_type_call ?_⟩
  rw [Around.under_plain (weight_type_call_type "set" [.ref l] []) rfl]
  have h1 := F.called_set.notType
  have h2 := F.called_set.canCreate
  have hct := F.typeCall_set_1 (.ref l)
  repeat (any_goals (first | assumption | wp_step))

  refine codeAny_mono (code_set_led1 (.ref l) (E := E) (Q₁ := fun obj s₁ => obj = .ref s.heap.objs.size ∧ s₁ = { s with heap := s.heap.push { cls := .type "set", dict := none, data := .set #[] 0 (.fresh 0 0 (!w.params.followText "set-order")) } }) ⟨rfl, rfl⟩) fun r s₁ hr => ?_
  cases r with
  | error e => exact hr
  | ok fl =>
    cases fl with
    | ret obj =>
      obtain ⟨rfl, rfl⟩ := hr
      have hS : (s.heap.push { cls := .type "set", dict := none, data := .set #[] 0 (.fresh 0 0 (!w.params.followText "set-order")) }).get? s.heap.objs.size = some { cls := .type "set", dict := none, data := .set #[] 0 (.fresh 0 0 (!w.params.followText "set-order")) } := Heap.get?_push_size _ rfl
      have hT : Shared.TypeIs { s with heap := s.heap.push { cls := .type "set", dict := none, data := .set #[] 0 (.fresh 0 0 (!w.params.followText "set-order")) } } (.ref s.heap.objs.size) "set" := ⟨_, hS, rfl⟩
      have hli := F.called_set.init.lookup
      have hbi := F.called_set.init.bind (.ref s.heap.objs.size)
      repeat (any_goals (first | assumption | wp_step))

      refine codeAny_mono (codeAny_call_builtin (R := wants (fun r s₂ => r = .none ∧ ∃ h' tk c, s₂ = { s with heap := h', toks := tk } ∧ SetG R h' s.heap.objs.size (fun j => decide (j ∈ us.map R.kf)) c ∧ c ≤ us.length ∧
          (∀ b o, s.heap.get? b = some o → h'.get? b = some o)) E) F.called_set.init.plain F.entry_set_init (check_set_init_1 hT ?_)) fun r₂ s₂ hr₂ => ?_
      · obtain ⟨ol, hol, hcl, nl, hdl⟩ := hl
        obtain ⟨ocls, odict, odata, oslots⟩ := ol
        simp only at hcl hdl
        subst hcl; subst hdl
        have hol' : (s.heap.push { cls := .type "set", dict := none, data := .set #[] 0 (.fresh 0 0 (!w.params.followText "set-order")) }).get? l = some { cls := .type "list", dict := odict, data := .seq us.toArray nl, slots := oslots } := Heap.get?_push_of_some _ hol
        have hsls := F.sub_list_set
        have hslf := F.sub_list_frozenset
        have hne : (Value.type "list" == Value.type "dict") = false := by decide
        have hl1 : (s.heap.push { cls := .type "set", dict := none, data := .set #[] 0 (.fresh 0 0 (!w.params.followText "set-order")) }).IsList l us.toArray := ⟨_, hol', rfl, nl, rfl⟩
        unfold Builtin.«set.__init__» noKeywords Builtin.Frozenset.updateFrom
        generalize hPI : pyIter = PI
        wp_walk
        subst hPI

        refine wpAny_pyIter_list hl1 ?_
        refine wpAny_bind (wpAny_runValue ?_)
        have hlS : l < s.heap.objs.size := Heap.lt_size hol
        have hh3 : A.in1.in1.in1.handled = none := by simp [hh]
        have hneI : l ≠ (s.heap.push { cls := .type "set", dict := none, data := .set #[] 0 (.fresh 0 0 (!w.params.followText "set-order")) }).objs.size := by
          rw [Heap.size_push]; exact Nat.ne_of_lt (Nat.lt_succ_of_lt hlS)
        have hSf : s.heap.objs.size ∉ [(s.heap.push { cls := .type "set", dict := none, data := .set #[] 0 (.fresh 0 0 (!w.params.followText "set-order")) }).objs.size, l] := by
          rw [Heap.size_push]; simp only [List.mem_cons, List.mem_singleton, List.not_mem_nil, or_false, not_or]
          exact ⟨Nat.ne_of_lt (Nat.lt_succ_self _), Nat.ne_of_gt hlS⟩
        refine loop (us := us) ((Walks.list hh3 _ l hneI us.toArray).toS) s.heap.objs.size
          hSf hb hC (fun i v hv => by simpa using hv) (us.length - 0) 0 _ (by omega) (Nat.zero_le _)
          ⟨⟨_, Heap.get?_push_size _ rfl, rfl, rfl⟩, (hl1.push _)⟩ ?hS0 ?hR
        case hS0 =>
          exact ⟨0, Nat.le_refl 0, fresh_at (Heap.get?_push_of_some _ hS)⟩
        case hR =>
          intro s' c' hm hc' hS'
          obtain ⟨h', g2, d', tk', os'⟩ := s'
          have eg : g2 = s.gens := hm.gens
          have ed : d' = s.drawn := hm.drawn
          have eo : os' = s.os := hm.os
          subst eg; subst ed; subst eo
          show wpAny _ _ _ _ _ _
          refine wpAny_pure ?_
          show wpAny _ _ (ret Value.none) _ _ _
          refine wpAny_pure ⟨rfl, h', tk', c', rfl, hS', hc', fun b o e => ?_⟩
          have hb0 : b < s.heap.objs.size := Heap.lt_size e
          have hb1 : b ≠ s.heap.objs.size := Nat.ne_of_lt hb0
          have hb2 : b ≠ (s.heap.push { cls := .type "set", dict := none, data := .set #[] 0 (.fresh 0 0 (!w.params.followText "set-order")) }).objs.size := by
            rw [Heap.size_push]; exact Nat.ne_of_lt (Nat.lt_succ_of_lt hb0)
          exact hm.heap b o (by simp only [List.mem_cons, List.mem_singleton, List.not_mem_nil, or_false, not_or]; exact ⟨hb1, hb2⟩) (Heap.get?_push_of_some _ (Heap.get?_push_of_some _ e))

      · cases r₂ with
        | error e => exact hr₂
        | ok fl₂ =>
          cases fl₂ with
          | ret r =>
            obtain ⟨rfl, h', tk, c', rfl, hS', hc', hk'⟩ := hr₂
            repeat (any_goals (first | assumption | wp_step))
            exact h _ _ _ hS' hc' hk'
          | _ => exact hr₂.elim
    | _ => exact hr.elim
end
end SG
namespace SG
open PySem PySem.Spec PyProof.Rows L2
set_option autoImplicit false
section
variable {P : Program} {w : World} {K : Type} [DecidableEq K] {R : RdK P w K} {A : Around} {E : Value → Shared → Prop} {s : Shared} {a : Addr} {S : K → Bool} {n : Nat}
/-- a sort of what R is true of: Srt what goes in, what comes out -/
def Sorts (R : RdK P w K) (Srt : List Value → List Value → Prop) : Prop := ∀ (A : Around) (E : Value → Shared → Prop) (s : Shared) (l : Addr) (vs : List Value) (F : Fin → Shared → Prop), (∀ v ∈ vs, R.C v) → s.heap.get? l = some (seqObj "list" vs.toArray 0) → vs.length < 64 →
  (∀ out : Array Value, Srt vs out.toList → F (.done (.ret .none)) { s with heap := sortedHeap s.heap l vs out }) → wpAny (model P w) A (Builtin.«list.sort» ⟨[.ref l], []⟩) F E s
theorem sorted_of {Srt : List Value → List Value → Prop} (hS : Sorts R Srt) {Q : Value → Shared → Prop} (r : SetG R s.heap a S n) (hh : A.handled = none) (h64 : n < 64)
    (hQ : ∀ s' p (vs : List Value) (out : Array Value) (c : Nat), (∀ b o, s.heap.get? b = some o → s'.heap.get? b = some o) → s'.gens = s.gens → s'.os = s.os → s.heap.objs.size ≤ p →
      s'.heap.get? p = some (seqObj "list" out c) → Srt vs out.toList → (∀ v ∈ vs, R.C v) → (vs.map R.kf).Nodup → (∀ k, k ∈ vs.map R.kf ↔ S k = true) → vs.length = n → Q (.ref p) s') :
    wpAny (model P w) A (call (.builtin "sorted") [.ref a]) Q E s := by
  obtain ⟨o, es, ep, t, ho, r⟩ := r
  refine Calls.call_function_entry kind_sorted plain_sorted entry_sorted (args_sorted1 _) ?_
  unfold Builtin.«sorted»
  refine wpAny_bind (m := checkCount "sorted" 1 1 _) (wpAny_pure ?_)
  refine wpAny_bind (collect_set (A := A.in1) hh ⟨o, ho, r.ex.1, r.dat⟩ r.fit r.lt r.ris r.led fun s1 vs k1 hz g1 o1 pm => ?_)
  have hvl : vs.length = n := by rw [pm.length_eq, List.length_map, Array.length_toList]; exact r.sz
  have hC : ∀ v ∈ vs, R.C v := fun v hv => by
    obtain ⟨e, he, q⟩ := List.mem_map.mp (pm.mem_iff.mp hv)
    rw [← q]; exact (r.gd e he).1
  have pk : (vs.map R.kf).Perm (R.ks es.toList) := by
    have q := pm.map R.kf
    rw [List.map_map] at q
    exact q
  refine wpAny_bind (wpAny_newList ?_ (by rw [hvl, sizeLine_eq]; omega))
  have hoL : (s1.heap.push (seqObj "list" vs.toArray 0)).get? s1.heap.objs.size = some (seqObj "list" vs.toArray 0) := Heap.get?_push_size _ rfl
  refine wpAny_bind (wpAny_holding (wpAny_call_entry slot_list_sort ⟨_, hoL, rfl⟩ entry_list_sort (hS _ _ _ _ vs _ hC hoL (by rw [hvl]; exact h64) fun out a1 => ⟨_, rfl, ?_⟩) (args_list_sort _)))
  obtain ⟨c, hc⟩ := sortedHeap_at (vs := vs) (out := out) hoL
  refine wpAny_pure ⟨_, rfl, hQ _ s1.heap.objs.size vs out c (fun b u e => ?_) g1 o1 hz hc a1 hC (pk.nodup_iff.mpr r.nd) (fun k => by rw [pk.mem_iff, ← r.mem k]) hvl⟩
  have q := k1 b u e
  have hlt := Heap.lt_size q
  show (sortedHeap (s1.heap.push (seqObj "list" vs.toArray 0)) s1.heap.objs.size vs out).get? b = some u
  rw [sortedHeap_old (Nat.ne_of_lt hlt) (by rw [Heap.size_push]; exact Nat.lt_succ_of_lt hlt)]
  exact Heap.get?_push_of_some _ q
end
section
variable (P : Program) (w : World)
def sf (v : Value) : Str := match v with | .str x _ => x | _ => Str.empty
def nf (v : Value) : Int := match v with | .int i _ => i | _ => 0
def strR : RdK P w Str where
  knd := PySem.strKind P w
  kf := sf
  C := fun v => ∃ x t, v = .str x t
  isC := by rintro v ⟨x, t, rfl⟩; exact strKind_is _ _ _ _
  scan := by rintro v ⟨x, t, rfl⟩; rfl
def intR : RdK P w Int where
  knd := PySem.intKind P w
  kf := nf
  C := fun v => ∃ i t, v = .int i t
  isC := by rintro v ⟨i, t, rfl⟩; exact intKind_is _ _ _ _
  scan := by rintro v ⟨i, t, rfl⟩; rfl
theorem strs_all : ∀ (vs : List Value), (∀ v ∈ vs, ∃ x t, v = Value.str x t) → StrsAre vs (vs.map sf)
  | [], _ => .nil
  | v :: vs, h => by
    obtain ⟨x, t, rfl⟩ := h v (by simp)
    exact .cons x t (strs_all vs fun u hu => h u (by simp [hu]))
theorem ints_all : ∀ (vs : List Value), (∀ v ∈ vs, ∃ x t, v = Value.int x t) → IntsAre vs (vs.map nf)
  | [], _ => .nil
  | v :: vs, h => by
    obtain ⟨x, t, rfl⟩ := h v (by simp)
    exact .cons x t (ints_all vs fun u hu => h u (by simp [hu]))
theorem str_sorts : Sorts (strR P w) fun vs out => ∃ ss', StrsAre out ss' ∧ ss'.Perm (vs.map sf) ∧ sortedS ss' = true := by
  intro A E s l vs F hC ho h64 h
  have hS := strs_all vs hC
  refine list_sort_treeK strKind_oneLt ho hS.keysOf (fun v₁ v₂ rest e => keyKind_strs (by rw [← e]; exact hS)) h64 fun st' hp hs => ?_
  exact h _ (sorted_out_str hS hp hs)
theorem int_sorts : Sorts (intR P w) fun vs out => ∃ ss', IntsAre out ss' ∧ ss'.Perm (vs.map nf) ∧ ss'.Pairwise (· ≤ ·) := by
  intro A E s l vs F hC ho h64 h
  exact list_sort_tree ho (ints_all vs hC) h64 fun out ns' h1 h2 h3 => h _ ⟨ns', h1, h2, h3⟩
end
section
variable {X : Cx}
/-- sorted(set(a list of texts, of numbers)) -/
def tSoSet (K : PySem.W.Frag) (ta : TE) : TE := fun σ H Q => ta σ H fun x H1 =>
  (∃ (l : Addr) (ss : List Str), x = .ref l ∧ SqL K H1 l (ss.map V.str) ∧ ss.length < 63 ∧ ∀ (ys : List Str) (p : Addr), ys.Nodup → (∀ y, y ∈ ys ↔ y ∈ ss) → sortedS ys = true → H1 p = none → Q (.ref p) (upd H1 p (.lst (ys.map V.str)))) ∨
  (∃ (l : Addr) (ns : List Int), x = .ref l ∧ SqL K H1 l (ns.map V.int) ∧ ns.length < 63 ∧ ∀ (ys : List Int) (p : Addr), ys.Nodup → (∀ y, y ∈ ys ↔ y ∈ ns) → ys.Pairwise (· ≤ ·) → H1 p = none → Q (.ref p) (upd H1 p (.lst (ys.map V.int))))
theorem laid_list {pins : List (Addr × Obj)} {σ : L2.St} {H : Hp} {s s' : Shared} {p : Addr} {xs : List V} {out : Array Value} {c : Nat} (I : Inv X pins σ H s) (k : ∀ b o, s.heap.get? b = some o → s'.heap.get? b = some o) (g : s'.gens = s.gens) (o : s'.os = s.os)
    (hp : s.heap.objs.size ≤ p) (hg : s'.heap.get? p = some (seqObj "list" out c)) (hl : xs.length ≤ sizeLine) (hv : Vals xs out.toList) : H p = none ∧ Inv X pins σ (upd H p (.lst xs)) s' := by
  have hn : H p = none := I.hok.fresh hp
  have J : Inv X pins σ (upd H p (.lst xs)) { s with heap := s'.heap, gens := s'.gens, drawn := s'.drawn, toks := s'.toks } :=
    I.call (ch := []) (Un.laid k hp hn) (I.hok.laid k hp ⟨hl, out.toList, c, hv, hg⟩) (by rw [g]; exact I.bare) (fun _ z => nomatch z)
  have e : s' = { s with heap := s'.heap, gens := s'.gens, drawn := s'.drawn, toks := s'.toks } := by
    cases s'
    cases s
    cases o
    rfl
  rw [e]
  exact ⟨hn, J⟩
theorem pe_soSet {a : Expr} {ta : TE} {p p2 q pos : Pos} (hc : X.calm = true) (hg : Gl X "sorted") (hm : X.mg "sorted" = none) (hg2 : Gl X "set") (hm2 : X.mg "set" = none) (ha : PE X a ta)
    (na : starEach [a] X.env = (false, eval a X.env) :: starEach [] X.env := by rfl) : PE X (.Call (.Name "sorted" p) [.Call (.Name "set" p2) [a] [] q] [] pos) (tSoSet X.K ta) := by
  refine ⟨fun pins s σ H Q I h => ?_⟩
  refine Call_ (ld_blt I hg hm (show bootBuiltins "sorted" = some (.builtin "sorted") by decide +kernel) ?_)
  refine PyProof.Rows.callWith_builtin1 (PyProof.Rows.args_cons ?_ rfl) rfl rfl
  refine Call_ (ld_blt I hg2 hm2 boot_set ?_)
  refine PyProof.Rows.callWith_type1 (PyProof.Rows.args_cons (thn (ha.run pins s σ H _ I h) fun v s1 ⟨x, H1, I1, r1, q1⟩ => PyProof.Rows.args_nil ?_) na) na rfl
  rcases q1 with ⟨l, ss, rfl, hq, h63, q1⟩ | ⟨l, ns, rfl, hq, h63, q1⟩
  · cases r1
    obtain ⟨its, r, pl, hz⟩ := I1.list hq
    have hS := strsAre_of r
    have hlen : its.length = ss.length := by rw [← r.length, List.length_map]
    have e1 : ∀ {vs : List Value} {ss : List Str}, StrsAre vs ss → vs.map sf = ss ∧ ∀ v ∈ vs, ∃ x t, v = Value.str x t := by
      intro vs ss h
      induction h with
      | nil => exact ⟨rfl, by simp⟩
      | cons x t _ ih => exact ⟨by rw [List.map_cons, ih.1]; rfl, fun v hv => by rcases List.mem_cons.mp hv with rfl | hv; exact ⟨_, _, rfl⟩; exact ih.2 v hv⟩
    obtain ⟨ek, eC⟩ := e1 hS
    refine of_list (R := strR X.prog X.w) (I1.ok.hd hc) pl.isList eC (by unfold scanBound; omega) fun h' tk c hS' hcn k => ?_
    refine PyProof.Rows.args_nil ?_
    have I2 : Inv X pins σ H1 { s1 with heap := h', toks := tk } := I1.kept k
    refine sorted_of (str_sorts X.prog X.w) (s := { s1 with heap := h', toks := tk }) hS' (I2.ok.hd hc) (by omega) fun s' p vs out c' k' g o hp hgt ⟨ys, y1, y2, y3⟩ hC nd mem hl => ?_
    obtain ⟨hn, J⟩ := laid_list (xs := ys.map V.str) I2 k' g o hp hgt (by rw [List.length_map, y2.length_eq, List.length_map, hl, sizeLine_eq]; omega) (vals_of_strs y1)
    exact ⟨.ref p, _, J, rfl, q1 ys p (y2.nodup_iff.mpr nd) (fun y => by rw [y2.mem_iff]; exact (mem y).trans (by rw [show its.map (strR X.prog X.w).kf = ss from ek]; simp)) y3 hn⟩
  · cases r1
    obtain ⟨its, r, pl, hz⟩ := I1.list hq
    have hS := r.ints
    have hlen : its.length = ns.length := by rw [← r.length, List.length_map]
    have e1 : ∀ {vs : List Value} {ss : List Int}, IntsAre vs ss → vs.map nf = ss ∧ ∀ v ∈ vs, ∃ x t, v = Value.int x t := by
      intro vs ss h
      induction h with
      | nil => exact ⟨rfl, by simp⟩
      | cons x t _ ih => exact ⟨by rw [List.map_cons, ih.1]; rfl, fun v hv => by rcases List.mem_cons.mp hv with rfl | hv; exact ⟨_, _, rfl⟩; exact ih.2 v hv⟩
    obtain ⟨ek, eC⟩ := e1 hS
    refine of_list (R := intR X.prog X.w) (I1.ok.hd hc) pl.isList eC (by unfold scanBound; omega) fun h' tk c hS' hcn k => ?_
    refine PyProof.Rows.args_nil ?_
    have I2 : Inv X pins σ H1 { s1 with heap := h', toks := tk } := I1.kept k
    refine sorted_of (int_sorts X.prog X.w) (s := { s1 with heap := h', toks := tk }) hS' (I2.ok.hd hc) (by omega) fun s' p vs out c' k' g o hp hgt ⟨ys, y1, y2, y3⟩ hC nd mem hl => ?_
    obtain ⟨hn, J⟩ := laid_list (xs := ys.map V.int) I2 k' g o hp hgt (by rw [List.length_map, y2.length_eq, List.length_map, hl, sizeLine_eq]; omega) (vals_of_ints y1)
    exact ⟨.ref p, _, J, rfl, q1 ys p (y2.nodup_iff.mpr nd) (fun y => by rw [y2.mem_iff]; exact (mem y).trans (by rw [show its.map (intR X.prog X.w).kf = ns from ek]; simp)) y3 hn⟩
end
end SG
namespace G
open PySem PySem.Spec PyProof.Rows L2
set_option autoImplicit false
def uniqA {α : Type} [DecidableEq α] : List α → List α
  | [] => []
  | a :: l => if a ∈ l then uniqA l else a :: uniqA l
theorem mem_uniq {α : Type} [DecidableEq α] {x : α} : ∀ {l : List α}, x ∈ uniqA l ↔ x ∈ l
  | [] => Iff.rfl
  | a :: l => by
    rw [uniqA]
    split
    · rename_i h
      rw [mem_uniq, List.mem_cons]
      exact ⟨.inr, fun z => z.elim (fun e => e ▸ h) id⟩
    · rw [List.mem_cons, List.mem_cons, mem_uniq]
theorem nodup_uniq {α : Type} [DecidableEq α] : ∀ (l : List α), (uniqA l).Nodup
  | [] => List.nodup_nil
  | a :: l => by
    rw [uniqA]
    split
    · exact nodup_uniq l
    · rename_i h
      exact List.nodup_cons.mpr ⟨fun z => h (mem_uniq.mp z), nodup_uniq l⟩
theorem uniq_len {α : Type} [DecidableEq α] : ∀ (l : List α), (uniqA l).length ≤ l.length
  | [] => Nat.le_refl _
  | a :: l => by
    rw [uniqA]
    have := uniq_len l
    split <;> simp <;> omega
def sortI (l : List Int) : List Int := l.mergeSort fun a b => decide (a ≤ b)
theorem sortI_perm (l : List Int) : (sortI l).Perm l := List.mergeSort_perm l _
theorem sortI_pw (l : List Int) : (sortI l).Pairwise (· ≤ ·) := by
  have := List.pairwise_mergeSort (le := fun a b : Int => decide (a ≤ b)) (fun a b c h1 h2 => decide_eq_true (Int.le_trans (of_decide_eq_true h1) (of_decide_eq_true h2))) (fun a b => by
    rcases Int.le_total a b with h | h <;> simp [h]) l
  exact this.imp fun h => of_decide_eq_true h
def intsA : List AV → Option (List Int)
  | [] => some []
  | .int i :: l => (intsA l).map (i :: ·)
  | _ :: _ => none
theorem ints_vs {K : PySem.W.Frag} {m : MM} {H : Hp} : ∀ {l : List AV} {xs : List V} {ss : List Int}, VRs K m H l xs → intsA l = some ss → xs = ss.map V.int
  | _, _, _, .nil, h => by cases h; rfl
  | _, _, ss, .cons (v := v) (l := l) h r, e => by
    cases v <;> first | cases e | skip
    rename_i b
    have e : (intsA l).map (b :: ·) = some ss := e
    obtain ⟨bs', e1, rfl⟩ := Option.map_eq_some_iff.mp e
    cases h
    rw [ints_vs r e1]; rfl
theorem ints_vr {K : PySem.W.Frag} {m : MM} {H : Hp} (ss : List Int) : VRs K m H (ss.map AV.int) (ss.map V.int) := VRs.ints
def soSO : AH → AV → Option (List AV) := fun ah v => match dr ah v with
  | .lst l => match strsA l with
    | some ss => if ss.length < 63 then some ((sortA (uniqA ss)).map .str) else none
    | none => match intsA l with
      | some ns => if ns.length < 63 then some ((sortI (uniqA ns)).map .int) else none
      | none => none
  | _ => none
def gSoS (a : GE) : GE := fun env ah => rb (a env ah) fun v ah1 => match soSO ah1 v with
  | some l => .ok (.lst l) ah1
  | none => .bad
def gSoSH (a : GE) : GE := fun env ah => rb (a env ah) fun v ah1 => match soSO ah1 v with
  | some l => .ok (.ref ah1.length) (ah1 ++ [.lst l])
  | none => .bad
theorem mkS_nodup {l : List (List Nat)} (h : l.Nodup) : (l.map mkS).Nodup := by
  induction l with
  | nil => exact List.nodup_nil
  | cons a l ih =>
    rw [List.nodup_cons] at h
    rw [List.map_cons, List.nodup_cons]
    refine ⟨fun z => ?_, ih h.2⟩
    obtain ⟨b, hb, e⟩ := List.mem_map.mp z
    rw [mkS_inj e] at hb
    exact h.1 hb
section
variable {X : Cx} {W : WX} {a : Expr} {fa : GE} {p p2 q pos : Pos}
theorem so_read {m : MM} {H : Hp} {ah : AH} {v : AV} {x : V} {l : List AV} {Q : VK} (r : Rel X.K m ah H) (hv : VR X.K m H v x) (hf : soSO ah v = some l) (hq : ∀ p vs, H p = none → (∀ m H, VRs X.K m H l vs) → Q (.ref p) (upd H p (.lst vs))) :
    (∃ (l : Addr) (ss : List Str), x = .ref l ∧ SqL X.K H l (ss.map V.str) ∧ ss.length < 63 ∧ ∀ (ys : List Str) (p : Addr), ys.Nodup → (∀ y, y ∈ ys ↔ y ∈ ss) → sortedS ys = true → H p = none → Q (.ref p) (upd H p (.lst (ys.map V.str)))) ∨
    (∃ (l : Addr) (ns : List Int), x = .ref l ∧ SqL X.K H l (ns.map V.int) ∧ ns.length < 63 ∧ ∀ (ys : List Int) (p : Addr), ys.Nodup → (∀ y, y ∈ ys ↔ y ∈ ns) → ys.Pairwise (· ≤ ·) → H p = none → Q (.ref p) (upd H p (.lst (ys.map V.int)))) := by
  unfold soSO at hf
  split at hf
  · obtain ⟨a, vs, rfl, h1, h2⟩ := VR.list r hv (by assumption)
    split at hf
    · rename_i ss hss
      split at hf
      · rename_i h63
        cases hf
        have e := strs_vs h2 hss
        subst e
        refine .inl ⟨a, ss.map mkS, rfl, SqL.of h1, by simpa using h63, fun ys p nd mem hs hn => ?_⟩
        have pm : ys.Perm ((uniqA ss).map mkS) := (List.perm_ext_iff_of_nodup nd (mkS_nodup (nodup_uniq ss))).mpr fun y => by
          rw [mem, List.mem_map, List.mem_map]
          exact ⟨fun ⟨z, hz, e⟩ => ⟨z, mem_uniq.mpr hz, e⟩, fun ⟨z, hz, e⟩ => ⟨z, mem_uniq.mp hz, e⟩⟩
        rw [sort_only pm hs]
        exact hq p _ hn fun _ _ => strs_vr _
      · cases hf
    · split at hf
      · rename_i ns hns
        split at hf
        · rename_i h63
          cases hf
          have e := ints_vs h2 hns
          subst e
          refine .inr ⟨a, ns, rfl, SqL.of h1, h63, fun ys p nd mem hs hn => ?_⟩
          have pm : ys.Perm (uniqA ns) := (List.perm_ext_iff_of_nodup nd (nodup_uniq ns)).mpr fun y => by rw [mem, mem_uniq]
          have e : ys = sortI (uniqA ns) := List.Perm.eq_of_pairwise (le := fun a b : Int => a ≤ b) (fun a b _ _ h1 h2 => Int.le_antisymm h1 h2) hs (sortI_pw _) (pm.trans (sortI_perm _).symm)
          rw [e]
          exact hq p _ hn fun _ _ => ints_vr _
        · cases hf
      · cases hf
  · cases hf
theorem ge_soS {k : Nat} (hx : XG X W k) (hg : Gl X "sorted") (hm : X.mg "sorted" = none) (hg2 : Gl X "set") (hm2 : X.mg "set" = none) (ha : PE X a (tG X W fa))
    (na : starEach [a] X.env = (false, eval a X.env) :: starEach [] X.env := by rfl) : PE X (.Call (.Name "sorted" p) [.Call (.Name "set" p2) [a] [] q] [] pos) (tG X W (gSoS fa)) :=
  PE.weak (SG.pe_soSet hx.calm hg hm hg2 hm2 ha na) fun σ H Q h => by
    obtain ⟨m, env, ah, hE, hR, hp⟩ := h
    refine tG_step hE hR hp (fun _ _ h => h) fun v ah1 m1 H1 x e1 r1 v1 hp1 => ?_
    cases e : soSO ah1 v with
    | none => simp only [e] at hp1; exact hp1.elim
    | some l =>
      simp only [e] at hp1
      exact so_read r1 v1 e fun p vs hn hv => PQ.laid (PQ.mono e1 hp1) r1 hn (VR.newL r1 hn (hv _ _))
theorem ge_soSH {k : Nat} (hx : XG X W k) (hg : Gl X "sorted") (hm : X.mg "sorted" = none) (hg2 : Gl X "set") (hm2 : X.mg "set" = none) (ha : PE X a (tG X W fa))
    (na : starEach [a] X.env = (false, eval a X.env) :: starEach [] X.env := by rfl) : PE X (.Call (.Name "sorted" p) [.Call (.Name "set" p2) [a] [] q] [] pos) (tG X W (gSoSH fa)) :=
  PE.weak (SG.pe_soSet hx.calm hg hm hg2 hm2 ha na) fun σ H Q h => by
    obtain ⟨m, env, ah, hE, hR, hp⟩ := h
    refine tG_step hE hR hp (fun _ _ h => h) fun v ah1 m1 H1 x e1 r1 v1 hp1 => ?_
    cases e : soSO ah1 v with
    | none => simp only [e] at hp1; exact hp1.elim
    | some l =>
      simp only [e] at hp1
      exact so_read r1 v1 e fun p vs hn hv => PQ.newH (PQ.mono e1 hp1) r1 (hv _ _) hn
end
end G
namespace G
open PySem PySem.Spec PyProof.Rows L2
set_option autoImplicit false
abbrev GP := Env → AH → Res (List (AK × AV))
def gPs : List (GE × GE) → GP
  | [] => fun _ ah => .ok [] ah
  | (k, v) :: r => fun env ah => rb (k env ah) fun kv ah1 => rb (v env ah1) fun vv ah2 => match keyA kv with
    | some q => rb (gPs r env ah2) fun ps ah3 => .ok ((q, vv) :: ps) ah3
    | none => .bad
def mergeA (acc : List (AK × AV)) (ps : List (AK × AV)) : List (AK × AV) := ps.foldl (fun acc kv => putA acc kv.1 kv.2) acc
def gDisp (gs : List (GE × GE)) : GE := fun env ah => rb (gPs gs env ah) fun ps ah1 => .ok (.dk (mergeA [] ps)) ah1
def gDispH (gs : List (GE × GE)) : GE := fun env ah => rb (gPs gs env ah) fun ps ah1 => .ok (.ref ah1.length) (ah1 ++ [.dk (mergeA [] ps)])
section
variable {K : PySem.W.Frag} {mg : Str → Option Value} {m m' : MM} {H H' : Hp} {p : Addr} {o : HO} {ah : AH}
theorem VRk.merge : ∀ (ps : List (AK × AV)) {kvs : List (Key × V)} {l : List (AK × AV)} {ws : List (Key × V)}, VRk K m H ps kvs → VRk K m H l ws → VRk K m H (mergeA l ps) (mergeK ws kvs) := by
  intro ps
  induction ps with
  | nil => intro kvs l ws h1 h2; cases h1; exact h2
  | cons q ps ih =>
    intro kvs l ws h1 h2
    cases h1 with
    | @cons k _ _ _ _ hv r =>
      have z := ih r (h2.put k hv)
      exact z
theorem XR.mv {e : EV} {cls : Value} {d : Option Addr} (x : Mv m H m' H') (h : XR K mg m H e cls d) : XR K mg m' H' e cls d := by
  refine ⟨h.1, h.2.imp id fun ⟨dd, fs, h0, h1, h2, h3, h4⟩ => ⟨dd, fs, h0, h1, keep_ne (x.keep _ _ h2 h3).1 (fun _ z => nomatch z), (x.keep _ _ h2 h3).2, fun f v hf => ?_⟩⟩
  obtain ⟨y, hy, r⟩ := h4 f v hf
  exact ⟨y, hy, r.mv x⟩
/-- a place of somebody's is laid and stays -/
def MM.own (m : MM) (p : Addr) : MM := ⟨m.l, p :: m.p⟩
theorem own_mv (hp : H p = none) : Mv m H (m.own p) (upd H p o) := by
  refine ⟨fun _ _ h => h, fun a u h hm => ?_, fun a u h _ => ?_⟩
  · have hne := ne_of_none h hp
    refine ⟨.inl (by rw [upd_ne hne]; exact h), fun z => ?_⟩
    rcases z with z | z
    · exact hm (.inl z)
    · rcases List.mem_cons.mp z with z | z
      · exact hne z
      · exact hm (.inr z)
  · rw [upd_ne (ne_of_none h hp)]; exact h
theorem own_rel (r : Rel K m ah H) (hp : H p = none) (ho : stl o = false) : Rel K (m.own p) ah (upd H p o) := by
  have hnm : p ∉ m := r.notin hp
  refine ⟨r.len, r.nd, fun n a ob h1 h2 => ?_, fun a ha => ?_⟩
  · have q := r.obj n a ob h1 h2
    obtain ⟨u, hu, _⟩ := q.some
    have q' := q.mv (own_mv (m := m) (o := o) hp)
    rw [upd_ne (ne_of_none hu hp)]
    exact q'
  · rcases List.mem_cons.mp ha with rfl | ha
    · exact ⟨fun z => hnm (.inl z), o, upd_same, ho⟩
    · obtain ⟨h1, u, h2, h3⟩ := r.prot a ha
      exact ⟨h1, u, by rw [upd_ne (ne_of_none h2 hp)]; exact h2, h3⟩
theorem own_sub {m2 : MM} {H2 : Hp} (e : Ext (m.own p) (upd H p o) m2 H2) : (∃ t, m2.l = m.l ++ t) ∧ p ∈ m2.p ∧ ∀ a, a ∈ m.p → a ∈ m2.p := by
  obtain ⟨t, q, e1⟩ := e.pre
  rw [e1]
  exact ⟨⟨t, rfl⟩, List.mem_append_right _ (List.mem_cons_self ..), fun a ha => List.mem_append_right _ (List.mem_cons_of_mem _ ha)⟩
theorem own_at {m2 : MM} {H2 : Hp} (e : Ext (m.own p) (upd H p o) m2 H2) : H2 p = some o := e.hold p (List.mem_cons_self ..) o upd_same
/-- what holds behind holds without it, whatever it has become -/
theorem own_ext {m2 : MM} {H2 H3 : Hp} (hp : H p = none) (ho : stl o = false) (e : Ext (m.own p) (upd H p o) m2 H2) (h3 : ∀ a, a ≠ p → H3 a = H2 a) : Ext m H ⟨m2.l, m.p⟩ H3 ∧ Mv m2 H2 ⟨m2.l, m.p⟩ H3 := by
  obtain ⟨⟨t, ht⟩, hpm, hsub⟩ := own_sub e
  have mv2 : Mv m2 H2 ⟨m2.l, m.p⟩ H3 := by
    refine ⟨fun _ _ h => h, fun a u h hm => ?_, fun a u h s => ?_⟩
    · have hne : a ≠ p := fun z => hm (.inr (by rw [z]; exact hpm))
      exact ⟨.inl (by rw [h3 a hne]; exact h), fun z => hm (z.imp id fun z => hsub a z)⟩
    · have hne : a ≠ p := fun z => by subst z; rw [own_at e] at h; cases h; rw [ho] at s; cases s
      rw [h3 a hne]; exact h
  have mv1 := own_mv (m := m) (o := o) hp
  refine ⟨⟨⟨t, [], by rw [← ht]; rfl⟩, fun a u h hm => ?_, fun a u h s => ?_, fun a ha => ?_, fun a ha u h => ?_⟩, mv2⟩
  · have hne := ne_of_none h hp
    obtain ⟨k1, k2⟩ := mv1.keep a u h hm
    have k1 := keep_upd hne h
    rcases e.keep a u k1 k2 with z | ⟨kvs, od, e1, e2⟩
    · exact .inl (by rw [h3 a hne]; exact z)
    · exact .inr ⟨kvs, od, e1, by rw [h3 a hne]; exact e2⟩
  · have hne := ne_of_none h hp
    rw [h3 a hne]
    exact e.still a u (keep_upd hne h) s
  · have : a ∈ m2 := ha.imp id fun z => hsub a z
    rcases e.fresh a this with z | z
    · rcases z with z | z
      · exact .inl (.inl z)
      · rcases List.mem_cons.mp z with rfl | z
        · exact .inr hp
        · exact .inl (.inr z)
    · by_cases q : a = p
      · subst q; exact .inr hp
      · rw [upd_ne q] at z; exact .inr z
  · have hne := ne_of_none h hp
    rw [h3 a hne]
    exact e.hold a (List.mem_cons_of_mem _ ha) u (keep_upd hne h)
where keep_upd {a : Addr} {u : HO} (hne : a ≠ p) (h : H a = some u) : upd H p o a = some u := by rw [upd_ne hne]; exact h
theorem own_relB {m2 : MM} {H2 H3 : Hp} (hp : H p = none) (ho : stl o = false) (e : Ext (m.own p) (upd H p o) m2 H2) (h3 : ∀ a, a ≠ p → H3 a = H2 a) (hn : p ∉ m) (r : Rel K m2 ah H2) : Rel K ⟨m2.l, m.p⟩ ah H3 := by
  obtain ⟨_, hpm, hsub⟩ := own_sub e
  obtain ⟨_, mv⟩ := own_ext hp ho e h3
  refine ⟨r.len, r.nd, fun n a ob h1 h2 => ?_, fun a ha => ?_⟩
  · have hne : a ≠ p := fun z => (r.prot p hpm).1 (by rw [← z]; exact List.mem_of_getElem? h1)
    rw [h3 a hne]
    exact (r.obj n a ob h1 h2).mv mv
  · obtain ⟨h1, u, h2, h4⟩ := r.prot a (hsub a ha)
    by_cases q : a = p
    · subst q
      exact absurd (.inr ha) hn
    · exact ⟨h1, u, by rw [h3 a q]; exact h2, h4⟩
/-- it becomes one of ours -/
theorem own_adopt {m2 : MM} {H2 : Hp} {l : List (AK × AV)} {kvs : List (Key × V)} (hp : H p = none) (hn : p ∉ m) (e : Ext (m.own p) (upd H p (.dK [])) m2 H2) (r : Rel K m2 ah H2) (hv : VRk K m2 H2 l kvs) :
    Ext m H ⟨m2.l ++ [p], m.p⟩ (upd H2 p (.dK kvs)) ∧ Rel K ⟨m2.l ++ [p], m.p⟩ (ah ++ [.dk l]) (upd H2 p (.dK kvs)) := by
  obtain ⟨⟨t, ht⟩, hpm, hsub⟩ := own_sub e
  have h3 : ∀ a, a ≠ p → upd H2 p (.dK kvs) a = H2 a := fun a z => upd_ne z
  obtain ⟨ex, _⟩ := own_ext hp rfl e h3
  have hpl := (r.prot p hpm).1
  have mv : Mv m2 H2 ⟨m2.l ++ [p], m.p⟩ (upd H2 p (.dK kvs)) := by
    refine ⟨fun n a h => ?_, fun a u h hm => ?_, fun a u h s => ?_⟩
    · show (m2.l ++ [p])[n]? = some a
      rw [List.getElem?_append_left (List.getElem?_eq_some_iff.mp h).1]; exact h
    · have hne : a ≠ p := fun z => hm (.inr (by rw [z]; exact hpm))
      refine ⟨.inl (by rw [h3 a hne]; exact h), fun z => ?_⟩
      rcases z with z | z
      · rcases List.mem_append.mp z with z | z
        · exact hm (.inl z)
        · simp at z; exact hne z
      · exact hm (.inr (hsub a z))
    · have hne : a ≠ p := fun z => by subst z; rw [own_at e] at h; cases h; cases s
      rw [h3 a hne]; exact h
  refine ⟨⟨⟨t ++ [p], [], by rw [ht]; simp⟩, ex.keep, ex.still, fun a ha => ?_, ex.hold⟩, ⟨by simp [r.len], ?_, fun n a ob h1 h2 => ?_, fun a ha => ?_⟩⟩
  · rcases ha with ha | ha
    · rcases List.mem_append.mp ha with ha | ha
      · exact ex.fresh a (.inl ha)
      · simp at ha; subst ha; exact .inr hp
    · exact ex.fresh a (.inr ha)
  · show (m2.l ++ [p]).Nodup
    rw [List.nodup_append]
    exact ⟨r.nd, by simp, fun a ha b hb => by simp at hb; subst hb; intro z; subst z; exact hpl ha⟩
  · have h1 : (m2.l ++ [p])[n]? = some a := h1
    by_cases q : n < m2.l.length
    · rw [List.getElem?_append_left q] at h1
      rw [List.getElem?_append_left (by rw [← r.len]; exact q)] at h2
      have hne : a ≠ p := fun z => hpl (by rw [← z]; exact List.mem_of_getElem? h1)
      rw [h3 a hne]
      exact (r.obj n a ob h1 h2).mv mv
    · have en : n = m2.l.length := by
        have := (List.getElem?_eq_some_iff.mp h1).1
        simp at this; omega
      subst en
      rw [List.getElem?_append_right (Nat.le_refl _)] at h1
      rw [r.len, List.getElem?_append_right (Nat.le_refl _)] at h2
      simp at h1 h2
      subst h1; subst h2
      rw [upd_same]
      exact ⟨kvs, rfl, hv.mv mv⟩
  · obtain ⟨h1, u, h2, h4⟩ := r.prot a (hsub a ha)
    have hne : a ≠ p := fun z => hn (.inr (z ▸ ha))
    refine ⟨fun z => ?_, u, by rw [h3 a hne]; exact h2, h4⟩
    rcases List.mem_append.mp z with z | z
    · exact h1 z
    · simp at z; exact hne z
end
section
variable {X : Cx} {W : WX} {pos : Pos} {σ : L2.St}
theorem ps_read : ∀ (gs : List (GE × GE)) {m : MM} {H : Hp} {env : Env} {ah : AH} {P : List (AK × AV) → AH → Prop} {E : EV → AH → Prop} {Q : List (V × V) → Hp → Prop}, EnvR X.K m H env σ → Rel X.K m ah H → (gPs gs env ah).post P E →
    (∀ e ah1, E e ah1 → PX X.K X.mg m H (fun c d H' => W c d σ H') e ah1) →
    (∀ ps ah1 m1 H1 kvs, Ext m H m1 H1 → Rel X.K m1 ah1 H1 → VRk X.K m1 H1 ps kvs → P ps ah1 → Q (kvs.map fun kv => (kV kv.1, kv.2)) H1) → tPairs (gs.map fun g => (tG X W g.1, tG X W g.2)) σ H Q
  | [], m, H, env, ah, P, E, Q, hE, hR, h, hx, hq => hq [] ah m H [] (Ext.refl m H) hR .nil h
  | (k, v) :: gs, m, H, env, ah, P, E, Q, hE, hR, h, hx, hq => by
    refine tG_step (P := P) (E := E) hE hR h hx fun kv ah1 m1 H1 x e1 r1 v1 hp1 => ?_
    have hx1 : ∀ e ah', E e ah' → PX X.K X.mg m1 H1 (fun c d H' => W c d σ H') e ah' := fun e ah' z => PX.mono e1 (hx e ah' z)
    refine tG_step (P := P) (E := E) (hE.mono e1) r1 hp1 hx1 fun vv ah2 m2 H2 y e2 r2 v2 hp2 => ?_
    have hx2 : ∀ e ah', E e ah' → PX X.K X.mg m2 H2 (fun c d H' => W c d σ H') e ah' := fun e ah' z => PX.mono e2 (hx1 e ah' z)
    cases hk : keyA kv with
    | none => simp only [hk] at hp2; exact hp2.elim
    | some q =>
      simp only [hk] at hp2
      have e0 := keyA_kV hk v1
      have hp3 : (gPs gs env ah2).post (fun ps ah3 => P ((q, vv) :: ps) ah3) E := by
        cases ez : gPs gs env ah2 <;> rw [ez] at hp2 <;> exact hp2
      refine ps_read gs ((hE.mono e1).mono e2) r2 hp3 hx2 fun ps ah3 m3 H3 kvs e3 r3 v3 hp4 => ?_
      have := hq ((q, vv) :: ps) ah3 m3 H3 ((akey q, y) :: kvs) ((e1.trans e2).trans e3) r3 (.cons (v2.mono e3) v3) hp4
      rw [e0]
      exact this
theorem disp_read {gs : List (GE × GE)} {m : MM} {H : Hp} {env : Env} {ah : AH} {P : AV → AH → Prop} {E : EV → AH → Prop} {Q : VK} {f : List (AK × AV) → AH → Res AV} (h15 : gs.length ≤ 15) (hE : EnvR X.K m H env σ) (hR : Rel X.K m ah H) (h : (rb (gPs gs env ah) f).post P E)
    (hx : ∀ e ah1, E e ah1 → PX X.K X.mg m H (fun c d H' => W c d σ H') e ah1)
    (hq : ∀ p ps ah1 m1 H1 kvs, H p = none → Ext m H m1 (upd H1 p (.dK (mergeK [] kvs))) → Rel X.K m1 ah1 (upd H1 p (.dK (mergeK [] kvs))) → p ∉ m1 → VRk X.K m1 (upd H1 p (.dK (mergeK [] kvs))) ps kvs → (∃ m4, Ext m H m4 (upd H1 p (.dK (mergeK [] kvs))) ∧ Rel X.K m4 (ah1 ++ [.dk (mergeA [] ps)]) (upd H1 p (.dK (mergeK [] kvs))) ∧ m4.l[List.length ah1]? = some p) → (f ps ah1).post P E → Q (.ref p) (upd H1 p (.dK (mergeK [] kvs)))) :
    tDisp (gs.map fun g => (tG X W g.1, tG X W g.2)) σ H Q := by
  intro p hp
  have hn : p ∉ m := hR.notin hp
  have mv := own_mv (m := m) (o := .dK []) hp
  have hr := own_rel hR hp (o := .dK []) rfl
  have len : ∀ (gs : List (GE × GE)) (env : Env) (ah : AH) (ps : List (AK × AV)) (ah1 : AH), gPs gs env ah = .ok ps ah1 → ps.length = gs.length := by
    intro gs
    induction gs with
    | nil => intro env ah ps ah1 e; cases e; rfl
    | cons g gs ih =>
      intro env ah ps ah1 e
      obtain ⟨k, v⟩ := g
      rw [gPs] at e
      dsimp only at e
      cases e1 : k env ah <;> rw [e1] at e <;> first | cases e | skip
      rename_i kv ah2
      simp only [rb_ok] at e
      cases e2 : v env ah2 <;> rw [e2] at e <;> first | cases e | skip
      rename_i vv ah3
      simp only [rb_ok] at e
      cases hk : keyA kv <;> rw [hk] at e <;> first | cases e | skip
      rename_i q
      simp only at e
      cases e3 : gPs gs env ah3 <;> rw [e3] at e <;> first | cases e | skip
      rw [List.length_cons, List.length_cons, ih _ _ _ _ e3]
  have h' : (gPs gs env ah).post (fun ps ah1 => (f ps ah1).post P E ∧ ps.length = gs.length) E := by
    cases e : gPs gs env ah with
    | ok ps ah1 => rw [e] at h; exact ⟨h, len _ _ _ _ _ e⟩
    | exc x ah1 => rw [e] at h; exact h
    | bad => rw [e] at h; exact h
  refine ps_read gs (hE.mv mv) hr h' (fun e ah1 z m2 H2 c d e2 r2 x2 => ?_) fun ps ah1 m2 H2 kvs e2 r2 v2 ⟨hp2, hl2⟩ => ?_
  · obtain ⟨ex, mx⟩ := own_ext hp rfl e2 (H3 := H2) fun _ _ => rfl
    exact hx e ah1 z _ H2 c d ex (own_relB hp rfl e2 (fun _ _ => rfl) hn r2) (x2.mv mx)
  · have hne : ∀ a, a ≠ p → upd H2 p (.dK (mergeK [] kvs)) a = H2 a := fun a z => upd_ne z
    obtain ⟨ex, mx⟩ := own_ext hp rfl e2 hne
    have r3 := own_relB hp rfl e2 hne hn r2
    refine ⟨own_at e2, kvs, rfl, by rw [← v2.length, hl2]; exact h15, hq p ps ah1 ⟨m2.l, m.p⟩ H2 kvs hp ex r3 (fun z => ?_) (v2.mv mx) ?_ hp2⟩
    · obtain ⟨_, hpm, _⟩ := own_sub e2
      rcases z with z | z
      · exact (r2.prot p hpm).1 z
      · exact hn (.inr z)
    · obtain ⟨e5, r5⟩ := own_adopt hp hn e2 r2 (VRk.merge ps v2 .nil)
      refine ⟨_, e5, r5, ?_⟩
      show (m2.l ++ [p])[List.length ah1]? = some p
      rw [← r2.len, List.getElem?_append_right (Nat.le_refl _)]
      simp
theorem ge_disp {keys : List (Option Expr)} {values : List Expr} {gs : List (GE × GE)} (h : PPs X pos keys values (gs.map fun g => (tG X W g.1, tG X W g.2))) (hall : keys.all (·.isSome) = true) (hl : keys.length = values.length) (h0 : keys ≠ []) (h15 : keys.length ≤ 15) (hg : gs.length ≤ 15) : PE X (.Dict keys values pos) (tG X W (gDisp gs)) :=
  PE.weak (pe_disp h hall hl h0 h15) fun σ H Q h => by
    obtain ⟨m, env, ah, hE, hR, hp⟩ := h
    refine disp_read hg hE hR hp (fun _ _ h => h) fun p ps ah1 m1 H1 kvs hn e1 r1 pm v1 _ hp1 => ?_
    exact hp1 m1 _ _ e1 r1 (.dk (.inl upd_same) pm (VRk.merge ps v1 .nil))
theorem ge_dispH {keys : List (Option Expr)} {values : List Expr} {gs : List (GE × GE)} (h : PPs X pos keys values (gs.map fun g => (tG X W g.1, tG X W g.2))) (hall : keys.all (·.isSome) = true) (hl : keys.length = values.length) (h0 : keys ≠ []) (h15 : keys.length ≤ 15) (hg : gs.length ≤ 15) : PE X (.Dict keys values pos) (tG X W (gDispH gs)) :=
  PE.weak (pe_disp h hall hl h0 h15) fun σ H Q h => by
    obtain ⟨m, env, ah, hE, hR, hp⟩ := h
    refine disp_read hg hE hR hp (fun _ _ h => h) fun p ps ah1 m1 H1 kvs hn e1 r1 pm v1 ⟨m4, e4, r4, i4⟩ hp1 => ?_
    exact hp1 m4 _ _ e4 r4 (.ref i4)
theorem gpp_nil : PPs X pos [] [] (([] : List (GE × GE)).map fun g => (tG X W g.1, tG X W g.2)) := pps_nil
theorem gpp_cons {k v : Expr} {ks : List (Option Expr)} {vs : List Expr} {fk fv : GE} {gs : List (GE × GE)} (hk : PE X k (tG X W fk)) (hv : PE X v (tG X W fv)) (hr : PPs X pos ks vs (gs.map fun g => (tG X W g.1, tG X W g.2))) : PPs X pos (some k :: ks) (v :: vs) (((fk, fv) :: gs).map fun g => (tG X W g.1, tG X W g.2)) := pps_cons hk hv hr
def revO : O1 := fun ah v => match dr ah v with
  | .lst l => some (.lst l.reverse)
  | .fl l => some (.lst l.reverse)
  | _ => none
theorem ge_rev {e : Expr} {fe : GE} {k : Nat} {p1 p2 p3 : Pos} (he : PE X e (tG X W fe)) : PE X (.Subscript e (.Slice none none (some (.UnaryOp .USub (.Constant (.int 1) k p1) p2)) p3) pos) (tG X W (gM1 revO fe)) :=
  PE.weak (pe_revL he) fun σ H Q h => by
    obtain ⟨m, env, ah, hE, hR, hp⟩ := h
    refine tG_step hE hR hp (fun _ _ h => h) fun v ah1 m1 H1 x e1 r1 v1 hp1 => ?_
    have hp1 : (lift1 (revO ah1 v) ah1).post _ _ := hp1
    unfold revO at hp1
    split at hp1
    · obtain ⟨a, vs, rfl, h1, h2⟩ := VR.list r1 v1 (by assumption)
      exact ⟨a, vs, rfl, SqL.of h1, fun p hn => PQ.laid (PQ.mono e1 hp1) r1 hn (VR.newL r1 hn h2.reverse)⟩
    · obtain ⟨a, vs, rfl, h1, h2⟩ := VR.flst r1 v1 (by assumption)
      exact ⟨a, vs, rfl, h1, fun p hn => PQ.laid (PQ.mono e1 hp1) r1 hn (VR.newL r1 hn h2.reverse)⟩
    · exact hp1.elim
end
end G
namespace MX
open PySem PySem.Spec PyProof.Rows L2
set_option autoImplicit false
section
variable {prog : Program} {w : World} {A : Around} {R : Result → Shared → Prop} {E : Value → Shared → Prop} {I : Addr} {fp wr : List Addr} {n : Nat} {P : Nat → Value → Prop} {St : Nat → Heap → Prop} {kw : List (Str × Value)}
theorem nm : (toString "max" ++ toString ".loop" : String) = "max.loop" := by decide
/-- behind the first one -/
theorem go (W : Walks prog w A.in1 I fp wr n P St) (bt : Nat → Nat → Bool) (hcmp : CmpOf prog w A.in1 .Gt P bt) (S : Addr) (hSf : S ∉ fp) :
    ∀ (k j : Nat) (s : Shared) (vb : Value) (c : Nat), n - (j + 1) = k → j + 1 ≤ n → St (j + 1) s.heap → P (argBest bt j) vb →
    s.heap.get? S = some { cls := .type "list", dict := none, data := .seq #[vb, vb] c, slots := #[] } →
    (∀ v h' tk, P (argBest bt (n - 1)) v → (∀ b o, b ∉ wr → b ≠ S → s.heap.get? b = some o → h'.get? b = some o) → R (.ok (.ret v)) { s with heap := h', toks := tk }) →
    codeAny (model prog w) A (.builtin "max.loop" ⟨[.ref I, .none, .ref S], kw⟩) R s := by
  have hSw : S ∉ wr := fun h => hSf (W.sub _ h)
  intro k
  induction k with
  | zero =>
    intro j s vb c hk hj hst hPb hS hR
    have hin : j + 1 = n := by omega
    refine codeAny_builtin F.entry_max_loop ?_
    rw [Around.under_plainId F.plain_max_loop _]
    show wpAny _ A.in1 (seqItems? (.ref S) >>= _) _ _ s
    refine wpAny_bind (wpAny_seqItems hS rfl ?_)
    show wpAny _ A.in1 (tryCatch (pyNext (.ref I)) _ >>= _) _ _ s
    refine wpAny_bind (wpAny_tryCatch (W.done s _ _ (hin ▸ hst) fun h' tk hk' => ?_))
    have hS' := hk' S _ hSw hS
    show wpAny _ A.in1 (updateSeq S (fun _ => #[]) >>= _) _ _ _
    refine wpAny_bind ?_
    refine wpAny_updateSeq hS' rfl (wpAny_bind (wpAny_letGo (wpAny_pure ?_)))
    refine hR vb _ tk (by rw [← hin]; exact hPb) fun b o hbw hbS e => (Heap.get?_update_other _ _ (Ne.symm hbS)).trans (hk' b o hbw e)
  | succ k ih =>
    intro j s vb c hk hj hst hPb hS hR
    have hlt : j + 1 < n := by omega
    refine codeAny_builtin F.entry_max_loop ?_
    rw [Around.under_plainId F.plain_max_loop _]
    show wpAny _ A.in1 (seqItems? (.ref S) >>= _) _ _ s
    refine wpAny_bind (wpAny_seqItems hS rfl ?_)
    show wpAny _ A.in1 (tryCatch (pyNext (.ref I)) _ >>= _) _ _ s
    refine wpAny_bind (wpAny_tryCatch (W.item (j + 1) s _ _ hlt hst fun v h' tk hP hst' hk' => ?_))
    have hS' := hk' S _ hSw hS
    show wpAny _ A.in1 (tryCatch (holding [v, v] (richCompare .Gt v vb >>= _)) _ >>= _) _ _ _
    refine wpAny_bind (wpAny_tryCatch (wpAny_holding (wpAny_bind (hcmp (j + 1) (argBest bt j) v vb _ _ _ hP hPb ?_))))
    refine wpAny_bind (wpAny_holding (wpAny_truthy_bool ?_))
    refine wpAny_bind (wpAny_letGo (wpAny_pure ?_))
    cases hb : bt (j + 1) (argBest bt j) with
    | true =>
      simp only [if_true]
      refine wpAny_bind ?_
      refine wpAny_updateSeq hS' rfl (wpAny_bind (wpAny_letGo ?_))
      rw [nm]
      refine wpAny_pure ⟨plainId_quiet F.plain_max_loop _, ih (j + 1) _ v _ (by omega) hlt (W.frame _ _ _ hst' fun b hbf o e => ?_) (by simp only [argBest, hb, if_true]; exact hP) (Heap.get?_update_self _ hS' rfl)
        fun v' h'' tk'' hP' hk'' => ?_⟩
      · exact (Heap.get?_update_other _ _ (fun h : S = b => hSf (by rw [h]; exact hbf))).trans e
      · exact hR v' h'' tk'' hP' fun b o hbw hbS e => hk'' b o hbw hbS ((Heap.get?_update_other _ _ (Ne.symm hbS)).trans (hk' b o hbw e))
    | false =>
      simp only [Bool.false_eq_true, if_false]
      refine wpAny_bind (wpAny_letGo ?_)
      rw [nm]
      refine wpAny_pure ⟨plainId_quiet F.plain_max_loop _, ih (j + 1) _ vb c (by omega) hlt hst' (by simp only [argBest, hb, Bool.false_eq_true, if_false]; exact hPb) hS' fun v' h'' tk'' hP' hk'' => ?_⟩
      exact hR v' h'' tk'' hP' fun b o hbw hbS e => hk'' b o hbw hbS (hk' b o hbw e)
theorem first (W : Walks prog w A.in1 I fp wr n P St) (bt : Nat → Nat → Bool) (hcmp : CmpOf prog w A.in1 .Gt P bt) (S : Addr) (hSf : S ∉ fp) (hn : 0 < n) {s : Shared} {c : Nat} (hst : St 0 s.heap)
    (hS : s.heap.get? S = some { cls := .type "list", dict := none, data := .seq #[] c, slots := #[] })
    (hR : ∀ v h' tk, P (argBest bt (n - 1)) v → (∀ b o, b ∉ wr → b ≠ S → s.heap.get? b = some o → h'.get? b = some o) → R (.ok (.ret v)) { s with heap := h', toks := tk }) :
    codeAny (model prog w) A (.builtin "max.loop" ⟨[.ref I, .none, .ref S], kw⟩) R s := by
  have hSw : S ∉ wr := fun h => hSf (W.sub _ h)
  refine codeAny_builtin F.entry_max_loop ?_
  rw [Around.under_plainId F.plain_max_loop _]
  show wpAny _ A.in1 (seqItems? (.ref S) >>= _) _ _ s
  refine wpAny_bind (wpAny_seqItems hS rfl ?_)
  show wpAny _ A.in1 (tryCatch (pyNext (.ref I)) _ >>= _) _ _ s
  refine wpAny_bind (wpAny_tryCatch (W.item 0 s _ _ hn hst fun v h' tk hP hst' hk' => ?_))
  have hS' := hk' S _ hSw hS
  show wpAny _ A.in1 (updateSeq S (fun _ => #[v, v]) >>= _) _ _ _
  refine wpAny_bind ?_
  refine wpAny_updateSeq hS' rfl ?_
  rw [nm]
  refine wpAny_pure ⟨plainId_quiet F.plain_max_loop _, go W bt hcmp S hSf _ 0 _ v _ rfl hn (W.frame _ _ _ hst' fun b hbf o e => ?_) hP (Heap.get?_update_self _ hS' rfl) fun v' h'' tk'' hP' hk'' => ?_⟩
  · exact (Heap.get?_update_other _ _ (fun h : S = b => hSf (by rw [h]; exact hbf))).trans e
  · exact hR v' h'' tk'' hP' fun b o hbw hbS e => hk'' b o hbw hbS ((Heap.get?_update_other _ _ (Ne.symm hbS)).trans (hk' b o hbw e))
/-- of none -/
theorem none' {d : Value} {x : Str} (W : Walks prog w A.in1 I fp wr 0 P St) (S : Addr) (hSf : S ∉ fp) {s : Shared} {c : Nat} (hst : St 0 s.heap)
    (hS : s.heap.get? S = some { cls := .type "list", dict := none, data := .seq #[] c, slots := #[] })
    (hR : ∀ h' tk, (∀ b o, b ∉ wr → s.heap.get? b = some o → h'.get? b = some o) → R (.ok (.ret d)) { s with heap := h', toks := tk }) :
    codeAny (model prog w) A (.builtin "max.loop" ⟨[.ref I, .none, .ref S], [(x, d)]⟩) R s := by
  refine codeAny_builtin F.entry_max_loop ?_
  rw [Around.under_plainId F.plain_max_loop _]
  show wpAny _ A.in1 (seqItems? (.ref S) >>= _) _ _ s
  refine wpAny_bind (wpAny_seqItems hS rfl ?_)
  show wpAny _ A.in1 (tryCatch (pyNext (.ref I)) _ >>= _) _ _ s
  refine wpAny_bind (wpAny_tryCatch (W.done s _ _ hst fun h' tk hk' => ?_))
  show wpAny _ A.in1 (rule _ >>= _) _ _ _
  refine wpAny_bind (wpAny_rule ?_)
  exact wpAny_pure (hR _ _ hk')
end
section
variable {prog : Program} {w : World} {A : Around} {E : Value → Shared → Prop} {s : Shared}
/-- a built-in called with keywords, that may go on with another -/
theorem call_kw {id : String} {b : Builtin} {args : List Value} {kw : List (Str × Value)} {Q : Value → Shared → Prop} (hk : builtinKind id = none) (hp : plainId id = true)
    (hb : entryFor table id = some b) (ha : argsOk id ⟨args, kw⟩)
    (hc : wpAny (model prog w) A.in1 (b ⟨args, kw⟩) (fun fin s' => match fin with
      | .done f => (match (Except.ok f : Result) with | .ok (.ret v) => Q v s' | .ok _ => False | .error e => E e s')
      | .again c' => c'.quiet = true ∧ codeAny (model prog w) A c' (fun r s' => match r with | .ok (.ret v) => Q v s' | .ok _ => False | .error e => E e s') s') E s) :
    wpAny (model prog w) A (call (.builtin id) args kw) Q E s := by
  refine wpAny_call (codeAny_call_builtin hp hb ?_)
  simp only [checkBuiltinCall, hk]
  cases hsig : Manifest.signature? id with
  | none => exact wpAny_pure hc
  | some sig =>
    have ha' : Bind.checkArgs id sig ⟨args, kw⟩ = pure () := by simpa only [argsOk, hsig] using ha
    simp only [ha']
    exact wpAny_pure hc
theorem args_max_d (a d : Value) : argsOk "max" ⟨[a], [(Str.ofString "default", d)]⟩ := by unfold argsOk; kernel_rfl
theorem max_d {l : Addr} {its : List Value} {ns : List Int} {i : Int} {t : Tok} {Q : Value → Shared → Prop} (hh : A.handled = none) (hl : s.heap.IsList l its.toArray) (hi : IntsAre its ns)
    (h : ∀ h' tk M t', (∀ b o, s.heap.get? b = some o → h'.get? b = some o) → (ns = [] → M = i) → (ns ≠ [] → M ∈ ns ∧ ∀ a, a ∈ ns → a ≤ M) → Q (.int M t') { s with heap := h', toks := tk }) :
    wpAny (model prog w) A (call (.builtin "max") [.ref l] [(Str.ofString "default", .int i t)]) Q E s := by
  refine call_kw F.kind_max F.plain_max F.entry_max (args_max_d _ _) ?_
  show wpAny _ A.in1 (Builtin.Builtins.bindParams "max" ["key", "default"] 0 ⟨[], [(Str.ofString "default", .int i t)]⟩ >>= _) _ _ s
  refine wpAny_bind (wpAny_of_eq (show Builtin.Builtins.bindParams "max" ["key", "default"] 0 ⟨[], [(Str.ofString "default", .int i t)]⟩ = pure [none, some (.int i t)] from by rfl) ?_)
  refine wpAny_bind (wpAny_pure ?_)
  obtain ⟨xs, e⟩ := hi.allInts.items
  have hn : numsOf (intItems xs).toList = ns := by rw [← e]; exact hi.numsOf
  rw [nums_intItems] at hn
  subst hn
  rw [e] at hl
  refine wpAny_bind (iter_intList hl fun s₂ e2 st hfp hlI => ?_)
  subst e2
  refine wpAny_bind (wpAny_newObj_type ?_)
  have W : Walks prog w A.in1 s.heap.objs.size [s.heap.objs.size, l] [s.heap.objs.size] (intItems xs).size (fun i v => (intItems xs)[i]? = some v) (fun i h => h.IsListIter s.heap.objs.size l i ∧ h.IsList l (intItems xs)) := Walks.list (A := A.in1) hh _ l hlI (intItems xs)
  have hz : (s.heap.push { cls := .type "list_iterator", data := .fields #[.ref l, .int 0 0] }).objs.size = s.heap.objs.size + 1 := Heap.size_push ..
  have hSf : (s.heap.push { cls := .type "list_iterator", data := .fields #[.ref l, .int 0 0] }).objs.size ∉ [s.heap.objs.size, l] := fun hm => Nat.lt_irrefl _ (hfp _ hm)
  have keep : ∀ h' : Heap, (∀ b o, b ∉ [s.heap.objs.size] → ((s.heap.push { cls := .type "list_iterator", data := .fields #[.ref l, .int 0 0] }).push { cls := .type "list", dict := none, data := .seq #[], slots := #[] }).get? b = some o → h'.get? b = some o) → ∀ b o, s.heap.get? b = some o → h'.get? b = some o := fun h' hk b o e => by
    refine hk b o (fun hm => ?_) (Heap.get?_push_of_some _ (Heap.get?_push_of_some _ e))
    rw [List.mem_singleton] at hm
    rw [hm] at e
    exact absurd (Heap.lt_size e) (Nat.lt_irrefl _)
  rw [nm]
  refine wpAny_pure ⟨plainId_quiet F.plain_max_loop _, ?_⟩
  by_cases h0 : xs.size = 0
  · have hz0 : (intItems xs).size = 0 := by simpa [intItems] using h0
    rw [hz0] at W
    refine none' W _ hSf (W.frame _ _ _ st fun b _ o e => Heap.get?_push_of_some _ e) (Heap.get?_push_size _ rfl) fun h' tk hk => ?_
    have en : xs.toList.map (·.1) = [] := by
      have : xs = #[] := Array.eq_empty_of_size_eq_zero h0
      rw [this]; rfl
    exact h h' tk i t (keep h' hk) (fun _ => rfl) (fun z => absurd en z)
  · have hz0 : 0 < (intItems xs).size := by have : (intItems xs).size = xs.size := by simp [intItems]
                                            omega
    refine first W (fun i j => decide (numAt xs i > numAt xs j)) (CmpOf.ints_gt (numAt xs) (fun _ _ => intItems_at)) _ hSf hz0 (W.frame _ _ _ st fun b _ o e => Heap.get?_push_of_some _ e) (Heap.get?_push_size _ rfl) fun v h' tk hv hk => ?_
    have hv2 : (intItems xs)[argBest (fun i j => decide (numAt xs i > numAt xs j)) (xs.size - 1)]? = some v := by simpa [intItems] using hv
    obtain ⟨t', rfl⟩ := intItems_at hv2
    obtain ⟨h1, h2⟩ := argBest_gt (numAt xs) (xs.size - 1)
    refine h h' tk _ t' (fun b o e => ?_) (fun z => ?_) (fun _ => ⟨?_, fun a ha => ?_⟩)
    · refine hk b o (fun hm => ?_) (fun hm => ?_) (Heap.get?_push_of_some _ (Heap.get?_push_of_some _ e))
      · rw [List.mem_singleton] at hm
        rw [hm] at e
        exact absurd (Heap.lt_size e) (Nat.lt_irrefl _)
      · rw [hm] at e
        have := Heap.lt_size e
        rw [hz] at this
        exact absurd this (Nat.not_lt.mpr (Nat.le_succ _))
    · have := congrArg List.length z
      simp at this
      exact absurd (by rw [this]; rfl) h0
    · rw [numAt_eq]; exact PySem.getD_mem (by rw [List.length_map, Array.length_toList]; omega)
    · obtain ⟨j, hj, rfl⟩ := mem_getD ha
      rw [List.length_map, Array.length_toList] at hj
      rw [← numAt_eq]; exact h2 j (by omega)
end
section
variable {X : Cx}
def rMaxD (K : PySem.W.Frag) : List V → List V → Hp → VK → Prop := fun vs zs H Q => ∃ (a : Addr) (ns : List Int) (i : Int), vs = [V.ref a] ∧ zs = [V.int i] ∧ SqL K H a (ns.map V.int) ∧ ∀ M, (ns = [] → M = i) → (ns ≠ [] → M ∈ ns ∧ ∀ a, a ∈ ns → a ≤ M) → Q (.int M) H
theorem cr_maxD (hc : X.calm = true) : CallRK X (.builtin "max") [Str.ofString "default"] (rMaxD X.K) := by
  intro pins s σ H vs zs us ws Q I r rz h
  obtain ⟨a, ns, i, rfl, rfl, hs, q⟩ := h
  obtain ⟨its, rv, hl, _⟩ := I.list hs
  obtain rfl := Vals.ref1 r
  obtain ⟨w1, rfl, e1⟩ := vals1 rz
  obtain ⟨t, rfl⟩ := e1
  exact max_d (I.ok.hd hc) hl.isList rv.ints fun h' tk M t' hk h1 h2 => ⟨.int M, H, I.kept hk, ⟨_, rfl⟩, q M h1 h2⟩
end
end MX
namespace G
open PySem PySem.Spec PyProof.Rows L2
set_option autoImplicit false
section
variable {X : Cx} {W : WX} {a b : Expr} {fa fb : GE} {p pos kpos : Pos}
def maxI : List Int → Int
  | [] => 0
  | [a] => a
  | a :: l => if maxI l > a then maxI l else a
theorem maxI_of : ∀ (l : List Int) (M : Int), M ∈ l → (∀ a, a ∈ l → a ≤ M) → M = maxI l
  | [], M, h, _ => by cases h
  | [a], M, h, _ => by simpa [maxI] using h
  | a :: b :: l, M, h, hm => by
    have ih : ∀ N, N ∈ b :: l → (∀ a, a ∈ b :: l → a ≤ N) → N = maxI (b :: l) := maxI_of (b :: l)
    have ex : maxI (b :: l) ∈ b :: l ∧ ∀ a, a ∈ b :: l → a ≤ maxI (b :: l) := by
      clear ih h hm
      induction l generalizing b with
      | nil => simp [maxI]
      | cons c l ih2 =>
        obtain ⟨i1, i2⟩ := ih2 c
        rw [maxI]
        split
        · rename_i hgt
          refine ⟨List.mem_cons_of_mem _ i1, fun x hx => ?_⟩
          rcases List.mem_cons.mp hx with rfl | hx
          · omega
          · exact i2 x hx
        · rename_i hgt
          refine ⟨List.mem_cons_self .., fun x hx => ?_⟩
          rcases List.mem_cons.mp hx with rfl | hx
          · omega
          · have := i2 x hx; omega
        all_goals (intro h; cases h)
    rw [maxI]
    · rcases List.mem_cons.mp h with rfl | h
      · have := hm _ (List.mem_cons_of_mem _ ex.1)
        rw [if_neg (by omega)]
      · have h1 := ex.2 M h
        have h2 := hm _ (List.mem_cons_of_mem _ ex.1)
        have h3 := hm a (List.mem_cons_self ..)
        split <;> omega
    · intro h; cases h
/-- max(xs, default=e) of numbers -/
def maxDO : O2 := fun ah v w => match dr ah v, w with
  | .lst l, .int i => match intsA l with
    | some [] => some (.int i)
    | some ns => some (.int (maxI ns))
    | none => none
  | _, _ => none
theorem ge_maxD {k : Nat} (hx : XG X W k) (hg : Gl X "max") (hm : X.mg "max" = none) (ha : PE X a (tG X W fa)) (hb : PE X b (tG X W fb))
    (he : backTo pos (starEach [a] X.env) = (false, eval a X.env) :: backTo pos (starEach [] X.env) := by rfl) (hpl : (backTo pos (starEach [a] X.env)).any (·.1) = false := by rfl)
    (hall : (backToKw pos (keywordEach [⟨some (Str.ofString "default"), b, kpos⟩] X.env)).all (·.1.isSome) = true := by rfl) (hnone : (backToKw pos (keywordEach [⟨some (Str.ofString "default"), b, kpos⟩] X.env)).any (·.1.isNone) = false := by rfl) (hks : (backToKw pos (keywordEach [⟨some (Str.ofString "default"), b, kpos⟩] X.env)).filterMap (·.1) = [Str.ofString "default"] := by rfl)
    (hst : starEach [a] X.env = (false, eval a X.env) :: starEach [] X.env := by rfl) :
    PE X (.Call (.Name "max" p) [a] [⟨some (Str.ofString "default"), b, kpos⟩] pos) (tG X W (gOp maxDO fa fb)) :=
  PE.weak (pe_callBK (MX.cr_maxD hx.calm) hg hm (by decide +kernel) (pa_cons ha pa_nil hst) (pk_cons hb pk_nil) (by decide) (by decide) he hpl hall hnone hks) fun σ H Q h => by
    obtain ⟨m, env, ah, hE, hR, hp⟩ := h
    refine tG_step hE hR hp (fun _ _ h => h) fun v ah1 m1 H1 x e1 r1 v1 hp1 => ?_
    refine tG_step (hE.mono e1) r1 (Res.post_imp hp1 (fun _ _ _ h => PQ.mono e1 h) (fun _ _ h => PX.mono e1 h)) (fun _ _ h => h) fun w ah2 m2 H2 y e2 r2 v2 hp2 => ?_
    have hp2 : (lift1 (match dr ah2 v, w with
      | .lst l, .int i => match intsA l with
        | some [] => some (AV.int i)
        | some ns => some (.int (maxI ns))
        | none => none
      | _, _ => none) ah2).post _ _ := hp2
    cases hd : dr ah2 v with
    | lst l =>
      rw [hd] at hp2
      cases v2 with
      | int i =>
        obtain ⟨p, vs, rfl, h1, h2⟩ := VR.list r2 (v1.mono e2) hd
        cases hns : intsA l with
        | none => simp only [hns] at hp2; exact hp2.elim
        | some ns =>
          have e := ints_vs h2 hns
          subst e
          refine ⟨p, ns, i, rfl, rfl, SqL.of h1, fun M k1 k2 => ?_⟩
          cases ns with
          | nil =>
            simp only [hns] at hp2
            rw [k1 rfl]
            exact (PQ.mono e2 hp2).here r2 (.int _)
          | cons n ns =>
            simp only [hns] at hp2
            obtain ⟨k3, k4⟩ := k2 (by simp)
            rw [maxI_of _ _ k3 k4]
            exact (PQ.mono e2 hp2).here r2 (.int _)
      | _ => exact hp2.elim
    | _ => rw [hd] at hp2; exact hp2.elim
end
end G
namespace PySem.SeqAt
open AutoSeq1 (wpAny_loadPart')
open MeetsSeq
theorem tuple_eq_declines_dict (l b : Addr) (items : Array Value) (es : Array DictEntry) (n n2 : Nat) (dd dd2 : Option Addr) (sl sl2 : Array (Option Value)) :
    Meets (Builtin.«tuple.__eq__» ⟨[.ref l, .ref b], []⟩) (fun _ R s => s.heap.get? l = some { cls := .type "tuple", dict := dd, data := .seq items n, slots := sl } ∧ s.heap.get? b = some { cls := .type "dict", dict := dd2, data := .dict es n2, slots := sl2 } ∧ R (.ok (.ret .notImplemented)) s) :=
  .of_wp fun prog w A R s h => by obtain ⟨hp, g, d, tk, os⟩ := s; obtain ⟨hl, hb, h⟩ := h; have f1 := F.sub_dict_tuple; wp_walk using wpAny_loadPart' hl, wpAny_loadPart' hb; exact ⟨_, rfl, h⟩
theorem dict_eq_declines_tuple (l b : Addr) (items : Array Value) (es : Array DictEntry) (n n2 : Nat) (dd dd2 : Option Addr) (sl sl2 : Array (Option Value)) :
    Meets (Builtin.«dict.__eq__» ⟨[.ref b, .ref l], []⟩) (fun _ R s => s.heap.get? l = some { cls := .type "tuple", dict := dd, data := .seq items n, slots := sl } ∧ s.heap.get? b = some { cls := .type "dict", dict := dd2, data := .dict es n2, slots := sl2 } ∧ R (.ok (.ret .notImplemented)) s) :=
  .of_wp fun prog w A R s h => by obtain ⟨hp, g, d, tk, os⟩ := s; obtain ⟨hl, hb, h⟩ := h; have f1 := F.sub_tuple_dict; wp_walk using wpAny_loadPart' hl, wpAny_loadPart' hb; exact ⟨_, rfl, h⟩
theorem str_eq_declines_dict (x : Str) (u : Tok) (b : Addr) (es : Array DictEntry) (n2 : Nat) (dd2 : Option Addr) (sl2 : Array (Option Value)) :
    Meets (Builtin.«str.__eq__» ⟨[.str x u, .ref b], []⟩) (fun _ R s => s.heap.get? b = some { cls := .type "dict", dict := dd2, data := .dict es n2, slots := sl2 } ∧ R (.ok (.ret .notImplemented)) s) :=
  .of_wp fun prog w A R s h => by obtain ⟨hp, g, d, tk, os⟩ := s; obtain ⟨hl, h⟩ := h; wp_walk using wpAny_loadPart' hl, wpAny_load hl; exact ⟨_, rfl, h⟩
theorem dict_eq_declines_str (x : Str) (u : Tok) (b : Addr) (es : Array DictEntry) (n2 : Nat) (dd2 : Option Addr) (sl2 : Array (Option Value)) :
    Meets (Builtin.«dict.__eq__» ⟨[.ref b, .str x u], []⟩) (fun _ R s => s.heap.get? b = some { cls := .type "dict", dict := dd2, data := .dict es n2, slots := sl2 } ∧ R (.ok (.ret .notImplemented)) s) :=
  .of_wp fun prog w A R s h => by obtain ⟨hp, g, d, tk, os⟩ := s; obtain ⟨hl, h⟩ := h; have f1 := F.sub_str_dict; wp_walk using wpAny_loadPart' hl; exact ⟨_, rfl, h⟩
section
variable {M : Model} {A : Around} {E : Value → Shared → Prop} {s : Shared}
theorem RcAt.str_dict {b : Addr} {es : Array DictEntry} {n2 : Nat} {dd2 : Option Addr} {sl2 : Array (Option Value)} (x : Str) (u : Tok) (ho : s.heap.get? b = some { cls := .type "dict", dict := dd2, data := .dict es n2, slots := sl2 }) (hu : A.units < cLine) : RcAt A s (.str x u) (.ref b) false := fun prog w E Q h => by
  exact rc_eq_decline_or (k := false) (typeIs_str s x u) ⟨_, ho, rfl⟩ (by decide) F.sub_dict_str F.slot_str_eq F.slot_dict_eq_refl
    (fun _ hq => call_meets F.slot_str_eq (typeIs_str s x u) F.entry_str_eq (F.args_str_eq_2 _ _) (str_eq_declines_dict x u b es n2 dd2 sl2) ⟨ho, hq⟩)
    (fun _ hq => call_meets F.slot_dict_eq_refl ⟨_, ho, rfl⟩ F.entry_dict_eq (F.args_dict_eq_2 _ _) (dict_eq_declines_str x u b es n2 dd2 sl2) ⟨ho, hq⟩)
    (fun _ hq => wpAny_of_eq (rfl : isSame (.str x u) (.ref b) = pure false) hq) (.inr hu) h
theorem EqAt.str_dict {b : Addr} {es : Array DictEntry} {n2 : Nat} {dd2 : Option Addr} {sl2 : Array (Option Value)} (x : Str) (u : Tok) (ho : s.heap.get? b = some { cls := .type "dict", dict := dd2, data := .dict es n2, slots := sl2 }) (hu : A.units < cLine) : EqAt A s (.str x u) (.ref b) false := fun prog w E Q h => by
  unfold eqBool
  refine wpAny_holding ?_
  refine wpAny_ite_split (fun hab => absurd (eq_of_beq hab) nofun) (fun _ => ?_)
  exact wpAny_bind (RcAt.str_dict x u ho hu prog w E _ (wpAny_truthy_bool h))
theorem RcAt.tuple_dict {l b : Addr} {items : Array Value} {es : Array DictEntry} {n2 : Nat} {dd2 : Option Addr} {sl2 : Array (Option Value)} (hl : s.heap.IsTuple l items) (ho2 : s.heap.get? b = some { cls := .type "dict", dict := dd2, data := .dict es n2, slots := sl2 }) (hu : A.units < cLine) : l ≠ b ∧ RcAt A s (.ref l) (.ref b) false := by
  obtain ⟨⟨cls, dd, data, sl⟩, ho, hc, n, hd⟩ := id hl
  simp only at hc hd
  subst hc hd
  have hne : l ≠ b := fun z => by rw [z, ho2] at ho; simp at ho
  exact ⟨hne, fun prog w E Q h => (rc_eq_decline_or (k := false) ⟨_, ho, rfl⟩ ⟨_, ho2, rfl⟩ (by decide) F.sub_dict_tuple F.slot_tuple_eq F.slot_dict_eq_refl
    (fun _ hq => call_meets F.slot_tuple_eq ⟨_, ho, rfl⟩ F.entry_tuple_eq (F.args_tuple_eq_2 _ _) (tuple_eq_declines_dict l b items es n n2 dd dd2 sl sl2) ⟨ho, ho2, hq⟩)
    (fun _ hq => call_meets F.slot_dict_eq_refl ⟨_, ho2, rfl⟩ F.entry_dict_eq (F.args_dict_eq_2 _ _) (dict_eq_declines_tuple l b items es n n2 dd dd2 sl sl2) ⟨ho, ho2, hq⟩)
    (fun _ hq => wpAny_isSame_ref_other' hne ho ho2 (by simp) hq) (.inr hu) h)⟩
theorem EqAt.tuple_dict {l b : Addr} {items : Array Value} {es : Array DictEntry} {n2 : Nat} {dd2 : Option Addr} {sl2 : Array (Option Value)} (hl : s.heap.IsTuple l items) (ho2 : s.heap.get? b = some { cls := .type "dict", dict := dd2, data := .dict es n2, slots := sl2 }) (hu : A.units < cLine) : EqAt A s (.ref l) (.ref b) false :=
  let ⟨h1, h2⟩ := RcAt.tuple_dict hl ho2 hu
  .of_refs h1 h2
theorem RcAt.dict_str {b : Addr} {es : Array DictEntry} {n2 : Nat} {dd2 : Option Addr} {sl2 : Array (Option Value)} (x : Str) (u : Tok) (ho : s.heap.get? b = some { cls := .type "dict", dict := dd2, data := .dict es n2, slots := sl2 }) (hu : A.units < cLine) : RcAt A s (.ref b) (.str x u) false := fun prog w E Q h => by
  exact rc_eq_decline_or (k := false) ⟨_, ho, rfl⟩ (typeIs_str s x u) (by decide) F.sub_str_dict F.slot_dict_eq F.slot_str_eq_refl
    (fun _ hq => call_meets F.slot_dict_eq ⟨_, ho, rfl⟩ F.entry_dict_eq (F.args_dict_eq_2 _ _) (dict_eq_declines_str x u b es n2 dd2 sl2) ⟨ho, hq⟩)
    (fun _ hq => call_meets F.slot_str_eq_refl (typeIs_str s x u) F.entry_str_eq (F.args_str_eq_2 _ _) (str_eq_declines_dict x u b es n2 dd2 sl2) ⟨ho, hq⟩)
    (fun _ hq => wpAny_of_eq (rfl : isSame (.ref b) (.str x u) = pure false) hq) (.inr hu) h
end
end PySem.SeqAt

namespace G
open PySem PySem.Spec PyProof.Rows L2 PySem.SeqAt
set_option autoImplicit false
/-- the texts of [(s,), ..] -/
def s1s : List AV → Option (List (List Nat))
  | [] => some []
  | .tup [.str a] :: l => if a.all (· < 0x110000) then (s1s l).map (a :: ·) else none
  | _ :: _ => none
/-- the text of (s,) -/
def hd1 : AV → Option (Option (List Nat))
  | .fl _ => none
  | .ref _ => none
  | .tup [.str t] => some (some t)
  | .tup (.fl _ :: _) => none
  | .tup (.ref _ :: _) => none
  | _ => some none
def in1B (ss : List (List Nat)) (o : Option (List Nat)) : Bool := match o with
  | some t => decide (t ∈ ss)
  | none => false
def in1O : O2 := fun _ v w => match w with
  | .lst l => (s1s l).bind fun ss => (hd1 v).map fun o => .bl (in1B ss o)
  | _ => none
section
variable {X : Cx}
def rIn1 (K : PySem.W.Frag) : R2 := fun x y H Q => ∃ m v l ss o, VR K m H v x ∧ VR K m H (.lst l) y ∧ s1s l = some ss ∧ hd1 v = some o ∧ Q (.bl (in1B ss o)) H
def e1 (o : Option (List Nat)) : PyData → Bool
  | .tuple [.str a] => match o with
    | some t => a == mkS t
    | none => false
  | _ => false
theorem s1s_ok : ∀ {l : List AV} {ss : List (List Nat)}, s1s l = some ss → okAs l = true ∧ toDs l = ss.map (fun a => PyData.tuple [.str (mkS a)])
  | [], ss, h => by cases h; exact ⟨rfl, rfl⟩
  | v :: l, ss, h => by
    unfold s1s at h
    split at h
    · cases ‹v :: l = []›
    · rename_i a l' e
      cases e
      split at h
      · rename_i ha
        cases hs : s1s l with
        | none => rw [hs] at h; cases h
        | some ss' =>
          rw [hs] at h; cases h
          obtain ⟨h1, h2⟩ := s1s_ok hs
          refine ⟨?_, ?_⟩
          · show (okAs [AV.str a] && okAs l) = true
            rw [h1]
            show ((a.all (· < 0x110000) && true) && true) = true
            rw [ha]; rfl
          · show PyData.tuple [.str (mkS a)] :: toDs l = _
            rw [h2]; rfl
      · cases h
    · cases h
theorem reads_one {h : Heap} {us : List Value} {z : Str} {as : List Addr} (r : ReadsAll h us [.str z] as) : ∃ tk, us = [.str z tk] := by
  cases r with
  | cons c1 c2 => cases c1; cases c2; exact ⟨_, rfl⟩
theorem head_eqAt {pins : List (Addr × Obj)} {σ : L2.St} {H : Hp} {s : Shared} (I : Inv X pins σ H s) {A : Around} (h1 : A.units < cLine) {m : MM} {v : AV} {x : V} {u : Value} (a : Str) (tk : Tok)
    (hv : VR X.K m H v x) (rx : RelV x u) (hk : (∀ l, v ≠ .fl l) ∧ ∀ n, v ≠ .ref n) : ∃ b, EqAt A s (.str a tk) u b ∧ (∀ t, v = .str t → b = (a == mkS t)) ∧ ((∀ t, v ≠ .str t) → b = false) := by
  cases hv with
  | non => cases rx; exact ⟨_, EqAt.str_none a tk, (fun t e => nomatch e), (fun _ => rfl)⟩
  | bl b => cases rx; exact ⟨_, EqAt.str_bool a tk b, (fun t e => nomatch e), (fun _ => rfl)⟩
  | int i => obtain ⟨t, rfl⟩ := rx; exact ⟨_, EqAt.str_int a tk i t, (fun t e => nomatch e), (fun _ => rfl)⟩
  | str z => obtain ⟨t, rfl⟩ := rx; exact ⟨_, EqAt.str_str a tk _ t, fun t e => (by cases e; rfl), fun e => absurd rfl (e z)⟩
  | fl _ _ => exact absurd rfl (hk.1 _)
  | ref _ => exact absurd rfl (hk.2 _)
  | lst q _ _ =>
    cases rx
    obtain ⟨us, r1, p1, _⟩ := I.list (SqL.of q)
    exact ⟨_, EqAt.str_list a tk p1.isList h1, (fun t e => nomatch e), (fun _ => rfl)⟩
  | dk q _ _ =>
    cases rx
    obtain ⟨_, _, _, _, ob2, es, ep, k1, k2, k3, _⟩ := DKR.at I q
    obtain ⟨cls2, dd2, data2, sl2⟩ := ob2
    have k21 : cls2 = .type "dict" := k2.1
    simp only at k3
    subst k21 k3
    exact ⟨_, EqAt.str_dict a tk k1 h1, (fun t e => nomatch e), (fun _ => rfl)⟩
  | tup q r =>
    cases rx
    obtain ⟨us, r1, p1, _⟩ := I.tuple q
    exact ⟨_, EqAt.str_tuple a tk p1 h1, (fun t e => nomatch e), (fun _ => rfl)⟩
theorem in1_eqAt {pins : List (Addr × Obj)} {σ : L2.St} {H : Hp} {s : Shared} (I : Inv X pins σ H s) {A : Around} (hu : A.units + 2 < cLine) {m : MM} {v : AV} {x : V} {u y : Value} {o : Option (List Nat)} {a : List Nat} {as : List Addr}
    (hv : VR X.K m H v x) (rx : RelV x u) (ho : hd1 v = some o) (ry : Reads s.heap y (.tuple [.str (mkS a)]) as) : EqAt A s y u (e1 o (.tuple [.str (mkS a)])) := by
  cases ry with
  | tuple g1 g2 g3 g4 =>
    rename_i l ob vs n
    have it : s.heap.IsTuple l vs := ⟨_, g1, g2, n, g3⟩
    have h1 : A.units < cLine := by omega
    cases hv with
    | non => cases ho; cases rx; exact EqAt.tuple_none it h1
    | bl b => cases ho; cases rx; exact EqAt.tuple_bool b it h1
    | int i => cases ho; obtain ⟨t, rfl⟩ := rx; exact EqAt.tuple_int i t it h1
    | str z => cases ho; obtain ⟨t, rfl⟩ := rx; exact EqAt.tuple_str _ t it h1
    | fl _ _ => cases ho
    | ref _ => cases ho
    | lst q _ _ =>
      cases ho; cases rx
      obtain ⟨us, r1, p1, _⟩ := I.list (SqL.of q)
      exact EqAt.tuple_list it p1.isList h1
    | dk q _ _ =>
      cases ho; cases rx
      obtain ⟨_, _, _, _, ob2, es, ep, k1, k2, k3, _⟩ := DKR.at I q
      obtain ⟨cls2, dd2, data2, sl2⟩ := ob2
      have k21 : cls2 = .type "dict" := k2.1
      simp only at k3
      subst k21 k3
      exact EqAt.tuple_dict it k1 h1
    | tup q r =>
      cases rx
      rename_i bq lv xs
      obtain ⟨us, r1, p1, _⟩ := I.tuple q
      obtain ⟨tk, hvs⟩ := reads_one g4
      have hvs : vs = #[.str (mkS a) tk] := by
        apply Array.toList_inj.mp
        rw [hvs]
      subst hvs
      by_cases hne : l = bq
      · subst hne
        have : us = [.str (mkS a) tk] := by
          obtain ⟨o2, q1, q2, n2, q3⟩ := p1
          rw [q1] at g1; cases g1
          rw [q3] at g3
          injection g3 with g3
          have := congrArg Array.toList g3
          simpa using this
        subst this
        have hl : lv = [.str a] := by
          cases r1 with
          | cons z1 z2 =>
            cases z2
            cases r with
            | cons y1 y2 =>
              cases y2
              cases y1 with
              | str t =>
                obtain ⟨tt, e⟩ := z1
                injection e with e
                rw [mkS_inj e]
              | int i => obtain ⟨tt, e⟩ := z1; cases e
              | _ => cases z1
        subst hl
        cases ho
        have : e1 (some a) (.tuple [.str (mkS a)]) = true := by simp [e1]
        rw [this]
        exact EqAt.same _
      · refine EqAt.of_refs hne ?_
        cases lv with
        | nil =>
          cases ho
          cases r
          cases r1
          have z := RcAt.tuples (A := A) (e := fun _ => true) it p1 h1 (fun j _ h2 => by simp at h2)
          exact z
        | cons hd tl =>
          cases r with
          | cons ya yb =>
            cases r1 with
            | cons za zb =>
              rename_i vh vt uh ut
              have hk : (∀ l, hd ≠ .fl l) ∧ ∀ n, hd ≠ .ref n := by
                constructor <;> (rintro z rfl; cases tl <;> cases ho)
              obtain ⟨b, q1, q2, q3⟩ := head_eqAt (A := A.in1) I (show A.units + 1 < cLine by omega) (mkS a) tk ya za hk
              have z := RcAt.tuples (A := A) (e := fun _ => b) it p1 h1 (fun j h1 h2 => by
                have : j = 0 := by simp at h1; omega
                subst this
                exact q1)
              have el := zb.length
              have et := yb.length
              have fin : ((List.range (min (#[Value.str (mkS a) tk] : Array Value).size (uh :: ut).toArray.size)).all (fun _ => b) && (#[Value.str (mkS a) tk] : Array Value).size == (uh :: ut).toArray.size) = e1 o (.tuple [.str (mkS a)]) := by
                have hsz : ut.length = tl.length := by omega
                have e0 : (#[Value.str (mkS a) tk] : Array Value).size = 1 := rfl
                rw [e0]
                have e1' : (uh :: ut).toArray.size = tl.length + 1 := by simp [hsz]
                rw [e1', show min 1 (tl.length + 1) = 1 by omega]
                show ((b && true) && (1 == tl.length + 1)) = _
                rw [Bool.and_true]
                cases tl with
                | nil =>
                  show (b && true) = _
                  rw [Bool.and_true]
                  cases hd with
                  | str t => cases ho; rw [q2 t rfl]; simp [e1]
                  | fl l => exact absurd rfl (hk.1 l)
                  | ref n => exact absurd rfl (hk.2 n)
                  | _ => cases ho; rw [q3 (by simp)]; rfl
                | cons c tl =>
                  have : ((1 : Nat) == (c :: tl).length + 1) = false := by simp
                  rw [this, Bool.and_false]
                  cases hd with
                  | fl l => exact absurd rfl (hk.1 l)
                  | ref n => exact absurd rfl (hk.2 n)
                  | _ => cases ho; rfl
              rw [fin] at z
              exact z
theorem op_in1 (hu : X.A.units + 65 < cLine) : OpR X (compareOp .In) (rIn1 X.K) := by
  intro pins s σ H x y v u Q I rx ry h
  obtain ⟨m, vv, l, ss, o, h1, h2, h3, h4, q⟩ := h
  obtain ⟨k1, k2⟩ := s1s_ok h3
  cases h2 with
  | lst g1 g2 g3 =>
    cases ry
    obtain ⟨us, r1, p1, _⟩ := I.list (SqL.of g1)
    obtain ⟨as, ra⟩ := Dp.readsAll I _ _ _ (VRs.dp _ _ g3 k1) r1
    have lay : PyData.canLayAll0 (toDs l) = true := okAs_lay _ k1
    have mem := readsAll_mem _ _ _ lay ra
    refine in_listAt (fun y => e1 o (readOf s.heap y)) p1.isList (fun y hy => ?_) ?_
    · obtain ⟨dy, cs, ry, hcy, _⟩ := mem y (by simpa using hy)
      rw [readOf_eq hcy ry]
      have hmem : dy ∈ toDs l := by
        have e := readsAll_map _ _ _ lay ra
        rw [← e, ← readOf_eq hcy ry]
        exact List.mem_map_of_mem (by simpa using hy)
      rw [k2] at hmem
      obtain ⟨a, _, rfl⟩ := List.mem_map.mp hmem
      exact in1_eqAt I (show X.A.units + 1 + 2 < cLine by omega) h1 rx h4 ry
    · have e := readsAll_map _ _ _ lay ra
      have : (us.toArray.any fun y => e1 o (readOf s.heap y)) = in1B ss o := by
        rw [← Array.any_toList]
        show (us.any _) = _
        have e2 : us.any (fun y => e1 o (readOf s.heap y)) = (us.map (readOf s.heap)).any (e1 o) := by rw [List.any_map]; rfl
        rw [e2, e, k2, List.any_map]
        unfold in1B
        cases o with
        | none =>
          show (ss.any fun a => false) = false
          simp
        | some t =>
          have : (e1 (some t) ∘ fun a => PyData.tuple [.str (mkS a)]) = fun a => decide (a = t) := by
            funext a
            show (mkS a == mkS t) = _
            by_cases q : a = t
            · subst q; simp
            · rw [decide_eq_false q, beq_eq_false_iff_ne]; exact fun z => q (mkS_inj z)
          rw [this]
          show _ = decide (t ∈ ss)
          by_cases q : t ∈ ss
          · rw [decide_eq_true q, List.any_eq_true]
            exact ⟨t, q, by simp⟩
          · rw [decide_eq_false q, List.any_eq_false]
            intro a ha
            simp
            rintro rfl
            exact q ha
      rw [this]
      exact ⟨.bl _, H, I, rfl, q⟩
theorem in1_g (hu : X.A.units + 65 < cLine) : ∃ r, OpR X (compareOp .In) r ∧ OpG X r in1O := by
  refine ⟨_, op_in1 hu, ?_⟩
  intro m H ah v w x y z Q r hv hw hf q
  unfold in1O at hf
  split at hf
  · rename_i l
    cases h1 : s1s l with
    | none => rw [h1] at hf; cases hf
    | some ss =>
      cases h2 : hd1 v with
      | none => rw [h1, h2] at hf; cases hf
      | some o =>
        rw [h1, h2] at hf
        cases hf
        exact ⟨m, v, l, ss, o, hv, hw, h1, h2, q.here r (.bl _)⟩
  · cases hf
variable {W : WX} {o e f : Expr} {apos cpos p : Pos} {x : Str} {t : Tb} {fo fe ff : GE}
/-- T.get(k) of a dict of the module -/
def tGet1O (t : Tb) : O1 := fun _ v => match v with
  | .str s => some ((tget t s).getD .non)
  | _ => none
def tKGet (K : PySem.W.Frag) (d : Addr) (ty : TE) : TE := fun σ H Q => ty σ H fun y H2 => ∃ (z : Str) (r : Option Value), y = .str z ∧ PySem.W.nsIn K d z = some r ∧ ((r = none ∧ Q .non H2) ∨ ∃ u0 v0, r = some u0 ∧ RelV v0 u0 ∧ Q v0 H2)
theorem pe_kget {d : Addr} {es : Array DictEntry} {n : Nat} {ty : TE} (D : KDict X.K X.w d es n) (ho : PE X o (fun _ H Q => Q (.ref d) H)) (he : PE X e ty) (m : M1 X o "get" apos e cpos) : PE X (.Call (.Attribute o "get" apos) [e] [] cpos) (tKGet X.K d ty) := by
  refine ⟨fun pins s σ H Q I h => ?_⟩
  refine wpAny_Call_method m.base m.few m.line PySem.F.plainAttrs_dict PySem.F.slot_dict_get PySem.F.type_dict_get (thn (ho.run pins s σ H (fun v H1 => v = .ref d ∧ H1 = H) I ⟨rfl, rfl⟩) fun u s1 ⟨x, H1, I1, rx, e1, e2⟩ => ?_)
  subst e1 e2
  obtain rfl : u = Value.ref d := rx
  have mp := PySem.W.mapOf_K (prog := X.prog) (w := X.w) I1.kIn D.at_ D.lit
  refine ⟨mp.typeIs, fun b q => ?_, ?_⟩
  · cases q
    exact mp.noDict d rfl
  rw [m.trees]
  refine Calls.callWith_builtin rfl (Calls.evalArgs_plain (Calls.spliced_cons (thn (he.run pins s1 σ H1 _ I1 h) fun iv s2 ⟨y, H2, I2, ry, z, r, ey, hr, q2⟩ => Calls.spliced_nil ?_)))
  subst ey
  obtain ⟨t, rfl⟩ := ry
  have mp2 := PySem.W.mapOf_K (prog := X.prog) (w := X.w) I2.kIn D.at_ D.lit
  refine call_meetsIn PySem.F.slot_dict_get mp2.typeIs PySem.F.entry_dict_get (PySem.F.args_dict_get_2 _ _) (meets_dict_get _ d (PySem.strKind_is X.prog X.w z t) D.low) ⟨_, mp2, ?_⟩
  rw [PySem.W.find_K D.at_ hr]
  rcases q2 with ⟨rfl, q2⟩ | ⟨u0, v0, rfl, rv, q2⟩
  · exact ⟨.non, H2, I2.tok _, rfl, q2⟩
  · exact ⟨v0, H2, I2.tok _, rv, q2⟩
theorem ge_tget1 (hg : Gl X x) (D : GD X.K X.w X.mg x t) (he : PE X e (tG X W fe)) (m : M1 X (.Name x p) "get" apos e cpos := by exact ⟨rfl, rfl, rfl, rfl⟩) (hd : (x == ("__debug__" : Str)) = false := by decide) : PE X (.Call (.Attribute (.Name x p) "get" apos) [e] [] cpos) (tG X W (gM1 (tGet1O t) fe)) := by
  obtain ⟨d, es, n, h1, h2, h3⟩ := D.ex
  refine PE.weak (pe_kget h2 (pe_glob hg h1 (show RelV (.ref d) (.ref d) from rfl) hd) he m) fun σ H Q h => ?_
  obtain ⟨m, env, ah, hE, hR, hp⟩ := h
  refine tG_step hE hR hp (fun _ _ h => h) fun v ah1 m1 H1 y e1 r1 v1 hp1 => ?_
  cases v1 with
  | str s =>
    have hp1 : (lift1 (some ((tget t s).getD .non)) ah1).post _ _ := hp1
    cases q : tget t s with
    | none =>
      rw [q] at hp1
      exact ⟨mkS s, none, rfl, (DE.ns h2 h3 s).2 q, .inl ⟨rfl, hp1 m1 H1 _ e1 r1 .non⟩⟩
    | some z =>
      rw [q] at hp1
      obtain ⟨u, hu, y, ry, vy⟩ := (DE.ns h2 h3 s).1 z q
      exact ⟨mkS s, some u, rfl, hu, .inr ⟨u, y, rfl, ry, hp1 m1 H1 _ e1 r1 (vy _ _)⟩⟩
  | _ => exact hp1.elim
/-- d.get(k, x) of a dict that may change -/
def gGetR (o k d : GE) : GE := fun env ah => rb (o env ah) fun w ah1 => match dr ah1 w with
  | .dk _ => rb (k env ah1) fun kv ah2 => rb (d env ah2) fun dv ah3 => match dr ah3 w with
    | .dk l => match keyA kv with
      | some q => .ok ((lookK l q).getD dv) ah3
      | none => .bad
    | _ => .bad
  | _ => .bad
theorem ge_getR (ho : PE X o (tG X W fo)) (he : PE X e (tG X W fe)) (hf : PE X f (tG X W ff)) (m : M2 X o "get" apos e f cpos := by exact ⟨rfl, rfl, rfl, rfl⟩) : PE X (.Call (.Attribute o "get" apos) [e, f] [] cpos) (tG X W (gGetR fo fe ff)) :=
  PE.weak (pe_getK ho he hf m) fun σ H Q h => by
    obtain ⟨m, env, ah, hE, hR, hp⟩ := h
    refine tG_step hE hR hp (fun _ _ h => h) fun v ah1 m1 H1 x e1 r1 v1 hp1 => ?_
    cases hd : dr ah1 v with
    | dk l =>
      rw [hd] at hp1
      obtain ⟨a, kvs, rfl, h1, h2⟩ := VR.dict r1 v1 hd
      refine ⟨a, rfl, ⟨kvs, h1⟩, ?_⟩
      refine tG_step (hE.mono e1) r1 (Res.post_imp hp1 (fun _ _ _ h => PQ.mono e1 h) (fun _ _ h => PX.mono e1 h)) (fun _ _ h => h) fun kv ah2 m2 H2 y e2 r2 v2 hp2 => ?_
      refine tG_step ((hE.mono e1).mono e2) r2 (Res.post_imp hp2 (fun _ _ _ h => PQ.mono e2 h) (fun _ _ h => PX.mono e2 h)) (fun _ _ h => h) fun dv ah3 m3 H3 z e3 r3 v3 hp3 => ?_
      have v1' := (v1.mono e2).mono e3
      cases hd3 : dr ah3 v with
      | dk l3 =>
        simp only [hd3] at hp3
        obtain ⟨a', kvs', ea, h1', h2'⟩ := VR.dict r3 v1' hd3
        cases ea
        cases hk : keyA kv with
        | none => rw [hk] at hp3; exact hp3.elim
        | some q =>
          rw [hk] at hp3
          refine ⟨akey q, kvs', keyA_kV hk (v2.mono e3), h1', ?_⟩
          rcases h2'.look q with ⟨g1, g2⟩ | ⟨v', x', g1, g2, hx⟩
          · have hp3 : PQ X.K m2 H2 Q ((lookK l3 q).getD dv) ah3 := hp3
            rw [g1] at hp3
            rw [g2]
            exact hp3 m3 H3 z e3 r3 v3
          · have hp3 : PQ X.K m2 H2 Q ((lookK l3 q).getD dv) ah3 := hp3
            rw [g1] at hp3
            rw [g2]
            exact hp3 m3 H3 x' e3 r3 hx
      | _ => simp only [hd3] at hp3; exact hp3.elim
    | _ => rw [hd] at hp1; exact hp1.elim
/-- <= of numbers, of texts -/
def leX : O2 := fun _ v w => match v, w with
  | .int i, .int j => some (.bl (decide (i ≤ j)))
  | .str s, .str t => some (.bl (!decide (t < s)))
  | _, _ => none
theorem leX_g : ∃ r, OpR X (compareOp .LtE) r ∧ OpG X r leX := by
  refine ⟨_, op_le.or op_le_str, ?_⟩
  intro m H ah v w x y z Q r hv hw hf q
  unfold leX at hf
  split at hf
  · cases hf; cases hv; cases hw
    exact .inl ⟨_, _, rfl, rfl, q.here r (.bl _)⟩
  · cases hf; cases hv; cases hw
    refine .inr ⟨_, _, rfl, rfl, ?_⟩
    rw [mkS_list, mkS_list]
    exact q.here r (.bl _)
  · cases hf
/-- x == a text, x whatever -/
def eqSB (s : List Nat) : AV → Option Bool
  | .str t => some (decide (t = s))
  | .fl _ => none
  | .ref _ => none
  | _ => some false
def eqSO : O2 := fun _ v w => match w with
  | .str s => (eqSB s v).map .bl
  | _ => none
def rEqS (K : PySem.W.Frag) : R2 := fun x y H Q => ∃ m v s b, VR K m H v x ∧ y = .str (mkS s) ∧ eqSB s v = some b ∧ Q (.bl b) H
theorem op_eqS (hu : X.A.units < cLine) : OpR X (compareOp .Eq) (rEqS X.K) := by
  intro pins σ0 σ H x y v u Q I rx ry h
  obtain ⟨m, vv, s, b, hv, rfl, hb, q⟩ := h
  obtain ⟨t, rfl⟩ := ry
  have go : RcAt X.A σ0 v (.str (mkS s) t) b → wpAny (model X.prog X.w) X.A (compareOp .Eq v (.str (mkS s) t)) (EP X pins σ Q) X.xe σ0 := fun r => r X.prog X.w X.xe _ ⟨.bl b, H, I, rfl, q⟩
  cases hv with
  | non => cases hb; cases rx; exact go (RcAt.none_str _ t)
  | bl k => cases hb; cases rx; exact go (RcAt.bool_str k _ t)
  | int i => cases hb; obtain ⟨t2, rfl⟩ := rx; exact go (RcAt.int_str i t2 _ t)
  | str z =>
    cases hb
    obtain ⟨t2, rfl⟩ := rx
    have e : (mkS z == mkS s) = decide (z = s) := by
      by_cases q : z = s
      · subst q; simp
      · rw [decide_eq_false q, beq_eq_false_iff_ne]; exact fun k => q (mkS_inj k)
    have := RcAt.str_str (A := X.A) (s := σ0) (mkS z) t2 (mkS s) t
    rw [e] at this
    exact go this
  | fl _ _ => cases hb
  | ref _ => cases hb
  | lst q1 _ _ =>
    cases hb; cases rx
    obtain ⟨us, r1, p1, _⟩ := I.list (SqL.of q1)
    exact go (RcAt.list_str _ t p1.isList hu)
  | tup q1 _ =>
    cases hb; cases rx
    obtain ⟨us, r1, p1, _⟩ := I.tuple q1
    exact go (RcAt.tuple_str _ t p1 hu)
  | dk q1 _ _ =>
    cases hb; cases rx
    obtain ⟨_, _, _, _, ob2, es, ep, k1, k2, k3, _⟩ := DKR.at I q1
    obtain ⟨cls2, dd2, data2, sl2⟩ := ob2
    have k21 : cls2 = .type "dict" := k2.1
    simp only at k3
    subst k21 k3
    exact go (RcAt.dict_str _ t k1 hu)
theorem eqS_g (hu : X.A.units + 64 < cLine) : ∃ r, OpR X (compareOp .Eq) r ∧ OpG X r eqSO := by
  refine ⟨_, op_eqS (by omega), ?_⟩
  intro m H ah v w x y z Q r hv hw hf q
  unfold eqSO at hf
  split at hf
  · rename_i s
    cases h2 : eqSB s v with
    | none => rw [h2] at hf; cases hf
    | some b =>
      rw [h2] at hf; cases hf; cases hw
      exact ⟨m, v, s, b, hv, rfl, h2, q.here r (.bl _)⟩
  · cases hf
/-- a, b = x, y -/
theorem gs_par {i j : Nat} {x y : Str} {a b : Expr} {fa fb : GE} {px py pt pos : Pos} {kt k2 pt2} (hc : X.calm = true) (hN : X.N.Nodup) (hi : X.N[i]? = some x) (hj : X.N[j]? = some y) (hij : i ≠ j)
    (hx : X.env.scope.names.lookup x = some .local) (hy : X.env.scope.names.lookup y = some .local) (ha : PA X [a, b] (tGA X W (gCons fa (gCons fb gNil))))
    (hw : swappedStores [.Tuple [.Name x px, .Name y py] kt pt] (.Tuple [a, b] k2 pt2) X.env = pure (some [x, y]))
    (hs : swapsWithSole [.Tuple [.Name x px, .Name y py] kt pt] (.Tuple [a, b] k2 pt2) pos.line X.env = pure false := by rfl) :
    PS X (.Assign [.Tuple [.Name x px, .Name y py] kt pt] (.Tuple [a, b] k2 pt2) pos) (tGS X W (gAsg (gTup (gCons fa (gCons fb gNil))) (gTg 2 (gTc (gNm i) (gTc (gNm j) gTn))))) :=
  PS.weak (ps_par hc hN hi hj hij hx hy ha hw hs) fun D σ H hh => by
    obtain ⟨m, env, ah, hE, hR, hp⟩ := hh
    refine ⟨m, env, ah, hE, hR, ?_⟩
    have hp : sPost X W m H D (sb (rb (gCons fa (gCons fb gNil) env ah) fun l ah1 => limL l (.tup l) ah1) env fun v ah1 => match gTg 2 (gTc (gNm i) (gTc (gNm j) gTn)) env v with
      | some env1 => .nx env1 ah1
      | none => .bad) := hp
    cases e : gCons fa (gCons fb gNil) env ah with
    | ok l ah1 =>
      rw [e] at hp
      match l, hp with
      | [], hp => exact hp.elim
      | [v], hp => exact hp.elim
      | [v, w], hp =>
        have hp : PN X.K m H D.nx ((env.set i (some v)).set j (some w)) ah1 := hp
        intro m1 H1 xs e1 r1 v1
        cases v1 with
        | cons a1 a2 =>
          cases a2 with
          | cons b1 b2 =>
            cases b2
            exact ⟨_, _, rfl, hp m1 H1 _ e1 r1 (((hE.mono e1).set i a1).set j b1)⟩
      | u :: v :: w :: z, hp =>
        exfalso
        have hp : sPost X W m H D (sb (limL (u :: v :: w :: z) (.tup (u :: v :: w :: z)) ah1) env fun v ah1 => match gTg 2 (gTc (gNm i) (gTc (gNm j) gTn)) env v with
          | some env1 => .nx env1 ah1
          | none => .bad) := hp
        unfold limL at hp
        split at hp
        · have e3 : gTg 2 (gTc (gNm i) (gTc (gNm j) gTn)) env (.tup (u :: v :: w :: z)) = none := by
            show (if (u :: v :: w :: z).length = 2 then gTc (gNm i) (gTc (gNm j) gTn) env (u :: v :: w :: z) else none) = none
            rw [if_neg (by simp)]
          rw [sb_ok, e3] at hp
          exact hp
        · exact hp
    | exc ev ah1 => rw [e] at hp; exact fun m1 H1 c d e1 r1 xr => hp m1 H1 σ c d e1 r1 (hE.mono e1) xr
    | bad => rw [e] at hp; exact hp.elim
end
end G
namespace HT
open PySem PySem.Spec PyProof.Rows L2
section
variable {prog : Program} {w : World} {A : Around} {E : Value → Shared → Prop} {s : Shared}
theorem places_rev (n : Nat) : Builtin.Slice.slicePlaces ((n : Int) - 1) (-1) (-1) = n := by
  unfold Builtin.Slice.slicePlaces
  have h1 : ¬ ((-1 : Int) > 0) := by omega
  simp only [h1, if_false]
  split <;> simp <;> omega
theorem fm_map {α β : Type} {f : α → Option β} {g : α → β} : ∀ l : List α, (∀ x ∈ l, f x = some (g x)) → l.filterMap f = l.map g
  | [], _ => rfl
  | a :: l, h => by
    rw [List.filterMap_cons, h a (by simp), fm_map l fun x hx => h x (by simp [hx])]; rfl
theorem rev_run (xs : Array Value) : ((List.range xs.size).filterMap fun (m : Nat) => xs[((xs.size : Int) - 1 + (m : Int) * (-1)).toNat]?).toArray = xs.toList.reverse.toArray := by
  congr 1
  refine List.ext_getElem? fun i => ?_
  have e : ∀ m ∈ List.range xs.size, xs[((xs.size : Int) - 1 + (m : Int) * (-1)).toNat]? = some (xs.toList.reverse.getD m .none) := fun m hm => by
    have hm := List.mem_range.mp hm
    have e1 : ((xs.size : Int) - 1 + (m : Int) * (-1)).toNat = xs.size - 1 - m := by omega
    rw [e1]
    have h2 : xs.size - 1 - m < xs.size := by omega
    rw [Array.getElem?_eq_getElem h2]
    congr 1
    rw [List.getD_eq_getElem?_getD, List.getElem?_reverse (by simpa using hm)]
    simp [h2]
  rw [fm_map _ e]
  rw [List.getElem?_map]
  by_cases hi : i < xs.size
  · rw [List.getElem?_range hi]
    simp [hi]
  · rw [List.getElem?_eq_none (by simp; omega), List.getElem?_eq_none (by simp; omega)]; rfl
theorem getItem_tuple_rev {t sl : Addr} {items : Array Value} {vl vu vs : Value} {Q : Value → Shared → Prop} (ht : IsTup s.heap t items) (hs : s.heap.IsSliceOf sl vl vu vs) (pl : IsPart vl none) (pu : IsPart vu none) (ps : IsPart vs (some (-1)))
    (h : Q (.ref s.heap.objs.size) { s with heap := s.heap.push { cls := .type "tuple", data := .seq items.toList.reverse.toArray } })
    (hsz : items.size ≤ sizeLine) : wpAny (model prog w) A (getItem (.ref t) (.ref sl)) Q E s := by
  have htake : sizeOk (.seq items.toList.reverse.toArray) := by
    show items.toList.reverse.toArray.size ≤ sizeLine
    simpa using hsz
  obtain ⟨os, hos, hcs, hds⟩ := id hs
  have hTs : s.TypeIs (.ref sl) "slice" := ⟨os, hos, hcs⟩
  unfold getItem
  try with_reducible refine wpAny_holding ?_
  first | refine wpAny_bind (wpAny_pure ?_) | skip
  refine wpAny_bind (wpAny_sequenceKey ht.typeIs (by decide) ?_)
  refine wpAny_bind (wpAny_callSpecial?_slot (name := Str.ofString "__getitem__") ht.typeIs PyProof.Rows.slot_tuple_getitem
    (wpAny_call_entry PyProof.Rows.slot_tuple_getitem ht.typeIs entry_tuple_getitem ?_ (args_tuple_getitem _ _)))
  show wpAny _ _ (Builtin.Tuple.tupleItemsOf (.ref t) >>= _) _ _ s
  refine wpAny_bind (tupleItemsOf_ ht ?_)
  refine wpAny_bind (wpAny_typeOf hTs ?_)
  rw [if_pos (by decide)]
  have ap : ∀ {A : Around} {E : Value → Shared → Prop} {Q : Int × Int × Nat → Shared → Prop}, Q ((items.size : Int) - 1, -1, items.size) s → wpAny (model prog w) A (Builtin.Slice.sliceApplied (.ref sl) (pure (items.size : Int))) Q E s := fun {A E Q} h => by
    unfold Builtin.Slice.sliceApplied Builtin.Slice.sliceFields
    refine wpAny_bind (wpAny_bind (wpAny_field hos hds (x := vl) rfl (wpAny_bind (wpAny_field hos hds (x := vu) rfl (wpAny_bind (wpAny_field hos hds (x := vs) rfl (wpAny_pure ?_)))))))
    refine wpAny_bind (slicePart_ ps ?_)
    show wpAny _ _ (if ((-1 : Int) == 0) = true then _ else _) _ _ s
    rw [if_neg (by decide)]
    refine wpAny_bind (slicePart_ pl (wpAny_bind (slicePart_ pu (wpAny_bind (wpAny_pure ?_)))))
    show wpAny _ _ (match Builtin.Slice.sliceAdjust none none (-1) (items.size : Int) with | (lo, hi) => pure (lo, (-1 : Int), Builtin.Slice.slicePlaces lo hi (-1))) _ _ s
    show wpAny _ _ (pure ((items.size : Int) - 1, (-1 : Int), Builtin.Slice.slicePlaces ((items.size : Int) - 1) (-1) (-1))) _ _ s
    rw [places_rev]
    exact wpAny_pure h
  refine wpAny_bind (ap ?_)
  have hno : ¬ ((((items.size : Int) - 1) == 0 && (-1 : Int) == 1 && items.size == items.size) = true) := by simp
  show wpAny _ _ (if ((((items.size : Int) - 1) == 0 && (-1 : Int) == 1 && items.size == items.size)) = true then _ else _) _ _ s
  rw [if_neg hno, rev_run]
  first
    | exact wpAny_bind (m := Builtin.Tuple.tupleExact _) (wpAny_newObj_type (wpAny_pure ⟨_, rfl, wpAny_pure h⟩) htake)
    | exact wpAny_bind (m := Builtin.Tuple.tupleExact _) (wpAny_newObj_type (wpAny_bind (wpAny_pure (wpAny_pure ⟨_, rfl, wpAny_pure h⟩))) htake)
    | exact wpAny_bind (wpAny_bind (m := Builtin.Tuple.tupleExact _) (wpAny_newObj_type (wpAny_pure (wpAny_pure ⟨_, rfl, wpAny_pure h⟩)) htake))
    | exact wpAny_bind (wpAny_bind (m := Builtin.Tuple.tupleExact _) (wpAny_newObj_type (wpAny_pure ⟨_, rfl, wpAny_pure h⟩) htake))
end
end HT
namespace G
open PySem PySem.Spec PyProof.Rows L2
set_option autoImplicit false
section
variable {X : Cx} {W : WX} {a : Expr} {fa : GE} {p p2 q pos : Pos}
def luO : O1 := fun ah v => match dr ah v with
  | .lst l => match strsA l with
    | some ss => if ss.length < 2000 then some (.int (uniqA ss).length) else none
    | none => none
  | _ => none
def tLuS (K : PySem.W.Frag) (ta : TE) : TE := fun σ H Q => ta σ H fun x H1 =>
  ∃ (l : Addr) (ss : List Str), x = .ref l ∧ SqL K H1 l (ss.map V.str) ∧ ss.length < 2000 ∧ Q (.int (uniqA ss).length) H1
theorem nd_len {α : Type} [DecidableEq α] {l m : List α} (h1 : l.Nodup) (h2 : ∀ x, x ∈ l ↔ x ∈ m) : l.length = (uniqA m).length :=
  ((List.perm_ext_iff_of_nodup h1 (nodup_uniq m)).mpr fun x => by rw [h2, mem_uniq]).length_eq
theorem pe_lenSetT {ta : TE} (hc : X.calm = true) (hg : Gl X "len") (hm : X.mg "len" = none) (hg2 : Gl X "set") (hm2 : X.mg "set" = none) (ha : PE X a ta)
    (na : starEach [a] X.env = (false, eval a X.env) :: starEach [] X.env := by rfl) : PE X (.Call (.Name "len" p) [.Call (.Name "set" p2) [a] [] q] [] pos) (tLuS X.K ta) := by
  refine ⟨fun pins s σ H Q I h => ?_⟩
  refine Call_ (ld_blt I hg hm boot_len ?_)
  refine PyProof.Rows.callWith_builtin1 (PyProof.Rows.args_cons ?_ rfl) rfl rfl
  refine Call_ (ld_blt I hg2 hm2 boot_set ?_)
  refine PyProof.Rows.callWith_type1 (PyProof.Rows.args_cons (thn (ha.run pins s σ H _ I h) fun v s1 ⟨x, H1, I1, r1, q1⟩ => PyProof.Rows.args_nil ?_) na) na rfl
  obtain ⟨l, ss, rfl, hq, h63, q1⟩ := q1
  cases r1
  obtain ⟨its, r, pl, hz⟩ := I1.list hq
  have hS := strsAre_of r
  have hlen : its.length = ss.length := by rw [← r.length, List.length_map]
  have e1 : ∀ {vs : List Value} {ss : List Str}, StrsAre vs ss → vs.map SG.sf = ss ∧ ∀ v ∈ vs, ∃ x t, v = Value.str x t := by
    intro vs ss h
    induction h with
    | nil => exact ⟨rfl, by simp⟩
    | cons x t _ ih => exact ⟨by rw [List.map_cons, ih.1]; rfl, fun v hv => by rcases List.mem_cons.mp hv with rfl | hv; exact ⟨_, _, rfl⟩; exact ih.2 v hv⟩
  obtain ⟨ek, eC⟩ := e1 hS
  refine SG.of_list (R := SG.strR X.prog X.w) (I1.ok.hd hc) pl.isList eC (by unfold scanBound; omega) fun h' tk c hS' hcn k => ?_
  refine PyProof.Rows.args_nil ?_
  have I2 : Inv X pins σ H1 { s1 with heap := h', toks := tk } := I1.kept k
  obtain ⟨o, es, ep, t, ho, g⟩ := hS'
  have hn : es.size = (uniqA ss).length := by
    have e : (SG.RdK.ks (SG.strR X.prog X.w) es.toList).length = (uniqA ss).length := nd_len g.nd fun x => by
      rw [← g.mem, show its.map (SG.strR X.prog X.w).kf = ss from ek]
      simp
    rw [← e]
    simp [SG.RdK.ks]
  have hlt : es.size < 4096 := g.lt
  refine call_len_set ho g.ex g.dat g.fit (by omega) ⟨.int (uniqA ss).length, H1, I2.tok _, ⟨_, by rw [hn]⟩, q1⟩
theorem uniq_mk : ∀ ss : List (List Nat), (uniqA (ss.map mkS)).length = (uniqA ss).length
  | [] => rfl
  | s :: ss => by
    rw [List.map_cons, uniqA, uniqA]
    have : mkS s ∈ ss.map mkS ↔ s ∈ ss := by
      rw [List.mem_map]
      exact ⟨fun ⟨x, hx, e⟩ => mkS_inj e ▸ hx, fun h => ⟨s, h, rfl⟩⟩
    by_cases h : s ∈ ss
    · rw [if_pos (this.mpr h), if_pos h, uniq_mk ss]
    · rw [if_neg (fun z => h (this.mp z)), if_neg h, List.length_cons, List.length_cons, uniq_mk ss]
theorem ge_lenS {k : Nat} (hx : XG X W k) (hg : Gl X "len") (hm : X.mg "len" = none) (hg2 : Gl X "set") (hm2 : X.mg "set" = none) (ha : PE X a (tG X W fa))
    (na : starEach [a] X.env = (false, eval a X.env) :: starEach [] X.env := by rfl) : PE X (.Call (.Name "len" p) [.Call (.Name "set" p2) [a] [] q] [] pos) (tG X W (gM1 luO fa)) :=
  PE.weak (pe_lenSetT hx.calm hg hm hg2 hm2 ha na) fun σ H Q h => by
    obtain ⟨m, env, ah, hE, hR, hp⟩ := h
    refine tG_step hE hR hp (fun _ _ h => h) fun v ah1 m1 H1 x e1 r1 v1 hp1 => ?_
    have hp1 : (lift1 (luO ah1 v) ah1).post _ _ := hp1
    unfold luO at hp1
    split at hp1
    · obtain ⟨a, vs, rfl, h1, h2⟩ := VR.list r1 v1 (by assumption)
      split at hp1
      · rename_i ss hss
        split at hp1
        · rename_i h63
          have e := strs_vs h2 hss
          subst e
          refine ⟨a, ss.map mkS, rfl, SqL.of h1, by simpa using h63, ?_⟩
          rw [uniq_mk]
          exact hp1 m1 H1 _ e1 r1 (.int _)
        · exact hp1.elim
      · exact hp1.elim
    · exact hp1.elim
/-- max of a list of numbers -/
def max1O : OL := fun ah l => match l with
  | [v] => match dr ah v with
    | .lst l => match intsA l with
      | some (n :: ns) => some (.int (maxI (n :: ns)))
      | _ => none
    | _ => none
  | _ => none
theorem max1_g (hc : X.calm = true) : ∃ r, CallR X (.builtin "max") r ∧ CallG X r max1O := by
  refine ⟨_, cr_max hc, ?_⟩
  intro m H ah l xs z Q r hv hf q
  unfold max1O at hf
  split at hf
  · obtain ⟨x, rfl, hx⟩ := hv.one
    split at hf
    · obtain ⟨a, vs, rfl, h1, h2⟩ := VR.list r hx (by assumption)
      split at hf
      · rename_i n ns hns
        cases hf
        have e := ints_vs h2 hns
        subst e
        refine ⟨a, n :: ns, rfl, SqL.of h1, by simp, fun M k1 k2 => ?_⟩
        rw [maxI_of _ M k1 k2]
        exact q.here r (.int _)
      · cases hf
    · cases hf
  · cases hf
/-- t[::-1] of a tuple -/
def tRevT (K : PySem.W.Frag) (te : TE) : TE := fun σ H Q => te σ H fun x H1 => ∃ a xs, x = .ref a ∧ SqT K H1 a xs ∧ ∀ p, H1 p = none → Q (.ref p) (upd H1 p (.tup xs.reverse))
theorem pe_revT {e : Expr} {te : TE} {k : Nat} {p1 p2 p3 pos : Pos} (he : PE X e te) : PE X (.Subscript e (.Slice none none (some (.UnaryOp .USub (.Constant (.int 1) k p1) p2)) p3) pos) (tRevT X.K te) := by
  refine ⟨fun pins s σ H Q I h => ?_⟩
  refine Subscript_ (thn (he.run pins s σ H _ I h) fun v s1 ⟨x, H1, I1, r1, q1⟩ => ?_)
  obtain ⟨a, xs, ex, hx, q⟩ := q1
  subst ex
  cases r1
  have hst : PO X (some (.UnaryOp .USub (.Constant (.int 1) k p1) p2)) (tPart (tUn (rU fun i => .int (-i)) (tC (.int 1)))) := po_some (pe_un un_neg pe_int)
  refine wpAny_Slice (thn (po_none.run pins s1 σ H1 (fun o H2 => o = none ∧ H2 = H1) I1 ⟨rfl, rfl⟩) fun vl s2 ⟨l, H2, I2, pl, el, e2⟩ => ?_)
  subst el e2
  refine thn (po_none.run pins s2 σ H2 (fun o H3 => o = none ∧ H3 = H2) I2 ⟨rfl, rfl⟩) fun vu s3 ⟨u, H3, I3, pu, eu, e3⟩ => ?_
  subst eu e3
  refine thn (hst.run pins s3 σ H3 (fun o H4 => o = some (-1) ∧ H4 = H3) I3 ⟨1, rfl, -1, rfl, rfl, rfl⟩) fun vs s4 ⟨o, H4, I4, ps, eo, e4⟩ => ?_
  subst eo e4
  have I5 : Inv X pins σ H4 { s4 with heap := s4.heap.push { cls := .type "slice", data := .fields #[vl, vu, vs] } } := I4.kept (t' := s4.toks) fun b ob q => Heap.get?_push_of_some _ q
  obtain ⟨its, r, ht, hz⟩ := I5.tuple hx
  have hlen := r.length
  show wpAny (model X.prog X.w) X.A (subscriptTail e (.Slice none none (some (.UnaryOp .USub (.Constant (.int 1) k p1) p2)) p3) (.ref a) (.ref s4.heap.objs.size)) (EP X pins σ Q) X.xe { s4 with heap := s4.heap.push { cls := .type "slice", data := .fields #[vl, vu, vs] } }
  refine tail_any (ops := [.ref a, .ref s4.heap.objs.size]) ht.typeIs (PyProof.Rows.slot_tuple_getitem.lookup) ?_ (by with_unfolding_all rfl)
  refine HT.getItem_tuple_rev ht (Heap.IsSliceOf.new _ vl vu vs) pl pu ps ?_ (by rw [List.size_toArray]; omega)
  refine ⟨.ref _, _, I5.laid (t' := s4.toks) (o := .tup xs.reverse) (fun b ob q => Heap.get?_push_of_some _ q) (Nat.le_refl _) ?_, rfl, q _ (I5.hok.fresh (Nat.le_refl _))⟩
  have e : its.toArray.toList.reverse.toArray = its.reverse.toArray := by simp
  rw [e]
  exact ⟨by rw [List.length_reverse]; exact hz, _, r.reverse, IsTup.new _ _⟩
def revTO : O1 := fun ah v => match dr ah v with
  | .tup l => some (.tup l.reverse)
  | _ => none
theorem ge_revT {e : Expr} {fe : GE} {k : Nat} {p1 p2 p3 : Pos} (he : PE X e (tG X W fe)) : PE X (.Subscript e (.Slice none none (some (.UnaryOp .USub (.Constant (.int 1) k p1) p2)) p3) pos) (tG X W (gM1 revTO fe)) :=
  PE.weak (pe_revT he) fun σ H Q h => by
    obtain ⟨m, env, ah, hE, hR, hp⟩ := h
    refine tG_step hE hR hp (fun _ _ h => h) fun v ah1 m1 H1 x e1 r1 v1 hp1 => ?_
    have hp1 : (lift1 (revTO ah1 v) ah1).post _ _ := hp1
    unfold revTO at hp1
    split at hp1
    · obtain ⟨a, vs, rfl, h1, h2⟩ := VR.tupl r1 v1 (by assumption)
      exact ⟨a, vs, rfl, h1, fun p hn => PQ.laid (PQ.mono e1 hp1) r1 hn (VR.newT r1 hn h2.reverse)⟩
    · exact hp1.elim
end
end G
namespace G
open PySem PySem.Spec PyProof.Rows L2
set_option autoImplicit false
section
variable {K : PySem.W.Frag} {m : MM} {H : Hp}
theorem VRk.vals : ∀ {l : List (AK × AV)} {kvs : List (Key × V)}, VRk K m H l kvs → VRs K m H (l.map (·.2)) (kvs.map (·.2))
  | _, _, .nil => .nil
  | _, _, .cons h r => .cons h (VRk.vals r)
theorem jg_vals {d : Addr} {od : Obj} {kvs : List (Key × V)} {l : List (AK × AV)} (h : H d = some (.frz od (.dK kvs))) (hv : VRk K m H l kvs) : JG K (Itd d od kvs) m H (none, l.map (·.2)) := by
  refine ⟨fun m' H' ah' e r c => ?_, fun m' H' ah' i v e r c hi => ?_, fun m' H' ah' i v x H'' e r c hi y => ?_⟩
  · exact ⟨e.still _ _ h rfl, by rw [List.length_map, hv.length]; exact Nat.le_refl _⟩
  · have := (List.getElem?_eq_some_iff.mp hi).1
    exact ⟨e.still _ _ h rfl, by simpa [hv.length] using this⟩
  · obtain ⟨rfl, k, hk⟩ := y
    obtain ⟨x', hx', rx⟩ := (VRk.vals (hv.mono e)).get hi
    rw [List.getElem?_map, hk] at hx'
    cases hx'
    exact ⟨fun _ _ h => h, rx⟩
theorem jg_items {d : Addr} {od : Obj} {kvs : List (Key × V)} {l : List (AK × AV)} (h : H d = some (.frz od (.dK kvs))) (hv : VRk K m H l kvs) : JG K (Iti d od kvs) m H (none, l.map fun p => .tup [keyV p.1, p.2]) := by
  refine ⟨fun m' H' ah' e r c => ?_, fun m' H' ah' i v e r c hi => ?_, fun m' H' ah' i v x H'' e r c hi y => ?_⟩
  · exact ⟨e.still _ _ h rfl, by rw [List.length_map, hv.length]; exact Nat.le_refl _⟩
  · have := (List.getElem?_eq_some_iff.mp hi).1
    exact ⟨e.still _ _ h rfl, by simpa [hv.length] using this⟩
  · obtain ⟨T, k, w, hk, rfl, hT, rfl⟩ := y
    have hi : (l.map fun p => AV.tup [keyV p.1, p.2])[i]? = some v := hi
    rw [List.getElem?_map] at hi
    obtain ⟨p, hp, rfl⟩ := Option.map_eq_some_iff.mp hi
    obtain ⟨x1, h1, r1⟩ := (hv.mono e).keys.get (show (l.map fun p => keyV p.1)[i]? = some (keyV p.1) by rw [List.getElem?_map, hp]; rfl)
    obtain ⟨x2, h2, r2⟩ := (VRk.vals (hv.mono e)).get (show (l.map (·.2))[i]? = some p.2 by rw [List.getElem?_map, hp]; rfl)
    rw [List.getElem?_map, hk] at h1 h2
    cases h1; cases h2
    refine ⟨fun c o hc => ?_, VR.newT r hT (.cons r1 (.cons r2 .nil))⟩
    by_cases z : c = T
    · subst z; rw [hT] at hc; cases hc
    · rw [upd_ne z]; exact hc
end
section
variable {X : Cx} {W : WX} {tg e : Expr} {fa : GE} {apos cpos : Pos}
def valA (v : AV) : Option Src := match v with
  | .dk l => some (none, l.map (·.2))
  | _ => none
def itmA (v : AV) : Option Src := match v with
  | .dk l => some (none, l.map fun p => .tup [keyV p.1, p.2])
  | _ => none
def gVals (a : GE) : GI := fun env ah => rb (a env ah) fun v ah1 => lift1 (valA v) ah1
def gItems (a : GE) : GI := fun env ah => rb (a env ah) fun v ah1 => lift1 (itmA v) ah1
theorem gi_vals (ha : PE X e (tG X W fa)) (hbase : attributeBase e "values" X.env (eval e X.env) = eval e X.env := by rfl) (hline : (apos.endLine == cpos.line) = true := by rfl) : PI X tg (.Call (.Attribute e "values" apos) [] [] cpos) (tGI X W (gVals fa)) :=
  PI.weak (pi_values (PE.shut ha) hbase hline) fun σ H R h => by
    obtain ⟨m, env, ah, hE, hR, hp⟩ := h
    cases e : fa env ah with
    | bad => unfold gVals at hp; rw [e] at hp; exact hp.elim
    | exc ev ah1 =>
      unfold gVals at hp; rw [e] at hp
      exact ⟨m, env, ah, hE, hR, by rw [e]; exact hp⟩
    | ok v ah1 =>
      unfold gVals at hp; rw [e] at hp
      have hp : (lift1 (valA v) ah1).post _ _ := hp
      cases v with
      | dk l =>
        refine shut_read hE hR e fun m1 H1 d od kvs e1 r1 hd hm hv => ?_
        exact ⟨d, od, kvs, rfl, hd, hp m1 H1 _ e1 r1 (jg_vals hd hv)⟩
      | _ => exact hp.elim
theorem gi_items {elts : List Expr} {kk : Nat} {tpos : Pos} (ha : PE X e (tG X W fa)) (hbase : attributeBase e "items" X.env (eval e X.env) = eval e X.env := by rfl) (hline : (apos.endLine == cpos.line) = true := by rfl) : PI X (.Tuple elts kk tpos) (.Call (.Attribute e "items" apos) [] [] cpos) (tGI X W (gItems fa)) :=
  PI.weak (pi_items (PE.shut ha) hbase hline) fun σ H R h => by
    obtain ⟨m, env, ah, hE, hR, hp⟩ := h
    cases e : fa env ah with
    | bad => unfold gItems at hp; rw [e] at hp; exact hp.elim
    | exc ev ah1 =>
      unfold gItems at hp; rw [e] at hp
      exact ⟨m, env, ah, hE, hR, by rw [e]; exact hp⟩
    | ok v ah1 =>
      unfold gItems at hp; rw [e] at hp
      have hp : (lift1 (itmA v) ah1).post _ _ := hp
      cases v with
      | dk l =>
        refine shut_read hE hR e fun m1 H1 d od kvs e1 r1 hd hm hv => ?_
        exact ⟨d, od, kvs, rfl, hd, hp m1 H1 _ e1 r1 (jg_items hd hv)⟩
      | _ => exact hp.elim
end
theorem meets_enumerate_newB1 {v : Value} {o : Obj} {H : Heap → Prop} (B : Begins v o H) :
    Meets (Builtin.«enumerate.__new__» ⟨[.type "enumerate", v], []⟩) (fun _ R s => H s.heap ∧
      R (.ok (.ret (.ref (s.heap.push o).objs.size))) { s with heap := (s.heap.push o).push { cls := .type "enumerate", data := .fields #[.none, .bool false, .ref s.heap.objs.size, rawInt 0, .none, .none] } }) :=
  .of_wp fun prog w A R s h => by
    obtain ⟨hp, g, d, tk, os⟩ := s; obtain ⟨h1, h⟩ := h
    have hsub := sub_enumerate
    have q1 : ∀ {A' : Around} {E : Value → Shared → Prop} {Q : Value → Shared → Prop}, Q (.ref hp.objs.size) ⟨hp.push o, g, d, tk, os⟩ → wpAny (model prog w) A' (pyIter v) Q E ⟨hp, g, d, tk, os⟩ :=
      fun q => B.iter prog w _ _ ⟨hp, g, d, tk, os⟩ _ h1 q
    wp_walk using q1
    refine wpAny_stack_any fun st => wpAny_pure ?_
    split
    · rename_i c _ _ _ _ _
      cases (c == Value.type "enumerate")
      · wp_walk using q1
        exact ⟨_, rfl, h⟩
      · wp_walk using q1
        exact ⟨_, rfl, h⟩
    · wp_walk using q1
      exact ⟨_, rfl, h⟩
theorem call_enumerate_B {prog : Program} {w : World} {A : Around} {E : Value → Shared → Prop} {s : Shared} {v : Value} {o : Obj} {H : Heap → Prop} {Q : Value → Shared → Prop} (B : Begins v o H) (h1 : H s.heap)
    (h : ∀ h', IsEnum h' (s.heap.objs.size + 1) s.heap.objs.size 0 .none → h'.get? s.heap.objs.size = some o → h'.objs.size = s.heap.objs.size + 2 →
      (∀ b o, s.heap.get? b = some o → h'.get? b = some o) → Q (.ref (s.heap.objs.size + 1)) { s with heap := h' }) :
    wpAny (model prog w) A (call (.type "enumerate") [v]) Q E s := by
  refine callType_new F.called_enumerate (by decide) (F.typeCall_enumerate_1 _) (F.newCall_enumerate_1 _) (fun obj => F.args_object_init_2 obj _) F.entry_enumerate_new
    (meets_enumerate_newB1 B) ⟨h1, ?_⟩
  have hz : (s.heap.push o).objs.size = s.heap.objs.size + 1 := Heap.size_push ..
  show _ ∧ _
  rw [hz]
  have he : IsEnum ((s.heap.push o).push { cls := .type "enumerate", data := .fields #[.none, .bool false, .ref s.heap.objs.size, rawInt 0, .none, .none] }) (s.heap.objs.size + 1) s.heap.objs.size 0 .none := by
    have := Heap.get?_push_size (s.heap.push o) (o := { cls := .type "enumerate", data := .fields #[.none, .bool false, .ref s.heap.objs.size, rawInt 0, .none, .none] }) rfl
    rw [hz] at this; exact this
  refine ⟨⟨_, he, rfl⟩, h _ he (Heap.get?_push_of_some _ (Heap.get?_push_size _ B.free)) (by rw [Heap.size_push, hz]) fun b o x => Heap.get?_push_of_some _ (Heap.get?_push_of_some _ x)⟩
/-- behind the last item -/
theorem draws_end {prog : Program} {w : World} {A : Around} (hh : A.handled = none) (it t : Addr) (hne : t ≠ it) (items : Array Value) {n : Nat} (hn : items[n]? = none) :
    Draws prog w A it [it, t] n (fun i v => items[i]? = some v) (fun i h => i = n ∧ h.IsTupleIter it t i ∧ h.IsTuple t items) where
  live := fun _ _ st => let ⟨o, ho, _⟩ := st.2.1; ⟨o, ho⟩
  frame := fun _ _ _ st hk => ⟨st.1, st.2.1.at fun o e => hk it (by simp) o e, st.2.2.at fun o e => hk t (by simp) o e⟩
  item := fun i s Q E hi st hQ => absurd st.1 (by omega)
  done := fun s Q E st hE => wpAny_nextOf_tuple_end hh st.2.1 st.2.2 hn hE
/-- the tuple at a, each item in a new pair -/
def IteT (K : PySem.W.Frag) (a : Addr) : It :=
  ⟨fun i H => ∃ (xs : List V) (x : V), SqT K H a xs ∧ xs[i]? = some x, fun i H v H' => ∃ T x, v = .ref T ∧ H T = none ∧ H' = upd H T (.tup [.int (i : Nat), x]) ∧ ∀ xs, SqT K H a xs → xs[i]? = some x, fun i H => ∃ xs : List V, SqT K H a xs ∧ xs.length ≤ i⟩
theorem turn_enumT {P : Program} {w : World} {K : PySem.W.Frag} {elts : List Expr} {kk : Nat} {tpos : Pos} (a e it : Addr) :
    Turn P w K (.Tuple elts kk tpos) (IteT K a) [e, it] e (fun i h => (∃ old, IsEnum h e it ((i : Nat) : Int) old) ∧ h.IsTupleIter it a i ∧ e ≠ it) where
  mem := by simp
  obj := fun i h st b hb => by
    obtain ⟨⟨old, he⟩, ⟨o, ho, hc, hd⟩, _⟩ := st
    have e' : b = e ∨ b = it := by simpa using hb
    rcases e' with z | z
    · rw [z]; exact ⟨_, he, fun v q => nomatch q⟩
    · rw [z]; exact ⟨o, ho, fun v q => by rw [hd] at q; cases q⟩
  keep := fun i h h' st k => let ⟨⟨old, he⟩, hi, hne⟩ := st; ⟨⟨old, k e (by simp) _ he⟩, hi.at fun o q => k it (by simp) o q, hne⟩
  item := by
    intro X hP hw hK hc i pins s σ H E I hf st hg
    subst hP hw hK
    obtain ⟨⟨old, he⟩, hit, hne⟩ := st
    obtain ⟨xs, x, hq, hx⟩ := hg
    obtain ⟨its, rv, p, hz⟩ := I.tuple hq
    obtain ⟨u, hu, ru⟩ := rv.get hx
    have hel : e < s.heap.objs.size := Heap.lt_size he
    have hil : it < s.heap.objs.size := by obtain ⟨_, q, _⟩ := hit; exact Heap.lt_size q
    have hT0 : s.heap.IsTuple a its.toArray := p
    have hae : e ≠ a := fun z => by
      subst z
      obtain ⟨o, ho, hcl, _⟩ := hT0
      rw [he] at ho; cases ho; injection hcl with hcl; exact absurd hcl (by decide)
    have hai : a ≠ it := fun z => by
      subst z
      obtain ⟨o, ho, hcl, _⟩ := hT0
      obtain ⟨o', ho', hcl', _⟩ := hit
      rw [ho] at ho'; cases ho'; rw [hcl] at hcl'; injection hcl' with hcl'; exact absurd hcl' (by decide)
    have hsz : i < its.toArray.size := by
      have := (List.getElem?_eq_some_iff.mp hu).1
      simpa using this
    refine wpAny_pyNext_enum_itemD (Draws.tuple (A := X.A.in1) (I.ok.hd hc) it a hai its.toArray) he ⟨hit, hT0⟩ hsz hne (by simp [hne, hae]) fun x' h' tk hx' ho hst' hT hsz' hk => ?_
    have ex : x' = u := by
      have hx' : its.toArray[i]? = some x' := hx'
      have hu' : its.toArray[i]? = some u := by simpa using hu
      rw [hu'] at hx'; exact (Option.some.inj hx').symm
    subst ex
    refine ⟨_, rfl, wpAny_letOwnedTupleGo_enum (s := { s with heap := h', toks := tk + 1 }) ho fun h'' he' sb => ?_⟩
    have hT2 : h''.get? s.heap.objs.size = some { cls := .type "tuple", data := .seq #[.int i tk, x'] } := (sb.2 _ (Nat.ne_of_gt hel)).trans hT
    have new : ObjOk X.prog X.w (upd H s.heap.objs.size (.tup [.int (i : Nat), x])) h'' s.heap.objs.size (.tup [.int (i : Nat), x]) :=
      ⟨by show 2 ≤ sizeLine; decide, [.int i tk, x'], .cons ⟨_, rfl⟩ (.cons ru .nil), ⟨_, hT2, rfl, _, rfl⟩⟩
    have I1 : Inv X pins σ (upd H s.heap.objs.size (.tup [.int (i : Nat), x])) { s with heap := h'', toks := tk + 1 } :=
      I.turnedNew (ch := [e, it]) (fun b ob hb q => (sb.2 b (fun z => hb (by simp [z]))).trans (hk b ob (fun z => hb (by simp [z])) (fun z => hb (by simp [z])) q)) hf (Nat.le_refl _) new
    refine ⟨.ref s.heap.objs.size, _, I1, rfl, ⟨_, x, rfl, I.hok.fresh (Nat.le_refl _), rfl, fun ys hy => by rw [I.tuple_inj hy hq]; exact hx⟩, ⟨⟨x', ?_⟩, hst'.1.at fun o q => (sb.2 it (Ne.symm hne)).trans q, hne⟩, fun b hb => ?_⟩
    · have e1 : ((i + 1 : Nat) : Int) = (i : Int) + 1 := by omega
      rw [e1]; exact he'
    · have hb' : b < s.heap.objs.size := by
        have e' : b = e ∨ b = it := by simpa using hb
        rcases e' with z | z
        · rw [z]; exact hel
        · rw [z]; exact hil
      rw [upd_ne (Nat.ne_of_lt hb')]
      exact (hf b hb).1
  done := by
    intro X hP hw hK hc i pins s σ H E I hf st hg
    subst hP hw hK
    obtain ⟨⟨old, he⟩, hit, hne⟩ := st
    obtain ⟨xs, hq, hx⟩ := hg
    obtain ⟨its, rv, p, hz⟩ := I.tuple hq
    obtain ⟨f0, f1, f2, f3, f4, f5⟩ := hf it (by simp)
    have hl := rv.length
    have hT0 : s.heap.IsTuple a its.toArray := p
    have hai : a ≠ it := fun z => by
      subst z
      obtain ⟨o, ho, hcl, _⟩ := hT0
      obtain ⟨o', ho', hcl', _⟩ := hit
      rw [ho] at ho'; cases ho'; rw [hcl] at hcl'; injection hcl' with hcl'; exact absurd hcl' (by decide)
    exact wpAny_pyNext_enum_endD (draws_end (A := X.A.in1) (I.ok.hd hc) it a hai its.toArray (n := i) (by simp; omega)) he ⟨rfl, hit, hT0⟩ fun h' eb => ⟨rfl, I.turned (t' := s.toks) (fun b o hb q => eb b o hb q) f0 f1 f3 f4 f5⟩
  self := fun A i s Q E st h => let ⟨⟨_, he⟩, _⟩ := st; wpAny_pyIter_enum he h
def iEnumT (K : PySem.W.Frag) (ta : TA) : TI := fun σ H R => ta σ H fun vs H1 => ∃ a xs, vs = [.ref a] ∧ SqT K H1 a xs ∧ R (IteT K a) H1
theorem pi_enumT {X : Cx} {e : Expr} {ta : TA} {p pos tpos : Pos} {elts : List Expr} {kk : Nat} (hg : Gl X "enumerate") (hm : X.mg "enumerate" = none) (ha : PA X [e] ta) (hs : starEach [e] X.env = [(false, eval e X.env)] := by rfl) :
    PI X (.Tuple elts kk tpos) (.Call (.Name "enumerate" p) [e] [] pos) (iEnumT X.K ta) := by
  refine ⟨fun pins s σ H R I h => ?_⟩
  refine Call_ (ld_blt I hg hm boot_enumerate (PyProof.Rows.callWith_type1 (thn (ha.run pos pins s σ H _ I h) fun us s1 ⟨vs, H1, I1, r1, q1⟩ => ?_) hs rfl))
  obtain ⟨a, xs, ex, hq, q⟩ := q1
  subst ex
  cases r1 with
  | cons r rr =>
    cases rr
    cases r
    obtain ⟨its, rv, p', hz⟩ := I1.tuple hq
    refine call_enumerate_B (begins_tuple a its.toArray) p' fun h' he hit hsz hk => wpAny_pyIter_enum he ?_
    have I2 : Inv X pins σ H1 { s1 with heap := h' } := I1.kept (t' := s1.toks) hk
    refine ⟨s1.heap.objs.size + 1, [s1.heap.objs.size + 1, s1.heap.objs.size], _, _, H1, rfl, I2, turn_enumT a (s1.heap.objs.size + 1) s1.heap.objs.size, ⟨⟨.none, he⟩, ⟨_, hit, rfl, rfl⟩, Nat.succ_ne_self _⟩, fun b hb => ?_, q⟩
    have e' : b = s1.heap.objs.size + 1 ∨ b = s1.heap.objs.size := by simpa using hb
    have hle : s1.heap.objs.size ≤ b := by
      rcases e' with z | z
      · rw [z]; exact Nat.le_add_right _ _
      · rw [z]; exact Nat.le_refl _
    exact I1.fpOk hle (I1.hok.fresh hle)
def enA : Nat → List AV → List AV
  | _, [] => []
  | n, v :: l => .tup [.int n, v] :: enA (n + 1) l
theorem enA_length : ∀ (n : Nat) (l : List AV), (enA n l).length = l.length
  | _, [] => rfl
  | n, v :: l => by rw [enA, List.length_cons, enA_length (n + 1) l, List.length_cons]
theorem enA_get : ∀ {n : Nat} {l : List AV} {i : Nat} {v : AV}, (enA n l)[i]? = some v → ∃ x, l[i]? = some x ∧ v = .tup [.int ((n + i : Nat) : Int), x]
  | n, [], i, v, h => by rw [enA] at h; cases h
  | n, x :: l, 0, v, h => by
    rw [enA] at h
    cases h
    exact ⟨x, rfl, rfl⟩
  | n, x :: l, i + 1, v, h => by
    rw [enA, List.getElem?_cons_succ] at h
    obtain ⟨y, hy, e⟩ := enA_get h
    exact ⟨y, by rw [List.getElem?_cons_succ]; exact hy, by rw [e, show n + 1 + i = n + (i + 1) by omega]⟩
theorem jg_enumT {K : PySem.W.Frag} {m : MM} {H : Hp} {a : Addr} {l : List AV} (h : ∀ m' H' ah', Ext m H m' H' → Rel K m' ah' H' → ∃ vs, SqT K H' a vs ∧ VRs K m' H' l vs) : JG K (IteT K a) m H (none, enA 0 l) := by
  refine ⟨fun m' H' ah' e r c => ?_, fun m' H' ah' i v e r c hv => ?_, fun m' H' ah' i v x H'' e r c hv y => ?_⟩
  · obtain ⟨vs, h1, h2⟩ := h m' H' ah' e r
    exact ⟨vs, h1, by show vs.length ≤ (enA 0 l).length; rw [enA_length, h2.length]; exact Nat.le_refl _⟩
  · obtain ⟨vs, h1, h2⟩ := h m' H' ah' e r
    obtain ⟨p, e1, rfl⟩ := enA_get hv
    obtain ⟨x, hx, _⟩ := h2.get e1
    exact ⟨vs, x, h1, hx⟩
  · obtain ⟨vs, h1, h2⟩ := h m' H' ah' e r
    obtain ⟨p, e1, rfl⟩ := enA_get hv
    obtain ⟨T, x', rfl, hT, rfl, g1⟩ := y
    obtain ⟨x2, hx, rx⟩ := h2.get e1
    have ex : x2 = x' := Option.some.inj (hx.symm.trans (g1 vs h1))
    subst ex
    refine ⟨fun c o hc => ?_, VR.newT r hT (.cons (by rw [Nat.zero_add]; exact .int _) (.cons rx .nil))⟩
    by_cases z : c = T
    · subst z; rw [hT] at hc; cases hc
    · rw [upd_ne z]; exact hc
section
variable {X : Cx} {W : WX} {e : Expr} {fr : GA} {p pos tpos : Pos} {elts : List Expr} {kk : Nat}
def enR (l : List AV) (ah : AH) : Res Src := match l with
  | [.tup p] => .ok (none, enA 0 p) ah
  | _ => .bad
def gEnum (r : GA) : GI := fun env ah => rb (r env ah) fun l ah1 => enR l ah1
theorem gi_enum (hg : Gl X "enumerate") (hm : X.mg "enumerate" = none) (ha : PA X [e] (tGA X W fr)) (hs : starEach [e] X.env = [(false, eval e X.env)] := by rfl) :
    PI X (.Tuple elts kk tpos) (.Call (.Name "enumerate" p) [e] [] pos) (tGI X W (gEnum fr)) :=
  PI.weak (pi_enumT hg hm ha hs) fun σ H R h => by
    obtain ⟨m, env, ah, hE, hR, hp⟩ := h
    refine tGA_step hE hR hp (fun _ _ h => h) fun l ah1 m1 H1 xs e1 r1 v1 hp1 => ?_
    unfold enR at hp1
    split at hp1
    · cases v1 with
      | cons hx hr =>
        cases hr
        cases hx with
        | tup a1 a2 =>
          refine ⟨_, _, rfl, a1, hp1 m1 H1 _ e1 r1 (jg_enumT fun m' H' ah' ex r' => ?_)⟩
          exact ⟨_, ex.sqT a1, a2.mono ex⟩
    · exact hp1.elim
end
end G
namespace G
open PySem PySem.Spec PyProof.Rows L2
set_option autoImplicit false
/-- the items of a list are pairs -/
def PrL (K : PySem.W.Frag) (H : Hp) : List V → List (Key × V) → Prop := Paired fun x kv => ∃ T, x = .ref T ∧ SqT K H T [kV kv.1, kv.2]
def tDictOf (K : PySem.W.Frag) (ta : TA) : TE := fun σ H Q => ta σ H fun vs H1 => ∃ a xs kvs, vs = [.ref a] ∧ SqL K H1 a xs ∧ PrL K H1 xs kvs ∧ ∀ p, H1 p = none → Q (.ref p) (upd H1 p (.dK (mergeK [] kvs)))
section
variable {X : Cx} {pins : List (Addr × Obj)} {σ : L2.St} {H : Hp} {s : Shared}
theorem prl_items (I : Inv X pins σ H s) : ∀ {xs : List V} {kvs : List (Key × V)} {its : List Value}, PrL X.K H xs kvs → Vals xs its →
    ∃ (Ts : Nat → Addr) (ws : List (Value × Value)) (rs : List (Key × Value)), its.length = ws.length ∧ ws.length = rs.length ∧ KV kvs rs ∧
      (∀ (j : Nat) (k v : Value), ws[j]? = some (k, v) → its[j]? = some (.ref (Ts j)) ∧ PairAt s.heap (Ts j) k v) ∧
      ∀ (j : Nat) (k v : Value), ws[j]? = some (k, v) → ∃ q : Key, rs[j]? = some (q, v) ∧ (mixKind X.prog X.w).is q k = true
  | _, _, _, .nil, .nil => ⟨fun _ => 0, [], [], rfl, rfl, .nil, fun j k v h => (by cases h), fun j k v h => (by cases h)⟩
  | _, kv0 :: _, _, .cons h r, .cons hv rv => by
    obtain ⟨Ts, ws, rs, e1, e2, kv, h1, h2⟩ := prl_items I r rv
    obtain ⟨T, rfl, sq⟩ := h
    have hv : _ = Value.ref T := hv
    subst hv
    obtain ⟨its2, rv2, p2, _⟩ := I.tuple sq
    obtain ⟨key, val, rfl, hk, hval⟩ : ∃ key val, its2 = [key, val] ∧ RelV (kV kv0.1) key ∧ RelV kv0.2 val := by
      cases rv2 with
      | cons a1 r1 =>
        cases r1 with
        | cons a2 r2 =>
          cases r2
          exact ⟨_, _, rfl, a1, a2⟩
    refine ⟨fun j => match j with | 0 => T | j + 1 => Ts j, (key, val) :: ws, (kv0.1, val) :: rs, by rw [List.length_cons, List.length_cons, e1], by rw [List.length_cons, List.length_cons, e2], .cons ⟨rfl, hval⟩ kv, fun j k v hj => ?_, fun j k v hj => ?_⟩
    · cases j with
      | zero => cases hj; exact ⟨rfl, .inl p2⟩
      | succ j => exact h1 j k v hj
    · cases j with
      | zero => cases hj; exact ⟨_, rfl, kV_is hk⟩
      | succ j => exact h2 j k v hj
end
theorem pe_dictOf {X : Cx} {e : Expr} {ta : TA} {p pos : Pos} (hc : X.calm = true) (hg : Gl X "dict") (hm : X.mg "dict" = none) (ha : PA X [e] ta) (hs : starEach [e] X.env = [(false, eval e X.env)] := by rfl) :
    PE X (.Call (.Name "dict" p) [e] [] pos) (tDictOf X.K ta) := by
  refine ⟨fun pins s σ H Q I h => ?_⟩
  refine Call_ (ld_blt I hg hm PyProof.Rows.boot_dict (PyProof.Rows.callWith_type1 (thn (ha.run pos pins s σ H _ I h) fun us s1 ⟨vs, H1, I1, r1, q1⟩ => ?_) hs rfl))
  obtain ⟨a, xs, kvs, ex, hq, pr, q⟩ := q1
  subst ex
  cases r1 with
  | cons r rr =>
    cases rr
    cases r
    obtain ⟨its, rv, p', hz⟩ := I1.list hq
    obtain ⟨Ts, ws, rs, e1, e2, kv, h1, h2⟩ := prl_items I1 pr rv
    have hl := rv.length
    have hn : ws.length ≤ sizeLine := by omega
    have hlr : rs.length = ws.length := e2.symm
    have hkl : kvs.length = rs.length := Paired.length kv
    refine call_dict_pairs (knd := mixKind X.prog X.w) (kvs := rs) (PairArg.list a its.toArray Ts ws) (I1.ok.hd hc) ⟨?_, by simpa using e1, fun j k v hj => ⟨by simpa using (h1 j k v hj).1, (h1 j k v hj).2⟩⟩ ⟨hlr, fun i key v hr => h2 i key v hr⟩ hn fun h' tk hd hk => ?_
    · exact p'
    · refine ⟨.ref s1.heap.objs.size, _, ?_, rfl, q _ (I1.hok.fresh (Nat.le_refl _))⟩
      have hzm : (mergeK [] kvs).length ≤ sizeLine := by
        have h1 := length_mergeK kvs []
        rw [List.length_nil] at h1
        omega
      exact I1.laid (t' := tk) (fun b o z => hk b o (by simp) z) (Nat.le_refl _) ⟨hzm, beq_eq_false_iff_ne.mpr (Ne.symm (Nat.ne_of_lt I1.big)), _, kv.merge .nil, hd⟩
def prA : AV → Option (AK × AV)
  | .tup [k, v] => (keyA k).map fun q => (q, v)
  | _ => none
def prsA : List AV → Option (List (AK × AV))
  | [] => some []
  | v :: l => match prA v, prsA l with
    | some p, some ps => some (p :: ps)
    | _, _ => none
section
variable {X : Cx} {W : WX} {e : Expr} {fr : GA} {p pos : Pos}
theorem prsA_rel {m : MM} {H : Hp} : ∀ {l : List AV} {xs : List V} {ps : List (AK × AV)}, VRs X.K m H l xs → prsA l = some ps → ∃ kvs, PrL X.K H xs kvs ∧ VRk X.K m H ps kvs
  | _, _, ps, .nil, e => by cases e; exact ⟨[], .nil, .nil⟩
  | v :: l, _, ps, .cons hv hr, e => by
    have e : (match prA v, prsA l with
      | some p, some ps => some (p :: ps)
      | _, _ => none) = some ps := e
    split at e
    · rename_i q qs h1 h2
      cases e
      obtain ⟨kvs, k1, k2⟩ := prsA_rel hr h2
      unfold prA at h1
      split at h1
      · rename_i k w
        cases hv with
        | tup a1 a2 =>
          obtain ⟨x, y, rfl, hx, hy⟩ := a2.two
          cases hk : keyA k with
          | none => rw [hk] at h1; cases h1
          | some q =>
            rw [hk] at h1
            cases h1
            obtain rfl := keyA_kV hk hx
            exact ⟨(akey q, y) :: kvs, .cons ⟨_, rfl, a1⟩ k1, .cons hy k2⟩
      · cases h1
    · cases e
def dcR (l : List AV) (ah : AH) : Res (List (AK × AV)) := match l with
  | [w] => match dr ah w with
    | .lst l => lift1 ((prsA l).map fun ps => mergeA [] ps) ah
    | _ => .bad
  | _ => .bad
def gDictOf (r : GA) : GE := fun env ah => rb (r env ah) fun l ah1 => rb (dcR l ah1) fun ps ah2 => .ok (.dk ps) ah2
def gDictOfH (r : GA) : GE := fun env ah => rb (r env ah) fun l ah1 => rb (dcR l ah1) fun ps ah2 => .ok (.ref ah2.length) (ah2 ++ [.dk ps])
theorem dcR_ok {l : List AV} {ah : AH} {α : Type} {g : List (AK × AV) → AH → Res α} {P : α → AH → Prop} {E : EV → AH → Prop} (h : (rb (dcR l ah) g).post P E) : ∃ w l' ps, l = [w] ∧ dr ah w = .lst l' ∧ prsA l' = some ps ∧ (g (mergeA [] ps) ah).post P E := by
  unfold dcR at h
  split at h
  · split at h
    · rename_i w _ l' e
      cases hp : prsA l' with
      | none => rw [hp] at h; exact h.elim
      | some ps => rw [hp] at h; exact ⟨w, l', ps, rfl, e, hp, h⟩
    · exact h.elim
  · exact h.elim
theorem ge_dictOf (hc : X.calm = true) (hg : Gl X "dict") (hm : X.mg "dict" = none) (ha : PA X [e] (tGA X W fr)) (hs : starEach [e] X.env = [(false, eval e X.env)] := by rfl) :
    PE X (.Call (.Name "dict" p) [e] [] pos) (tG X W (gDictOf fr)) :=
  PE.weak (pe_dictOf hc hg hm ha hs) fun σ H Q h => by
    obtain ⟨m, env, ah, hE, hR, hp⟩ := h
    refine tGA_step hE hR hp (fun _ _ h => h) fun l ah1 m1 H1 xs e1 r1 v1 hp1 => ?_
    obtain ⟨w, l', ps, rfl, ed, ep, hp2⟩ := dcR_ok hp1
    cases v1 with
    | cons hx hr =>
      cases hr
      obtain ⟨a, vs, rfl, h1, h2⟩ := VR.list r1 hx ed
      obtain ⟨kvs, k1, k2⟩ := prsA_rel h2 ep
      exact ⟨a, vs, kvs, rfl, SqL.of h1, k1, fun p hn => PQ.laid (PQ.mono e1 hp2) r1 hn (.dk (.inl upd_same) (r1.not hn) ((VRk.merge ps k2 .nil).mono (Ext.new hn)))⟩
theorem ge_dictOfH (hc : X.calm = true) (hg : Gl X "dict") (hm : X.mg "dict" = none) (ha : PA X [e] (tGA X W fr)) (hs : starEach [e] X.env = [(false, eval e X.env)] := by rfl) :
    PE X (.Call (.Name "dict" p) [e] [] pos) (tG X W (gDictOfH fr)) :=
  PE.weak (pe_dictOf hc hg hm ha hs) fun σ H Q h => by
    obtain ⟨m, env, ah, hE, hR, hp⟩ := h
    refine tGA_step hE hR hp (fun _ _ h => h) fun l ah1 m1 H1 xs e1 r1 v1 hp1 => ?_
    obtain ⟨w, l', ps, rfl, ed, ep, hp2⟩ := dcR_ok hp1
    cases v1 with
    | cons hx hr =>
      cases hr
      obtain ⟨a, vs, rfl, h1, h2⟩ := VR.list r1 hx ed
      obtain ⟨kvs, k1, k2⟩ := prsA_rel h2 ep
      exact ⟨a, vs, kvs, rfl, SqL.of h1, k1, fun p hn => PQ.newD (PQ.mono e1 hp2) r1 (VRk.merge ps k2 .nil) hn⟩
end
def clrA (ah : AH) (w : AV) : Res AV := match w with
  | .ref n => match ah[n]? with
    | some (.dk _) => .ok .non (ah.set n (.dk []))
    | _ => .bad
  | _ => .bad
def gClr (o : GE) : GE := fun env ah => rb (o env ah) fun w ah1 => clrA ah1 w
section
variable {X : Cx} {W : WX} {o : Expr} {fa : GE} {apos cpos : Pos}
theorem ge_clr (ha : PE X o (tG X W fa)) (hbase : attributeBase o "clear" X.env (eval o X.env) = eval o X.env := by rfl) (hline : (apos.endLine == cpos.line) = true := by rfl) :
    PE X (.Call (.Attribute o "clear" apos) [] [] cpos) (tG X W (gClr fa)) :=
  PE.weak (pe_dclear ha hbase hline) fun σ H Q hh => by
    obtain ⟨m, env, ah, hE, hR, hp⟩ := hh
    refine tG_step hE hR hp (fun _ _ h => h) fun w ah1 m1 H1 x e1 r1 v1 hp1 => ?_
    have hp1 : (clrA ah1 w).post _ _ := hp1
    unfold clrA at hp1
    split at hp1
    · cases v1 with
      | ref hm =>
        rename_i n a
        obtain ⟨ob, ho, qo⟩ := r1.at hm
        rw [ho] at hp1
        cases ob with
        | lst l => exact hp1.elim
        | dk l =>
          obtain ⟨kvs, h1, h2⟩ := qo
          have ex : Ext m1 H1 m1 (upd H1 a (.dK [])) := Ext.write r1 (List.mem_of_getElem? hm)
          exact ⟨.inr (.inr (.inl ⟨rfl, .inl ⟨kvs, h1⟩⟩)), a, kvs, rfl, rfl, h1, hp1 m1 _ _ (e1.trans ex) (r1.write hm rfl ⟨_, rfl, .nil⟩) .non⟩
    · exact hp1.elim
end
end G
namespace G
open PySem PySem.Spec PyProof.Rows L2
set_option autoImplicit false
inductive HitsD (K : PySem.W.Frag) (H : Hp) (ls : List (Key × V)) : List (Key × V) → Bool → Prop
  | nil : HitsD K H ls [] true
  | miss {k : Key} {v : V} {r : List (Key × V)} : valV ls k = none → HitsD K H ls ((k, v) :: r) false
  | hit {k : Key} {v y : V} {r : List (Key × V)} {d e : PyData} {b : Bool} : valV ls k = some y → Dp K H v d → Dp K H y e → SeqAt.shaped d = true → SeqAt.shaped e = true → HitsD K H ls r b → HitsD K H ls ((k, v) :: r) (PyData.eqv d e && b)
section
variable {X : Cx} {pins : List (Addr × Obj)} {σ : L2.St} {H : Hp} {s : Shared}
theorem hits_of (I : Inv X pins σ H s) (hu : X.A.units + 65 < cLine) {ls : List (Key × V)} {vb : List (Key × Value)} (rb : KV ls vb) : ∀ {ks : List (Key × V)} {va : List (Key × Value)} {b : Bool}, KV ks va → HitsD X.K H ls ks b → PySem.W.KeqHits X.A.in1 s vb va b
  | _, _, _, .nil, .nil => .nil
  | (k, v) :: _, (k', u) :: _, _, .cons h r, .miss hn => by
    obtain ⟨h1, h2⟩ := h
    have h1 : k = k' := h1
    subst h1
    have := rb.val k
    rw [hn] at this
    refine .miss ?_
    cases e : valueAt vb k with
    | none => rfl
    | some y => rw [e] at this; exact this.elim
  | (k, v) :: _, (k', u) :: _, _, .cons h r, .hit (y := y) (d := d) (e := e) hy d1 d2 s1 s2 hr => by
    obtain ⟨h1, h2⟩ := h
    have h1 : k = k' := h1
    subst h1
    have := rb.val k
    rw [hy] at this
    obtain ⟨z, hz, rz⟩ := this.some_of
    obtain ⟨as, r1⟩ := Dp.reads I d v u d1 h2
    obtain ⟨bs, r2⟩ := Dp.reads I e y z d2 rz
    exact .hit hz (SeqAt.eqAt_reads d e X.A.in1 s u z as bs r1 r2 (SeqAt.canLay_of_shaped s1) (SeqAt.canLay_of_shaped s2) (SeqAt.room_of_shaped s1 (by show X.A.units + 1 + 64 < cLine; omega))) (hits_of I hu rb r hr)
end
def rDkD (K : PySem.W.Frag) (x y : V) (H : Hp) (P : Bool → Prop) : Prop := ∃ a b ks ls r, x = .ref a ∧ y = .ref b ∧ Rd H a (.dK ks) ∧ Rd H b (.dK ls) ∧ HitsD K H ls ks r ∧ P (ks.length == ls.length && r)
section
variable {X : Cx}
theorem op_eqDkD (hu : X.A.units + 65 < cLine) : OpR X (compareOp .Eq) fun x y H Q => rDkD X.K x y H fun b => Q (.bl b) H := by
  intro pins s σ H x y v u Q I rx ry h
  obtain ⟨a, b, ks, ls, r, rfl, rfl, ea, eb, he, q⟩ := h
  cases rx; cases ry
  obtain ⟨_, ya, va, ra, da⟩ := dk_rd I.hok ea
  obtain ⟨_, yb, vb, rb, db⟩ := dk_rd I.hok eb
  refine PySem.W.keq_eq (knd := mixKind X.prog X.w) (r := r) ya yb da db (by omega) (fun z => hits_of I hu rb ra he) ?_
  rw [← ra.length, ← rb.length]
  exact ⟨.bl _, H, I, rfl, q⟩
theorem op_neDkD (hu : X.A.units + 65 < cLine) : OpR X (compareOp .NotEq) fun x y H Q => rDkD X.K x y H fun b => Q (.bl !b) H := by
  intro pins s σ H x y v u Q I rx ry h
  obtain ⟨a, b, ks, ls, r, rfl, rfl, ea, eb, he, q⟩ := h
  cases rx; cases ry
  obtain ⟨_, ya, va, ra, da⟩ := dk_rd I.hok ea
  obtain ⟨_, yb, vb, rb, db⟩ := dk_rd I.hok eb
  refine PySem.W.keq_ne (knd := mixKind X.prog X.w) (r := r) ya yb da db (by omega) (fun z => hits_of I hu rb ra he) ?_
  rw [← ra.length, ← rb.length]
  exact ⟨.bl _, H, I, rfl, q⟩
/-- how the entries of one are found in the other -/
def hitsA (l' : List (AK × AV)) : List (AK × AV) → Option Bool
  | [] => some true
  | (k, v) :: r => match lookK l' k with
    | none => some false
    | some y => if shA v && shA y then (hitsA l' r).map fun b => eqA v y && b else none
def eqDO : O2 := fun ah v w => match dr ah v, dr ah w with
  | .dk l, .dk l' => (hitsA l' l).map fun b => .bl (l.length == l'.length && b)
  | _, _ => none
theorem VR.shD {m : MM} {H : Hp} {ah : AH} {v : AV} {x : V} (r : Rel X.K m ah H) (h : VR X.K m H v x) (hs : shA v = true) : Dp X.K H x (toD v) := by
  have ok : okA v = true := by unfold shA at hs; rw [Bool.and_eq_true] at hs; exact hs.1
  exact VR.dp v x h ok
theorem hitsA_rel {m : MM} {H : Hp} {ah : AH} (r : Rel X.K m ah H) {l' : List (AK × AV)} {ls : List (Key × V)} (hl : VRk X.K m H l' ls) : ∀ {l : List (AK × AV)} {ks : List (Key × V)} {b : Bool}, VRk X.K m H l ks → hitsA l' l = some b → HitsD X.K H ls ks b
  | _, _, b, .nil, e => by cases e; exact .nil
  | (k, v) :: l, _, b, .cons hv hr, e => by
    unfold hitsA at e
    rcases hl.look k with ⟨h1, h2⟩ | ⟨w, x, h1, h2, h3⟩
    · rw [h1] at e
      cases e
      exact .miss h2
    · rw [h1] at e
      have e : (if shA v && shA w then (hitsA l' l).map fun b => eqA v w && b else none) = some b := e
      split at e
      · rename_i hs
        rw [Bool.and_eq_true] at hs
        obtain ⟨b', hb, rfl⟩ := Option.map_eq_some_iff.mp e
        have o1 : okA v = true := by have := hs.1; unfold shA at this; rw [Bool.and_eq_true] at this; exact this.1
        have o2 : okA w = true := by have := hs.2; unfold shA at this; rw [Bool.and_eq_true] at this; exact this.1
        rw [← okA_eqv v w o1 o2]
        exact .hit h2 (VR.shD r hv hs.1) (VR.shD r h3 hs.2) (sh_of hs.1) (sh_of hs.2) (hitsA_rel r hl hr hb)
      · cases e
theorem eqD_read {m : MM} {H : Hp} {ah : AH} {v w z : AV} {x y : V} {P : Bool → Prop} (r : Rel X.K m ah H) (hv : VR X.K m H v x) (hw : VR X.K m H w y) (hf : eqDO ah v w = some z) (q : ∀ b, z = .bl b → P b) : rDkD X.K x y H P := by
  unfold eqDO at hf
  cases e1 : dr ah v with
  | dk l =>
    cases e2 : dr ah w with
    | dk l' =>
      rw [e1, e2] at hf
      obtain ⟨b, hb, rfl⟩ := Option.map_eq_some_iff.mp hf
      obtain ⟨a, ks, rfl, p1, p2⟩ := VR.dkE r hv e1
      obtain ⟨b', ls, rfl, p3, p4⟩ := VR.dkE r hw e2
      refine ⟨a, b', ks, ls, b, rfl, rfl, p1, p3, hitsA_rel r p4 p2 hb, ?_⟩
      rw [← p2.length, ← p4.length]
      exact q _ rfl
    | _ => rw [e1, e2] at hf; cases hf
  | _ => rw [e1] at hf; cases e2 : dr ah w <;> rw [e2] at hf <;> cases hf
theorem eqD_g (hu : X.A.units + 65 < cLine) : ∃ r, OpR X (compareOp .Eq) r ∧ OpG X r eqDO := by
  refine ⟨_, op_eqDkD hu, ?_⟩
  intro m H ah v w x y z Q r hv hw hf q
  exact eqD_read r hv hw hf fun b e => by subst e; exact q.here r (.bl b)
theorem neD_g (hu : X.A.units + 65 < cLine) : ∃ r, OpR X (compareOp .NotEq) r ∧ OpG X r (notO eqDO) := by
  refine ⟨_, op_neDkD hu, ?_⟩
  intro m H ah v w x y z Q r hv hw hf q
  unfold notO at hf
  split at hf
  · rename_i b hb
    cases hf
    exact eqD_read (P := fun b => Q (.bl (!b)) H) r hv hw hb fun b' e => by cases e; exact q.here r (.bl (!b))
  · cases hf
end
end G
namespace G
open PySem PySem.Spec PyProof.Rows L2
set_option autoImplicit false
def scl : AV → Bool
  | .non => true
  | .bl _ => true
  | .int _ => true
  | .str _ => true
  | _ => false
def flatT : AV → Bool
  | .tup l => l.all scl
  | _ => false
section
variable {K : PySem.W.Frag} {m m' : MM} {H H' : Hp}
theorem VR.scl {v : AV} {x : V} (h : scl v = true) (r : VR K m H v x) : VR K m' H' v x := by
  cases r <;> first | exact .non | exact .bl _ | exact .int _ | exact .str _ | cases h
theorem VRs.scl : ∀ {l : List AV} {xs : List V}, l.all G.scl = true → VRs K m H l xs → VRs K m' H' l xs
  | _, _, _, .nil => .nil
  | _, _, h, .cons a b => by
    rw [List.all_cons, Bool.and_eq_true] at h
    exact .cons (VR.scl h.1 a) (VRs.scl h.2 b)
theorem VRk.flat (hs : ∀ a vs, SqT K H a vs → SqT K H' a vs) : ∀ {l : List (AK × AV)} {kvs : List (Key × V)}, (l.all fun p => flatT p.2) = true → VRk K m H l kvs → VRk K m' H' l kvs
  | _, _, _, .nil => .nil
  | (k, v) :: _, _, h, .cons a b => by
    rw [List.all_cons, Bool.and_eq_true] at h
    refine .cons ?_ (VRk.flat hs h.2 b)
    cases a with
    | tup a1 a2 => exact .tup (hs _ _ a1) (VRs.scl h.1 a2)
    | _ => exact absurd h.1 (by simp [flatT])
end
noncomputable def gLkD (i : Nat) (f : GE) : GE := fun env ah => match env[i]? with
  | some (some (.ref n)) => match ah[n]? with
    | some (.dk l) => if (l.all fun p => flatT p.2) = true then match f ((List.replicate env.length none).set i (some (.dk l))) [] with
        | .ok (.lst r) [] => if r.all scl = true then .ok (.lst r) ah else .bad
        | _ => .bad
      else .bad
    | _ => .bad
  | _ => .bad
section
variable {X : Cx} {W : WX} {e : Expr} {f : GE}
theorem lk_sq {K : PySem.W.Frag} {H : Hp} {d : Addr} {kvs : List (Key × V)} {o : HO} (hd : H d = some (.dK kvs)) {a : Addr} {vs : List V} (h : SqT K H a vs) : SqT K (upd H d o) a vs := by
  rcases h with (h | ⟨u, h⟩) | h
  · exact .inl (.inl (by rw [upd_ne (fun z => by subst z; rw [hd] at h; cases h)]; exact h))
  · exact .inl (.inr ⟨u, by rw [upd_ne (fun z => by subst z; rw [hd] at h; cases h)]; exact h⟩)
  · exact .inr h
theorem ge_lkD {i : Nat} (h : PE X e (tG X W f)) : PE X e (tG X W (gLkD i f)) :=
  PE.weak (pe_lock h) fun σ H Q hh => by
    obtain ⟨m, env, ah, hE, hR, hp⟩ := hh
    unfold gLkD at hp
    split at hp
    case h_2 => exact hp.elim
    rename_i n hn
    obtain ⟨x, hx, hv⟩ := hE.2 i _ hn
    cases hv with
    | ref hm =>
    rename_i d
    obtain ⟨ob, ho, qo⟩ := hR.at hm
    rw [ho] at hp
    cases ob with
    | lst l => exact hp.elim
    | dk l =>
    obtain ⟨kvs, hd, hk⟩ := qo
    have hp : (if (l.all fun p => flatT p.2) = true then match f ((List.replicate env.length none).set i (some (.dk l))) [] with
        | .ok (.lst r) [] => if r.all scl = true then Res.ok (AV.lst r) ah else .bad
        | _ => .bad
      else .bad).post (PQ X.K m H Q) (PX X.K X.mg m H fun c d H' => W c d σ H') := hp
    split at hp
    case isFalse => exact hp.elim
    rename_i hfl
    refine ⟨d, .dK kvs, hd, trivial, fun od => ?_⟩
    have dm : d ∈ m.l := List.mem_of_getElem? hm
    let m0 : MM := ⟨[], m.l.filter (fun a => decide (a ≠ d)) ++ m.p⟩
    have in0 : ∀ a, a ∈ m → a ≠ d → a ∈ m0.p := fun a ha hne => by
      rcases ha with ha | ha
      · exact List.mem_append_left _ (List.mem_filter.mpr ⟨ha, by simpa using hne⟩)
      · exact List.mem_append_right _ ha
    have of0 : ∀ a, a ∈ m0 → a ∈ m ∧ a ≠ d := fun a ha => by
      rcases ha with ha | ha
      · cases ha
      · rcases List.mem_append.mp ha with ha | ha
        · have := List.mem_filter.mp ha
          exact ⟨.inl this.1, by simpa using this.2⟩
        · exact ⟨.inr ha, fun z => (hR.prot a ha).1 (z ▸ dm)⟩
    have hR0 : Rel X.K m0 [] (upd H d (.frz od (.dK kvs))) := by
      refine ⟨rfl, List.nodup_nil, fun n a o h1 h2 => (by cases h1), fun a ha => ⟨fun z => (by cases z), ?_⟩⟩
      obtain ⟨ha, hne⟩ := of0 a (.inr ha)
      rw [upd_ne hne]
      rcases ha with ha | ha
      · obtain ⟨u, h1, h2⟩ := hR.mem (.inl ha)
        exact ⟨u, h1, h2⟩
      · exact (hR.prot a ha).2
    have hk0 : VRk X.K m0 (upd H d (.frz od (.dK kvs))) l kvs := VRk.flat (fun a vs => lk_sq hd) hfl hk
    have d0 : d ∉ m0 := fun z => (of0 d z).2 rfl
    have hE0 : EnvR X.K m0 (upd H d (.frz od (.dK kvs))) ((List.replicate env.length none).set i (some (.dk l))) σ := by
      refine ⟨by rw [List.length_set, List.length_replicate]; exact hE.1, fun j v hj => ?_⟩
      by_cases z : i = j
      · subst z
        have hl : i < env.length := (List.getElem?_eq_some_iff.mp hn).1
        rw [List.getElem?_set_self (by rw [List.length_replicate]; exact hl)] at hj
        cases hj
        exact ⟨_, hx, .dk (.inr ⟨od, upd_same⟩) d0 hk0⟩
      · rw [List.getElem?_set_ne z, List.getElem?_replicate] at hj
        split at hj <;> cases hj
    refine ⟨m0, _, [], hE0, hR0, ?_⟩
    split at hp
    case h_2 => exact hp.elim
    rename_i r e0
    split at hp
    case isFalse => exact hp.elim
    rename_i hs
    rw [e0]
    intro m1 H1 y e1 r1 v1
    have hd1 : H1 d = some (.frz od (.dK kvs)) := e1.still _ _ upd_same rfl
    refine ⟨hd1, ?_⟩
    have ne_stl : ∀ a o, H a = some o → stl o = true → a ≠ d := fun a o ha hs z => by subst z; rw [hd] at ha; cases ha; cases hs
    have hold : ∀ a, a ∈ m → a ≠ d → ∀ o, H a = some o → H1 a = some o := fun a ha hne o h => e1.hold a (in0 a ha hne) o (by rw [upd_ne hne]; exact h)
    have ex : Ext m H m (upd H1 d (.dK kvs)) := by
      refine ⟨⟨[], [], by simp⟩, fun a o h hm' => ?_, fun a o h hs => ?_, fun a ha => .inl ha, fun a ha o h => ?_⟩
      · have hne : a ≠ d := fun z => hm' (.inl (z ▸ dm))
        have := e1.keep a o (by rw [upd_ne hne]; exact h) fun z => hm' (of0 a z).1
        rcases this with q | ⟨ks, od', e, q⟩
        · exact .inl (by rw [upd_ne hne]; exact q)
        · exact .inr ⟨ks, od', e, by rw [upd_ne hne]; exact q⟩
      · have hne := ne_stl a o h hs
        rw [upd_ne hne]
        exact e1.still a o (by rw [upd_ne hne]; exact h) hs
      · have hne : a ≠ d := fun z => (hR.prot a ha).1 (z ▸ dm)
        rw [upd_ne hne]
        exact hold a (.inr ha) hne o h
    have hR1 : Rel X.K m ah (upd H1 d (.dK kvs)) := by
      refine ⟨hR.len, hR.nd, fun n' a o h1 h2 => ?_, fun a ha => ?_⟩
      · have q := (hR.obj n' a o h1 h2).mv ex.mv
        have eq : (upd H1 d (.dK kvs)) a = H a := by
          by_cases z : a = d
          · subst z; rw [upd_same, hd]
          · obtain ⟨u, hu, _⟩ := hR.mem (.inl (List.mem_of_getElem? h1))
            rw [upd_ne z, hold a (.inl (List.mem_of_getElem? h1)) z u hu, hu]
        rw [eq]; exact q
      · obtain ⟨p1, u, p2, p3⟩ := hR.prot a ha
        have hne : a ≠ d := fun z => p1 (z ▸ dm)
        exact ⟨p1, u, by rw [upd_ne hne]; exact hold a (.inr ha) hne u p2, p3⟩
    refine hp m _ y ex hR1 ?_
    cases v1 with
    | lst a1 a2 a3 =>
      rename_i a vs
      have hne : a ≠ d := fun z => by subst z; rw [hd1] at a1; cases a1
      refine .lst (by rw [upd_ne hne]; exact a1) (fun z => a2 ?_) (VRs.scl hs a3)
      obtain ⟨t, q, e'⟩ := e1.pre
      rw [e']
      exact .inr (List.mem_append_right _ (in0 a z hne))
end
end G
namespace G
open PySem L2
set_option autoImplicit false
abbrev ErrP := EV → AH → Prop
abbrev ErrS := EV → Env → AH → Prop
abbrev noE : ErrP := fun _ _ => False
abbrev noES : ErrS := fun _ _ _ => False
section
variable {α β : Type} {P Q : α → AH → Prop} {ah : AH} {env : Env} {E : ErrP}
/-- what holds behind: P of a value, E of an error -/
def wx (E : ErrP) (r : Res α) (P : α → AH → Prop) : Prop := match r with
  | .ok a h => P a h
  | .exc e h => E e h
  | .bad => False
abbrev wp (r : Res α) (P : α → AH → Prop) : Prop := wx noE r P
@[simp] theorem wp_ok {a : α} : wx E (.ok a ah) P = P a ah := rfl
@[simp] theorem wp_bad : wx E (.bad : Res α) P = False := rfl
@[simp] theorem wp_exc {e : EV} : wx E (.exc e ah : Res α) P = E e ah := rfl
@[simp] theorem wp_rb {r : Res β} {g : β → AH → Res α} : wx E (rb r g) P = wx E r fun a h => wx E (g a h) P := by cases r <;> rfl
theorem wx_mono {E E' : ErrP} {r : Res α} (h : wx E r P) (hi : ∀ a ah, P a ah → Q a ah) (he : ∀ e ah, E e ah → E' e ah) : wx E' r Q := by
  cases r with
  | ok a h' => exact hi _ _ h
  | exc a h' => exact he _ _ h
  | bad => exact h.elim
theorem wp_mono {r : Res α} (h : wx E r P) (hi : ∀ a ah, P a ah → Q a ah) : wx E r Q := wx_mono h hi fun _ _ z => z
theorem wp_lift {r : Res α} (h : wp r P) : wx E r P := wx_mono h (fun _ _ z => z) fun _ _ z => z.elim
theorem wp_get {r : Res α} (h : wp r P) : ∃ a ah, r = .ok a ah ∧ P a ah := by
  cases r with
  | ok a h' => exact ⟨_, _, rfl, h⟩
  | _ => exact h.elim
@[simp] theorem wp_some {a : α} : wx E (lift1 (some a) ah) P = P a ah := rfl
@[simp] theorem wp_none : wx E (lift1 (none : Option α) ah) P = False := rfl
@[simp] theorem wp_ite {c : Prop} [Decidable c] {r s : Res α} : wx E (if c then r else s) P = if c then wx E r P else wx E s P := by split <;> rfl
@[simp] theorem wp_lite {c : Prop} [Decidable c] {o : Option α} : wx E (lift1 (if c then o else none) ah) P = (c ∧ wx E (lift1 o ah) P) := by
  split <;> simp_all
theorem wp_eq {o : Option α} {a : α} (e : o = some a) (h : P a ah) : wx E (lift1 o ah) P := by rw [e]; exact h
@[simp] theorem wp_lmap {o : Option β} {g : β → α} : wx E (lift1 (o.map g) ah) P = wx E (lift1 o ah) fun a h => P (g a) h := by cases o <;> rfl
theorem wp_noX {r : Res α} : wx E (noX r) P = wp r P := by cases r <;> rfl
end
def onB (v : AV) (f : Bool → Prop) : Prop := match v with
  | .bl k => f k
  | _ => False
@[simp] theorem onB_bl {k : Bool} {f : Bool → Prop} : onB (.bl k) f = f k := rfl
theorem onB_get {v : AV} {f : Bool → Prop} (h : onB v f) : ∃ k, v = .bl k ∧ f k := by
  cases v <;> first | exact ⟨_, rfl, h⟩ | exact h.elim
def onI (v : AV) (f : Int → Prop) : Prop := match v with
  | .int k => f k
  | _ => False
@[simp] theorem onI_int {k : Int} {f : Int → Prop} : onI (.int k) f = f k := rfl
section
variable {E : ErrP} {P : AV → AH → Prop} {PB : Bool → AH → Prop} {PL : List AV → AH → Prop} {PO : Option Int → AH → Prop} {PI : Src → AH → Prop} {ah : AH} {env : Env} {a b c : GE} {t u : GT} {fr : GA}
@[simp] theorem w_var {i : Nat} : wx E (gVar i env ah) P = match env[i]? with | some (some v) => P v ah | _ => False := by
  unfold gVar
  rcases env[i]? with _ | _ | _ <;> rfl
@[simp] theorem w_c {v : AV} : wx E (gC v env ah) P = P v ah := rfl
@[simp] theorem w_op {f : O2} : wx E (gOp f a b env ah) P = wx E (a env ah) fun v ah1 => wx E (b env ah1) fun w ah2 => wx E (lift1 (f ah2 v w) ah2) P := by simp [gOp]
@[simp] theorem w_tb : wx E (gTB a env ah) PB = wx E (a env ah) fun v ah1 => onB v fun k => PB k ah1 := by
  simp only [gTB, wp_rb]
  congr 1; funext v ah1
  cases v <;> rfl
@[simp] theorem w_tt : wx E (gTT a env ah) PB = wx E (a env ah) fun v ah1 => wx E (lift1 (trA ah1 v) ah1) PB := by simp [gTT]
@[simp] theorem w_notT : wx E (gNotT t env ah) PB = wx E (t env ah) fun k ah1 => PB (!k) ah1 := by simp [gNotT]
@[simp] theorem w_andT : wx E (gAndT t u env ah) PB = wx E (t env ah) fun k ah1 => if k = true then wx E (u env ah1) PB else PB false ah1 := by simp [gAndT]
@[simp] theorem w_orT : wx E (gOrT t u env ah) PB = wx E (t env ah) fun k ah1 => if k = true then PB true ah1 else wx E (u env ah1) PB := by simp [gOrT]
@[simp] theorem w_and : wx E (gAnd a b env ah) P = wx E (a env ah) fun v ah1 => wx E (lift1 (trA ah1 v) ah1) fun k _ => if k = true then wx E (b env ah1) P else P v ah1 := by
  simp only [gAnd, wp_rb]
  congr 1; funext v ah1
  rcases trA ah1 v with _ | _ | _ <;> simp
@[simp] theorem w_or : wx E (gOr a b env ah) P = wx E (a env ah) fun v ah1 => wx E (lift1 (trA ah1 v) ah1) fun k _ => if k = true then P v ah1 else wx E (b env ah1) P := by
  simp only [gOr, wp_rb]
  congr 1; funext v ah1
  rcases trA ah1 v with _ | _ | _ <;> simp
@[simp] theorem w_not : wx E (gNot a env ah) P = wx E (a env ah) fun v ah1 => wx E (lift1 (trA ah1 v) ah1) fun k _ => P (.bl !k) ah1 := by
  simp only [gNot, wp_rb]
  congr 1; funext v ah1
  rcases trA ah1 v with _ | _ | _ <;> simp
@[simp] theorem w_ifE : wx E (gIfE t a b env ah) P = wx E (t env ah) fun k ah1 => if k = true then wx E (a env ah1) P else wx E (b env ah1) P := by simp [gIfE]
@[simp] theorem w_neg : wx E (gNeg a env ah) P = wx E (a env ah) fun v ah1 => onI v fun i => P (.int (-i)) ah1 := by
  simp only [gNeg, wp_rb]
  congr 1; funext v ah1
  cases v <;> rfl
@[simp] theorem w_chain {f g : O2} : wx E (gChain f g a b c env ah) P = wx E (a env ah) fun v ah1 => wx E (b env ah1) fun w ah2 => wx E (lift1 (f ah2 v w) ah2) fun z _ => onB z fun k => if k = true then wx E (c env ah2) fun z ah3 => wx E (lift1 (g ah3 w z) ah3) P else P (.bl false) ah2 := by
  simp only [gChain, wp_rb]
  congr 1; funext v ah1
  congr 1; funext w ah2
  cases e : f ah2 v w with
  | none => rfl
  | some z => cases z <;> first | rfl | (rename_i k; cases k <;> simp)
@[simp] theorem w_nil : wx E (gNil env ah) PL = PL [] ah := rfl
@[simp] theorem w_cons : wx E (gCons a fr env ah) PL = wx E (a env ah) fun v ah1 => wx E (fr env ah1) fun l ah2 => PL (v :: l) ah2 := by simp [gCons]
theorem w_lim {l : List AV} {v : AV} : wx E (limL l v ah) P = (l.length ≤ 1000000 ∧ P v ah) := by
  unfold limL
  by_cases q : l.length ≤ 1000000 <;> simp [q]
@[simp] theorem w_tup : wx E (gTup fr env ah) P = wx E (fr env ah) fun l ah1 => l.length ≤ 1000000 ∧ P (.tup l) ah1 := by simp [gTup, w_lim]
@[simp] theorem w_lst : wx E (gLst fr env ah) P = wx E (fr env ah) fun l ah1 => l.length ≤ 1000000 ∧ P (.lst l) ah1 := by simp [gLst, w_lim]
@[simp] theorem w_lstH : wx E (gLstH fr env ah) P = wx E (fr env ah) fun l ah1 => l.length ≤ 1000000 ∧ P (.ref ah1.length) (ah1 ++ [.lst l]) := by simp [gLstH, w_lim]
@[simp] theorem w_dk0 : wx E (gDk0 env ah) P = P (.dk []) ah := rfl
@[simp] theorem w_dk0H : wx E (gDk0H env ah) P = P (.ref ah.length) (ah ++ [.dk []]) := rfl
@[simp] theorem w_noP : wx E (gNoP env ah) PO = PO none ah := rfl
@[simp] theorem w_p : wx E (gP a env ah) PO = wx E (a env ah) fun v ah1 => onI v fun i => PO (some i) ah1 := by
  simp only [gP, wp_rb]
  congr 1; funext v ah1
  cases v <;> rfl
@[simp] theorem w_sl {lo hi : GO} : wx E (gSl a lo hi env ah) P = wx E (a env ah) fun v ah1 => wx E (lo env ah1) fun l ah2 => wx E (hi env ah2) fun h ah3 => wx E (lift1 (slO ah3 v l h) ah3) P := by simp [gSl]
@[simp] theorem w_b {f : OL} : wx E (gB f fr env ah) P = wx E (fr env ah) fun l ah1 => wx E (lift1 (f ah1 l) ah1) P := by simp [gB]
@[simp] theorem w_isi {ty : Ty} : wx E (gIsi ty a env ah) P = wx E (a env ah) fun v ah1 => wx E (lift1 (isiA ah1 v ty) ah1) fun k _ => P (.bl k) ah1 := by
  simp only [gIsi, wp_rb]
  congr 1; funext v ah1
  cases isiA ah1 v ty <;> simp
@[simp] theorem w_bl {f : AH → List AV → Option (List AV)} : wx E (gBL f fr env ah) P = wx E (fr env ah) fun l ah1 => wx E (lift1 (f ah1 l) ah1) fun z _ => P (.lst z) ah1 := by
  simp only [gBL, wp_rb]
  congr 1; funext v ah1
  cases f ah1 v <;> simp
@[simp] theorem w_blH {f : AH → List AV → Option (List AV)} : wx E (gBLH f fr env ah) P = wx E (fr env ah) fun l ah1 => wx E (lift1 (f ah1 l) ah1) fun z _ => P (.ref ah1.length) (ah1 ++ [.lst z]) := by
  simp only [gBLH, wp_rb]
  congr 1; funext v ah1
  cases f ah1 v <;> simp
@[simp] theorem w_it : wx E (gIt a env ah) PI = wx E (a env ah) fun v ah1 => wx E (lift1 (itA ah1 v) ah1) PI := by simp [gIt]
@[simp] theorem w_r1 : wx E (gR1 fr env ah) PI = wx E (fr env ah) fun l ah1 => ∃ j, l = [.int j] ∧ (-1000000 ≤ j ∧ j ≤ 1000000) ∧ PI (none, rngA 0 j.toNat) ah1 := by
  simp only [gR1, wp_rb]
  congr 1; funext v ah1
  split
  · rename_i j; simp
  · rename_i h; apply propext; refine ⟨fun z => z.elim, ?_⟩; rintro ⟨j, rfl, _⟩; exact (h j rfl).elim
@[simp] theorem w_zip : wx E (gZip fr env ah) PI = wx E (fr env ah) fun l ah1 => wx E (zipR l ah1) PI := by simp [gZip]
@[simp] theorem w_zipL {p q : List AV} : wx E (zipR [.lst p, .lst q] ah) PI = PI (none, zipA p q) ah := rfl
@[simp] theorem w_zipT {p q : List AV} : wx E (zipR [.tup p, .tup q] ah) PI = PI (none, zipA p q) ah := rfl
@[simp] theorem w_vals : wx E (gVals a env ah) PI = wx E (a env ah) fun v ah1 => wx E (lift1 (valA v) ah1) PI := by simp [gVals]
@[simp] theorem w_items : wx E (gItems a env ah) PI = wx E (a env ah) fun v ah1 => wx E (lift1 (itmA v) ah1) PI := by simp [gItems]
@[simp] theorem o_valD {l : List (AK × AV)} : valA (.dk l) = some (none, l.map (·.2)) := rfl
@[simp] theorem o_itmD {l : List (AK × AV)} : itmA (.dk l) = some (none, l.map fun p => .tup [keyV p.1, p.2]) := rfl
@[simp] theorem w_enum : wx E (gEnum fr env ah) PI = wx E (fr env ah) fun l ah1 => wx E (enR l ah1) PI := by simp [gEnum]
@[simp] theorem w_enumT {p : List AV} : wx E (enR [.tup p] ah) PI = PI (none, enA 0 p) ah := rfl
@[simp] theorem w_dictOf : wx E (gDictOf fr env ah) P = wx E (fr env ah) fun l ah1 => wx E (dcR l ah1) fun ps ah2 => P (.dk ps) ah2 := by simp [gDictOf]
@[simp] theorem w_dictOfH : wx E (gDictOfH fr env ah) P = wx E (fr env ah) fun l ah1 => wx E (dcR l ah1) fun ps ah2 => P (.ref ah2.length) (ah2 ++ [.dk ps]) := by simp [gDictOfH]
@[simp] theorem w_clr : wx E (gClr a env ah) P = wx E (a env ah) fun v ah1 => wx E (clrA ah1 v) P := by simp [gClr]
theorem w_lkD {i n : Nat} {f : GE} {l : List (AK × AV)} (hi : env[i]? = some (some (.ref n))) (ho : ah[n]? = some (.dk l)) (hf : (l.all fun p => flatT p.2) = true)
    (h : wp (f ((List.replicate env.length none).set i (some (.dk l))) []) fun v a => ∃ r, v = .lst r ∧ a = [] ∧ r.all scl = true ∧ P (.lst r) ah) : wx E (gLkD i f env ah) P := by
  unfold gLkD
  rw [hi]
  simp only [ho, hf, if_true]
  cases q : f ((List.replicate env.length none).set i (some (.dk l))) [] with
  | ok v a =>
    rw [q] at h
    obtain ⟨r, rfl, rfl, hs, hp⟩ := h
    simp only [hs, if_true]
    exact hp
  | exc e a => rw [q] at h; exact h.elim
  | bad => rw [q] at h; exact h.elim
@[simp] theorem w_call {den : Den} : wx E (gCall den fr env ah) P = wx E (fr env ah) fun l ah1 => wx E (den l ah1) P := by simp [gCall]
@[simp] theorem w_yes : wx E (gYes env ah) PB = PB true ah := rfl
@[simp] theorem w_lcV {it : GI} {h : GG} {e : GE} {vs : List Nat} : wx E (gLcV it h t e vs env ah) P = wx E (it env ah) fun src ah1 => src.2.length ≤ 1000000 ∧ wp (lcL src h t e (wipeE env vs) src.2 ah1) fun l ah2 => P (.lst l) ah2 := by
  simp only [gLcV, gLc, wp_rb]
  congr 1; funext src ah1
  by_cases q : src.2.length ≤ 1000000 <;> simp [q, wp_noX]
@[simp] theorem w_lcH {it : GI} {h : GG} {e : GE} {vs : List Nat} : wx E (gLcH it h t e vs env ah) P = wx E (it env ah) fun src ah1 => src.2.length ≤ 1000000 ∧ wp (lcL src h t e (wipeE env vs) src.2 ah1) fun l ah2 => P (.ref ah2.length) (ah2 ++ [.lst l]) := by
  simp only [gLcH, gLc, wp_rb]
  congr 1; funext src ah1
  by_cases q : src.2.length ≤ 1000000 <;> simp [q, wp_noX]
@[simp] theorem w_up : wx E (gUp a env ah) P = wx E (a env ah) fun v ah1 => wx E (lift1 (upO ah1 v) ah1) P := by simp [gUp]
@[simp] theorem w_join : wx E (gJoin a b env ah) P = wx E (a env ah) fun v ah1 => match v with
    | .str s => wx E (b env ah1) fun w ah2 => wx E (lift1 (joinO s ah2 w) ah2) P
    | _ => False := by
  simp only [gJoin, wp_rb]
  congr 1; funext v ah1
  cases v <;> first | rfl | simp
@[simp] theorem w_soS : wx E (gSoS a env ah) P = wx E (a env ah) fun v ah1 => wx E (lift1 (soSO ah1 v) ah1) fun l _ => P (.lst l) ah1 := by
  simp only [gSoS, wp_rb]
  congr 1; funext v ah1
  cases soSO ah1 v <;> simp
@[simp] theorem w_soSH : wx E (gSoSH a env ah) P = wx E (a env ah) fun v ah1 => wx E (lift1 (soSO ah1 v) ah1) fun l _ => P (.ref ah1.length) (ah1 ++ [.lst l]) := by
  simp only [gSoSH, wp_rb]
  congr 1; funext v ah1
  cases soSO ah1 v <;> simp
@[simp] theorem w_psN {PP : List (AK × AV) → AH → Prop} : wx E (gPs [] env ah) PP = PP [] ah := rfl
@[simp] theorem w_psC {gs : List (GE × GE)} {PP : List (AK × AV) → AH → Prop} : wx E (gPs ((a, b) :: gs) env ah) PP = wx E (a env ah) fun kv ah1 => wx E (b env ah1) fun vv ah2 => wx E (lift1 (keyA kv) ah2) fun q _ => wx E (gPs gs env ah2) fun ps ah3 => PP ((q, vv) :: ps) ah3 := by
  simp only [gPs, wp_rb]
  congr 1; funext v ah1
  congr 1; funext w ah2
  cases keyA v <;> simp
@[simp] theorem w_disp {gs : List (GE × GE)} : wx E (gDisp gs env ah) P = wx E (gPs gs env ah) fun ps ah1 => P (.dk (mergeA [] ps)) ah1 := by simp [gDisp]
@[simp] theorem w_dispH {gs : List (GE × GE)} : wx E (gDispH gs env ah) P = wx E (gPs gs env ah) fun ps ah1 => P (.ref ah1.length) (ah1 ++ [.dk (mergeA [] ps)]) := by simp [gDispH]
@[simp] theorem kA_s {s : List Nat} : keyA (.str s) = some (.inr s) := rfl
@[simp] theorem kA_i {s : Int} : keyA (.int s) = some (.inl s) := rfl
@[simp] theorem o_revL {l : List AV} : revO ah (.lst l) = some (.lst l.reverse) := rfl
@[simp] theorem o_revF {l : List AV} : revO ah (.fl l) = some (.lst l.reverse) := rfl
@[simp] theorem w_m1 {f : O1} : wx E (gM1 f a env ah) P = wx E (a env ah) fun v ah1 => wx E (lift1 (f ah1 v) ah1) P := by simp [gM1]
@[simp] theorem o_tin {t : Tb} {s : List Nat} : tInO t ah (.str s) = some (.bl (tget t s).isSome) := rfl
@[simp] theorem o_tix {t : Tb} {s : List Nat} : tIxO t ah (.str s) = tget t s := rfl
@[simp] theorem o_tget1 {t : Tb} {s : List Nat} : tGet1O t ah (.str s) = some ((tget t s).getD .non) := rfl
theorem w_getR : wx E (gGetR a b c env ah) P = wx E (a env ah) fun w ah1 => match dr ah1 w with
    | .dk _ => wx E (b env ah1) fun kv ah2 => wx E (c env ah2) fun dv ah3 => match dr ah3 w with
      | .dk l => wx E (lift1 (keyA kv) ah3) fun q _ => P ((lookK l q).getD dv) ah3
      | _ => False
    | _ => False := by
  simp only [gGetR, wp_rb]
  congr 1; funext w ah1
  cases dr ah1 w <;> first | rfl | skip
  simp only [wp_rb]
  congr 1; funext kv ah2
  congr 1; funext dv ah3
  cases dr ah3 w <;> first | rfl | skip
  cases keyA kv <;> simp
theorem o_in1 {v : AV} {l : List AV} {ss : List (List Nat)} (h : s1s l = some ss) : in1O ah v (.lst l) = (hd1 v).map fun o => .bl (in1B ss o) := by
  show ((s1s l).bind fun ss => (hd1 v).map fun o => AV.bl (in1B ss o)) = _
  rw [h]; rfl
@[simp] theorem o_eqSs {s t : List Nat} : eqSO ah (.str t) (.str s) = some (.bl (decide (t = s))) := rfl
theorem o_eqSn {v : AV} {s : List Nat} (h : eqSB s v = some false) : eqSO ah v (.str s) = some (.bl false) := by
  show (eqSB s v).map _ = _
  rw [h]; rfl
@[simp] theorem o_leXi {i j : Int} : leX ah (.int i) (.int j) = some (.bl (decide (i ≤ j))) := rfl
@[simp] theorem o_leXs {i j : List Nat} : leX ah (.str i) (.str j) = some (.bl (!decide (j < i))) := rfl
theorem w_get2 : wx E (gGet2 a b c env ah) P = wx E (a env ah) fun w ah1 => match w with
    | .dk l => wx E (b env ah1) fun kv ah2 => wx E (c env ah2) fun dv ah3 => wx E (lift1 (keyA kv) ah3) fun q _ => P ((lookK l q).getD dv) ah3
    | _ => False := by
  simp only [gGet2, wp_rb]
  congr 1; funext w ah1
  cases w <;> first | rfl | skip
  simp only [wp_rb]
  congr 1; funext kv ah2
  congr 1; funext dv ah3
  cases keyA kv <;> simp
theorem w_addH : wx E (gAddH a b env ah) P = wx E (a env ah) fun v ah1 => wx E (b env ah1) fun w ah2 => match v, w with
    | .lst s, .lst t => s.length + t.length ≤ 1000000 ∧ P (.ref ah2.length) (ah2 ++ [.lst (s ++ t)])
    | _, _ => False := by
  simp only [gAddH, wp_rb]
  congr 1; funext v ah1
  congr 1; funext w ah2
  cases v <;> first | rfl | skip
  cases w <;> first | rfl | skip
  rename_i s t
  by_cases q : s.length + t.length ≤ 1000000 <;> simp [q]
@[simp] theorem w_app : wx E (gApp a b env ah) P = wx E (a env ah) fun w ah1 => wx E (lift1 (lref ah1 w) ah1) fun n _ => wx E (b env ah1) fun v ah2 => wx E (apA ah2 n v) P := by
  simp only [gApp, wp_rb]
  congr 1; funext v ah1
  cases lref ah1 v <;> simp
end
section
variable {h : GG} {t : GT} {e : GE} {env : Env}
theorem w_lc {src : Src} (hs : src.1 = none) {I : AH → Prop} {G : AV → Prop} : ∀ (l : List AV) (ah : AH) (P : List AV → AH → Prop), I ah →
    (∀ v ∈ l, ∀ ah, I ah → ∃ env1, h env v = some env1 ∧ wp (t env1 ah) fun b ah1 => if b = true then wp (e env1 ah1) fun x ah2 => I ah2 ∧ G x else I ah1) →
    (∀ r ah', I ah' → (∀ x ∈ r, G x) → r.length ≤ l.length → P r ah') → wp (lcL src h t e env l ah) P
  | [], ah, P, hI, hstep, hP => by
    have : ckS src ah := by unfold ckS; rw [hs]; trivial
    rw [lcL, if_pos this]
    exact hP [] ah hI (by simp) (by simp)
  | v :: l, ah, P, hI, hstep, hP => by
    have : ckS src ah := by unfold ckS; rw [hs]; trivial
    rw [lcL, if_pos this]
    obtain ⟨env1, h1, h2⟩ := hstep v (by simp) ah hI
    rw [h1]
    simp only [wp_rb]
    refine wp_mono h2 fun b ah1 q => ?_
    cases b with
    | true =>
      simp only [if_true, wp_rb] at q ⊢
      refine wp_mono q fun x ah2 q => ?_
      refine w_lc hs (I := I) (G := G) l ah2 _ q.1 (fun w hw => hstep w (by simp [hw])) fun r ah' hI' hr hl => ?_
      exact hP _ _ hI' (by intro y hy; rcases List.mem_cons.mp hy with rfl | hy; exact q.2; exact hr y hy) (by simp; omega)
    | false =>
      simp only [Bool.false_eq_true, if_false] at q ⊢
      refine w_lc hs (I := I) (G := G) l ah1 _ q (fun w hw => hstep w (by simp [hw])) fun r ah' hI' hr hl => ?_
      exact hP _ _ hI' hr (by simp; omega)
/-- exactly: a map, where nothing is changed -/
theorem w_lcX {src : Src} (hs : src.1 = none) {f : AV → Bool} {g : AV → AV} : ∀ (l : List AV) (ah : AH) (P : List AV → AH → Prop),
    (∀ v ∈ l, ∃ env1, h env v = some env1 ∧ wp (t env1 ah) fun b ah1 => ah1 = ah ∧ b = f v ∧ (b = true → wp (e env1 ah) fun x ah2 => ah2 = ah ∧ x = g v)) →
    P ((l.filter f).map g) ah → wp (lcL src h t e env l ah) P
  | [], ah, P, hstep, hP => by
    have : ckS src ah := by unfold ckS; rw [hs]; trivial
    rw [lcL, if_pos this]
    exact hP
  | v :: l, ah, P, hstep, hP => by
    have : ckS src ah := by unfold ckS; rw [hs]; trivial
    rw [lcL, if_pos this]
    obtain ⟨env1, h1, h2⟩ := hstep v (by simp)
    rw [h1]
    simp only [wp_rb]
    refine wp_mono h2 fun b ah1 q => ?_
    obtain ⟨rfl, hb, q⟩ := q
    cases b with
    | true =>
      simp only [if_true, wp_rb]
      refine wp_mono (q rfl) fun x ah2 q2 => ?_
      obtain ⟨rfl, rfl⟩ := q2
      refine w_lcX hs l _ _ (fun w hw => hstep w (by simp [hw])) ?_
      rw [List.filter_cons_of_pos hb.symm] at hP
      exact hP
    | false =>
      simp only [Bool.false_eq_true, if_false]
      refine w_lcX hs l _ _ (fun w hw => hstep w (by simp [hw])) ?_
      rw [List.filter_cons_of_neg (by rw [← hb]; simp)] at hP
      exact hP
theorem w_lcM {γ : Type} {src : Src} (hs : src.1 = none) {m : γ → AV} {f : γ → Bool} {g : γ → AV} : ∀ (l : List γ) (ah : AH) (P : List AV → AH → Prop),
    (∀ v ∈ l, ∃ env1, h env (m v) = some env1 ∧ wp (t env1 ah) fun b ah1 => ah1 = ah ∧ b = f v ∧ (b = true → wp (e env1 ah) fun x ah2 => ah2 = ah ∧ x = g v)) →
    P ((l.filter f).map g) ah → wp (lcL src h t e env (l.map m) ah) P
  | [], ah, P, hstep, hP => by
    have : ckS src ah := by unfold ckS; rw [hs]; trivial
    rw [List.map_nil, lcL, if_pos this]
    exact hP
  | v :: l, ah, P, hstep, hP => by
    have : ckS src ah := by unfold ckS; rw [hs]; trivial
    rw [List.map_cons, lcL, if_pos this]
    obtain ⟨env1, h1, h2⟩ := hstep v (by simp)
    rw [h1]
    simp only [wp_rb]
    refine wp_mono h2 fun b ah1 q => ?_
    obtain ⟨rfl, hb, q⟩ := q
    cases b with
    | true =>
      simp only [if_true, wp_rb]
      refine wp_mono (q rfl) fun x ah2 q2 => ?_
      obtain ⟨rfl, rfl⟩ := q2
      refine w_lcM hs l _ _ (fun w hw => hstep w (by simp [hw])) ?_
      rw [List.filter_cons_of_pos hb.symm] at hP
      exact hP
    | false =>
      simp only [Bool.false_eq_true, if_false]
      refine w_lcM hs l _ _ (fun w hw => hstep w (by simp [hw])) ?_
      rw [List.filter_cons_of_neg (by rw [← hb]; simp)] at hP
      exact hP
end
section
variable {E : ErrS} {N B C : Env → AH → Prop} {R : AV → AH → Prop} {ah : AH} {env : Env} {a b c : GE} {f g : GS} {t : GT}
def wsx (E : ErrS) (r : SRes) (N : Env → AH → Prop) (R : AV → AH → Prop) (B C : Env → AH → Prop) : Prop := match r with
  | .nx env ah => N env ah
  | .rt v ah => R v ah
  | .bk env ah => B env ah
  | .ct env ah => C env ah
  | .exc e env ah => E e env ah
  | .bad => False
abbrev ws (r : SRes) (N : Env → AH → Prop) (R : AV → AH → Prop) (B C : Env → AH → Prop) : Prop := wsx noES r N R B C
@[simp] theorem ws_nx : wsx E (.nx env ah) N R B C = N env ah := rfl
@[simp] theorem ws_rt {v : AV} : wsx E (.rt v ah) N R B C = R v ah := rfl
@[simp] theorem ws_bk : wsx E (.bk env ah) N R B C = B env ah := rfl
@[simp] theorem ws_ct : wsx E (.ct env ah) N R B C = C env ah := rfl
@[simp] theorem ws_bad : wsx E .bad N R B C = False := rfl
@[simp] theorem ws_exc {e : EV} : wsx E (.exc e env ah) N R B C = E e env ah := rfl
@[simp] theorem ws_then {r : SRes} {k : GS} : wsx E (r.andThen k) N R B C = wsx E r (fun env ah => wsx E (k env ah) N R B C) R B C := by cases r <;> rfl
@[simp] theorem ws_sb {α : Type} {r : Res α} {k : α → AH → SRes} : wsx E (sb r env k) N R B C = wx (fun e h => E e env h) r fun v ah1 => wsx E (k v ah1) N R B C := by cases r <;> rfl
@[simp] theorem ws_ite {p : Prop} [Decidable p] {r s : SRes} : wsx E (if p then r else s) N R B C = if p then wsx E r N R B C else wsx E s N R B C := by split <;> rfl
theorem ws_mono {r : SRes} {N' B' C' : Env → AH → Prop} {R' : AV → AH → Prop} (h : wsx E r N R B C) (hn : ∀ e a, N e a → N' e a) (hr : ∀ v a, R v a → R' v a) (hb : ∀ e a, B e a → B' e a) (hc : ∀ e a, C e a → C' e a) : wsx E r N' R' B' C' := by
  cases r with
  | nx e a => exact hn _ _ h
  | rt e a => exact hr _ _ h
  | bk e a => exact hb _ _ h
  | ct e a => exact hc _ _ h
  | exc e env a => exact h
  | bad => exact h.elim
@[simp] theorem s_skip : wsx E (gSkip env ah) N R B C = N env ah := rfl
@[simp] theorem s_break : wsx E (gBreak env ah) N R B C = B env ah := rfl
@[simp] theorem s_cont : wsx E (gCont env ah) N R B C = C env ah := rfl
@[simp] theorem s_seq : wsx E (gSeq f g env ah) N R B C = wsx E (f env ah) (fun env ah => wsx E (g env ah) N R B C) R B C := by simp [gSeq]
@[simp] theorem s_if : wsx E (gIf t f g env ah) N R B C = wx (fun e h => E e env h) (t env ah) fun k ah1 => if k = true then wsx E (f env ah1) N R B C else wsx E (g env ah1) N R B C := by simp [gIf]
@[simp] theorem s_ret : wsx E (gRet a env ah) N R B C = wx (fun e h => E e env h) (a env ah) R := by simp only [gRet, ws_sb]; rfl
@[simp] theorem s_retN : wsx E (gRetN env ah) N R B C = R .non ah := rfl
@[simp] theorem s_drop : wsx E (gDrop a env ah) N R B C = wx (fun e h => E e env h) (a env ah) fun _ ah1 => N env ah1 := by simp only [gDrop, ws_sb]; rfl
@[simp] theorem s_set {i : Nat} : wsx E (gSet i a env ah) N R B C = wx (fun e h => E e env h) (a env ah) fun v ah1 => N (env.set i (some v)) ah1 := by simp only [gSet, ws_sb]; rfl
@[simp] theorem s_asg {h : GG} : wsx E (gAsg a h env ah) N R B C = wx (fun e h => E e env h) (a env ah) fun v ah1 => ∃ env1, h env v = some env1 ∧ N env1 ah1 := by
  simp only [gAsg, ws_sb]
  congr 1; funext v ah1
  cases h env v <;> simp
@[simp] theorem s_store : wsx E (gStore a b c env ah) N R B C = wx (fun e h => E e env h) (a env ah) fun v ah1 => wx (fun e h => E e env h) (b env ah1) fun w ah2 => wx (fun e h => E e env h) (c env ah2) fun k ah3 => wx (fun e h => E e env h) (lift1 (stA ah3 w k v) ah3) fun ah4 _ => N env ah4 := by
  simp only [gStore, ws_sb]
  congr 1; funext v ah1
  congr 1; funext v ah1
  congr 1; funext v ah1
  split <;> simp_all
@[simp] theorem s_for {it : GI} {h : GG} : wsx E (gFor it h f env ah) N R B C = wx (fun e h => E e env h) (it env ah) fun src ah1 => wsx E (forL src h f src.2 env ah1) N R B C := by simp [gFor]
theorem s_forL {src : Src} (hs : src.1 = none) {h : GG} {I : Env → AH → Prop} : ∀ (l : List AV) (env : Env) (ah : AH), I env ah →
    (∀ v ∈ l, ∀ env ah, I env ah → ∃ env1, h env v = some env1 ∧ wsx E (f env1 ah) I R N I) → (∀ env ah, I env ah → N env ah) → wsx E (forL src h f l env ah) N R B C
  | [], env, ah, hI, hstep, hN => by
    have : ckS src ah := by unfold ckS; rw [hs]; trivial
    simp only [forL, if_pos this]
    exact hN _ _ hI
  | v :: l, env, ah, hI, hstep, hN => by
    have : ckS src ah := by unfold ckS; rw [hs]; trivial
    simp only [forL, if_pos this]
    obtain ⟨env1, h1, h2⟩ := hstep v (by simp) env ah hI
    rw [h1]
    have go : ∀ env ah, I env ah → wsx E (forL src h f l env ah) N R B C := fun env ah q => s_forL hs l env ah q (fun w hw => hstep w (by simp [hw])) hN
    show wsx E ((f env1 ah).loop (forL src h f l)) N R B C
    generalize hr : f env1 ah = r at h2
    cases r with
    | nx e a => exact go _ _ h2
    | ct e a => exact go _ _ h2
    | bk e a => exact h2
    | rt e a => exact h2
    | exc e env a => exact h2
    | bad => exact h2.elim
/-- a fixed list, walked out by hand -/
theorem s_forC {src : Src} (hs : src.1 = none) {h : GG} {v : AV} {l : List AV} : wsx E (forL src h f (v :: l) env ah) N R B C = ∃ env1, h env v = some env1 ∧ wsx E (f env1 ah) (fun e a => wsx E (forL src h f l e a) N R B C) R N (fun e a => wsx E (forL src h f l e a) N R B C) := by
  have : ckS src ah := by unfold ckS; rw [hs]; trivial
  simp only [forL, if_pos this]
  cases h env v with
  | none => simp
  | some e1 =>
    simp only [Option.some.injEq, exists_eq_left']
    cases f e1 ah <;> rfl
theorem s_forN {src : Src} (hs : src.1 = none) {h : GG} : wsx E (forL src h f [] env ah) N R B C = N env ah := by
  have : ckS src ah := by unfold ckS; rw [hs]; trivial
  simp only [forL, if_pos this]; rfl
theorem ws_loop {r : SRes} {k : GS} : wsx E (r.loop k) N R B C = wsx E r (fun e a => wsx E (k e a) N R B C) R N (fun e a => wsx E (k e a) N R B C) := by cases r <;> rfl
theorem s_while : wsx E (gWhile t f env ah) N R B C = wx (fun e h => E e env h) (t env ah) fun b ah1 => if b = true then wsx E (f env ah1) (fun e a => wsx E (gWhile t f e a) N R B C) R N (fun e a => wsx E (gWhile t f e a) N R B C) else N env ah1 := by
  rw [gWhile_eq]
  simp only [ws_sb, ws_ite, ws_nx, ws_loop]
theorem s_forK {src : Src} (hs : src.1 = none) {h : GG} {I : Nat → Env → AH → Prop} {m : Nat} : ∀ (l : List AV) (j : Nat) (env : Env) (ah : AH), j + l.length = m → I j env ah →
    (∀ v ∈ l, ∀ j env ah, j < m → I j env ah → ∃ env1, h env v = some env1 ∧ wsx E (f env1 ah) (I (j + 1)) R N (I (j + 1))) → (∀ env ah, I m env ah → N env ah) → wsx E (forL src h f l env ah) N R B C
  | [], j, env, ah, hm, hI, hstep, hN => by
    rw [s_forN hs]
    exact hN _ _ (by rw [← hm]; exact hI)
  | v :: l, j, env, ah, hm, hI, hstep, hN => by
    rw [s_forC hs]
    rw [List.length_cons] at hm
    obtain ⟨env1, h1, h2⟩ := hstep v (by simp) j env ah (by omega) hI
    have go : ∀ env ah, I (j + 1) env ah → wsx E (forL src h f l env ah) N R B C := fun env ah q => s_forK hs l (j + 1) env ah (by omega) q (fun w hw => hstep w (by simp [hw])) hN
    exact ⟨env1, h1, ws_mono h2 go (fun _ _ z => z) (fun _ _ z => z) go⟩
@[simp] theorem s_aug {i : Nat} : wsx E (gAug i a env ah) N R B C = match env[i]? with
    | some (some (.int v)) => wx (fun e h => E e env h) (a env ah) fun w ah1 => onI w fun z => N (env.set i (some (.int (v + z)))) ah1
    | _ => False := by
  unfold gAug
  cases h : env[i]? with
  | none => rfl
  | some o =>
    cases o with
    | none => rfl
    | some u =>
      cases u <;> first | rfl | skip
      simp only [ws_sb]
      congr 1; funext w ah1
      cases w <;> rfl
@[simp] theorem s_raise {x : Str} : wsx E (gRaise x env ah) N R B C = E ⟨x, []⟩ env ah := rfl
theorem s_try {t : RelTab} {c : Str} {i : Nat} {fs : EV → GS} : wsx E (gTry f t c i fs env ah) N R B C = wsx (fun ev env1 ah1 => match relO t ev.cls c with
    | some true => i < env1.length ∧ wsx noES (fs ev (env1.set i none) ah1) (fun env2 => N (env2.set i none)) R (fun env2 => B (env2.set i none)) (fun env2 => C (env2.set i none))
    | some false => E ev env1 ah1
    | none => False) (f env ah) N R B C := by
  unfold gTry
  cases f env ah <;> first | rfl | skip
  rename_i ev env1 ah1
  simp only [ws_exc]
  cases relO t ev.cls c with
  | none => rfl
  | some b =>
    cases b with
    | false => rfl
    | true =>
      by_cases h : i < env1.length
      · simp only [h, if_true, true_and]
        cases fs ev (env1.set i none) ah1 <;> rfl
      · simp only [h, if_false, false_and]; rfl
@[simp] theorem w_isX {t : RelTab} {ys : List Str} {ev : EV} {E : ErrP} : wx E (gIsX t ys ev env ah) R = (ys ≠ [] ∧ ys.all (fun y => (relO t ev.cls y).isSome) = true ∧ wx E (lift1 ((isX t ev ys).map AV.bl) ah) R) := by
  unfold gIsX
  split
  · rename_i h; simp [h]
  · rename_i h
    apply propext
    exact ⟨fun z => z.elim, fun z => h ⟨z.1, z.2.1⟩⟩
@[simp] theorem w_callE {den : DenE} {ev : EV} {E : ErrP} : wx E (gCallE den ev env ah) R = wp (den ev ah) R := by
  unfold gCallE; exact wp_noX
theorem w_funE {n : Nat} {body : EV → GS} {ev : EV} {E : ErrP} (h : ws (body ev (List.replicate n none) ah) (fun _ ah1 => R .non ah1) R (fun _ _ => False) (fun _ _ => False)) : wx E (gFunE n body ev ah) R := by
  unfold gFunE
  revert h
  generalize body ev (List.replicate n none) ah = r
  intro h
  cases r <;> first | exact h | exact h.elim
theorem w_fun {E : ErrP} {np n : Nat} {l : List AV} (hl : l.length = np) (h : wsx (fun e _ h => E e h) (f (l.map some ++ List.replicate (n - l.length) none) ah) (fun _ ah1 => R .non ah1) R (fun _ _ => False) (fun _ _ => False)) : wx E (gFun np n f l ah) R := by
  unfold gFun
  rw [if_pos hl]
  revert h
  generalize f (l.map some ++ List.replicate (n - l.length) none) ah = r
  intro h
  cases r <;> first | exact h | exact h.elim
end
section
variable {ah : AH} {E : ErrP}
@[simp] theorem dr_non : dr ah .non = .non := rfl
@[simp] theorem dr_bl {b : Bool} : dr ah (.bl b) = .bl b := rfl
@[simp] theorem dr_int {i : Int} : dr ah (.int i) = .int i := rfl
@[simp] theorem dr_str {s : List Nat} : dr ah (.str s) = .str s := rfl
@[simp] theorem dr_tup {l : List AV} : dr ah (.tup l) = .tup l := rfl
@[simp] theorem dr_lst {l : List AV} : dr ah (.lst l) = .lst l := rfl
@[simp] theorem dr_dk {l : List (AK × AV)} : dr ah (.dk l) = .dk l := rfl
@[simp] theorem dr_fl {l : List AV} : dr ah (.fl l) = .fl l := rfl
@[simp] theorem o_add {i j : Int} : addO ah (.int i) (.int j) = some (.int (i + j)) := rfl
@[simp] theorem o_addS {s t : List Nat} : addO ah (.str s) (.str t) = if s.length + t.length ≤ 1000000 then some (.str (s ++ t)) else none := rfl
@[simp] theorem o_addT {s t : List AV} : addO ah (.tup s) (.tup t) = if s.length + t.length ≤ 1000000 then some (.tup (s ++ t)) else none := rfl
@[simp] theorem o_addL {s t : List AV} : addO ah (.lst s) (.lst t) = if s.length + t.length ≤ 1000000 then some (.lst (s ++ t)) else none := rfl
@[simp] theorem o_sub {i j : Int} : subO ah (.int i) (.int j) = some (.int (i - j)) := rfl
@[simp] theorem o_mul {i j : Int} : mulO ah (.int i) (.int j) = if (-18446744073709551616 < i ∧ i < 18446744073709551616) ∨ (-18446744073709551616 < j ∧ j < 18446744073709551616) then some (.int (i * j)) else none := rfl
@[simp] theorem o_mulT {s : List AV} {k : Int} : mulO ah (.tup s) (.int k) = if s ≠ [] ∧ 2 ≤ k ∧ k ≤ 1000 ∧ s.length ≤ 1000 then some (.tup (List.replicate k.toNat s).flatten) else none := rfl
@[simp] theorem o_mulS {s : List Nat} {k : Int} : mulO ah (.str s) (.int k) = if 0 ≤ k ∧ k ≤ 1000000 ∧ s.length * k.toNat ≤ 1000000 then some (.str (List.replicate k.toNat s).flatten) else none := rfl
@[simp] theorem o_mulL {s : List AV} {k : Int} : mulO ah (.lst s) (.int k) = if 0 ≤ k ∧ k ≤ 1000000 ∧ s.length * k.toNat ≤ 1000000 then some (.lst (List.replicate k.toNat s).flatten) else none := rfl
theorem o_addR {n : Nat} {s t : List AV} (h : ah[n]? = some (.lst s)) : addO ah (.ref n) (.lst t) = if s.length + t.length ≤ 1000000 then some (.lst (s ++ t)) else none := by
  show (match dr ah (.ref n), dr ah (.lst t) with | .lst s, .lst t => if s.length + t.length ≤ 1000000 then some (AV.lst (s ++ t)) else none | _, _ => none) = _
  rw [dr_ref h]; rfl
@[simp] theorem o_intS {s : List Nat} : intO ah [.str s] = if s ≠ [] ∧ s.all (fun c => decide (48 ≤ c ∧ c ≤ 57)) = true ∧ s.length ≤ 640 then some (.int (PySem.NumText.digitsVal s : Nat)) else none := rfl
@[simp] theorem o_joinL {s : List Nat} {l : List AV} : joinO s ah (.lst l) = (strsA l).bind fun ss => if (ss.map List.length).sum + ss.length * s.length ≤ 1000000 then some (.str (joinA s ss)) else none := by
  show (match (some l).bind strsA with | some ss => _ | none => none) = _
  rw [Option.bind_some]
  cases strsA l <;> rfl
theorem strs_map (ss : List (List Nat)) : strsA (ss.map AV.str) = some ss := by
  induction ss with
  | nil => rfl
  | cons s ss ih =>
    show (strsA (ss.map AV.str)).map (s :: ·) = _
    rw [ih]; rfl
@[simp] theorem o_lu {ss : List (List Nat)} (h : ss.length < 2000) : luO ah (.lst (ss.map .str)) = some (.int (uniqA ss).length) := by
  show (match strsA (ss.map AV.str) with | some ss => if ss.length < 2000 then some (AV.int (uniqA ss).length) else none | none => none) = _
  rw [strs_map]
  show (if ss.length < 2000 then _ else none) = _
  rw [if_pos h]
@[simp] theorem o_revT {l : List AV} : revTO ah (.tup l) = some (.tup l.reverse) := rfl
theorem ints_of {α : Type} (f : α → Int) (l : List α) : intsA (l.map fun v => .int (f v)) = some (l.map f) := by
  induction l with
  | nil => rfl
  | cons v l ih =>
    show (intsA (l.map fun v => .int (f v))).map (f v :: ·) = _
    rw [ih]; rfl
theorem o_max1 {n : Int} {ns : List Int} {l : List AV} (h : intsA l = some (n :: ns)) : max1O ah [.lst l] = some (.int (maxI (n :: ns))) := by
  show (match intsA l with | some (n :: ns) => some (AV.int (maxI (n :: ns))) | _ => none) = _
  rw [h]
theorem o_inRs {s : List Nat} {n : Nat} {l : List AV} (g : ah[n]? = some (.lst l)) (h : l.all flatA = true) : inO ah (.str s) (.ref n) = some (.bl (l.any fun y => eqA y (.str s))) := by
  rcases s with _ | ⟨c, _ | ⟨d, t⟩⟩ <;> (unfold inO; rw [dr_ref g]; simp only [objV]; show (if (true && l.all flatA) = true then _ else if _ then _ else none) = _; rw [h]; rfl)
@[simp] theorem o_inD {s : List Nat} {l : List (AK × AV)} : inO ah (.str s) (.dk l) = some (.bl (lookK l (.inr s)).isSome) := by
  rcases s with _ | ⟨c, _ | ⟨d, t⟩⟩ <;> rfl
@[simp] theorem o_mod {i j : Int} : modO ah (.int i) (.int j) = if 0 < j then some (.int (i % j)) else none := rfl
@[simp] theorem o_fdiv {i j : Int} : fdivO ah (.int i) (.int j) = if 0 < j ∧ j < 10 ^ 100 then some (.int (i / j)) else none := rfl
@[simp] theorem o_pow {i j : Int} : powO ah (.int i) (.int j) = if 0 ≤ j ∧ j ≤ 1000000 ∧ i.natAbs < 18446744073709551616 then some (.int (i ^ j.toNat)) else none := rfl
@[simp] theorem o_lt {i j : Int} : ltO ah (.int i) (.int j) = some (.bl (decide (i < j))) := rfl
@[simp] theorem o_le {i j : Int} : leO ah (.int i) (.int j) = some (.bl (decide (i ≤ j))) := rfl
@[simp] theorem o_gt {i j : Int} : gtO ah (.int i) (.int j) = some (.bl (decide (j < i))) := rfl
@[simp] theorem o_ge {i j : Int} : geO ah (.int i) (.int j) = some (.bl (decide (j ≤ i))) := rfl
@[simp] theorem o_eqI {i j : Int} : eqO ah (.int i) (.int j) = some (.bl (decide (i = j))) := rfl
@[simp] theorem o_eqS {i j : List Nat} : eqO ah (.str i) (.str j) = some (.bl (decide (i = j))) := rfl
@[simp] theorem o_eqB {i j : Bool} : eqO ah (.bl i) (.bl j) = some (.bl (decide (i = j))) := rfl
theorem o_eqL {i j : List AV} : eqO ah (.lst i) (.lst j) = if decide (i.length ≠ j.length) then some (.bl false) else if shA (.lst i) && shA (.lst j) then some (.bl (eqA (.lst i) (.lst j))) else none := rfl
theorem o_eqT {i j : List AV} : eqO ah (.tup i) (.tup j) = if i.isEmpty != j.isEmpty then some (.bl false) else if shA (.tup i) && shA (.tup j) then some (.bl (eqA (.tup i) (.tup j))) else none := rfl
@[simp] theorem o_eqLe {l : List AV} : eqO ah (.lst l) (.lst []) = some (.bl l.isEmpty) := by
  cases l with
  | nil => rfl
  | cons a l => rw [o_eqL, if_pos (by simp)]; rfl
@[simp] theorem o_eqTe {l : List AV} : eqO ah (.tup l) (.tup []) = some (.bl l.isEmpty) := by
  cases l with
  | nil => rfl
  | cons a l => rw [o_eqT, if_pos (by simp)]; rfl
@[simp] theorem o_not {f : O2} {v w : AV} {b : Bool} (h : f ah v w = some (.bl b)) : notO f ah v w = some (.bl (!b)) := by unfold notO; rw [h]
@[simp] theorem wp_not {f : O2} {v w : AV} {P : AV → AH → Prop} : wx E (lift1 (notO f ah v w) ah) P = wx E (lift1 (f ah v w) ah) fun z h => onB z fun b => P (.bl (!b)) h := by
  unfold notO
  cases e : f ah v w with
  | none => rfl
  | some z => cases z <;> rfl
@[simp] theorem o_inS {c : Nat} {t : List Nat} : inO ah (.str [c]) (.str t) = some (.bl (decide (c ∈ t))) := rfl
theorem o_inSt {s : List Nat} {l : List AV} (h : l.all flatA = true) : inO ah (.str s) (.tup l) = some (.bl (l.any fun y => eqA y (.str s))) := by
  rcases s with _ | ⟨c, _ | ⟨d, t⟩⟩ <;> (show (if (true && l.all flatA) = true then _ else none) = _; rw [h]; rfl)
theorem o_inSl {s : List Nat} {l : List AV} (h : l.all flatA = true) : inO ah (.str s) (.lst l) = some (.bl (l.any fun y => eqA y (.str s))) := by
  rcases s with _ | ⟨c, _ | ⟨d, t⟩⟩ <;> (show (if (true && l.all flatA) = true then _ else if _ then _ else none) = _; rw [h]; rfl)
theorem o_inIl {i : Int} {l : List AV} (h : l.all flatA = true) : inO ah (.int i) (.lst l) = some (.bl (l.any fun y => eqA y (.int i))) := by
  show (if (true && l.all flatA) = true then _ else if _ then _ else none) = _
  rw [h]; rfl
theorem o_inTl {a l : List AV} (h : shA (.tup a) = true) (h2 : shA (.lst l) = true) : inO ah (.tup a) (.lst l) = some (.bl (l.any fun y => eqA y (.tup a))) := by
  show (if (false && l.all flatA) = true then some (AV.bl (l.any fun y => eqA y (.tup a))) else if (shA (.tup a) && shA (.lst l)) = true then some (AV.bl (l.any fun y => eqA y (.tup a))) else none) = _
  rw [h, h2]; rfl
@[simp] theorem tr_non : trA ah .non = some false := rfl
@[simp] theorem tr_int {i : Int} : trA ah (.int i) = some (i != 0) := rfl
@[simp] theorem tr_str {s : List Nat} : trA ah (.str s) = if s.length ≤ 1000000 then some (!s.isEmpty) else none := rfl
@[simp] theorem tr_tup {l : List AV} : trA ah (.tup l) = some (!l.isEmpty) := rfl
@[simp] theorem tr_lst {l : List AV} : trA ah (.lst l) = some (!l.isEmpty) := rfl
@[simp] theorem o_ixT {l : List AV} {i : Int} : ixO ah (.tup l) (.int i) = atI l i := rfl
@[simp] theorem o_ixL {l : List AV} {i : Int} : ixO ah (.lst l) (.int i) = atI l i := rfl
@[simp] theorem o_ixF {l : List AV} {i : Int} : ixO ah (.fl l) (.int i) = atI l i := rfl
@[simp] theorem o_ixS {s : List Nat} {i : Int} : ixO ah (.str s) (.int i) = if s.length ≤ 1000000 then (atI s i).map fun c => .str [c] else none := rfl
theorem o_ixR {n : Nat} {l : List AV} {i : Int} (h : ah[n]? = some (.lst l)) : ixO ah (.ref n) (.int i) = atI l i := by
  show (match dr ah (.ref n), (AV.int i) with | .tup l, .int i => atI l i | .lst l, .int i => atI l i | .fl l, .int i => atI l i | .str s, .int i => if s.length ≤ 1000000 then (atI s i).map fun c => .str [c] else none | .dk l, .int i => lookK l (.inl i) | .dk l, .str s => lookK l (.inr s) | _, _ => none) = _
  rw [dr_ref h]; rfl
theorem o_stR {n : Nat} {l : List AV} {i : Int} {v : AV} (h : ah[n]? = some (.lst l)) : stA ah (.ref n) (.int i) v = (ixN l.length i).map fun j => ah.set n (.lst (l.set j v)) := by
  show (match ah[n]? with | some (.lst l) => (stL l (.int i) v).map fun l' => ah.set n (.lst l') | some (.dk l) => (stD l (.int i) v).map fun l' => ah.set n (.dk l') | none => none) = _
  rw [h]
  show ((ixN l.length i).map fun j => l.set j v).map _ = _
  rw [Option.map_map]; rfl
@[simp] theorem o_lenT {l : List AV} : lenO ah [.tup l] = some (.int l.length) := rfl
@[simp] theorem o_lenL {l : List AV} : lenO ah [.lst l] = some (.int l.length) := rfl
@[simp] theorem o_lenF {l : List AV} : lenO ah [.fl l] = some (.int l.length) := rfl
@[simp] theorem o_lenS {l : List Nat} : lenO ah [.str l] = if l.length ≤ 1000000 then some (.int l.length) else none := rfl
@[simp] theorem o_max {i j : Int} : maxO ah [.int i, .int j] = some (.int (if j > i then j else i)) := rfl
@[simp] theorem o_min {i j : Int} : minO ah [.int i, .int j] = some (.int (if j < i then j else i)) := rfl
@[simp] theorem o_int {i : Int} : intO ah [.int i] = some (.int i) := rfl
@[simp] theorem o_intB {b : Bool} : intO ah [.bl b] = some (.int (if b then 1 else 0)) := rfl
@[simp] theorem o_str {i : Int} : strO ah [.int i] = if i.natAbs.log2 < 1920 then some (.str (digA i)) else none := rfl
@[simp] theorem o_tupL {l : List AV} : tupO ah [.lst l] = some (.tup l) := rfl
@[simp] theorem o_tupT {l : List AV} : tupO ah [.tup l] = some (.tup l) := rfl
@[simp] theorem o_lisT {l : List AV} : lisO ah [.tup l] = some l := rfl
@[simp] theorem o_lisL {l : List AV} : lisO ah [.lst l] = some l := rfl
@[simp] theorem o_all {l : List AV} : allO ah [.lst l] = (blsA l).map fun bs => .bl (bs.all id) := rfl
@[simp] theorem o_any {l : List AV} : anyO ah [.lst l] = (blsA l).map fun bs => .bl (bs.any id) := rfl
@[simp] theorem o_slT {l : List AV} {lo hi : Option Int} : slO ah (.tup l) lo hi = some (.tup (cutA l lo hi)) := rfl
@[simp] theorem o_slL {l : List AV} {lo hi : Option Int} : slO ah (.lst l) lo hi = some (.lst (cutA l lo hi)) := rfl
@[simp] theorem o_slS {s : List Nat} {lo hi : Option Int} : slO ah (.str s) lo hi = if s.length ≤ 1000000 then some (.str (cutA s lo hi)) else none := rfl
@[simp] theorem o_up {s : List Nat} : upO ah (.str s) = if s.length ≤ 1000000 then some (.str (upA s)) else none := rfl
@[simp] theorem o_isB {i j : Bool} : isO ah (.bl i) (.bl j) = some (.bl (decide (i = j))) := rfl
@[simp] theorem it_tup {l : List AV} : itA ah (.tup l) = some (none, l) := rfl
@[simp] theorem it_lst {l : List AV} : itA ah (.lst l) = some (none, l) := rfl
@[simp] theorem it_fl {l : List AV} : itA ah (.fl l) = some (none, l) := rfl
@[simp] theorem it_dk {l : List (AK × AV)} : itA ah (.dk l) = some (none, l.map fun p => keyV p.1) := rfl
@[simp] theorem it_str {l : List Nat} : itA ah (.str l) = some (none, l.map fun c => .str [c]) := rfl
@[simp] theorem nm_eq {i : Nat} {env : Env} {v : AV} : gNm i env v = some (env.set i (some v)) := rfl
theorem filter_yes {α : Type} (l : List α) : l.filter (fun _ => true) = l := by simp
theorem bls_map' {γ : Type} (l : List γ) (f : γ → Bool) : blsA (l.map fun v => .bl (f v)) = some (l.map f) := by
  induction l with
  | nil => rfl
  | cons v l ih =>
    show (blsA (l.map fun v => .bl (f v))).map (f v :: ·) = _
    rw [ih]; rfl
theorem bls_map (l : List AV) (f : AV → Bool) : blsA (l.map fun v => .bl (f v)) = some (l.map f) := by
  induction l with
  | nil => rfl
  | cons v l ih =>
    show (blsA (l.map fun v => .bl (f v))).map (f v :: ·) = _
    rw [ih]; rfl
theorem atI_nat {α : Type} (l : List α) (i : Int) (h0 : 0 ≤ i) (h1 : i < l.length) : ∃ v, atI l i = some v ∧ v ∈ l ∧ l[i.toNat]? = some v := by
  have hj : i.toNat < l.length := by omega
  refine ⟨l[i.toNat], ?_, List.getElem_mem hj, List.getElem?_eq_getElem hj⟩
  unfold L2.atI
  have : ixN l.length i = some i.toNat := by
    unfold ixN
    simp [h0, h1]
  rw [this]
  exact List.getElem?_eq_getElem hj
theorem wp_at {α : Type} {l : List α} {i : Int} {P : α → AH → Prop} (h0 : 0 ≤ i) (h1 : i < l.length) (h : ∀ v ∈ l, P v ah) : wx E (lift1 (atI l i) ah) P := by
  obtain ⟨v, e, hm, _⟩ := atI_nat l i h0 h1
  rw [e]; exact h v hm
theorem at0 {α : Type} {a : α} {l : List α} : atI (a :: l) 0 = some a := by
  obtain ⟨v, e, _, q⟩ := atI_nat (a :: l) 0 (by omega) (by simp)
  rw [e]; simpa using q.symm
theorem at1 {α : Type} {a b : α} {l : List α} : atI (a :: b :: l) 1 = some b := by
  obtain ⟨v, e, _, q⟩ := atI_nat (a :: b :: l) 1 (by omega) (by simp; omega)
  rw [e]; simpa using q.symm
end
def Pot (n : Nat) (rest : List AV) (ah : AH) : Prop := ∃ a b : Int, ah[n]? = some (.lst (.int a :: .int b :: rest))
def Same (n : Nat) (ah ah' : AH) : Prop := ah'.length = ah.length ∧ ∀ i, i ≠ n → ah'[i]? = ah[i]?
theorem Same.refl (n : Nat) (ah : AH) : Same n ah ah := ⟨rfl, fun _ _ => rfl⟩
theorem Same.trans {n : Nat} {a b c : AH} (h : Same n a b) (k : Same n b c) : Same n a c := ⟨k.1.trans h.1, fun i hi => (k.2 i hi).trans (h.2 i hi)⟩
theorem Same.set {n : Nat} {ah : AH} {o : HObj} : Same n ah (ah.set n o) := ⟨by simp, fun i hi => by rw [List.getElem?_set_ne (Ne.symm hi)]⟩
noncomputable def takeBody : GS := gSeq (gIf (gTB (gOp gtO (gOp ixO (gVar 0) (gC (.int 0))) (gC (.int 0)))) (gSeq (gSet 2 (gOp modO (gOp ixO (gVar 0) (gC (.int 0))) (gVar 1))) (gSeq (gStore (gOp fdivO (gOp ixO (gVar 0) (gC (.int 0))) (gVar 1)) (gVar 0) (gC (.int 0))) (gRet (gVar 2)))) (gSkip)) (gSeq (gStore (gOp modO (gOp addO (gOp mulO (gOp ixO (gVar 0) (gC (.int 1))) (gC (.int 39373))) (gC (.int 7919))) (gC (.int 2147483629))) (gVar 0) (gC (.int 1))) (gRet (gOp modO (gOp fdivO (gOp modO (gOp mulO (gOp ixO (gVar 0) (gC (.int 1))) (gOp ixO (gVar 0) (gC (.int 1)))) (gC (.int 2147483563))) (gC (.int 11))) (gVar 1))))
noncomputable def takeDen : Den := gFun 2 3 takeBody
theorem w_take {E : ErrP} {n : Nat} {rest : List AV} {ah : AH} {k : Int} {P : AV → AH → Prop} (hp : Pot n rest ah) (hk : 0 < k) (hk2 : k < 10 ^ 100)
    (h : ∀ r ah', 0 ≤ r → r < k → Pot n rest ah' → Same n ah ah' → P (.int r) ah') : wx E (takeDen [.ref n, .int k] ah) P := by
  obtain ⟨a, b, q⟩ := hp
  have hn : n < ah.length := by
    rcases Nat.lt_or_ge n ah.length with h | h
    · exact h
    · rw [List.getElem?_eq_none h] at q; cases q
  refine w_fun rfl ?_
  have i0 : ixN (rest.length + 1 + 1) 0 = some 0 := by unfold ixN; simp; omega
  have i1 : ixN (rest.length + 1 + 1) 1 = some 1 := by unfold ixN; simp; omega
  unfold takeBody
  simp [o_ixR q, at0, at1, o_stR q, hk, hk2, i0, i1]
  by_cases ha : 0 < a
  · simp only [ha, if_true]
    refine ⟨by simpa using hk2, ?_⟩
    exact h _ _ (Int.emod_nonneg _ (by omega)) (Int.emod_lt_of_pos _ hk) ⟨a / k, b, List.getElem?_set_self hn⟩ Same.set
  · simp only [ha, if_false]
    have q2 : (ah.set n (.lst (.int a :: .int ((b * 39373 + 7919) % 2147483629) :: rest)))[n]? = some (.lst (.int a :: .int ((b * 39373 + 7919) % 2147483629) :: rest)) := by simp [hn]
    simp [o_ixR q2, at1, hk]
    refine ⟨by omega, ?_⟩
    exact h _ _ (Int.emod_nonneg _ (by omega)) (Int.emod_lt_of_pos _ hk) ⟨a, _, q2⟩ Same.set
end G
namespace G
open PySem L2
set_option autoImplicit false
theorem log2_lt' {n k : Nat} (hk : 0 < k) (h : n < 2 ^ k) : n.log2 < k := by
  by_cases e : n = 0
  · subst e; simpa using hk
  · exact (Nat.log2_lt e).mpr h
theorem dig_all (i : Int) : (digA i).all (· < 0x110000) = true := by
  unfold digA
  rw [Str.ofString_eq_toList]
  simp only [List.all_map, List.all_eq_true, Function.comp]
  intro c _
  have := c.valid
  have h2 : c.toNat.isValidChar := this
  unfold Nat.isValidChar at h2
  simp
  omega
theorem dig_len {i : Int} (h : i.natAbs.log2 < 1920) : (digA i).length ≤ i.natAbs.log2 + 2 := by
  have := shown_int_len i h
  simpa [digA, PyData.shown, Str.length] using this
mutual
def tdp : AV → Nat
  | .tup l => tdps l + 1
  | .lst l => tdps l + 1
  | _ => 0
def tdps : List AV → Nat
  | [] => 0
  | v :: l => max (tdp v) (tdps l)
end
theorem tdps_mem {l : List AV} {n : Nat} (h : tdps l < n) : ∀ v ∈ l, tdp v < n := by
  induction l with
  | nil => simp
  | cons v l ih =>
    rw [tdps] at h
    intro w hw
    rcases List.mem_cons.mp hw with rfl | hw
    · omega
    · exact ih (by omega) w hw
theorem tdps_le {l : List AV} {n : Nat} (h : ∀ v ∈ l, tdp v ≤ n) : tdps l ≤ n := by
  induction l with
  | nil => simp [tdps]
  | cons v l ih =>
    rw [tdps]
    have := h v (by simp)
    have := ih fun w hw => h w (by simp [hw])
    omega
mutual
/-- texts of at most k signs, tuples and lists of at most k parts, nothing of ours -/
def okN (k : Nat) : AV → Bool
  | .str s => decide (s.length ≤ k)
  | .tup l => decide (l.length ≤ k) && okNs k l
  | .lst l => decide (l.length ≤ k) && okNs k l
  | .ref _ => false
  | .fl _ => false
  | _ => true
def okNs (k : Nat) : List AV → Bool
  | [] => true
  | v :: l => okN k v && okNs k l
end
theorem okNs_mem {k : Nat} {l : List AV} (h : okNs k l = true) : ∀ v ∈ l, okN k v = true := by
  induction l with
  | nil => simp
  | cons v l ih =>
    rw [okNs, Bool.and_eq_true] at h
    intro w hw
    rcases List.mem_cons.mp hw with rfl | hw
    · exact h.1
    · exact ih h.2 w hw
theorem okNs_of {k : Nat} {l : List AV} (h : ∀ v ∈ l, okN k v = true) : okNs k l = true := by
  induction l with
  | nil => rfl
  | cons v l ih => rw [okNs, h v (by simp), ih fun w hw => h w (by simp [hw])]; rfl
def mdB (c : Bool) : Md := if c then .m else .l
@[simp] theorem mdB_lst {c : Bool} : (mdB c).lst = true := by cases c <;> rfl
/-- c: whether dicts stand in it -/
structure Sz (c : Bool) (k L d : Nat) (v : AV) : Prop where
  ok : okR (mdB c) v = true
  len : lenR v ≤ L
  dep : depR v ≤ d
  okn : okN k v = true
  td : tdp v ≤ d
theorem Sz.mono {c : Bool} {k L d L' d' : Nat} {v : AV} (h : Sz c k L d v) (hL : L ≤ L') (hd : d ≤ d') : Sz c k L' d' v := ⟨h.ok, Nat.le_trans h.len hL, Nat.le_trans h.dep hd, h.okn, Nat.le_trans h.td hd⟩
theorem Sz.rep {c : Bool} {k L d : Nat} {v : AV} (h : Sz c k L d v) (hL : L ≤ 16000000) (hd : d ≤ 150) : repOk v = true := by
  unfold repOk
  have h1 := Nat.le_trans h.len hL
  have h2 := Nat.le_trans h.dep hd
  have h3 : okR .m v = true := okR_m _ v h.ok
  simp [h1, h2, h3]
theorem Sz.int {c : Bool} {k L d : Nat} {i : Int} (h : i.natAbs < 2 ^ 200) (hL : 210 ≤ L) : Sz c k L d (.int i) := by
  have := log2_lt' (by decide) h
  exact ⟨decide_eq_true (by omega), by simp [lenR]; omega, by simp [depR], rfl, by simp [tdp]⟩
theorem Sz.bl {c : Bool} {k L d : Nat} {b : Bool} (hL : 5 ≤ L) : Sz c k L d (.bl b) := ⟨rfl, by simpa [lenR] using hL, by simp [depR], rfl, by simp [tdp]⟩
theorem Sz.non {c : Bool} {k L d : Nat} (hL : 5 ≤ L) : Sz c k L d .non := ⟨rfl, by simp [lenR]; omega, by simp [depR], rfl, by simp [tdp]⟩
theorem Sz.str {c : Bool} {k L d : Nat} {s : List Nat} (h : s.all (· < 0x110000) = true) (hk : s.length ≤ k) (hL : 10 * s.length + 2 ≤ L) : Sz c k L d (.str s) := ⟨h, by simpa [lenR] using hL, by simp [depR], decide_eq_true hk, by simp [tdp]⟩
theorem Sz.dk0 {k L d : Nat} (hL : 3 ≤ L) (hd : 1 ≤ d) : Sz true k L d (.dk []) := ⟨rfl, by simpa [lenR, lenRk] using hL, by simpa [depR, depRk] using hd, rfl, by simp [tdp]⟩
theorem szs {c : Bool} {k L d : Nat} {l : List AV} (h : ∀ v ∈ l, Sz c k L d v) : okRs (mdB c) l = true ∧ lenRs l ≤ l.length * (L + 2) ∧ depRs l ≤ d := by
  induction l with
  | nil => exact ⟨rfl, by simp [lenRs], by simp [depRs]⟩
  | cons v l ih =>
    obtain ⟨h1, h2, h3⟩ := ih fun w hw => h w (by simp [hw])
    have := h v (by simp)
    refine ⟨by rw [okRs, this.ok, h1]; rfl, ?_, ?_⟩
    · rw [lenRs, List.length_cons, Nat.succ_mul]
      have := this.len
      omega
    · rw [depRs]
      have := this.dep
      omega
theorem Sz.tup {c : Bool} {k L d n L' : Nat} {l : List AV} (h : ∀ v ∈ l, Sz c k L d v) (hn : l.length ≤ n) (hk : n ≤ k) (hL : n * (L + 2) + 3 ≤ L') : Sz c k L' (d + 1) (.tup l) := by
  obtain ⟨h1, h2, h3⟩ := szs h
  have h4 : l.length * (L + 2) ≤ n * (L + 2) := Nat.mul_le_mul_right _ hn
  refine ⟨h1, by rw [lenR]; omega, by rw [depR]; omega, ?_, ?_⟩
  · rw [okN, okNs_of fun v hv => (h v hv).okn, decide_eq_true (by omega)]; rfl
  · rw [tdp]
    have := tdps_le fun v hv => (h v hv).td
    omega
theorem Sz.lst {c : Bool} {k L d n L' : Nat} {l : List AV} (h : ∀ v ∈ l, Sz c k L d v) (hn : l.length ≤ n) (hk : n ≤ k) (hL : n * (L + 2) + 3 ≤ L') : Sz c k L' (d + 1) (.lst l) := by
  obtain ⟨h1, h2, h3⟩ := szs h
  have h4 : l.length * (L + 2) ≤ n * (L + 2) := Nat.mul_le_mul_right _ hn
  refine ⟨by rw [okR, h1, mdB_lst]; rfl, by rw [lenR]; omega, by rw [depR]; omega, ?_, ?_⟩
  · rw [okN, okNs_of fun v hv => (h v hv).okn, decide_eq_true (by omega)]; rfl
  · rw [tdp]
    have := tdps_le fun v hv => (h v hv).td
    omega
theorem Sz.pair {c : Bool} {k L1 L2 d : Nat} {a b : AV} (h1 : Sz c k L1 d a) (h2 : Sz c k L2 d b) (hk : 2 ≤ k) : Sz c k (L1 + L2 + 7) (d + 1) (.tup [a, b]) := by
  have e1 := h1.len
  have e2 := h2.len
  have e3 := h1.dep
  have e4 := h2.dep
  have e5 := h1.td
  have e6 := h2.td
  exact ⟨by simp [okR, okRs, h1.ok, h2.ok], by simp [lenR, lenRs]; omega, by simp [depR, depRs]; omega, by simp [okN, okNs, h1.okn, h2.okn]; omega, by simp [tdp, tdps]; omega⟩
theorem Sz.one {c : Bool} {k L d : Nat} {a : AV} (h1 : Sz c k L d a) (hk : 1 ≤ k) : Sz c k (L + 5) (d + 1) (.tup [a]) := by
  have e1 := h1.len
  have e3 := h1.dep
  have e5 := h1.td
  exact ⟨by simp [okR, okRs, h1.ok], by simp [lenR, lenRs]; omega, by simp [depR, depRs]; omega, by simp [okN, okNs, h1.okn]; omega, by simp [tdp, tdps]; omega⟩
theorem dr_okN {ah : AH} {k : Nat} {v : AV} (h : okN k v = true) : dr ah v = v := by
  cases v <;> first | rfl | (have h' : false = true := h; exact (nomatch h'))
theorem Pot.lt {n : Nat} {r : List AV} {ah : AH} (h : Pot n r ah) : n < ah.length := by
  obtain ⟨a, b, q⟩ := h
  rcases Nat.lt_or_ge n ah.length with h | h
  · exact h
  · rw [List.getElem?_eq_none h] at q; cases q
theorem Pot.app {n : Nat} {r : List AV} {ah x : AH} (h : Pot n r ah) : Pot n r (ah ++ x) := by
  have hl := h.lt
  obtain ⟨a, b, q⟩ := h
  exact ⟨a, b, by rw [List.getElem?_append_left hl]; exact q⟩
theorem Pot.set {n m : Nat} {r : List AV} {ah : AH} {o : HObj} (h : Pot n r ah) (hm : m ≠ n) : Pot n r (ah.set m o) := by
  obtain ⟨a, b, q⟩ := h
  exact ⟨a, b, by rw [List.getElem?_set_ne hm]; exact q⟩
theorem o_eqR {ah : AH} {n : Nat} {l l' : List AV} (h : ah[n]? = some (.lst l)) : eqO ah (.ref n) (.lst l') = eqO ah (.lst l) (.lst l') := by
  show (match dkE (dr ah (.ref n)) (.lst l') with | some b => some (AV.bl b) | none => if lenNe (dr ah (.ref n)) (.lst l') = true then some (AV.bl false) else if (shA (dr ah (.ref n)) && shA (.lst l')) = true then some (AV.bl (eqA (dr ah (.ref n)) (.lst l'))) else none) = _
  rw [dr_ref h]; rfl
theorem isi_refL {ah : AH} {n : Nat} {l : List AV} (h : ah[n]? = some (.lst l)) : isiA ah (.ref n) .list = some true := by
  unfold isiA
  rw [dr_ref h]; rfl
mutual
theorem eqA_refl : ∀ v : AV, okA v = true → eqA v v = true
  | .non, _ => rfl
  | .bl b, _ => by simp [eqA]
  | .int i, _ => by simp [eqA]
  | .str s, _ => by simp [eqA]
  | .tup l, h => by rw [eqA]; exact eqAs_refl l h
  | .lst l, h => by rw [eqA]; exact eqAs_refl l h
  | .dk _, h => (nomatch (show false = true from h))
  | .fl _, h => (nomatch (show false = true from h))
  | .ref _, h => (nomatch (show false = true from h))
theorem eqAs_refl : ∀ l : List AV, okAs l = true → eqAs l l = true
  | [], _ => rfl
  | v :: l, h => by
    rw [okAs, Bool.and_eq_true] at h
    rw [eqAs, eqA_refl v h.1, eqAs_refl l h.2]; rfl
end
mutual
theorem okA_of : ∀ v : AV, okR .l v = true → okA v = true
  | .non, _ => rfl
  | .bl b, _ => rfl
  | .int i, _ => rfl
  | .str s, h => h
  | .tup l, h => okAs_of l h
  | .lst l, h => okAs_of l (by rw [okR, Bool.and_eq_true] at h; exact h.2)
  | .dk _, h => by rw [okR] at h; exact absurd h (by simp [Md.dk])
  | .fl _, h => (nomatch (show false = true from h))
  | .ref _, h => (nomatch (show false = true from h))
theorem okAs_of : ∀ l : List AV, okRs .l l = true → okAs l = true
  | [], _ => rfl
  | v :: l, h => by
    rw [okRs, Bool.and_eq_true] at h
    rw [okAs, okA_of v h.1, okAs_of l h.2]; rfl
end
mutual
theorem depA_le : ∀ v : AV, depthA v ≤ depR v
  | .non => by simp [depthA]
  | .bl b => by simp [depthA]
  | .int i => by simp [depthA]
  | .str s => by simp [depthA]
  | .tup l => by rw [depthA, depR]; have := depAs_le l; omega
  | .lst l => by rw [depthA, depR]; have := depAs_le l; omega
  | .dk _ => by simp [depthA]
  | .fl _ => by simp [depthA]
  | .ref _ => by simp [depthA]
theorem depAs_le : ∀ l : List AV, depthAs l ≤ depRs l
  | [] => by simp [depthAs]
  | v :: l => by rw [depthAs, depRs]; have := depA_le v; have := depAs_le l; omega
end
theorem Sz.sh {k L d : Nat} {v : AV} (h : Sz false k L d v) (hd : d ≤ 64) : shA v = true := by
  unfold shA
  have h1 := okA_of v h.ok
  have h2 := depA_le v
  have h3 := h.dep
  rw [h1, decide_eq_true (by omega)]; rfl
theorem eqO_same {ah : AH} {l : List AV} (h : shA (.lst l) = true) : eqO ah (.lst l) (.lst l) = some (.bl true) := by
  show (if lenNe (.lst l) (.lst l) = true then some (AV.bl false) else if (shA (.lst l) && shA (.lst l)) = true then some (AV.bl (eqA (.lst l) (.lst l))) else none) = _
  have e : okA (.lst l) = true := by unfold shA at h; rw [Bool.and_eq_true] at h; exact h.1
  rw [h, eqA_refl _ e]
  simp [lenNe]
/-- a comprehension without a test, what is made so far in hand -/
theorem w_lcY {src : Src} (hs : src.1 = none) {h : GG} {e : GE} {env : Env} {I : List AV → AH → Prop} {m : Nat} : ∀ (l acc : List AV) (ah : AH) (P : List AV → AH → Prop), acc.length + l.length = m → I acc ah →
    (∀ v ∈ l, ∀ acc ah, acc.length < m → I acc ah → ∃ env1, h env v = some env1 ∧ wp (e env1 ah) fun x ah2 => I (acc ++ [x]) ah2) →
    (∀ r ah', r.length = l.length → I (acc ++ r) ah' → P r ah') → wp (lcL src h gYes e env l ah) P
  | [], acc, ah, P, hm, hI, hstep, hP => by
    have : ckS src ah := by unfold ckS; rw [hs]; trivial
    rw [lcL, if_pos this]
    exact hP [] ah rfl (by simpa using hI)
  | v :: l, acc, ah, P, hm, hI, hstep, hP => by
    have : ckS src ah := by unfold ckS; rw [hs]; trivial
    rw [lcL, if_pos this]
    rw [List.length_cons] at hm
    obtain ⟨env1, h1, h2⟩ := hstep v (by simp) acc ah (by omega) hI
    rw [h1]
    simp only [wp_rb, w_yes, if_true]
    refine wp_mono h2 fun x ah2 q => ?_
    refine w_lcY hs l (acc ++ [x]) ah2 _ (by simp; omega) q (fun w hw => hstep w (by simp [hw])) fun r ah' hr hI' => ?_
    exact hP (x :: r) ah' (by simp [hr]) (by simpa using hI')
theorem wp_ok' {α : Type} {r : Res α} {P : α → AH → Prop} (h : wp r P) : wp r P := h
@[simp] theorem o_rep {ah : AH} {v : AV} : repO ah [v] = if repOk (dr ah v) then some (.str (repA (dr ah v))) else none := rfl
@[simp] theorem rngA_len {lo : Int} {n : Nat} : (rngA lo n).length = n := by simp [rngA]
theorem rngA_mem {lo : Int} {n : Nat} {v : AV} (h : v ∈ rngA lo n) : ∃ i : Int, v = .int i ∧ lo ≤ i ∧ i < lo + n := by
  unfold rngA at h
  obtain ⟨i, hi, rfl⟩ := List.mem_map.mp h
  have := List.mem_range.mp hi
  exact ⟨_, rfl, by omega, by omega⟩
end G
namespace G
open PySem L2
set_option autoImplicit false
theorem digA_nat (m : Nat) : digA ((m : Nat) : Int) = (Nat.toDigits 10 m).map Char.toNat := PySem.W.KIN.signs_num m
theorem digA_eq {i : Int} (h : 0 ≤ i) : digA i = (Nat.toDigits 10 i.toNat).map Char.toNat := by
  rw [← digA_nat, Int.toNat_of_nonneg h]
theorem digA_figs {i : Int} (h : 0 ≤ i) : ∀ c ∈ digA i, 48 ≤ c ∧ c ≤ 57 := by
  intro c hc
  rw [digA_eq h] at hc
  obtain ⟨ch, hch, rfl⟩ := List.mem_map.mp hc
  exact PyProof.Rows.digit_range (Nat.isDigit_of_mem_toDigits (by decide) (by decide) hch)
theorem digA_val {i : Int} (h : 0 ≤ i) : PySem.NumText.digitsVal (digA i) = i.toNat := by
  rw [digA_eq h]
  exact PySem.W.KIN.val_back _
theorem digA_ne {i : Int} (h : 0 ≤ i) : digA i ≠ [] := by
  rw [digA_eq h]
  intro e
  exact Nat.toDigits_ne_nil (List.map_eq_nil_iff.mp e)
theorem digA_inj {i j : Int} (hi : 0 ≤ i) (hj : 0 ≤ j) (h : digA i = digA j) : i = j := by
  have := digA_val hi
  rw [h, digA_val hj] at this
  omega
/-- signs that stand in a repr as they are -/
def simC (c : Nat) : Bool := decide (32 ≤ c) && decide (c ≤ 126) && decide (c ≠ 39) && decide (c ≠ 92)
theorem simC_print : ∀ c, c < 127 → simC c = true → Builtin.Str.reprChar 39 c = [c] := by decide +kernel
theorem sim_repr {c : Nat} (h : simC c = true) : Builtin.Str.reprChar 39 c = [c] := simC_print c (by simp [simC] at h; omega) h
theorem sim_fold : ∀ (s : List Nat) (acc : Array Nat), s.all simC = true → (s.foldl (fun out c => out ++ (Builtin.Str.reprChar 39 c).toArray) acc).toList = acc.toList ++ s
  | [], acc, _ => by simp
  | c :: s, acc, h => by
    rw [List.all_cons, Bool.and_eq_true] at h
    rw [List.foldl_cons, sim_fold s _ h.2, sim_repr h.1]
    simp
theorem shown_sim {s : List Nat} (h : s.all simC = true) : (PyData.shown (.str (mkS s))).cps.toList = 39 :: s ++ [39] := by
  have q : reprQuote (mkS s) = 39 := by
    unfold reprQuote
    have : (mkS s).cps.contains 39 = false := by
      have : ¬ 39 ∈ s := fun z => by
        have := List.all_eq_true.mp h 39 z
        revert this; decide
      simpa [mkS] using this
    rw [this]; rfl
  show (Array.push ((mkS s).cps.foldl (fun out c => out ++ (Builtin.Str.reprChar (reprQuote (mkS s)) c).toArray) #[reprQuote (mkS s)]) (reprQuote (mkS s))).toList = _
  rw [q, Array.toList_push, ← Array.foldl_toList]
  rw [mkS_list, sim_fold s _ h]
  simp
mutual
/-- plain data: numbers from 0 on, truths, texts of simple signs, tuples of such -/
def plA : AV → Bool
  | .int i => decide (0 ≤ i)
  | .bl _ => true
  | .str s => s.all simC
  | .tup l => plAs l
  | _ => false
def plAs : List AV → Bool
  | [] => true
  | v :: l => plA v && plAs l
end
theorem plAs_all {l : List AV} : plAs l = true ↔ ∀ v ∈ l, plA v = true := by
  induction l with
  | nil => simp [plAs]
  | cons v l ih => rw [plAs, Bool.and_eq_true, ih]; simp
mutual
def shA' : AV → List Nat
  | .int i => digA i
  | .bl b => if b then [84, 114, 117, 101] else [70, 97, 108, 115, 101]
  | .str s => 39 :: (s ++ [39])
  | .tup l => 40 :: (shIn l ++ [41])
  | _ => []
def shIn : List AV → List Nat
  | [] => []
  | v :: l => shA' v ++ (if l.isEmpty then [44] else shMore l)
def shMore : List AV → List Nat
  | [] => []
  | v :: l => 44 :: 32 :: (shA' v ++ shMore l)
end
theorem apS (a b : Str) : (a ++ b).cps.toList = a.cps.toList ++ b.cps.toList := by
  show (Str.append a b).cps.toList = _
  simp [Str.append]
theorem sepS : ((", " : String) : Str).cps.toList = [44, 32] := by decide +kernel
theorem parL : (("(" : String) : Str).cps.toList = [40] := by decide +kernel
theorem parR : ((")" : String) : Str).cps.toList = [41] := by decide +kernel
theorem parR1 : ((",)" : String) : Str).cps.toList = [44, 41] := by decide +kernel
mutual
theorem shown_pl : ∀ v : AV, plA v = true → (toD v).shown.cps.toList = shA' v
  | .int i, _ => rfl
  | .bl true, _ => by decide +kernel
  | .bl false, _ => by decide +kernel
  | .str s, h => by rw [shA']; exact shown_sim h
  | .tup l, h => by
    show (tupleText (PyData.shownAll (toDs l))).cps.toList = _
    unfold tupleText
    rw [apS, apS]
    rw [parL]
    rw [shA']
    cases l with
    | nil => decide +kernel
    | cons v l =>
      rw [plA, plAs, Bool.and_eq_true] at h
      cases l with
      | nil =>
        show [40] ++ (toD v).shown.cps.toList ++ _ = _
        rw [shown_pl v h.1, shIn]
        show [40] ++ _ ++ (((",)" : String) : Str)).cps.toList = _
        rw [parR1]
        simp
      | cons w l =>
        have e := shown_more (v :: w :: l) (by rw [plAs, h.1, h.2]; rfl)
        show [40] ++ (Str.join ", " (PyData.shownAll (toDs (v :: w :: l)))).cps.toList ++ (((")" : String) : Str)).cps.toList = _
        rw [parR, shIn]
        rw [shMore] at e
        have e2 : (44 :: 32 :: (Str.join ", " (PyData.shownAll (toDs (v :: w :: l)))).cps.toList) = 44 :: 32 :: (shA' v ++ shMore (w :: l)) := e
        have e3 := (List.cons.inj (List.cons.inj e2).2).2
        rw [e3]
        simp
theorem shown_more : ∀ l : List AV, plAs l = true → (match l with | [] => [] | _ :: _ => 44 :: 32 :: (Str.join ", " (PyData.shownAll (toDs l))).cps.toList) = shMore l
  | [], _ => rfl
  | [v], h => by
    rw [plAs, Bool.and_eq_true] at h
    show 44 :: 32 :: (toD v).shown.cps.toList = _
    rw [shown_pl v h.1, shMore, shMore]
    simp
  | v :: w :: l, h => by
    rw [plAs, Bool.and_eq_true] at h
    have e : (44 :: 32 :: (Str.join ", " (PyData.shownAll (toDs (w :: l)))).cps.toList) = shMore (w :: l) := shown_more (w :: l) h.2
    show 44 :: 32 :: ((toD v).shown ++ ((", " : String) : Str) ++ Str.join ", " (PyData.shownAll (toDs (w :: l)))).cps.toList = _
    rw [apS, apS, sepS, shown_pl v h.1, shMore, ← e]
    simp
end
def stopL (s : List Nat) : Prop := s = [] ∨ (∃ t, s = 44 :: t) ∨ ∃ t, s = 41 :: t
theorem figs_cut : ∀ {a b s t : List Nat}, (∀ c ∈ a, 48 ≤ c ∧ c ≤ 57) → (∀ c ∈ b, 48 ≤ c ∧ c ≤ 57) → stopL s → stopL t → a ++ s = b ++ t → a = b ∧ s = t
  | [], [], _, _, _, _, _, _, h => ⟨rfl, h⟩
  | [], d :: b, s, t, _, hb, hs, _, h => by
    have := hb d (by simp)
    rcases hs with rfl | ⟨u, rfl⟩ | ⟨u, rfl⟩ <;> simp at h <;> omega
  | c :: a, [], s, t, ha, _, _, ht, h => by
    have := ha c (by simp)
    rcases ht with rfl | ⟨u, rfl⟩ | ⟨u, rfl⟩ <;> simp at h <;> omega
  | c :: a, d :: b, s, t, ha, hb, hs, ht, h => by
    rw [List.cons_append, List.cons_append] at h
    obtain ⟨e1, e2⟩ := List.cons.inj h
    obtain ⟨q1, q2⟩ := figs_cut (fun x hx => ha x (by simp [hx])) (fun x hx => hb x (by simp [hx])) hs ht e2
    exact ⟨by rw [e1, q1], q2⟩
theorem quote_cut : ∀ {a b s t : List Nat}, 39 ∉ a → 39 ∉ b → a ++ 39 :: s = b ++ 39 :: t → a = b ∧ s = t
  | [], [], _, _, _, _, h => ⟨rfl, (List.cons.inj h).2⟩
  | [], d :: b, s, t, _, hb, h => by
    obtain ⟨e1, _⟩ := List.cons.inj h
    exact absurd (by rw [e1]; simp) hb
  | c :: a, [], s, t, ha, _, h => by
    obtain ⟨e1, _⟩ := List.cons.inj h
    exact absurd (by rw [e1]; simp) ha
  | c :: a, d :: b, s, t, ha, hb, h => by
    obtain ⟨e1, e2⟩ := List.cons.inj h
    obtain ⟨q1, q2⟩ := quote_cut (fun z => ha (by simp [z])) (fun z => hb (by simp [z])) e2
    exact ⟨by rw [e1, q1], q2⟩
theorem sim_no {s : List Nat} (h : s.all simC = true) : 39 ∉ s := fun z => by
  have := List.all_eq_true.mp h 39 z
  revert this; decide
/-- by its first sign one knows what it is -/
def kindOf : AV → Nat
  | .int _ => 0
  | .bl true => 1
  | .bl false => 2
  | .str _ => 3
  | .tup _ => 4
  | _ => 5
theorem sh_head {v : AV} (h : plA v = true) : ∃ c t, shA' v = c :: t ∧ (kindOf v = 0 → 48 ≤ c ∧ c ≤ 57) ∧ (kindOf v = 1 → c = 84) ∧ (kindOf v = 2 → c = 70) ∧ (kindOf v = 3 → c = 39) ∧ (kindOf v = 4 → c = 40) ∧ kindOf v < 5 := by
  cases v with
  | int i =>
    have h0 : 0 ≤ i := of_decide_eq_true h
    have := digA_ne h0
    have f := digA_figs h0
    rw [shA']
    cases q : digA i with
    | nil => exact absurd q this
    | cons c t => exact ⟨c, t, rfl, fun _ => f c (by rw [q]; simp), by simp [kindOf]⟩
  | bl b => cases b <;> exact ⟨_, _, rfl, by simp [kindOf]⟩
  | str s => exact ⟨39, _, rfl, by simp [kindOf]⟩
  | tup l => exact ⟨40, _, rfl, by simp [kindOf]⟩
  | _ => exact absurd h (by simp [plA])
mutual
theorem sh_uniq : ∀ (v w : AV) (s t : List Nat), plA v = true → plA w = true → stopL s → stopL t → shA' v ++ s = shA' w ++ t → v = w ∧ s = t
  | v, w, s, t, hv, hw, hs, ht, h => by
    obtain ⟨c, a, e1, k1⟩ := sh_head hv
    obtain ⟨d, b, e2, k2⟩ := sh_head hw
    have hk : kindOf v = kindOf w := by
      have hcd : c = d := by rw [e1, e2] at h; exact (List.cons.inj h).1
      omega
    clear k1 k2 e1 e2
    cases v with
    | int i =>
      cases w with
      | int j =>
        have hi : 0 ≤ i := of_decide_eq_true hv
        have hj : 0 ≤ j := of_decide_eq_true hw
        rw [shA', shA'] at h
        obtain ⟨q1, q2⟩ := figs_cut (digA_figs hi) (digA_figs hj) hs ht h
        exact ⟨by rw [digA_inj hi hj q1], q2⟩
      | bl b => cases b <;> exact absurd hk (by simp [kindOf])
      | _ => exact absurd hk (by simp [kindOf])
    | bl b =>
      cases w with
      | bl b' =>
        have e : b = b' := by cases b <;> cases b' <;> simp [kindOf] at hk ⊢
        subst e
        exact ⟨rfl, List.append_cancel_left h⟩
      | _ => cases b <;> exact absurd hk (by simp [kindOf])
    | str x =>
      cases w with
      | str y =>
        rw [shA', shA'] at h
        have h2 : x ++ 39 :: s = y ++ 39 :: t := by simpa using h
        obtain ⟨q1, q2⟩ := quote_cut (sim_no hv) (sim_no hw) h2
        exact ⟨by rw [q1], q2⟩
      | bl b => cases b <;> exact absurd hk (by simp [kindOf])
      | _ => exact absurd hk (by simp [kindOf])
    | tup l =>
      cases w with
      | tup l' =>
        rw [shA', shA'] at h
        have h2 : shIn l ++ 41 :: s = shIn l' ++ 41 :: t := by simpa using h
        have := sh_uniqs l l' s t hv hw h2
        exact ⟨by rw [this.1], this.2⟩
      | bl b => cases b <;> exact absurd hk (by simp [kindOf])
      | _ => exact absurd hk (by simp [kindOf])
    | _ => exact absurd hv (by simp [plA])
  termination_by v _ _ _ => (sizeOf v, 0)
theorem sh_uniqs : ∀ (l l' : List AV) (s t : List Nat), plAs l = true → plAs l' = true → shIn l ++ 41 :: s = shIn l' ++ 41 :: t → l = l' ∧ s = t
  | [], [], s, t, _, _, h => ⟨rfl, by simpa [shIn] using h⟩
  | [], w :: l', s, t, _, hw, h => by
    rw [plAs, Bool.and_eq_true] at hw
    obtain ⟨d, b, e2, k2⟩ := sh_head hw.1
    rw [shIn, shIn, e2] at h
    have := (List.cons.inj h).1
    omega
  | v :: l, [], s, t, hv, _, h => by
    rw [plAs, Bool.and_eq_true] at hv
    obtain ⟨d, b, e2, k2⟩ := sh_head hv.1
    rw [shIn, shIn, e2] at h
    have := (List.cons.inj h).1
    omega
  | v :: l, w :: l', s, t, hv, hw, h => by
    rw [plAs, Bool.and_eq_true] at hv hw
    rw [shIn, shIn, List.append_assoc, List.append_assoc] at h
    have st : ∀ (m : List AV) (u : List Nat), stopL ((if m.isEmpty then [44] else shMore m) ++ 41 :: u) := fun m u => by
      cases m with
      | nil => exact .inr (.inl ⟨_, rfl⟩)
      | cons a m => exact .inr (.inl ⟨_, by rw [shMore]; rfl⟩)
    obtain ⟨q1, q2⟩ := sh_uniq v w _ _ hv.1 hw.1 (st l s) (st l' t) h
    cases l with
    | nil =>
      cases l' with
      | nil => exact ⟨by rw [q1], by simpa using q2⟩
      | cons a m => simp [shMore] at q2
    | cons a m =>
      cases l' with
      | nil => simp [shMore] at q2
      | cons a' m' =>
        have := sh_uniqm (a :: m) (a' :: m') s t hv.2 hw.2 q2
        exact ⟨by rw [q1, this.1], this.2⟩
  termination_by l => (sizeOf l, 1)
theorem sh_uniqm : ∀ (l l' : List AV) (s t : List Nat), plAs l = true → plAs l' = true → shMore l ++ 41 :: s = shMore l' ++ 41 :: t → l = l' ∧ s = t
  | [], [], s, t, _, _, h => ⟨rfl, by simpa [shMore] using h⟩
  | [], w :: l', s, t, _, _, h => by simp [shMore] at h
  | v :: l, [], s, t, _, _, h => by simp [shMore] at h
  | v :: l, w :: l', s, t, hv, hw, h => by
    rw [plAs, Bool.and_eq_true] at hv hw
    rw [shMore, shMore] at h
    have h2 : shA' v ++ (shMore l ++ 41 :: s) = shA' w ++ (shMore l' ++ 41 :: t) := by simpa using h
    have st : ∀ (m : List AV) (u : List Nat), stopL (shMore m ++ 41 :: u) := fun m u => by
      cases m with
      | nil => exact .inr (.inr ⟨_, rfl⟩)
      | cons a m => exact .inr (.inl ⟨_, by rw [shMore]; rfl⟩)
    obtain ⟨q1, q2⟩ := sh_uniq v w _ _ hv.1 hw.1 (st l s) (st l' t) h2
    have := sh_uniqm l l' s t hv.2 hw.2 q2
    exact ⟨by rw [q1, this.1], this.2⟩
  termination_by l => (sizeOf l, 1)
end
theorem rep_inj {v w : AV} (hv : plA v = true) (hw : plA w = true) (h : repA v = repA w) : v = w := by
  unfold repA at h
  rw [shown_pl v hv, shown_pl w hw] at h
  exact (sh_uniq v w [] [] hv hw (.inl rfl) (.inl rfl) (by simpa using h)).1
theorem figs_sim {i : Int} (h : 0 ≤ i) : (digA i).all simC = true := by
  rw [List.all_eq_true]
  intro c hc
  have := digA_figs h c hc
  simp [simC]
  omega
theorem toD_len : ∀ (k m : Nat), m < 10 ^ (k + 1) → (Nat.toDigits 10 m).length ≤ k + 1
  | k, m, h => by
    by_cases h1 : m < 10
    · rw [Nat.toDigits_of_lt_base h1]; simp
    · cases k with
      | zero => simp at h; omega
      | succ k =>
        have t : Nat.toDigits 10 (m / 10) ++ Nat.toDigits 10 (m % 10) = Nat.toDigits 10 (10 * (m / 10) + m % 10) := Nat.toDigits_append_toDigits (by decide) (by omega) (Nat.mod_lt m (by decide))
        rw [Nat.div_add_mod] at t
        rw [← t, List.length_append, Nat.toDigits_of_lt_base (Nat.mod_lt m (by decide))]
        have := toD_len k (m / 10) (by rw [Nat.pow_succ] at h; exact Nat.div_lt_of_lt_mul (by omega))
        simp
        omega
theorem dig_len10 {i : Int} (k : Nat) (h0 : 0 ≤ i) (h : i < ((10 ^ (k + 1) : Nat) : Int)) : (digA i).length ≤ k + 1 := by
  rw [digA_eq h0, List.length_map]
  exact toD_len k i.toNat (by omega)
end G
namespace Law
open PySem L2 G
set_option autoImplicit false
noncomputable def body_mark_places : GS := gSeq (gSet 1 (gLstH (gNil))) (gSeq (gFor (gItems (gVar 0)) (gTg 2 (gTc (gNm 2) (gTc (gNm 3) (gTn)))) (gFor (gEnum (gCons (gOp ixO (gVar 3) (gC (.int 2))) (gNil))) (gTg 2 (gTc (gNm 4) (gTc (gNm 5) (gTn)))) (gIf (gTB (gOp eqO (gOp ixO (gVar 5) (gC (.int 0))) (gC (.str [109, 97, 114, 107])))) (gDrop (gApp (gVar 1) (gTup (gCons (gOp ixO (gVar 5) (gC (.int 1))) (gCons (gTup (gCons (gVar 2) (gCons (gVar 4) (gNil)))) (gNil)))))) (gSkip)))) (gRet (gVar 1)))
noncomputable def den_mark_places : Den := gFun 1 6 body_mark_places
noncomputable def body_marks_of : GS := gRet (gDictOfH (gCons (gCall den_mark_places (gCons (gOp ixO (gVar 0) (gC (.int 2))) (gNil))) (gNil)))
noncomputable def den_marks_of : Den := gFun 1 1 body_marks_of
noncomputable def body__law_cell : GS := gRet (gOp ixO (gOp addO (gSl (gVar 0) (gP (gVar 1)) (gP (gOp addO (gVar 1) (gC (.int 1))))) (gLst (gCons (gC (.int 0)) (gNil)))) (gC (.int 0)))
noncomputable def den__law_cell : Den := gFun 2 2 body__law_cell
noncomputable def body__law_pot : GS := gRet (gLstH (gCons (gOp mulO (gVar 0) (gB intO (gCons (gOp geO (gVar 0) (gOp powO (gC (.int 10)) (gC (.int 18)))) (gNil)))) (gCons (gOp modO (gOp addO (gOp mulO (gVar 0) (gC (.int 48271))) (gC (.int 977))) (gC (.int 2147483647))) (gCons (gC (.int 0)) (gNil)))))
noncomputable def den__law_pot : Den := gFun 1 1 body__law_pot
noncomputable def body__law_take : GS := gSeq (gIf (gTB (gOp gtO (gOp ixO (gVar 0) (gC (.int 0))) (gC (.int 0)))) (gSeq (gSet 2 (gOp modO (gOp ixO (gVar 0) (gC (.int 0))) (gVar 1))) (gSeq (gStore (gOp fdivO (gOp ixO (gVar 0) (gC (.int 0))) (gVar 1)) (gVar 0) (gC (.int 0))) (gRet (gVar 2)))) (gSkip)) (gSeq (gStore (gOp modO (gOp addO (gOp mulO (gOp ixO (gVar 0) (gC (.int 1))) (gC (.int 39373))) (gC (.int 7919))) (gC (.int 2147483629))) (gVar 0) (gC (.int 1))) (gRet (gOp modO (gOp fdivO (gOp modO (gOp mulO (gOp ixO (gVar 0) (gC (.int 1))) (gOp ixO (gVar 0) (gC (.int 1)))) (gC (.int 2147483563))) (gC (.int 11))) (gVar 1))))
noncomputable def den__law_take : Den := gFun 2 3 body__law_take
noncomputable def body__law_name : GS := gSeq (gSet 1 (gCall den__law_take (gCons (gVar 0) (gCons (gC (.int 4)) (gNil))))) (gSeq (gIf (gTB (gOp eqO (gVar 1) (gC (.int 0)))) (gSeq (gSet 2 (gLst (gCons (gC (.str [108, 101, 116])) (gCons (gC (.str [103, 111])) (gCons (gC (.str [112, 97, 114, 116])) (gCons (gC (.str [107, 105, 110, 100])) (gCons (gC (.str [98, 111, 120])) (gCons (gC (.str [111, 117, 116])) (gCons (gC (.str [97, 116])) (gCons (gC (.str [97, 100, 100])) (gCons (gC (.str [101, 109, 112, 116, 121])) (gCons (gC (.str [108, 105, 115, 116])) (gCons (gC (.str [108, 101, 97, 100])) (gCons (gC (.str [110, 101, 119])) (gCons (gC (.str [99, 97, 108, 108])) (gCons (gC (.str [112, 117, 116])) (gNil))))))))))))))))) (gSeq (gSet 2 (gOp addO (gVar 2) (gLst (gCons (gC (.str [115, 101, 116])) (gCons (gC (.str [116, 101, 108, 108])) (gCons (gC (.str [109, 97, 114, 107])) (gCons (gC (.str [117, 110, 108, 101, 115, 115])) (gCons (gC (.str [98, 97, 99, 107])) (gCons (gC (.str [109, 97, 110, 121])) (gCons (gC (.str [102, 105, 101, 108, 100])) (gCons (gC (.str [112, 105, 99, 107])) (gCons (gC (.str [110, 111, 116])) (gCons (gC (.str [115, 97, 109, 101])) (gCons (gC (.str [106, 111, 105, 110])) (gNil))))))))))))))) (gRet (gOp ixO (gVar 2) (gCall den__law_take (gCons (gVar 0) (gCons (gC (.int 25)) (gNil)))))))) (gSkip)) (gSeq (gIf (gTB (gOp eqO (gVar 1) (gC (.int 1)))) (gRet (gOp ixO (gC (.str [120, 121, 122, 97, 98])) (gCall den__law_take (gCons (gVar 0) (gCons (gC (.int 5)) (gNil)))))) (gSkip)) (gSeq (gSet 3 (gC (.str []))) (gSeq (gFor (gR1 (gCons (gOp addO (gC (.int 1)) (gCall den__law_take (gCons (gVar 0) (gCons (gC (.int 8)) (gNil))))) (gNil))) (gNm 4) (gSet 3 (gOp addO (gVar 3) (gOp ixO (gC (.str [97, 98, 99, 100, 101, 102, 103, 104, 105, 106, 107, 108, 109, 110, 111, 112, 113, 114, 115, 116, 117, 118, 119, 120, 121, 122])) (gCall den__law_take (gCons (gVar 0) (gCons (gC (.int 26)) (gNil)))))))) (gRet (gOp ixO (gLst (gCons (gVar 3) (gCons (gC (.str [120])) (gNil)))) (gB intO (gCons (gOp inO (gVar 3) (gLst (gCons (gC (.str [110, 111])) (gCons (gC (.str [121, 101, 115])) (gCons (gC (.str [110, 117, 109, 98, 101, 114])) (gCons (gC (.str [116, 114, 117, 116, 104])) (gNil))))))) (gNil)))))))))
noncomputable def den__law_name : Den := gFun 1 5 body__law_name
noncomputable def bodyR__law_kind (den__law_kind_ : Den) : GS := gSeq (gSet 2 (gCall den__law_take (gCons (gVar 0) (gCons (gC (.int 5)) (gNil))))) (gSeq (gIf (gAndT (gTB (gOp gtO (gVar 2) (gC (.int 2)))) (gTB (gOp gtO (gVar 1) (gC (.int 0))))) (gRet (gTup (gCons (gC (.str [108, 105, 115, 116])) (gCons (gCall den__law_kind_ (gCons (gVar 0) (gCons (gOp subO (gVar 1) (gC (.int 1))) (gNil)))) (gNil))))) (gSkip)) (gRet (gOp ixO (gLst (gCons (gTup (gCons (gC (.str [110, 117, 109, 98, 101, 114])) (gNil))) (gCons (gTup (gCons (gC (.str [116, 114, 117, 116, 104])) (gNil))) (gCons (gTup (gCons (gC (.str [114, 101, 99, 111, 114, 100])) (gCons (gCall den__law_name (gCons (gVar 0) (gNil))) (gNil)))) (gNil))))) (gOp modO (gVar 2) (gC (.int 3))))))
noncomputable def den__law_kind : Nat → Den
  | 0 => fun _ _ => .bad
  | n + 1 => gFun 2 3 (bodyR__law_kind (den__law_kind n))
noncomputable def body__law_leaf : GS := gSeq (gSet 1 (gCall den__law_take (gCons (gVar 0) (gCons (gC (.int 6)) (gNil))))) (gSeq (gIf (gTB (gOp eqO (gVar 1) (gC (.int 0)))) (gRet (gTup (gCons (gC (.str [110, 117, 109, 98, 101, 114])) (gCons (gOp ixO (gLst (gCons (gCall den__law_take (gCons (gVar 0) (gCons (gC (.int 5)) (gNil)))) (gCons (gCall den__law_take (gCons (gVar 0) (gCons (gOp powO (gC (.int 10)) (gC (.int 12))) (gNil)))) (gCons (gOp subO (gOp powO (gC (.int 10)) (gC (.int 12))) (gC (.int 1))) (gNil))))) (gCall den__law_take (gCons (gVar 0) (gCons (gC (.int 3)) (gNil))))) (gNil))))) (gSkip)) (gSeq (gIf (gTB (gOp eqO (gVar 1) (gC (.int 1)))) (gRet (gTup (gCons (gC (.str [116, 114, 117, 116, 104])) (gCons (gOp eqO (gCall den__law_take (gCons (gVar 0) (gCons (gC (.int 2)) (gNil)))) (gC (.int 1))) (gNil))))) (gSkip)) (gSeq (gIf (gTB (gOp eqO (gVar 1) (gC (.int 2)))) (gRet (gTup (gCons (gC (.str [101, 109, 112, 116, 121])) (gCons (gCall (den__law_kind 40) (gCons (gVar 0) (gCons (gC (.int 7)) (gNil)))) (gNil))))) (gSkip)) (gRet (gTup (gCons (gOp ixO (gOp ixO (gLst (gCons (gTup (gCons (gC (.str [98, 111, 120])) (gNil))) (gCons (gTup (gCons (gC (.str [110, 97, 109, 101])) (gNil))) (gNil)))) (gOp modO (gVar 1) (gC (.int 2)))) (gC (.int 0))) (gCons (gCall den__law_name (gCons (gVar 0) (gNil))) (gNil))))))))
noncomputable def den__law_leaf : Den := gFun 1 2 body__law_leaf
noncomputable def bodyR__law_term (den__law_term_ : Den) : GS := gSeq (gSet 2 (gCall den__law_take (gCons (gVar 0) (gCons (gC (.int 22)) (gNil))))) (gSeq (gIf (gOrT (gTB (gOp ltO (gVar 2) (gC (.int 6)))) (gOrT (gTB (gOp eqO (gVar 1) (gC (.int 0)))) (gTB (gOp ltO (gOp ixO (gVar 0) (gC (.int 2))) (gC (.int 9)))))) (gRet (gCall den__law_leaf (gCons (gVar 0) (gNil)))) (gSkip)) (gSeq (gSet 3 (gLst (gCons (gC (.str [97, 100, 100])) (gCons (gC (.str [108, 101, 115, 115])) (gCons (gC (.str [116, 105, 109, 101, 115])) (gCons (gC (.str [117, 110, 100, 101, 114])) (gCons (gC (.str [115, 97, 109, 101])) (gCons (gC (.str [98, 111, 116, 104])) (gCons (gC (.str [106, 111, 105, 110])) (gCons (gC (.str [110, 111, 116])) (gCons (gC (.str [109, 97, 110, 121])) (gCons (gC (.str [112, 105, 99, 107])) (gCons (gC (.str [97, 116])) (gCons (gC (.str [102, 105, 101, 108, 100])) (gCons (gC (.str [108, 105, 115, 116])) (gNil)))))))))))))))) (gSeq (gSet 4 (gOp ixO (gOp addO (gVar 3) (gLst (gCons (gC (.str [112, 105, 99, 107])) (gCons (gC (.str [97, 116])) (gCons (gC (.str [102, 105, 101, 108, 100])) (gNil)))))) (gOp subO (gVar 2) (gC (.int 6))))) (gSeq (gSet 5 (gGet2 (gDisp [(gC (.str [110, 111, 116]), gC (.int 1)), (gC (.str [109, 97, 110, 121]), gC (.int 1)), (gC (.str [102, 105, 101, 108, 100]), gC (.int 1)), (gC (.str [112, 105, 99, 107]), gC (.int 3)), (gC (.str [97, 116]), gC (.int 3))]) (gVar 4) (gC (.int 2)))) (gSeq (gIf (gTB (gOp eqO (gVar 4) (gC (.str [108, 105, 115, 116])))) (gSet 5 (gOp addO (gC (.int 1)) (gCall den__law_take (gCons (gVar 0) (gCons (gC (.int 8)) (gNil)))))) (gSkip)) (gSeq (gStore (gOp subO (gOp ixO (gVar 0) (gC (.int 2))) (gVar 5)) (gVar 0) (gC (.int 2))) (gSeq (gSet 6 (gLcH (gR1 (gCons (gVar 5) (gNil))) (gNm 7) (gYes) (gCall den__law_term_ (gCons (gVar 0) (gCons (gOp subO (gVar 1) (gC (.int 1))) (gNil)))) [7])) (gSeq (gIf (gTB (gOp eqO (gVar 4) (gC (.str [102, 105, 101, 108, 100])))) (gDrop (gApp (gVar 6) (gCall den__law_name (gCons (gVar 0) (gNil))))) (gSkip)) (gRet (gOp addO (gTup (gCons (gVar 4) (gNil))) (gB tupO (gCons (gVar 6) (gNil)))))))))))))
noncomputable def den__law_term : Nat → Den
  | 0 => fun _ _ => .bad
  | n + 1 => gFun 2 8 (bodyR__law_term (den__law_term n))
noncomputable def body__law_some : GS := gSeq (gStore (gVar 1) (gVar 0) (gC (.int 2))) (gRet (gCall (den__law_term 40) (gCons (gVar 0) (gCons (gC (.int 10)) (gNil)))))
noncomputable def den__law_some : Den := gFun 2 2 body__law_some
noncomputable def body__law_names : GS := gRet (gSoS (gLcV (gR1 (gCons (gCall den__law_take (gCons (gVar 0) (gCons (gOp addO (gVar 1) (gC (.int 1))) (gNil)))) (gNil))) (gNm 2) (gYes) (gCall den__law_name (gCons (gVar 0) (gNil))) [2]))
noncomputable def den__law_names : Den := gFun 2 3 body__law_names
noncomputable def bodyR__law_value (den__law_value_ : Den) : GS := gSeq (gSet 2 (gCall den__law_take (gCons (gVar 0) (gCons (gC (.int 4)) (gNil))))) (gSeq (gIf (gAndT (gTB (gOp eqO (gVar 2) (gC (.int 3)))) (gTB (gOp gtO (gVar 1) (gC (.int 0))))) (gSeq (gSet 3 (gCall den__law_take (gCons (gVar 0) (gCons (gOp ixO (gLst (gCons (gC (.int 4)) (gCons (gC (.int 4)) (gCons (gC (.int 4)) (gCons (gOp ixO (gLst (gCons (gC (.int 4)) (gCons (gC (.int 61)) (gNil)))) (gOp fdivO (gCall den__law_take (gCons (gVar 0) (gCons (gC (.int 8)) (gNil)))) (gC (.int 7)))) (gNil)))))) (gVar 1)) (gNil))))) (gRet (gB tupO (gCons (gLcV (gR1 (gCons (gVar 3) (gNil))) (gNm 4) (gYes) (gCall den__law_value_ (gCons (gVar 0) (gCons (gOp subO (gVar 1) (gC (.int 1))) (gNil)))) [4]) (gNil))))) (gSkip)) (gSeq (gIf (gTB (gOp eqO (gVar 2) (gC (.int 2)))) (gRet (gOp eqO (gCall den__law_take (gCons (gVar 0) (gCons (gC (.int 2)) (gNil)))) (gC (.int 1)))) (gSkip)) (gRet (gOp ixO (gLst (gCons (gCall den__law_take (gCons (gVar 0) (gCons (gC (.int 5)) (gNil)))) (gCons (gCall den__law_take (gCons (gVar 0) (gCons (gOp powO (gC (.int 10)) (gC (.int 12))) (gNil)))) (gCons (gOp subO (gOp powO (gC (.int 10)) (gC (.int 12))) (gC (.int 1))) (gNil))))) (gCall den__law_take (gCons (gVar 0) (gCons (gC (.int 3)) (gNil))))))))
noncomputable def den__law_value : Nat → Den
  | 0 => fun _ _ => .bad
  | n + 1 => gFun 2 5 (bodyR__law_value (den__law_value n))
noncomputable def body__law_row : GS := gSeq (gSet 3 (gOp ixO (gLst (gCons (gC (.str [108, 101, 116])) (gCons (gC (.str [112, 117, 116])) (gCons (gC (.str [115, 101, 116])) (gCons (gC (.str [110, 101, 119])) (gCons (gC (.str [99, 97, 108, 108])) (gCons (gC (.str [116, 101, 108, 108])) (gCons (gC (.str [103, 111])) (gCons (gC (.str [117, 110, 108, 101, 115, 115])) (gCons (gC (.str [98, 97, 99, 107])) (gNil))))))))))) (gCall den__law_take (gCons (gVar 0) (gCons (gC (.int 9)) (gNil)))))) (gSeq (gIf (gTB (gOp inO (gVar 3) (gLst (gCons (gC (.str [108, 101, 116])) (gCons (gC (.str [112, 117, 116])) (gNil)))))) (gRet (gTup (gCons (gVar 3) (gCons (gCall den__law_name (gCons (gVar 0) (gNil))) (gCons (gCall den__law_some (gCons (gVar 0) (gCons (gVar 1) (gNil)))) (gNil)))))) (gSkip)) (gSeq (gIf (gTB (gOp eqO (gVar 3) (gC (.str [115, 101, 116])))) (gRet (gTup (gCons (gVar 3) (gCons (gCall den__law_some (gCons (gVar 0) (gCons (gVar 1) (gNil)))) (gCons (gCall den__law_name (gCons (gVar 0) (gNil))) (gCons (gCall den__law_some (gCons (gVar 0) (gCons (gVar 1) (gNil)))) (gNil))))))) (gSkip)) (gSeq (gIf (gTB (gOp eqO (gVar 3) (gC (.str [110, 101, 119])))) (gSeq (gSet 4 (gB tupO (gCons (gLcV (gIt (gCall den__law_names (gCons (gVar 0) (gCons (gC (.int 8)) (gNil))))) (gNm 6) (gYes) (gTup (gCons (gVar 6) (gCons (gCall den__law_some (gCons (gVar 0) (gCons (gOp fdivO (gVar 1) (gC (.int 3))) (gNil)))) (gNil)))) [6]) (gNil)))) (gRet (gTup (gCons (gVar 3) (gCons (gCall den__law_name (gCons (gVar 0) (gNil))) (gCons (gCall den__law_name (gCons (gVar 0) (gNil))) (gCons (gVar 4) (gNil)))))))) (gSkip)) (gSeq (gIf (gTB (gOp eqO (gVar 3) (gC (.str [99, 97, 108, 108])))) (gSeq (gSet 5 (gB tupO (gCons (gLcV (gR1 (gCons (gCall den__law_take (gCons (gVar 0) (gCons (gC (.int 9)) (gNil)))) (gNil))) (gNm 7) (gYes) (gCall den__law_some (gCons (gVar 0) (gCons (gOp fdivO (gVar 1) (gC (.int 3))) (gNil)))) [7]) (gNil)))) (gRet (gTup (gCons (gVar 3) (gCons (gCall den__law_name (gCons (gVar 0) (gNil))) (gCons (gCall den__law_name (gCons (gVar 0) (gNil))) (gCons (gVar 5) (gNil)))))))) (gSkip)) (gSeq (gIf (gTB (gOp eqO (gVar 3) (gC (.str [103, 111])))) (gRet (gTup (gCons (gVar 3) (gCons (gCall den__law_take (gCons (gVar 0) (gCons (gVar 2) (gNil)))) (gNil))))) (gSkip)) (gSeq (gIf (gTB (gOp eqO (gVar 3) (gC (.str [117, 110, 108, 101, 115, 115])))) (gRet (gTup (gCons (gVar 3) (gCons (gCall den__law_some (gCons (gVar 0) (gCons (gVar 1) (gNil)))) (gCons (gCall den__law_take (gCons (gVar 0) (gCons (gVar 2) (gNil)))) (gNil)))))) (gSkip)) (gRet (gTup (gCons (gVar 3) (gCons (gCall den__law_some (gCons (gVar 0) (gCons (gVar 1) (gNil)))) (gNil)))))))))))
noncomputable def den__law_row : Den := gFun 3 8 body__law_row
noncomputable def body__law_part : GS := gSeq (gSet 4 (gLcV (gIt (gCall den__law_names (gCons (gVar 0) (gCons (gC (.int 7)) (gNil))))) (gNm 9) (gYes) (gTup (gCons (gVar 9) (gCons (gCall (den__law_kind 40) (gCons (gVar 0) (gCons (gC (.int 7)) (gNil)))) (gNil)))) [9])) (gSeq (gIf (gTB (gOp eqO (gCall den__law_take (gCons (gVar 0) (gCons (gC (.int 2)) (gNil)))) (gC (.int 0)))) (gSet 4 (gM1 revO (gVar 4))) (gSkip)) (gSeq (gSet 5 (gOp addO (gC (.int 1)) (gCall den__law_take (gCons (gVar 0) (gCons (gOp ixO (gLst (gCons (gC (.int 6)) (gCons (gVar 3) (gNil)))) (gOp fdivO (gCall den__law_take (gCons (gVar 0) (gCons (gC (.int 4)) (gNil)))) (gC (.int 3)))) (gNil)))))) (gSeq (gSet 6 (gLcH (gR1 (gCons (gVar 5) (gNil))) (gNm 7) (gYes) (gCall den__law_row (gCons (gVar 0) (gCons (gVar 2) (gCons (gVar 5) (gNil))))) [7])) (gSeq (gFor (gR1 (gCons (gOp subO (gVar 5) (gC (.int 1))) (gNil))) (gNm 7) (gSeq (gSet 8 (gCall den__law_name (gCons (gVar 0) (gNil)))) (gIf (gAndT (gTB (gOp (notO inO) (gVar 8) (gVar 1))) (gTB (gOp eqO (gCall den__law_take (gCons (gVar 0) (gCons (gC (.int 6)) (gNil)))) (gC (.int 0))))) (gSeq (gStore (gTup (gCons (gC (.str [109, 97, 114, 107])) (gCons (gVar 8) (gNil)))) (gVar 6) (gVar 7)) (gDrop (gApp (gVar 1) (gVar 8)))) (gSkip)))) (gSeq (gStore (gOp ixO (gLst (gCons (gTup (gCons (gC (.str [103, 111])) (gCons (gCall den__law_take (gCons (gVar 0) (gCons (gVar 5) (gNil)))) (gNil)))) (gCons (gTup (gCons (gC (.str [98, 97, 99, 107])) (gCons (gCall den__law_some (gCons (gVar 0) (gCons (gVar 2) (gNil)))) (gNil)))) (gNil)))) (gCall den__law_take (gCons (gVar 0) (gCons (gC (.int 2)) (gNil))))) (gVar 6) (gNeg (gC (.int 1)))) (gRet (gTup (gCons (gB tupO (gCons (gVar 4) (gNil))) (gCons (gCall (den__law_kind 40) (gCons (gVar 0) (gCons (gC (.int 7)) (gNil)))) (gCons (gB tupO (gCons (gVar 6) (gNil))) (gNil)))))))))))
noncomputable def den__law_part : Den := gFun 4 10 body__law_part
noncomputable def body__law_program : GS := gSeq (gSet 2 (gTup (gCons (gDk0H) (gCons (gDk0H) (gCons (gDk0H) (gNil)))))) (gSeq (gSet 3 (gLstH (gNil))) (gSeq (gFor (gIt (gCall den__law_names (gCons (gVar 0) (gCons (gOp ixO (gLst (gCons (gC (.int 6)) (gCons (gC (.int 6)) (gCons (gC (.int 30)) (gNil))))) (gCall den__law_take (gCons (gVar 0) (gCons (gC (.int 3)) (gNil))))) (gNil))))) (gNm 4) (gSeq (gSet 5 (gCall den__law_take (gCons (gVar 0) (gCons (gC (.int 3)) (gNil))))) (gSeq (gIf (gAndT (gTB (gOp eqO (gVar 5) (gC (.int 0)))) (gTB (gOp ltO (gB lenO (gCons (gOp ixO (gVar 2) (gC (.int 0))) (gNil))) (gC (.int 18))))) (gStore (gB tupO (gCons (gLcV (gIt (gCall den__law_names (gCons (gVar 0) (gCons (gC (.int 8)) (gNil))))) (gNm 6) (gYes) (gTup (gCons (gVar 6) (gCons (gCall (den__law_kind 40) (gCons (gVar 0) (gCons (gC (.int 7)) (gNil)))) (gNil)))) [6]) (gNil))) (gOp ixO (gVar 2) (gC (.int 0))) (gVar 4)) (gSkip)) (gSeq (gIf (gAndT (gTB (gOp eqO (gVar 5) (gC (.int 1)))) (gTB (gOp ltO (gB lenO (gCons (gOp ixO (gVar 2) (gC (.int 1))) (gNil))) (gC (.int 18))))) (gStore (gTup (gCons (gCall (den__law_kind 40) (gCons (gVar 0) (gCons (gC (.int 7)) (gNil)))) (gCons (gCall (den__law_value 40) (gCons (gVar 0) (gCons (gC (.int 3)) (gNil)))) (gNil)))) (gOp ixO (gVar 2) (gC (.int 1))) (gVar 4)) (gSkip)) (gIf (gAndT (gTB (gOp eqO (gVar 5) (gC (.int 2)))) (gTB (gOp ltO (gB lenO (gCons (gOp ixO (gVar 2) (gC (.int 2))) (gNil))) (gC (.int 18))))) (gStore (gCall den__law_part (gCons (gVar 0) (gCons (gVar 3) (gCons (gVar 1) (gCons (gOp ixO (gLst (gCons (gC (.int 8)) (gCons (gC (.int 57)) (gNil)))) (gB intO (gCons (gOp eqO (gOp ixO (gVar 2) (gC (.int 2))) (gDk0)) (gNil)))) (gNil)))))) (gOp ixO (gVar 2) (gC (.int 2))) (gVar 4)) (gSkip)))))) (gRet (gVar 2))))
noncomputable def den__law_program : Den := gFun 2 7 body__law_program
noncomputable def body__law_marks : GS := gSeq (gSet 1 (gLstH (gNil))) (gSeq (gFor (gIt (gVar 0)) (gNm 2) (gFor (gEnum (gCons (gOp ixO (gOp ixO (gVar 0) (gVar 2)) (gC (.int 2))) (gNil))) (gTg 2 (gTc (gNm 3) (gTc (gNm 4) (gTn)))) (gIf (gTB (gOp eqO (gOp ixO (gVar 4) (gC (.int 0))) (gC (.str [109, 97, 114, 107])))) (gDrop (gApp (gVar 1) (gTup (gCons (gOp ixO (gVar 4) (gC (.int 1))) (gCons (gTup (gCons (gVar 2) (gCons (gVar 3) (gNil)))) (gNil)))))) (gSkip)))) (gRet (gVar 1)))
noncomputable def den__law_marks : Den := gFun 1 5 body__law_marks
noncomputable def body_law : GS := gSeq (gSet 1 (gTup (gCons (gDk0) (gCons (gDk0) (gCons (gDk0) (gNil)))))) (gSeq (gFor (gIt (gOp addO (gLst (gCons (gOp addO (gCall den__law_cell (gCons (gVar 0) (gCons (gC (.int 6)) (gNil)))) (gOp mulO (gC (.int 7)) (gB lenO (gCons (gVar 0) (gNil))))) (gNil))) (gSl (gVar 0) (gNoP) (gP (gC (.int 6)))))) (gNm 2) (gSeq (gSet 3 (gCall (own1 den__law_program) (gCons (gCall den__law_pot (gCons (gVar 2) (gNil))) (gCons (gC (.int 3)) (gNil))))) (gSeq (gSet 4 (gCall den_marks_of (gCons (gVar 3) (gNil)))) (gSeq (gSet 5 (gDictOf (gCons (gCall den__law_marks (gCons (gOp ixO (gVar 3) (gC (.int 2))) (gNil))) (gNil)))) (gSeq (gIf (gOrT (gNotT (gTT (gIsi .dict (gVar 4)))) (gTB (gOp (notO eqDO) (gVar 4) (gVar 5)))) (gRet (gC (.bl false))) (gSkip)) (gSeq (gIf (gNotT (gTT (gB allO (gCons (gLkD 4 (gLcV (gVals (gVar 4)) (gNm 6) (gYes) (gAnd (gIsi .tuple (gVar 6)) (gNot (gIsi .bool (gOp ixO (gVar 6) (gC (.int 1)))))) [6])) (gNil))))) (gRet (gC (.bl false))) (gSkip)) (gSeq (gDrop (gClr (gVar 4))) (gSeq (gIf (gOrT (gTB (gOp (notO eqDO) (gCall den_marks_of (gCons (gVar 1) (gNil))) (gDictOf (gCons (gCall den__law_marks (gCons (gOp ixO (gVar 1) (gC (.int 2))) (gNil))) (gNil))))) (gTB (gOp (notO eqDO) (gCall den_marks_of (gCons (gVar 3) (gNil))) (gVar 5)))) (gRet (gC (.bl false))) (gSkip)) (gSet 1 (gVar 3)))))))))) (gRet (gC (.bl true))))
noncomputable def den_law : Den := gFun 1 7 body_law
end Law
namespace Law
open PySem L2 G
set_option autoImplicit false
mutual
/-- no refs within, lists and dicts neither -/
def nr : AV → Bool
  | .tup l => nrs l
  | .non => true
  | .bl _ => true
  | .int _ => true
  | .str _ => true
  | _ => false
def nrs : List AV → Bool
  | [] => true
  | v :: l => nr v && nrs l
end
theorem nrs_all : ∀ {l : List AV}, nrs l = true ↔ ∀ v ∈ l, nr v = true
  | [] => by simp [nrs]
  | v :: l => by rw [nrs, Bool.and_eq_true, nrs_all]; simp
/-- what else lies there stays -/
def Fx (n : Nat) (a b : AH) : Prop := List.length a ≤ List.length b ∧ ∀ i, i < List.length a → i ≠ n → b[i]? = a[i]?
theorem Fx.refl (n : Nat) (a : AH) : Fx n a a := ⟨Nat.le_refl _, fun _ _ _ => rfl⟩
theorem Fx.trans {n : Nat} {a b c : AH} (h : Fx n a b) (k : Fx n b c) : Fx n a c := ⟨Nat.le_trans h.1 k.1, fun i hi hn => (k.2 i (Nat.lt_of_lt_of_le hi h.1) hn).trans (h.2 i hi hn)⟩
theorem Fx.same {n : Nat} {a b : AH} (h : Same n a b) : Fx n a b := ⟨Nat.le_of_eq h.1.symm, fun i _ hn => h.2 i hn⟩
theorem Fx.app {n : Nat} {a x : AH} : Fx n a (a ++ x) := ⟨by simp, fun i hi _ => List.getElem?_append_left hi⟩
theorem Fx.set {n : Nat} {a : AH} {o : HObj} : Fx n a (a.set n o) := ⟨by simp, fun i _ hn => List.getElem?_set_ne (Ne.symm hn)⟩
theorem Fx.setHi {n r : Nat} {a b : AH} {o : HObj} (h : Fx n a b) (hr : List.length a ≤ r) : Fx n a (b.set r o) := ⟨by rw [List.length_set]; exact h.1, fun i hi hn => by rw [List.getElem?_set_ne (by omega)]; exact h.2 i hi hn⟩
def Pt (n : Nat) (ah : AH) : Prop := ∃ c : Int, Pot n [.int c] ah
theorem Pt.lt {n : Nat} {ah : AH} (h : Pt n ah) : n < List.length ah := by obtain ⟨c, h⟩ := h; exact h.lt
theorem Pt.app {n : Nat} {ah x : AH} (h : Pt n ah) : Pt n (ah ++ x) := by obtain ⟨c, h⟩ := h; exact ⟨c, h.app⟩
theorem Pt.set {n m : Nat} {ah : AH} {o : HObj} (h : Pt n ah) (hm : m ≠ n) : Pt n (ah.set m o) := by obtain ⟨c, h⟩ := h; exact ⟨c, h.set hm⟩
section
variable {ah : AH} {P : AV → AH → Prop} {E : ErrP} {n : Nat}
theorem tk {k : Int} (hp : Pt n ah) (hk : 0 < k) (hk2 : k < 10 ^ 100)
    (h : ∀ r ah', 0 ≤ r → r < k → Pt n ah' → Fx n ah ah' → P (.int r) ah') : wx E (den__law_take [.ref n, .int k] ah) P := by
  obtain ⟨c, hp⟩ := hp
  exact w_take hp hk hk2 fun r ah' a b p s => h r ah' a b ⟨c, p⟩ (.same s)
theorem w_name (hp : Pt n ah) (h : ∀ s ah', Pt n ah' → Fx n ah ah' → P (.str s) ah') : wx E (den__law_name [.ref n] ah) P := by
  refine w_fun rfl ?_
  unfold body__law_name
  simp
  refine tk hp (by decide) (by decide) fun a ah1 a0 a1 p1 f1 => ?_
  simp
  split
  · refine tk p1 (by decide) (by decide) fun b ah2 b0 b1 p2 f2 => ?_
    refine wp_at b0 (by simpa using b1) fun v hv => ?_
    have : ∃ s, v = .str s := by
      simp only [List.mem_cons, List.not_mem_nil, or_false] at hv
      rcases hv with rfl | rfl | rfl | rfl | rfl | rfl | rfl | rfl | rfl | rfl | rfl | rfl | rfl | rfl | rfl | rfl | rfl | rfl | rfl | rfl | rfl | rfl | rfl | rfl | rfl <;> exact ⟨_, rfl⟩
    obtain ⟨s, rfl⟩ := this
    exact h _ _ p2 (f1.trans f2)
  · split
    · refine tk p1 (by decide) (by decide) fun b ah2 b0 b1 p2 f2 => ?_
      simp
      refine wp_at b0 (by simpa using b1) fun v hv => ?_
      exact h _ _ p2 (f1.trans f2)
    · refine tk p1 (by decide) (by decide) fun b ah2 b0 b1 p2 f2 => ?_
      simp
      refine ⟨by omega, s_forK rfl (I := fun j env ah => ∃ s y, s.length ≤ j ∧ env = [some (.ref n), some (.int a), none, some (.str s), y] ∧ Pt n ah ∧ Fx n ah2 ah) (m := (1 + b).toNat) _ 0 _ _ (by simp) ⟨[], none, by simp, rfl, p2, .refl _ _⟩ (fun v hv j env ah3 hj hI => ?_) (fun env ah3 hI => ?_)⟩
      · obtain ⟨s, y, hs, rfl, p3, f3⟩ := hI
        refine ⟨_, rfl, ?_⟩
        simp
        refine tk p3 (by decide) (by decide) fun c ah4 c0 c1 p4 f4 => ?_
        simp
        refine wp_at c0 (by simpa using c1) fun v hv => ?_
        exact ⟨by omega, _, by simp; omega, rfl, p4, f3.trans f4⟩
      · obtain ⟨s, y, hs, rfl, p3, f3⟩ := hI
        simp
        rw [o_inSl (by decide)]
        simp
        refine wp_at (by split <;> omega) (by simp; split <;> omega) fun v hv => ?_
        simp only [List.mem_cons, List.not_mem_nil, or_false] at hv
        rcases hv with rfl | rfl <;> exact h _ _ p3 ((f1.trans f2).trans f3)
theorem w_kind : ∀ (m d : Nat) (ah : AH) (P : AV → AH → Prop) (E : ErrP), d < m → Pt n ah → (∀ v ah', nr v = true → Pt n ah' → Fx n ah ah' → P v ah') → wx E (den__law_kind m [.ref n, .int d] ah) P
  | 0, _, _, _, _, h, _, _ => by omega
  | m + 1, d, ah, P, E, hd, hp, h => by
    refine w_fun rfl ?_
    unfold bodyR__law_kind
    simp
    refine tk hp (by decide) (by decide) fun q ah1 q0 q1 p1 f1 => ?_
    simp
    have lf : wx (fun e h => E e h) (den__law_name [.ref n] ah1) fun v ah2 => wx (fun e h => E e h) (lift1 (ixO ah2 (.lst [.tup [.str [110, 117, 109, 98, 101, 114]], .tup [.str [116, 114, 117, 116, 104]], .tup [.str [114, 101, 99, 111, 114, 100], v]]) (.int (q % 3))) ah2) P := by
      refine w_name p1 fun s ah2 p2 f2 => ?_
      exact wp_at (by omega) (by simp; omega) fun v hv => h _ _ (by
        simp only [List.mem_cons, List.not_mem_nil, or_false] at hv
        rcases hv with rfl | rfl | rfl <;> rfl) p2 (f1.trans f2)
    split
    · split
      · rw [show (d : Int) - 1 = ((d - 1 : Nat) : Int) by omega]
        exact w_kind m (d - 1) ah1 _ _ (by omega) p1 fun v ah2 hv p2 f2 => h _ _ (by simp [nr, nrs, hv]) p2 (f1.trans f2)
      · exact lf
    · exact lf
theorem w_leaf (hp : Pt n ah) (h : ∀ v ah', nr v = true → Pt n ah' → Fx n ah ah' → P v ah') : wx E (den__law_leaf [.ref n] ah) P := by
  refine w_fun rfl ?_
  unfold body__law_leaf
  simp
  refine tk hp (by decide) (by decide) fun q ah1 q0 q1 p1 f1 => ?_
  simp
  split
  · refine tk p1 (by decide) (by decide) fun a ah2 a0 a1 p2 f2 => ?_
    refine tk p2 (by decide) (by decide) fun b ah3 b0 b1 p3 f3 => ?_
    refine tk p3 (by decide) (by decide) fun c ah4 c0 c1 p4 f4 => ?_
    refine wp_at c0 (by simpa using c1) fun v hv => ?_
    exact h _ _ (by
      simp only [List.mem_cons, List.not_mem_nil, or_false] at hv
      rcases hv with rfl | rfl | rfl <;> rfl) p4 (((f1.trans f2).trans f3).trans f4)
  · split
    · refine tk p1 (by decide) (by decide) fun a ah2 a0 a1 p2 f2 => ?_
      simp
      exact h _ _ rfl p2 (f1.trans f2)
    · split
      · exact w_kind 40 7 _ _ _ (by omega) p1 fun v ah2 hv p2 f2 => h _ _ (by simp [nr, nrs, hv]) p2 (f1.trans f2)
      · refine wp_at (by omega) (by simp; omega) fun v hv => ?_
        simp only [List.mem_cons, List.not_mem_nil, or_false] at hv
        rcases hv with rfl | rfl <;> simp [at0] <;> exact w_name p1 fun s ah2 p2 f2 => h _ _ rfl p2 (f1.trans f2)
end
end Law
namespace Law
open PySem L2 G
set_option autoImplicit false
noncomputable def tm9 (den__law_term_ : Den) : GS := gRet (gOp addO (gTup (G.gCons (gVar 4) (gNil))) (gB tupO (G.gCons (gVar 6) (gNil))))
noncomputable def tm8 (den__law_term_ : Den) : GS := gSeq (gIf (gTB (gOp eqO (gVar 4) (gC (.str [102, 105, 101, 108, 100])))) (gDrop (gApp (gVar 6) (gCall den__law_name (G.gCons (gVar 0) (gNil))))) (gSkip)) (tm9 den__law_term_)
noncomputable def tm7 (den__law_term_ : Den) : GS := gSeq (gSet 6 (gLcH (gR1 (G.gCons (gVar 5) (gNil))) (gNm 7) (gYes) (gCall den__law_term_ (G.gCons (gVar 0) (G.gCons (gOp subO (gVar 1) (gC (.int 1))) (gNil)))) [7])) (tm8 den__law_term_)
noncomputable def tm6 (den__law_term_ : Den) : GS := gSeq (gStore (gOp subO (gOp ixO (gVar 0) (gC (.int 2))) (gVar 5)) (gVar 0) (gC (.int 2))) (tm7 den__law_term_)
noncomputable def tm5 (den__law_term_ : Den) : GS := gSeq (gIf (gTB (gOp eqO (gVar 4) (gC (.str [108, 105, 115, 116])))) (gSet 5 (gOp addO (gC (.int 1)) (gCall den__law_take (G.gCons (gVar 0) (G.gCons (gC (.int 8)) (gNil)))))) (gSkip)) (tm6 den__law_term_)
noncomputable def tm4 (den__law_term_ : Den) : GS := gSeq (gSet 5 (gGet2 (gDisp [(gC (.str [110, 111, 116]), gC (.int 1)), (gC (.str [109, 97, 110, 121]), gC (.int 1)), (gC (.str [102, 105, 101, 108, 100]), gC (.int 1)), (gC (.str [112, 105, 99, 107]), gC (.int 3)), (gC (.str [97, 116]), gC (.int 3))]) (gVar 4) (gC (.int 2)))) (tm5 den__law_term_)
noncomputable def tm3 (den__law_term_ : Den) : GS := gSeq (gSet 4 (gOp ixO (gOp addO (gVar 3) (gLst (G.gCons (gC (.str [112, 105, 99, 107])) (G.gCons (gC (.str [97, 116])) (G.gCons (gC (.str [102, 105, 101, 108, 100])) (gNil)))))) (gOp subO (gVar 2) (gC (.int 6))))) (tm4 den__law_term_)
noncomputable def tm2 (den__law_term_ : Den) : GS := gSeq (gSet 3 (gLst (G.gCons (gC (.str [97, 100, 100])) (G.gCons (gC (.str [108, 101, 115, 115])) (G.gCons (gC (.str [116, 105, 109, 101, 115])) (G.gCons (gC (.str [117, 110, 100, 101, 114])) (G.gCons (gC (.str [115, 97, 109, 101])) (G.gCons (gC (.str [98, 111, 116, 104])) (G.gCons (gC (.str [106, 111, 105, 110])) (G.gCons (gC (.str [110, 111, 116])) (G.gCons (gC (.str [109, 97, 110, 121])) (G.gCons (gC (.str [112, 105, 99, 107])) (G.gCons (gC (.str [97, 116])) (G.gCons (gC (.str [102, 105, 101, 108, 100])) (G.gCons (gC (.str [108, 105, 115, 116])) (gNil)))))))))))))))) (tm3 den__law_term_)
noncomputable def tm1 (den__law_term_ : Den) : GS := gSeq (gIf (gOrT (gTB (gOp ltO (gVar 2) (gC (.int 6)))) (gOrT (gTB (gOp eqO (gVar 1) (gC (.int 0)))) (gTB (gOp ltO (gOp ixO (gVar 0) (gC (.int 2))) (gC (.int 9)))))) (gRet (gCall den__law_leaf (G.gCons (gVar 0) (gNil)))) (gSkip)) (tm2 den__law_term_)
noncomputable def tm0 (den__law_term_ : Den) : GS := gSeq (gSet 2 (gCall den__law_take (G.gCons (gVar 0) (G.gCons (gC (.int 22)) (gNil))))) (tm1 den__law_term_)
theorem tm_body (den__law_term_ : Den) : bodyR__law_term den__law_term_ = tm0 den__law_term_ := rfl
section
variable {ah : AH} {P : AV → AH → Prop} {E : ErrP} {n : Nat}
theorem pot2 {c : Int} (hp : Pot n [.int c] ah) : ixO ah (.ref n) (.int 2) = some (.int c) := by
  obtain ⟨a, b, q⟩ := hp
  rw [o_ixR q]
  obtain ⟨v, e, _, q⟩ := atI_nat [AV.int a, .int b, .int c] 2 (by omega) (by simp)
  rw [e]; simpa using q.symm
theorem st2 {c d : Int} (hp : Pot n [.int c] ah) : ∃ ah', stA ah (.ref n) (.int 2) (.int d) = some ah' ∧ Pt n ah' ∧ Fx n ah ah' := by
  obtain ⟨a, b, q⟩ := hp
  have hn := (List.getElem?_eq_some_iff.mp q).1
  refine ⟨ah.set n (.lst [.int a, .int b, .int d]), ?_, ?_, .set⟩
  · rw [o_stR q]
    have : ixN [AV.int a, .int b, .int c].length 2 = some 2 := by unfold ixN; simp
    rw [this]; rfl
  · exact ⟨d, a, b, by rw [List.getElem?_set_self hn]⟩
theorem tup_ref {r : Nat} {l : List AV} (h : ah[r]? = some (.lst l)) : tupO ah [.ref r] = some (.tup l) := by
  show (match dr ah (.ref r) with | .tup l => some (AV.tup l) | .lst l => some (AV.tup l) | .fl l => some (AV.tup l) | _ => none) = _
  rw [dr_ref h]; rfl
theorem w_term : ∀ (m d : Nat) (ah : AH) (P : AV → AH → Prop) (E : ErrP), d < m → Pt n ah → (∀ v ah', nr v = true → Pt n ah' → Fx n ah ah' → P v ah') → wx E (den__law_term m [.ref n, .int d] ah) P
  | 0, _, _, _, _, h, _, _ => by omega
  | m + 1, d, ah, P, E, hd, hp, h => by
    refine w_fun rfl ?_
    rw [tm_body]
    unfold tm0
    simp
    refine tk hp (by decide) (by decide) fun q ah1 q0 q1 p1 f1 => ?_
    have lf : wx (fun e h => E e h) (den__law_leaf [.ref n] ah1) P := w_leaf p1 fun v ah2 hv p2 f2 => h _ _ hv p2 (f1.trans f2)
    unfold tm1
    simp
    split
    · exact lf
    split
    · exact lf
    rename_i hd0
    obtain ⟨c, pc⟩ := id p1
    rw [pot2 pc]
    simp
    split
    · exact lf
    unfold tm2
    simp
    unfold tm3
    simp
    refine wp_at (by omega) (by simp; omega) fun w hw => ?_
    unfold tm4
    obtain ⟨s, k, rfl, hk, k1, k3⟩ : ∃ (s : List Nat) (k : Int), w = .str s ∧ (lookK (mergeA [] [(.inr [110, 111, 116], .int 1), (.inr [109, 97, 110, 121], .int 1), (.inr [102, 105, 101, 108, 100], .int 1), (.inr [112, 105, 99, 107], .int 3), (.inr [97, 116], .int 3)]) (.inr s)).getD (.int 2) = .int k ∧ 1 ≤ k ∧ k ≤ 3 := by
      simp only [List.mem_cons, List.not_mem_nil, or_false] at hw
      rcases hw with rfl | rfl | rfl | rfl | rfl | rfl | rfl | rfl | rfl | rfl | rfl | rfl | rfl | rfl | rfl | rfl <;> exact ⟨_, _, rfl, rfl, by decide, by decide⟩
    simp [w_get2]
    rw [hk]
    have fin : ∀ (j : Int) (ah2 : AH) (x : Option AV), 1 ≤ j → j ≤ 9 → Pt n ah2 → Fx n ah1 ah2 → wsx (fun e _ h => E e h) (tm6 (den__law_term m) [some (.ref n), some (.int d), some (.int q), x, some (.str s), some (.int j), none, none] ah2) (fun _ ah1 => P .non ah1) P (fun _ _ => False) (fun _ _ => False) := by
      intro j ah2 x j1 j9 p2 f2
      obtain ⟨c2, pc2⟩ := id p2
      obtain ⟨ah3, e3, p3, f3⟩ := st2 (d := c2 - j) pc2
      unfold tm6
      simp [pot2 pc2, e3]
      unfold tm7
      simp
      refine ⟨by omega, by omega, ?_⟩
      refine w_lc rfl (I := fun a => Pt n a ∧ Fx n ah3 a) (G := fun v => nr v = true) _ _ _ ⟨p3, .refl _ _⟩ (fun w hw ah4 hI => ⟨_, rfl, ?_⟩) fun l ah4 hI hl hlen => ?_
      · simp [wipeE]
        rw [show (d : Int) - 1 = ((d - 1 : Nat) : Int) by omega]
        exact w_term m (d - 1) ah4 _ _ (by omega) hI.1 fun v ah5 hv p5 f5 => ⟨⟨p5, hI.2.trans f5⟩, hv⟩
      · simp at hlen
        have p5 := hI.1.app (x := [.lst l])
        have f5 := ((f1.trans f2).trans f3).trans (hI.2.trans (Fx.app (n := n) (x := [.lst l])))
        have hl4 := hI.1.lt
        have at4 : (ah4 ++ [HObj.lst l])[List.length ah4]? = some (.lst l) := by simp
        unfold tm8
        simp
        split
        · rw [lref_eq at4]
          simp
          refine w_name p5 fun s2 ah6 p6 f6 => ?_
          have at6 : ah6[List.length ah4]? = some (.lst l) := by rw [f6.2 _ (by simp) (by omega)]; exact at4
          rw [apA_eq at6 (by omega)]
          unfold tm9
          simp [tup_ref (List.getElem?_set_self (List.getElem?_eq_some_iff.mp at6).1)]
          refine ⟨by omega, ?_⟩
          exact h _ _ (by
            rw [nr, nrs_all]
            intro v hv
            simp at hv
            rcases hv with rfl | hv | rfl
            · rfl
            · exact hl v hv
            · rfl) (p6.set (by omega)) ((f5.trans f6).setHi (((f1.trans f2).trans f3).trans hI.2).1)
        · unfold tm9
          simp [tup_ref at4]
          exact ⟨by omega, h _ _ (by
            rw [nr, nrs_all]
            intro v hv
            simp at hv
            rcases hv with rfl | hv
            · rfl
            · exact hl v hv) p5 f5⟩
    unfold tm5
    simp
    split
    · refine tk p1 (by decide) (by decide) fun j ah2 j0 j1 p2 f2 => ?_
      simp
      exact fin (1 + j) ah2 _ (by omega) (by omega) p2 f2
    · exact fin k ah1 _ k1 (by omega) p1 (.refl _ _)
end
end Law
namespace Law
open PySem L2 G
set_option autoImplicit false
noncomputable def rw7  : GS := gRet (gTup (G.gCons (gVar 3) (G.gCons (gCall den__law_some (G.gCons (gVar 0) (G.gCons (gVar 1) (gNil)))) (gNil))))
noncomputable def rw6  : GS := gSeq (gIf (gTB (gOp eqO (gVar 3) (gC (.str [117, 110, 108, 101, 115, 115])))) (gRet (gTup (G.gCons (gVar 3) (G.gCons (gCall den__law_some (G.gCons (gVar 0) (G.gCons (gVar 1) (gNil)))) (G.gCons (gCall den__law_take (G.gCons (gVar 0) (G.gCons (gVar 2) (gNil)))) (gNil)))))) (gSkip)) rw7
noncomputable def rw5  : GS := gSeq (gIf (gTB (gOp eqO (gVar 3) (gC (.str [103, 111])))) (gRet (gTup (G.gCons (gVar 3) (G.gCons (gCall den__law_take (G.gCons (gVar 0) (G.gCons (gVar 2) (gNil)))) (gNil))))) (gSkip)) rw6
noncomputable def rw4  : GS := gSeq (gIf (gTB (gOp eqO (gVar 3) (gC (.str [99, 97, 108, 108])))) (gSeq (gSet 5 (gB tupO (G.gCons (gLcV (gR1 (G.gCons (gCall den__law_take (G.gCons (gVar 0) (G.gCons (gC (.int 9)) (gNil)))) (gNil))) (gNm 7) (gYes) (gCall den__law_some (G.gCons (gVar 0) (G.gCons (gOp fdivO (gVar 1) (gC (.int 3))) (gNil)))) [7]) (gNil)))) (gRet (gTup (G.gCons (gVar 3) (G.gCons (gCall den__law_name (G.gCons (gVar 0) (gNil))) (G.gCons (gCall den__law_name (G.gCons (gVar 0) (gNil))) (G.gCons (gVar 5) (gNil)))))))) (gSkip)) rw5
noncomputable def rw3  : GS := gSeq (gIf (gTB (gOp eqO (gVar 3) (gC (.str [110, 101, 119])))) (gSeq (gSet 4 (gB tupO (G.gCons (gLcV (gIt (gCall den__law_names (G.gCons (gVar 0) (G.gCons (gC (.int 8)) (gNil))))) (gNm 6) (gYes) (gTup (G.gCons (gVar 6) (G.gCons (gCall den__law_some (G.gCons (gVar 0) (G.gCons (gOp fdivO (gVar 1) (gC (.int 3))) (gNil)))) (gNil)))) [6]) (gNil)))) (gRet (gTup (G.gCons (gVar 3) (G.gCons (gCall den__law_name (G.gCons (gVar 0) (gNil))) (G.gCons (gCall den__law_name (G.gCons (gVar 0) (gNil))) (G.gCons (gVar 4) (gNil)))))))) (gSkip)) rw4
noncomputable def rw2  : GS := gSeq (gIf (gTB (gOp eqO (gVar 3) (gC (.str [115, 101, 116])))) (gRet (gTup (G.gCons (gVar 3) (G.gCons (gCall den__law_some (G.gCons (gVar 0) (G.gCons (gVar 1) (gNil)))) (G.gCons (gCall den__law_name (G.gCons (gVar 0) (gNil))) (G.gCons (gCall den__law_some (G.gCons (gVar 0) (G.gCons (gVar 1) (gNil)))) (gNil))))))) (gSkip)) rw3
noncomputable def rw1  : GS := gSeq (gIf (gTB (gOp inO (gVar 3) (gLst (G.gCons (gC (.str [108, 101, 116])) (G.gCons (gC (.str [112, 117, 116])) (gNil)))))) (gRet (gTup (G.gCons (gVar 3) (G.gCons (gCall den__law_name (G.gCons (gVar 0) (gNil))) (G.gCons (gCall den__law_some (G.gCons (gVar 0) (G.gCons (gVar 1) (gNil)))) (gNil)))))) (gSkip)) rw2
noncomputable def rw0  : GS := gSeq (gSet 3 (gOp ixO (gLst (G.gCons (gC (.str [108, 101, 116])) (G.gCons (gC (.str [112, 117, 116])) (G.gCons (gC (.str [115, 101, 116])) (G.gCons (gC (.str [110, 101, 119])) (G.gCons (gC (.str [99, 97, 108, 108])) (G.gCons (gC (.str [116, 101, 108, 108])) (G.gCons (gC (.str [103, 111])) (G.gCons (gC (.str [117, 110, 108, 101, 115, 115])) (G.gCons (gC (.str [98, 97, 99, 107])) (gNil))))))))))) (gCall den__law_take (G.gCons (gVar 0) (G.gCons (gC (.int 9)) (gNil)))))) rw1
theorem rw_body  : body__law_row  = rw0  := rfl
noncomputable def pa6  : GS := gRet (gTup (G.gCons (gB tupO (G.gCons (gVar 4) (gNil))) (G.gCons (gCall (den__law_kind 40) (G.gCons (gVar 0) (G.gCons (gC (.int 7)) (gNil)))) (G.gCons (gB tupO (G.gCons (gVar 6) (gNil))) (gNil)))))
noncomputable def pa5  : GS := gSeq (gStore (gOp ixO (gLst (G.gCons (gTup (G.gCons (gC (.str [103, 111])) (G.gCons (gCall den__law_take (G.gCons (gVar 0) (G.gCons (gVar 5) (gNil)))) (gNil)))) (G.gCons (gTup (G.gCons (gC (.str [98, 97, 99, 107])) (G.gCons (gCall den__law_some (G.gCons (gVar 0) (G.gCons (gVar 2) (gNil)))) (gNil)))) (gNil)))) (gCall den__law_take (G.gCons (gVar 0) (G.gCons (gC (.int 2)) (gNil))))) (gVar 6) (gNeg (gC (.int 1)))) pa6
noncomputable def pa4  : GS := gSeq (gFor (gR1 (G.gCons (gOp subO (gVar 5) (gC (.int 1))) (gNil))) (gNm 7) (gSeq (gSet 8 (gCall den__law_name (G.gCons (gVar 0) (gNil)))) (gIf (gAndT (gTB (gOp (notO inO) (gVar 8) (gVar 1))) (gTB (gOp eqO (gCall den__law_take (G.gCons (gVar 0) (G.gCons (gC (.int 6)) (gNil)))) (gC (.int 0))))) (gSeq (gStore (gTup (G.gCons (gC (.str [109, 97, 114, 107])) (G.gCons (gVar 8) (gNil)))) (gVar 6) (gVar 7)) (gDrop (gApp (gVar 1) (gVar 8)))) (gSkip)))) pa5
noncomputable def pa3  : GS := gSeq (gSet 6 (gLcH (gR1 (G.gCons (gVar 5) (gNil))) (gNm 7) (gYes) (gCall den__law_row (G.gCons (gVar 0) (G.gCons (gVar 2) (G.gCons (gVar 5) (gNil))))) [7])) pa4
noncomputable def pa2  : GS := gSeq (gSet 5 (gOp addO (gC (.int 1)) (gCall den__law_take (G.gCons (gVar 0) (G.gCons (gOp ixO (gLst (G.gCons (gC (.int 6)) (G.gCons (gVar 3) (gNil)))) (gOp fdivO (gCall den__law_take (G.gCons (gVar 0) (G.gCons (gC (.int 4)) (gNil)))) (gC (.int 3)))) (gNil)))))) pa3
noncomputable def pa1  : GS := gSeq (gIf (gTB (gOp eqO (gCall den__law_take (G.gCons (gVar 0) (G.gCons (gC (.int 2)) (gNil)))) (gC (.int 0)))) (gSet 4 (gM1 revO (gVar 4))) (gSkip)) pa2
noncomputable def pa0  : GS := gSeq (gSet 4 (gLcV (gIt (gCall den__law_names (G.gCons (gVar 0) (G.gCons (gC (.int 7)) (gNil))))) (gNm 9) (gYes) (gTup (G.gCons (gVar 9) (G.gCons (gCall (den__law_kind 40) (G.gCons (gVar 0) (G.gCons (gC (.int 7)) (gNil)))) (gNil)))) [9])) pa1
theorem pa_body  : body__law_part  = pa0  := rfl
abbrev tMark : List Nat := [109, 97, 114, 107]
/-- a row, as far as it is looked at -/
inductive RowK : AV → Prop
  | mark (s : List Nat) : RowK (.tup [.str tMark, .str s])
  | oth (w : List Nat) (l : List AV) : w ≠ tMark → nrs l = true → RowK (.tup (.str w :: l))
theorem RowK.nr {v : AV} (h : RowK v) : nr v = true := by
  cases h with
  | mark s => rfl
  | oth w l _ h => rw [Law.nr, nrs, h]; rfl
theorem strs_of {l : List AV} (h : ∀ v ∈ l, ∃ s, v = .str s) : ∃ ss : List (List Nat), l = ss.map .str := by
  induction l with
  | nil => exact ⟨[], rfl⟩
  | cons v l ih =>
    obtain ⟨s, rfl⟩ := h v (by simp)
    obtain ⟨ss, rfl⟩ := ih fun w hw => h w (by simp [hw])
    exact ⟨s :: ss, rfl⟩
section
variable {ah : AH} {P : AV → AH → Prop} {E : ErrP} {n : Nat}
theorem so_str {ss : List (List Nat)} (h : ss.length < 63) : soSO ah (.lst (ss.map .str)) = some ((sortA (uniqA ss)).map .str) := by
  show (match strsA (ss.map AV.str) with | some ss => if ss.length < 63 then some ((sortA (uniqA ss)).map AV.str) else none | none => _) = _
  rw [strs_map]
  exact if_pos h
theorem so_int {ns : List Int} (h0 : ns ≠ []) (h : ns.length < 63) : soSO ah (.lst (ns.map .int)) = some ((sortI (uniqA ns)).map .int) := by
  have e : intsA (ns.map AV.int) = some ns := by
    clear h h0
    induction ns with
    | nil => rfl
    | cons s ns ih =>
      show (intsA (ns.map AV.int)).map (s :: ·) = _
      rw [ih]; rfl
  have e2 : strsA (ns.map AV.int) = none := by
    cases ns with
    | nil => exact absurd rfl h0
    | cons a ns => rfl
  show (match strsA (ns.map AV.int) with | some ss => _ | none => match intsA (ns.map AV.int) with | some ns => if ns.length < 63 then some ((sortI (uniqA ns)).map AV.int) else none | none => none) = _
  rw [e2, e]
  exact if_pos h
theorem in_ref {r : Nat} {M : List (List Nat)} {s : List Nat} (h : ah[r]? = some (.lst (M.map .str))) : ∃ b, inO ah (.str s) (.ref r) = some (.bl b) := by
  have e : ∀ l : List AV, l.all flatA = true → ∃ b, (match (AV.str s), (AV.lst l) with | .str [c], .str t => some (.bl (decide (c ∈ t))) | v, .tup l => if flatA v && l.all flatA then some (.bl (l.any fun y => eqA y v)) else none | v, .fl l => if flatA v && l.all flatA then some (.bl (l.any fun y => eqA y v)) else none | v, .lst l => if flatA v && l.all flatA then some (.bl (l.any fun y => eqA y v)) else if shA (dr ah v) && shA (.lst l) then some (.bl (l.any fun y => eqA y (dr ah v))) else none | v, .dk l => (match keyA v with | some k => some (.bl (lookK l k).isSome) | none => none) | _, _ => none : Option AV) = some (AV.bl b) := by
    intro l hl
    rcases s with _ | ⟨c, _ | ⟨d, t⟩⟩ <;> exact ⟨_, if_pos (show (true && l.all flatA) = true by rw [hl]; rfl)⟩
  unfold inO
  rw [dr_ref h]
  exact e _ (by simp [flatA])
theorem w_some {l : Int} (hp : Pt n ah) (h : ∀ v ah', nr v = true → Pt n ah' → Fx n ah ah' → P v ah') : wx E (den__law_some [.ref n, .int l] ah) P := by
  refine w_fun rfl ?_
  unfold body__law_some
  obtain ⟨c, pc⟩ := id hp
  obtain ⟨ah1, e1, p1, f1⟩ := st2 (d := l) pc
  simp [e1]
  exact w_term 40 10 _ _ _ (by omega) p1 fun v ah2 hv p2 f2 => h _ _ hv p2 (f1.trans f2)
theorem w_names {k : Int} (k0 : 0 ≤ k) (k8 : k ≤ 8) (hp : Pt n ah) (h : ∀ (ss : List (List Nat)) ah', ss.length ≤ 8 → Pt n ah' → Fx n ah ah' → P (.lst (ss.map .str)) ah') : wx E (den__law_names [.ref n, .int k] ah) P := by
  refine w_fun rfl ?_
  unfold body__law_names
  simp
  refine tk hp (by omega) (by omega) fun j ah1 j0 j1 p1 f1 => ?_
  refine ⟨j, rfl, by omega, by omega, ?_⟩
  refine w_lc rfl (I := fun a => Pt n a ∧ Fx n ah1 a) (G := fun v => ∃ s, v = .str s) _ _ _ ⟨p1, .refl _ _⟩ (fun w hw ah4 hI => ⟨_, rfl, ?_⟩) fun l ah4 hI hl hlen => ?_
  · simp [wipeE]
    exact w_name hI.1 fun s ah5 p5 f5 => ⟨⟨p5, hI.2.trans f5⟩, _, rfl⟩
  · obtain ⟨ss, rfl⟩ := strs_of hl
    simp at hlen
    rw [so_str (by omega)]
    have := (sortA_perm (uniqA ss)).length_eq
    have := uniq_len ss
    exact h _ _ (by omega) hI.1 (f1.trans hI.2)
theorem w_row {l m : Int} (l0 : 0 ≤ l) (m0 : 0 < m) (m1 : m ≤ 60) (hp : Pt n ah) (h : ∀ v ah', RowK v → Pt n ah' → Fx n ah ah' → P v ah') : wx E (den__law_row [.ref n, .int l, .int m] ah) P := by
  refine w_fun rfl ?_
  rw [rw_body]
  unfold rw0
  simp
  refine tk hp (by decide) (by decide) fun q ah1 q0 q1 p1 f1 => ?_
  refine wp_at q0 (by simpa using q1) fun w hw => ?_
  simp only [List.mem_cons, List.not_mem_nil, or_false] at hw
  unfold rw1
  rcases hw with rfl | rfl | rfl | rfl | rfl | rfl | rfl | rfl | rfl
  · simp
    rw [o_inSl (by decide)]
    simp [eqA]
    refine w_name p1 fun s ah2 p2 f2 => ?_
    refine w_some p2 fun v ah3 hv p3 f3 => ?_
    exact h _ _ (.oth _ _ (by decide) (by simp [nrs, nr, *])) p3 ((f1.trans f2).trans f3)
  · simp
    rw [o_inSl (by decide)]
    simp [eqA]
    refine w_name p1 fun s ah2 p2 f2 => ?_
    refine w_some p2 fun v ah3 hv p3 f3 => ?_
    exact h _ _ (.oth _ _ (by decide) (by simp [nrs, nr, *])) p3 ((f1.trans f2).trans f3)
  all_goals
    simp
    rw [o_inSl (by decide)]
    simp [eqA]
    unfold rw2
    simp
  · refine w_some p1 fun v ah2 hv p2 f2 => ?_
    refine w_name p2 fun s ah3 p3 f3 => ?_
    refine w_some p3 fun v2 ah4 hv2 p4 f4 => ?_
    exact h _ _ (.oth _ _ (by decide) (by simp [nrs, nr, *])) p4 (((f1.trans f2).trans f3).trans f4)
  · unfold rw3
    simp
    refine w_names (by omega) (by omega) p1 fun ss ah2 hs p2 f2 => ?_
    simp
    refine ⟨by omega, ?_⟩
    refine w_lc rfl (I := fun a => Pt n a ∧ Fx n ah2 a) (G := fun v => nr v = true) _ _ _ ⟨p2, .refl _ _⟩ (fun w hw ah4 hI => ⟨_, rfl, ?_⟩) fun l ah4 hI hl hlen => ?_
    · obtain ⟨s, _, rfl⟩ := List.mem_map.mp hw
      simp [wipeE]
      exact w_some hI.1 fun v ah5 hv p5 f5 => ⟨⟨p5, hI.2.trans f5⟩, by simp [nr, nrs, hv]⟩
    · refine w_name hI.1 fun s ah5 p5 f5 => ?_
      refine w_name p5 fun s ah6 p6 f6 => ?_
      exact h _ _ (.oth _ _ (by decide) (by simp [nrs, nr]; exact nrs_all.mpr hl)) p6 ((((f1.trans f2).trans hI.2).trans f5).trans f6)
  all_goals
    unfold rw3
    simp
    unfold rw4
    simp
  · refine tk p1 (by decide) (by decide) fun j ah2 j0 j1 p2 f2 => ?_
    refine ⟨j, rfl, by omega, by omega, ?_⟩
    refine w_lc rfl (I := fun a => Pt n a ∧ Fx n ah2 a) (G := fun v => nr v = true) _ _ _ ⟨p2, .refl _ _⟩ (fun w hw ah4 hI => ⟨_, rfl, ?_⟩) fun l ah4 hI hl hlen => ?_
    · simp [wipeE]
      exact w_some hI.1 fun v ah5 hv p5 f5 => ⟨⟨p5, hI.2.trans f5⟩, by simp [nr, nrs, hv]⟩
    · refine w_name hI.1 fun s ah5 p5 f5 => ?_
      refine w_name p5 fun s ah6 p6 f6 => ?_
      exact h _ _ (.oth _ _ (by decide) (by simp [nrs, nr]; exact nrs_all.mpr hl)) p6 ((((f1.trans f2).trans hI.2).trans f5).trans f6)
  all_goals
    unfold rw5
    simp
  · unfold rw6
    simp
    unfold rw7
    simp
    refine w_some p1 fun v ah2 hv p2 f2 => ?_
    exact h _ _ (.oth _ _ (by decide) (by simp [nrs, nr, *])) p2 (f1.trans f2)
  · refine tk p1 m0 (by omega) fun j ah2 j0 j1 p2 f2 => ?_
    exact h _ _ (.oth _ _ (by decide) (by simp [nrs, nr, *])) p2 (f1.trans f2)
  · unfold rw6
    simp
    refine w_some p1 fun v ah2 hv p2 f2 => ?_
    refine tk p2 m0 (by omega) fun j ah3 j0 j1 p3 f3 => ?_
    exact h _ _ (.oth _ _ (by decide) (by simp [nrs, nr, *])) p3 ((f1.trans f2).trans f3)
  · unfold rw6
    simp
    unfold rw7
    simp
    refine w_some p1 fun v ah2 hv p2 f2 => ?_
    exact h _ _ (.oth _ _ (by decide) (by simp [nrs, nr, *])) p2 (f1.trans f2)
end
end Law
namespace Law
open PySem L2 G
set_option autoImplicit false
/-- all but two things stay -/
def Fy (n mk : Nat) (a b : AH) : Prop := List.length a ≤ List.length b ∧ ∀ i, i < List.length a → i ≠ n → i ≠ mk → b[i]? = a[i]?
theorem Fy.of {n mk : Nat} {a b : AH} (h : Fx n a b) : Fy n mk a b := ⟨h.1, fun i hi hn _ => h.2 i hi hn⟩
theorem Fy.refl (n mk : Nat) (a : AH) : Fy n mk a a := .of (.refl _ _)
theorem Fy.trans {n mk : Nat} {a b c : AH} (h : Fy n mk a b) (k : Fy n mk b c) : Fy n mk a c := ⟨Nat.le_trans h.1 k.1, fun i hi h1 h2 => (k.2 i (Nat.lt_of_lt_of_le hi h.1) h1 h2).trans (h.2 i hi h1 h2)⟩
theorem Fy.setmk {n mk : Nat} {a b : AH} {o : HObj} (h : Fy n mk a b) : Fy n mk a (b.set mk o) := ⟨by rw [List.length_set]; exact h.1, fun i hi h1 h2 => by rw [List.getElem?_set_ne (Ne.symm h2)]; exact h.2 i hi h1 h2⟩
theorem Fy.setHi {n mk r : Nat} {a b : AH} {o : HObj} (h : Fy n mk a b) (hr : List.length a ≤ r) : Fy n mk a (b.set r o) := ⟨by rw [List.length_set]; exact h.1, fun i hi h1 h2 => by rw [List.getElem?_set_ne (by omega)]; exact h.2 i hi h1 h2⟩
/-- a part, as far as it is looked at -/
inductive PartK : AV → Prop
  | mk (a b : AV) (R : List AV) : nr a = true → nr b = true → R.length ≤ 60 → (∀ v ∈ R, RowK v) → PartK (.tup [a, b, .tup R])
theorem PartK.nr {v : AV} (h : PartK v) : nr v = true := by
  cases h with
  | mk a b R h1 h2 _ h3 => rw [Law.nr, nrs, h1, nrs, h2, nrs, nrs, Law.nr, nrs_all.mpr fun v hv => (h3 v hv).nr]; rfl
section
variable {ah : AH} {P : AV → AH → Prop} {E : ErrP} {n : Nat}
theorem w_part {mk : Nat} {M0 : List (List Nat)} {most : Int} (hmo : most = 8 ∨ most = 57) (hM : M0.length ≤ 10000) (hmk : ah[mk]? = some (.lst (M0.map .str))) (hne : mk ≠ n) (hp : Pt n ah) (h : ∀ (v : AV) (M : List (List Nat)) ah', PartK v → ah'[mk]? = some (.lst (M.map .str)) → M.length ≤ M0.length + 60 → Pt n ah' → Fy n mk ah ah' → P v ah') : wx E (den__law_part [.ref n, .ref mk, .int 3, .int most] ah) P := by
  refine w_fun rfl ?_
  rw [pa_body]
  unfold pa0
  simp
  refine w_names (by omega) (by omega) hp fun ss ah1 hs p1 f1 => ?_
  simp
  refine ⟨by omega, ?_⟩
  refine w_lc rfl (I := fun a => Pt n a ∧ Fx n ah a) (G := fun v => nr v = true) _ _ _ ⟨p1, f1⟩ (fun w hw ah4 hI => ⟨_, rfl, ?_⟩) fun tk0 ah4 hI hl hlen => ?_
  · obtain ⟨s, _, rfl⟩ := List.mem_map.mp hw
    simp [wipeE]
    exact w_kind 40 7 _ _ _ (by omega) hI.1 fun v ah5 hv p5 f5 => ⟨⟨p5, hI.2.trans f5⟩, by simp [nr, nrs, hv]⟩
  obtain ⟨p4, f4⟩ := hI
  have go : ∀ (u : List AV) (ah5 : AH), Pt n ah5 → Fx n ah ah5 → nrs u = true → wsx (fun e _ h => E e h) (pa2 [some (.ref n), some (.ref mk), some (.int 3), some (.int most), some (.lst u), none, none, none, none, none] ah5) (fun _ ah1 => P .non ah1) P (fun _ _ => False) (fun _ _ => False) := by
    intro u ah5 p5 f5 hu
    unfold pa2
    simp
    refine tk p5 (by decide) (by decide) fun a ah6 a0 a1 p6 f6 => ?_
    simp
    refine wp_at (by omega) (by simp; omega) fun b hb => ?_
    obtain ⟨b, rfl, b0, b1⟩ : ∃ i : Int, b = .int i ∧ 0 < i ∧ i ≤ 60 := by
      simp only [List.mem_cons, List.not_mem_nil, or_false] at hb
      rcases hb with rfl | rfl
      · exact ⟨_, rfl, by omega, by omega⟩
      · exact ⟨_, rfl, by omega, by omega⟩
    refine tk p6 b0 (by omega) fun c ah7 c0 c1 p7 f7 => ?_
    simp
    have f57 := (f5.trans f6).trans f7
    obtain ⟨m, hm⟩ := Int.eq_ofNat_of_zero_le (show 0 ≤ 1 + c by omega)
    rw [hm]
    have m1 : 1 ≤ m := by omega
    have m60 : m ≤ 60 := by omega
    unfold pa3
    simp
    refine ⟨by omega, ?_⟩
    refine w_lcY rfl (I := fun acc a => Pt n a ∧ Fx n ah a ∧ ∀ v ∈ acc, RowK v) (m := m) _ [] _ _ (by simp) ⟨p7, f57, by simp⟩ (fun w hw acc ah8 hacc hI => ⟨_, rfl, ?_⟩) fun R ah8 hR hI => ?_
    · simp [wipeE]
      refine w_row (by omega) (by omega) (by omega) hI.1 fun v ah9 hv p9 f9 => ⟨p9, hI.2.1.trans f9, fun w hw => ?_⟩
      rcases hw with hw | rfl
      · exact hI.2.2 w hw
      · exact hv
    · obtain ⟨p8, f8, hrow⟩ := hI
      simp at hR hrow
      have lm : mk < List.length ah := (List.getElem?_eq_some_iff.mp hmk).1
      have ln := hp.lt
      have l8 := f8.1
      generalize hrr : List.length ah8 = rr
      have n1 : rr ≠ n := by omega
      have n2 : mk ≠ rr := by omega
      have a1 : (ah8 ++ [HObj.lst R])[rr]? = some (.lst R) := by subst hrr; simp
      have a2 : (ah8 ++ [HObj.lst R])[mk]? = some (.lst (M0.map .str)) := by
        rw [List.getElem?_append_left (by omega), f8.2 _ lm hne]; exact hmk
      have a3 : Pt n (ah8 ++ [HObj.lst R]) := p8.app
      have a4 : Fy n mk ah (ah8 ++ [HObj.lst R]) := .of (f8.trans .app)
      have l0 : List.length ah ≤ rr := by omega
      generalize ah8 ++ [HObj.lst R] = ah9 at a1 a2 a3 a4
      unfold pa4
      simp
      refine ⟨by omega, s_forK rfl (I := fun j env a => ∃ x y M R, env = [some (.ref n), some (.ref mk), some (.int 3), some (.int most), some (.lst u), some (.int m), some (.ref rr), x, y, none] ∧ Pt n a ∧ a[rr]? = some (.lst R) ∧ R.length = m ∧ (∀ v ∈ R, RowK v) ∧ a[mk]? = some (.lst (M.map .str)) ∧ M.length ≤ M0.length + j ∧ Fy n mk ah a) (m := m - 1) _ 0 _ _ (by simp) ⟨none, none, M0, R, rfl, a3, a1, hR, hrow, a2, by simp, a4⟩ (fun v hv j env ah10 hj hI => ?_) (fun env ah10 hI => ?_)⟩
      · obtain ⟨x, y, M, R, rfl, p10, g1, g2, g3, g4, g5, g6⟩ := hI
        obtain ⟨i, rfl, i0, i1⟩ := rngA_mem hv
        refine ⟨_, rfl, ?_⟩
        simp
        refine w_name p10 fun s ah11 p11 f11 => ?_
        have h1 : ah11[rr]? = some (.lst R) := by rw [f11.2 _ (List.getElem?_eq_some_iff.mp g1).1 n1]; exact g1
        have h2 : ah11[mk]? = some (.lst (M.map .str)) := by rw [f11.2 _ (List.getElem?_eq_some_iff.mp g4).1 hne]; exact g4
        obtain ⟨bb, hb⟩ := in_ref (s := s) h2
        rw [hb]
        simp
        split
        · exact ⟨p11, M, R, h1, g2, g3, h2, by omega, g6.trans (.of f11)⟩
        · refine tk p11 (by decide) (by decide) fun q ah12 q0 q1 p12 f12 => ?_
          have h3 : ah12[rr]? = some (.lst R) := by rw [f12.2 _ (List.getElem?_eq_some_iff.mp h1).1 n1]; exact h1
          have h4 : ah12[mk]? = some (.lst (M.map .str)) := by rw [f12.2 _ (List.getElem?_eq_some_iff.mp h2).1 hne]; exact h2
          simp
          split
          · have ix : ixN R.length i = some i.toNat := by unfold ixN; simp [i0, show i < (R.length : Int) by omega]
            rw [o_stR h3, ix]
            have l3 := (List.getElem?_eq_some_iff.mp h3).1
            have l4 := (List.getElem?_eq_some_iff.mp h4).1
            have h5 : (ah12.set rr (.lst (R.set i.toNat (.tup [.str [109, 97, 114, 107], .str s]))))[mk]? = some (.lst (M.map .str)) := by
              rw [List.getElem?_set_ne (Ne.symm n2)]; exact h4
            simp [lref_eq h5]
            rw [apA_eq h5 (by simp; omega)]
            simp
            refine ⟨(p12.set n1).set hne, M ++ [s], R.set i.toNat (.tup [.str [109, 97, 114, 107], .str s]), ?_, ?_, ?_, ?_, ?_, (((g6.trans (.of f11)).trans (.of f12)).setHi l0).setmk⟩
            · rw [List.getElem?_set_ne n2, List.getElem?_set_self l3]
            · simp [g2]
            · intro v hv
              rcases List.mem_or_eq_of_mem_set hv with hv | rfl
              · exact g3 v hv
              · exact .mark _
            · rw [List.getElem?_set_self (by simp; omega)]; simp
            · simp; omega
          · exact ⟨p12, M, R, h3, g2, g3, h4, by omega, (g6.trans (.of f11)).trans (.of f12)⟩
      · obtain ⟨x, y, M, R, rfl, p10, g1, g2, g3, g4, g5, g6⟩ := hI
        unfold pa5
        simp
        refine tk p10 (by omega) (by omega) fun q ah11 q0 q1 p11 f11 => ?_
        refine w_some p11 fun v ah12 hv12 p12 f12 => ?_
        refine tk p12 (by omega) (by omega) fun z ah13 z0 z1 p13 f13 => ?_
        have l1 := (List.getElem?_eq_some_iff.mp g1).1
        have fa := (f11.trans f12).trans f13
        have h1 : ah13[rr]? = some (.lst R) := by rw [fa.2 _ l1 n1]; exact g1
        refine wp_at z0 (by simpa using z1) fun w hw => ?_
        have ix : ixN R.length (-1) = some (R.length - 1) := by unfold ixN; simp; omega
        rw [o_stR h1, ix]
        simp
        have hwr : RowK w := by
          simp only [List.mem_cons, List.not_mem_nil, or_false] at hw
          rcases hw with rfl | rfl
          · exact .oth _ _ (by decide) (by simp [nrs, nr])
          · exact .oth _ _ (by decide) (by simp [nrs, nr, hv12])
        have l2 := (List.getElem?_eq_some_iff.mp h1).1
        unfold pa6
        simp
        refine w_kind 40 7 _ _ _ (by omega) (p13.set n1) fun kd ah14 hkd p14 f14 => ?_
        have h2 : ah14[rr]? = some (.lst (R.set (R.length - 1) w)) := by
          rw [f14.2 _ (by simp; exact l2) n1, List.getElem?_set_self l2]
        simp [tup_ref h2]
        have lk := (List.getElem?_eq_some_iff.mp g4).1
        have h6 : ah13[mk]? = some (.lst (M.map .str)) := by rw [fa.2 _ lk hne]; exact g4
        have lk6 := (List.getElem?_eq_some_iff.mp h6).1
        refine h _ M ah14 (.mk _ _ _ (by rw [nr]; exact hu) hkd (by simp; omega) fun v hv => ?_) ?_ (by omega) p14 (((g6.trans (.of fa)).setHi l0).trans (.of f14))
        · rcases List.mem_or_eq_of_mem_set hv with hv | rfl
          · exact g3 v hv
          · exact hwr
        · rw [f14.2 _ (by simp; exact lk6) hne, List.getElem?_set_ne (Ne.symm n2)]; exact h6
  unfold pa1
  simp
  refine tk p4 (by decide) (by decide) fun q ah5 q0 q1 p5 f5 => ?_
  simp
  split
  · exact go _ _ p5 (f4.trans f5) (nrs_all.mpr fun v hv => hl v (List.mem_reverse.mp hv))
  · exact go _ _ p5 (f4.trans f5) (nrs_all.mpr hl)
end
end Law
namespace Law
open PySem L2 G
set_option autoImplicit false
section
variable {n : Nat}
theorem w_value : ∀ (m d : Nat) (ah : AH) (P : AV → AH → Prop) (E : ErrP), d < m → d ≤ 3 → Pt n ah → (∀ v ah', nr v = true → Pt n ah' → Fx n ah ah' → P v ah') → wx E (den__law_value m [.ref n, .int d] ah) P
  | 0, _, _, _, _, h, _, _, _ => by omega
  | m + 1, d, ah, P, E, hd, h3, hp, h => by
    refine w_fun rfl ?_
    unfold bodyR__law_value
    simp
    refine tk hp (by decide) (by decide) fun q ah1 q0 q1 p1 f1 => ?_
    simp
    have lf : (if q = 2 then
        wx (fun e h => E e h) (den__law_take [AV.ref n, AV.int 2] ah1) fun v ah1 =>
          wx (fun e h => E e h) (lift1 (eqO ah1 v (AV.int 1)) ah1) P
      else
        wx (fun e h => E e h) (den__law_take [AV.ref n, AV.int 5] ah1) fun v ah1 =>
          wx (fun e h => E e h) (den__law_take [AV.ref n, AV.int 1000000000000] ah1) fun v_1 ah1 =>
            wx (fun e h => E e h) (den__law_take [AV.ref n, AV.int 3] ah1) fun w ah2 =>
              wx (fun e h => E e h) (lift1 (ixO ah2 (AV.lst [v, v_1, AV.int 999999999999]) w) ah2) P) := by
      split
      · refine tk p1 (by decide) (by decide) fun a ah2 a0 a1 p2 f2 => ?_
        simp
        exact h _ _ rfl p2 (f1.trans f2)
      · refine tk p1 (by decide) (by decide) fun a ah2 a0 a1 p2 f2 => ?_
        refine tk p2 (by decide) (by decide) fun b ah3 b0 b1 p3 f3 => ?_
        refine tk p3 (by decide) (by decide) fun c ah4 c0 c1 p4 f4 => ?_
        refine wp_at c0 (by simpa using c1) fun v hv => ?_
        exact h _ _ (by
          simp only [List.mem_cons, List.not_mem_nil, or_false] at hv
          rcases hv with rfl | rfl | rfl <;> rfl) p4 (((f1.trans f2).trans f3).trans f4)
    split
    · split
      · refine tk p1 (by decide) (by decide) fun a ah2 a0 a1 p2 f2 => ?_
        simp
        refine wp_at (by omega) (by simp; omega) fun b hb => ?_
        refine wp_at (by omega) (by simp; omega) fun c hc => ?_
        obtain ⟨c, rfl, c0, c1⟩ : ∃ i : Int, c = .int i ∧ 0 < i ∧ i ≤ 61 := by
          simp only [List.mem_cons, List.not_mem_nil, or_false] at hc hb
          rcases hc with rfl | rfl | rfl | rfl
          · exact ⟨_, rfl, by omega, by omega⟩
          · exact ⟨_, rfl, by omega, by omega⟩
          · exact ⟨_, rfl, by omega, by omega⟩
          · rcases hb with rfl | rfl
            · exact ⟨_, rfl, by omega, by omega⟩
            · exact ⟨_, rfl, by omega, by omega⟩
        refine tk p2 c0 (by omega) fun j ah3 j0 j1 p3 f3 => ?_
        refine ⟨j, rfl, by omega, by omega, ?_⟩
        refine w_lc rfl (I := fun a => Pt n a ∧ Fx n ah3 a) (G := fun v => nr v = true) _ _ _ ⟨p3, .refl _ _⟩ (fun w hw ah4 hI => ⟨_, rfl, ?_⟩) fun l ah4 hI hl hlen => ?_
        · simp [wipeE]
          rw [show (d : Int) - 1 = ((d - 1 : Nat) : Int) by omega]
          exact w_value m (d - 1) ah4 _ _ (by omega) (by omega) hI.1 fun v ah5 hv p5 f5 => ⟨⟨p5, hI.2.trans f5⟩, hv⟩
        · exact h _ _ (by rw [nr]; exact nrs_all.mpr hl) hI.1 (((f1.trans f2).trans f3).trans hI.2)
      · exact lf
    · exact lf
end
section
variable {ah : AH} {P : AV → AH → Prop} {E : ErrP} {n : Nat}
theorem w_nameS (hp : Pt n ah) (h : ∀ s ah', okA (.str s) = true → Pt n ah' → Fx n ah ah' → P (.str s) ah') : wx E (den__law_name [.ref n] ah) P := by
  refine w_fun rfl ?_
  unfold body__law_name
  simp
  refine tk hp (by decide) (by decide) fun a ah1 a0 a1 p1 f1 => ?_
  simp
  split
  · refine tk p1 (by decide) (by decide) fun b ah2 b0 b1 p2 f2 => ?_
    refine wp_at b0 (by simpa using b1) fun v hv => ?_
    have : ∃ s, v = .str s ∧ okA (.str s) = true := by
      simp only [List.mem_cons, List.not_mem_nil, or_false] at hv
      rcases hv with rfl | rfl | rfl | rfl | rfl | rfl | rfl | rfl | rfl | rfl | rfl | rfl | rfl | rfl | rfl | rfl | rfl | rfl | rfl | rfl | rfl | rfl | rfl | rfl | rfl <;> exact ⟨_, rfl, rfl⟩
    obtain ⟨s, rfl, hs⟩ := this
    exact h _ _ hs p2 (f1.trans f2)
  · split
    · refine tk p1 (by decide) (by decide) fun b ah2 b0 b1 p2 f2 => ?_
      simp
      refine wp_at b0 (by simpa using b1) fun v hv => ?_
      exact h _ _ (by
        simp only [List.mem_cons, List.not_mem_nil, or_false] at hv
        rcases hv with rfl | rfl | rfl | rfl | rfl <;> rfl) p2 (f1.trans f2)
    · refine tk p1 (by decide) (by decide) fun b ah2 b0 b1 p2 f2 => ?_
      simp
      refine ⟨by omega, s_forK rfl (I := fun j env ah => ∃ s y, (s.length ≤ j ∧ okA (.str s) = true) ∧ env = [some (.ref n), some (.int a), none, some (.str s), y] ∧ Pt n ah ∧ Fx n ah2 ah) (m := (1 + b).toNat) _ 0 _ _ (by simp) ⟨[], none, ⟨by simp, rfl⟩, rfl, p2, .refl _ _⟩ (fun v hv j env ah3 hj hI => ?_) (fun env ah3 hI => ?_)⟩
      · obtain ⟨s, y, hs, rfl, p3, f3⟩ := hI
        refine ⟨_, rfl, ?_⟩
        simp
        refine tk p3 (by decide) (by decide) fun c ah4 c0 c1 p4 f4 => ?_
        simp
        refine wp_at c0 (by simpa using c1) fun v hv => ?_
        refine ⟨by omega, _, ⟨by simp; omega, ?_⟩, rfl, p4, f3.trans f4⟩
        rw [okA, List.all_append, Bool.and_eq_true]
        refine ⟨hs.2, ?_⟩
        simp only [List.mem_cons, List.not_mem_nil, or_false] at hv
        rcases hv with rfl | rfl | rfl | rfl | rfl | rfl | rfl | rfl | rfl | rfl | rfl | rfl | rfl | rfl | rfl | rfl | rfl | rfl | rfl | rfl | rfl | rfl | rfl | rfl | rfl | rfl <;> rfl
      · obtain ⟨s, y, hs, rfl, p3, f3⟩ := hI
        simp
        rw [o_inSl (by decide)]
        simp
        refine wp_at (by split <;> omega) (by simp; split <;> omega) fun v hv => ?_
        simp only [List.mem_cons, List.not_mem_nil, or_false] at hv
        rcases hv with rfl | rfl
        · exact h _ _ hs.2 p3 ((f1.trans f2).trans f3)
        · exact h _ _ rfl p3 ((f1.trans f2).trans f3)
theorem w_namesK {k : Int} (k0 : 0 ≤ k) (k8 : k ≤ 30) (hp : Pt n ah) (h : ∀ (ss : List (List Nat)) ah', ss.length ≤ 30 → (∀ s ∈ ss, okA (.str s) = true) → Pt n ah' → Fx n ah ah' → P (.lst (ss.map .str)) ah') : wx E (den__law_names [.ref n, .int k] ah) P := by
  refine w_fun rfl ?_
  unfold body__law_names
  simp
  refine tk hp (by omega) (by omega) fun j ah1 j0 j1 p1 f1 => ?_
  refine ⟨j, rfl, by omega, by omega, ?_⟩
  refine w_lc rfl (I := fun a => Pt n a ∧ Fx n ah1 a) (G := fun v => ∃ s, v = .str s ∧ okA (.str s) = true) _ _ _ ⟨p1, .refl _ _⟩ (fun w hw ah4 hI => ⟨_, rfl, ?_⟩) fun l ah4 hI hl hlen => ?_
  · simp [wipeE]
    exact w_nameS hI.1 fun s ah5 hs p5 f5 => ⟨⟨p5, hI.2.trans f5⟩, _, rfl, hs⟩
  · obtain ⟨ss, rfl⟩ := strs_of fun v hv => let ⟨s, e, _⟩ := hl v hv; ⟨s, e⟩
    have hok : ∀ s ∈ ss, okA (.str s) = true := fun s hs => by
      obtain ⟨t, e, ht⟩ := hl (.str s) (List.mem_map_of_mem hs)
      cases e; exact ht
    simp at hlen
    rw [so_str (by omega)]
    have := (sortA_perm (uniqA ss)).length_eq
    have := uniq_len ss
    exact h _ _ (by omega) (fun s hs => hok s (mem_uniq.mp ((sortA_perm (uniqA ss)).mem_iff.mp hs))) hI.1 (f1.trans hI.2)
end
mutual
theorem frz_nr {res : Nat → Option AV} : ∀ v : AV, nr v = true → frzV res v = some v
  | .tup l, h => by rw [frzV, frzs_nr l (by rw [nr] at h; exact h)]; rfl
  | .non, _ => rfl
  | .bl _, _ => rfl
  | .int _, _ => rfl
  | .str _, _ => rfl
  | .lst _, h => by cases h
  | .dk _, h => by cases h
  | .fl _, h => by cases h
  | .ref _, h => by cases h
theorem frzs_nr {res : Nat → Option AV} : ∀ l : List AV, nrs l = true → frzVs res l = some l
  | [], _ => rfl
  | v :: l, h => by
    rw [nrs, Bool.and_eq_true] at h
    rw [frzVs, frz_nr v h.1, frzs_nr l h.2]
end
theorem frzk_nr {res : Nat → Option AV} : ∀ l : List (AK × AV), (∀ p ∈ l, nr p.2 = true) → frzVk res l = some l
  | [], _ => rfl
  | (k, v) :: l, h => by
    rw [frzVk, frz_nr v (h (k, v) (by simp)), frzk_nr l fun p hp => h p (by simp [hp])]
end Law
namespace Law
open PySem L2 G
set_option autoImplicit false
theorem putA_all {p : AK × AV → Prop} {l : List (AK × AV)} {k : AK} {v : AV} (h : ∀ q ∈ l, p q) (hv : ∀ k', p (k', v)) : ∀ q ∈ putA l k v, p q := by
  intro q hq
  unfold putA at hq
  split at hq
  · obtain ⟨a, ha, e⟩ := List.mem_map.mp hq
    split at e
    · subst e; exact hv _
    · subst e; exact h _ ha
  · rcases List.mem_append.mp hq with hq | hq
    · exact h q hq
    · simp at hq; subst hq; exact hv _
theorem putA_len (l : List (AK × AV)) (k : AK) (v : AV) : (putA l k v).length ≤ l.length + 1 := by
  unfold putA
  split <;> simp
theorem putA_nd {l : List (AK × AV)} (h : (l.map (·.1)).Nodup) (k : AK) (v : AV) : ((putA l k v).map (·.1)).Nodup := by
  unfold putA
  by_cases q : (l.any (fun p => decide (p.1 = k)) = true)
  · rw [if_pos q, List.map_map]
    have e : l.map ((fun p : AK × AV => p.1) ∘ fun p => if p.1 = k then (p.1, v) else p) = l.map (·.1) := by
      apply List.map_congr_left
      intro p _
      show (if p.1 = k then (p.1, v) else p).1 = p.1
      split <;> rfl
    rw [e]; exact h
  · rw [if_neg q, List.map_append, List.nodup_append]
    refine ⟨h, by simp, fun a ha b hb => ?_⟩
    simp at hb
    subst hb
    intro z
    subst z
    obtain ⟨p, hp, e⟩ := List.mem_map.mp ha
    exact q (List.any_eq_true.mpr ⟨p, hp, decide_eq_true e⟩)
theorem putA_key {l : List (AK × AV)} {k : AK} {v : AV} (h : ∀ q ∈ l, okA (keyV q.1) = true) (hk : okA (keyV k) = true) : ∀ q ∈ putA l k v, okA (keyV q.1) = true := by
  intro q hq
  unfold putA at hq
  split at hq
  · obtain ⟨a, ha, e⟩ := List.mem_map.mp hq
    have hf : q.1 = a.1 := by
      rw [← e]; split <;> rfl
    rw [hf]; exact h a ha
  · rcases List.mem_append.mp hq with hq | hq
    · exact h q hq
    · simp at hq; subst hq; exact hk
/-- the parts of a program -/
def QOk (Q : List (AK × AV)) : Prop := (∀ p ∈ Q, PartK p.2) ∧ (Q.map (·.1)).Nodup ∧ ∀ p ∈ Q, okA (keyV p.1) = true
/-- where the program that is made stands -/
structure Mk (n : Nat) (ah : AH) (j : Nat) (a : AH) where
  pt : Pt n a
  len : List.length ah ≤ List.length a
  old : ∀ i, i < List.length ah → i ≠ n → a[i]? = ah[i]?
  ex : ∃ (K B Q : List (AK × AV)) (M : List (List Nat)), a[List.length ah]? = some (.dk K) ∧ a[List.length ah + 1]? = some (.dk B) ∧ a[List.length ah + 2]? = some (.dk Q) ∧ a[List.length ah + 3]? = some (.lst (M.map .str)) ∧
    K.length ≤ j ∧ B.length ≤ j ∧ Q.length ≤ j ∧ M.length ≤ 60 * j ∧ (∀ p ∈ K, nr p.2 = true) ∧ (∀ p ∈ B, nr p.2 = true) ∧ QOk Q
theorem Mk.up {n : Nat} {ah a b : AH} {j : Nat} (h : Mk n ah j a) (hn : n < List.length ah) (f : Fx n a b) (p : Pt n b) : Mk n ah j b := by
  obtain ⟨K, B, Q, M, h1, h2, h3, h4, r⟩ := h.ex
  have up : ∀ {i : Nat} {o : HObj}, List.length ah ≤ i → a[i]? = some o → b[i]? = some o := fun hi e => by
    rw [f.2 _ (List.getElem?_eq_some_iff.mp e).1 (by omega)]; exact e
  refine ⟨p, Nat.le_trans h.len f.1, fun i hi hne => ?_, K, B, Q, M, up (by omega) h1, up (by omega) h2, up (by omega) h3, up (by omega) h4, r⟩
  rw [f.2 i (Nat.lt_of_lt_of_le hi h.len) hne]; exact h.old i hi hne
theorem Mk.le {n : Nat} {ah a : AH} {j j' : Nat} (h : Mk n ah j a) (hj : j ≤ j') : Mk n ah j' a := by
  obtain ⟨K, B, Q, M, h1, h2, h3, h4, h5, h6, h7, h8, r⟩ := h.ex
  exact ⟨h.pt, h.len, h.old, K, B, Q, M, h1, h2, h3, h4, by omega, by omega, by omega, by omega, r⟩
theorem st_dk {ah : AH} {n : Nat} {l : List (AK × AV)} {k : List Nat} {v : AV} (h : ah[n]? = some (.dk l)) (hl : l.length < 1000000) : stA ah (.ref n) (.str k) v = some (ah.set n (.dk (putA l (.inr k) v))) := by
  show (match ah[n]? with | some (.lst l) => (stL l (.str k) v).map fun l' => ah.set n (.lst l') | some (.dk l) => (stD l (.str k) v).map fun l' => ah.set n (.dk l') | none => none) = _
  rw [h]
  show ((if l.length < 1000000 then some (putA l (.inr k) v) else none).map _) = _
  rw [if_pos hl]; rfl
theorem o_lenD {ah : AH} {n : Nat} {l : List (AK × AV)} (h : ah[n]? = some (.dk l)) : lenO ah [.ref n] = some (.int l.length) := by
  show (match dr ah (.ref n) with
    | .tup l => some (AV.int l.length)
    | .lst l => some (.int l.length)
    | .fl l => some (.int l.length)
    | .str s => if s.length ≤ 1000000 then some (.int s.length) else none
    | .dk l => some (.int l.length)
    | _ => none) = _
  rw [dr_ref h]; rfl
theorem o_eqE {ah : AH} {n : Nat} {l : List (AK × AV)} (h : ah[n]? = some (.dk l)) : eqO ah (.ref n) (.dk []) = some (.bl l.isEmpty) := by
  show (match dkE (dr ah (.ref n)) (.dk []) with | some b => some (AV.bl b) | none => if lenNe (dr ah (.ref n)) (.dk []) = true then some (AV.bl false) else if (shA (dr ah (.ref n)) && shA (.dk [])) = true then some (AV.bl (eqA (dr ah (.ref n)) (.dk []))) else none) = _
  rw [dr_ref h]
  cases l <;> rfl
theorem Mk.st0 {n : Nat} {ah a : AH} {j : Nat} {s : List Nat} {v : AV} (h : Mk n ah j a) (hn : n < List.length ah) (hj : j ≤ 1000) (hv : nr v = true) : ∃ a', stA a (.ref (List.length ah)) (.str s) v = some a' ∧ Mk n ah (j + 1) a' := by
  obtain ⟨K, B, Q, M, g1, g2, g3, g4, b1, b2, b3, b4, c1, c2, c3⟩ := h.ex
  have l1 := (List.getElem?_eq_some_iff.mp g1).1
  have := putA_len K (.inr s) v
  refine ⟨_, st_dk g1 (by omega), h.pt.set (by omega), by rw [List.length_set]; exact h.len, fun i hi hne => by rw [List.getElem?_set_ne (by omega)]; exact h.old i hi hne, _, B, Q, M, List.getElem?_set_self l1, ?_, ?_, ?_, by omega, by omega, by omega, by omega, putA_all c1 fun _ => hv, c2, c3⟩
  · rw [List.getElem?_set_ne (by omega)]; exact g2
  · rw [List.getElem?_set_ne (by omega)]; exact g3
  · rw [List.getElem?_set_ne (by omega)]; exact g4
theorem Mk.st1 {n : Nat} {ah a : AH} {j : Nat} {s : List Nat} {v : AV} (h : Mk n ah j a) (hn : n < List.length ah) (hj : j ≤ 1000) (hv : nr v = true) : ∃ a', stA a (.ref (List.length ah + 1)) (.str s) v = some a' ∧ Mk n ah (j + 1) a' := by
  obtain ⟨K, B, Q, M, g1, g2, g3, g4, b1, b2, b3, b4, c1, c2, c3⟩ := h.ex
  have l1 := (List.getElem?_eq_some_iff.mp g2).1
  have := putA_len B (.inr s) v
  refine ⟨_, st_dk g2 (by omega), h.pt.set (by omega), by rw [List.length_set]; exact h.len, fun i hi hne => by rw [List.getElem?_set_ne (by omega)]; exact h.old i hi hne, K, _, Q, M, ?_, List.getElem?_set_self l1, ?_, ?_, by omega, by omega, by omega, by omega, c1, putA_all c2 fun _ => hv, c3⟩
  · rw [List.getElem?_set_ne (by omega)]; exact g1
  · rw [List.getElem?_set_ne (by omega)]; exact g3
  · rw [List.getElem?_set_ne (by omega)]; exact g4
theorem Mk.st2 {n : Nat} {ah a b : AH} {j : Nat} {s : List Nat} {v : AV} {M' : List (List Nat)} (h : Mk n ah j a) (hn : n < List.length ah) (hj : j ≤ 1000) (hv : PartK v) (f : Fy n (List.length ah + 3) a b) (p : Pt n b) (gm : b[List.length ah + 3]? = some (.lst (M'.map .str))) (hM : M'.length ≤ 60 * j + 60) (hs : okA (.str s) = true) : ∃ a', stA b (.ref (List.length ah + 2)) (.str s) v = some a' ∧ Mk n ah (j + 1) a' := by
  obtain ⟨K, B, Q, M, g1, g2, g3, g4, b1, b2, b3, b4, c1, c2, c3⟩ := h.ex
  have up : ∀ {i : Nat} {o : HObj}, List.length ah ≤ i → i ≠ List.length ah + 3 → a[i]? = some o → b[i]? = some o := fun hi h3 e => by
    rw [f.2 _ (List.getElem?_eq_some_iff.mp e).1 (by omega) h3]; exact e
  have h3 := up (by omega) (by omega) g3
  have l1 := (List.getElem?_eq_some_iff.mp h3).1
  have := putA_len Q (.inr s) v
  refine ⟨_, st_dk h3 (by omega), p.set (by omega), by rw [List.length_set]; exact Nat.le_trans h.len f.1, fun i hi hne => ?_, K, B, _, M', ?_, ?_, List.getElem?_set_self l1, ?_, by omega, by omega, by omega, by omega, c1, c2, ⟨putA_all c3.1 fun _ => hv, putA_nd c3.2.1 _ _, putA_key c3.2.2 hs⟩⟩
  · rw [List.getElem?_set_ne (by omega), f.2 i (Nat.lt_of_lt_of_le hi h.len) hne (by omega)]; exact h.old i hi hne
  · rw [List.getElem?_set_ne (by omega)]; exact up (by omega) (by omega) g1
  · rw [List.getElem?_set_ne (by omega)]; exact up (by omega) (by omega) g2
  · rw [List.getElem?_set_ne (by omega)]; exact gm
section
variable {ah : AH} {P : AV → AH → Prop} {E : ErrP} {n : Nat}
theorem w_prog0 (hp : Pt n ah) (h : ∀ ah', Mk n ah 30 ah' → P (.tup [.ref (List.length ah), .ref (List.length ah + 1), .ref (List.length ah + 2)]) ah') : wx E (den__law_program [.ref n, .int 3] ah) P := by
  have hn := hp.lt
  refine w_fun rfl ?_
  unfold body__law_program
  simp
  have m0 : Mk n ah 0 (ah ++ [HObj.dk [], HObj.dk [], HObj.dk [], HObj.lst []]) := by
    refine ⟨hp.app, by simp, fun i hi _ => List.getElem?_append_left hi, [], [], [], [], ?_, ?_, ?_, ?_, by simp, by simp, by simp, by simp, by simp, by simp, ⟨by simp, by simp, by simp⟩⟩
    · simp
    · rw [List.getElem?_append_right (by omega)]; simp
    · rw [List.getElem?_append_right (by omega)]; simp
    · rw [List.getElem?_append_right (by omega)]; simp
  generalize ah ++ [HObj.dk [], HObj.dk [], HObj.dk [], HObj.lst []] = a0 at m0 ⊢
  refine tk m0.pt (by decide) (by decide) fun q a1 q0 q1 p1 f1 => ?_
  have m1 := m0.up hn f1 p1
  refine wp_at q0 (by simpa using q1) fun w hw => ?_
  obtain ⟨w, rfl, w0, w1⟩ : ∃ i : Int, w = .int i ∧ 0 ≤ i ∧ i ≤ 30 := by
    simp only [List.mem_cons, List.not_mem_nil, or_false] at hw
    rcases hw with rfl | rfl | rfl
    · exact ⟨_, rfl, by omega, by omega⟩
    · exact ⟨_, rfl, by omega, by omega⟩
    · exact ⟨_, rfl, by omega, by omega⟩
  refine w_namesK w0 w1 m1.pt fun ss a2 hs hok p2 f2 => ?_
  have m2 := m1.up hn f2 p2
  simp
  refine s_forK rfl (I := fun j env a => ∃ x4 x5 x6, env = [some (.ref n), some (.int 3), some (.tup [.ref (List.length ah), .ref (List.length ah + 1), .ref (List.length ah + 2)]), some (.ref (List.length ah + 3)), x4, x5, x6] ∧ Mk n ah j a) (m := ss.length) _ 0 _ _ (by simp) ⟨none, none, none, rfl, m2⟩ ?_ ?_
  · rintro v hv j env a hj ⟨x4, x5, x6, rfl, mk⟩
    obtain ⟨s, hss, rfl⟩ := List.mem_map.mp hv
    refine ⟨_, rfl, ?_⟩
    simp
    refine tk mk.pt (by decide) (by decide) fun q a3 q0 q1 p3 f3 => ?_
    have m3 := mk.up hn f3 p3
    obtain ⟨K, B, Q, M, g1, g2, g3, g4, b1, b2, b3, b4, c1, c2, c3⟩ := m3.ex
    rcases (show q = 0 ∨ q = 1 ∨ q = 2 by omega) with rfl | rfl | rfl
    · simp
      rw [show atI [AV.ref (List.length ah), AV.ref (List.length ah + 1), AV.ref (List.length ah + 2)] 0 = some (AV.ref (List.length ah)) from rfl]
      simp [o_lenD g1]
      split
      case isFalse => exact m3.le (by omega)
      refine w_names (by omega) (by omega) m3.pt fun fs a4 hs4 p4 f4 => ?_
      have m4 := m3.up hn f4 p4
      simp
      refine ⟨by omega, ?_⟩
      refine w_lc rfl (I := fun a => Mk n ah j a) (G := fun v => nr v = true) _ _ _ m4 (fun w hw a5 m5 => ⟨_, rfl, ?_⟩) fun l a5 m5 hl hlen => ?_
      · obtain ⟨s, _, rfl⟩ := List.mem_map.mp hw
        simp [wipeE]
        exact w_kind 40 7 _ _ _ (by omega) m5.pt fun v a6 hv p6 f6 => ⟨m5.up hn f6 p6, by simp [nr, nrs, hv]⟩
      · obtain ⟨a', e, m'⟩ := m5.st0 (s := s) (v := .tup l) hn (by omega) (by rw [nr]; exact nrs_all.mpr hl)
        rw [e]
        exact m'
    · simp
      rw [show atI [AV.ref (List.length ah), AV.ref (List.length ah + 1), AV.ref (List.length ah + 2)] 1 = some (AV.ref (List.length ah + 1)) from rfl]
      simp [o_lenD g2]
      split
      case isFalse => exact m3.le (by omega)
      refine w_kind 40 7 _ _ _ (by omega) m3.pt fun kd a4 hkd p4 f4 => ?_
      have m4 := m3.up hn f4 p4
      refine w_value 40 3 _ _ _ (by omega) (by omega) m4.pt fun vl a5 hvl p5 f5 => ?_
      have m5 := m4.up hn f5 p5
      obtain ⟨a', e, m'⟩ := m5.st1 (s := s) (v := .tup [kd, vl]) hn (by omega) (by simp [nr, nrs, hkd, hvl])
      rw [e]
      exact m'
    · simp
      rw [show atI [AV.ref (List.length ah), AV.ref (List.length ah + 1), AV.ref (List.length ah + 2)] 2 = some (AV.ref (List.length ah + 2)) from rfl]
      simp [o_lenD g3]
      split
      case isFalse => exact m3.le (by omega)
      rw [o_eqE g3]
      simp
      refine wp_at (by split <;> omega) (by simp; split <;> omega) fun w hw => ?_
      obtain ⟨w, rfl, hmo⟩ : ∃ i : Int, w = .int i ∧ (i = 8 ∨ i = 57) := by
        simp only [List.mem_cons, List.not_mem_nil, or_false] at hw
        rcases hw with rfl | rfl
        · exact ⟨_, rfl, .inl rfl⟩
        · exact ⟨_, rfl, .inr rfl⟩
      refine w_part hmo (M0 := M) (by omega) g4 (by omega) m3.pt fun v M' a4 hv gm hM' p4 f4 => ?_
      obtain ⟨a', e, m'⟩ := m3.st2 (s := s) (v := v) hn (by omega) hv f4 p4 gm (by omega) (hok s hss)
      rw [e]
      exact m'
  · rintro env a ⟨x4, x5, x6, rfl, mk⟩
    simp
    exact h _ (mk.le hs)
end
end Law
namespace Law
open PySem L2 G
set_option autoImplicit false
/-- the marks of one part's rows -/
def mkR (nm : AV) : Nat → List AV → List AV
  | _, [] => []
  | r, v :: l => (match v with
    | .tup [.str w, x] => if w = tMark then [.tup [x, .tup [nm, .int r]]] else []
    | _ => []) ++ mkR nm (r + 1) l
def mkP : List (AK × AV) → List AV
  | [] => []
  | p :: l => (match p.2 with
    | .tup [_, _, .tup R] => mkR (keyV p.1) 0 R
    | _ => []) ++ mkP l
theorem mkR_len (nm : AV) : ∀ (r : Nat) (l : List AV), (mkR nm r l).length ≤ l.length
  | _, [] => by simp [mkR]
  | r, v :: l => by
    have := mkR_len nm (r + 1) l
    unfold mkR
    rw [List.length_append, List.length_cons]
    split
    · split
      · simp; omega
      · simp; omega
    · simp; omega
theorem rowk_mark (s : List Nat) (nm : AV) (r : Nat) (l : List AV) : mkR nm r (.tup [.str tMark, .str s] :: l) = .tup [.str s, .tup [nm, .int r]] :: mkR nm (r + 1) l := rfl
theorem rowk_oth {w : List Nat} {l' : List AV} (hw : w ≠ tMark) (nm : AV) (r : Nat) (l : List AV) : mkR nm r (.tup (.str w :: l') :: l) = mkR nm (r + 1) l := by
  match l' with
  | [] => rfl
  | [x] =>
    show (if w = tMark then [AV.tup [x, .tup [nm, .int r]]] else []) ++ mkR nm (r + 1) l = _
    rw [if_neg hw]; rfl
  | _ :: _ :: _ => rfl
theorem at2 {α : Type} {a b c : α} {l : List α} : atI (a :: b :: c :: l) 2 = some c := by
  obtain ⟨v, e, _, q⟩ := atI_nat (a :: b :: c :: l) 2 (by omega) (by simp; omega)
  rw [e]; simpa using q.symm
section
variable {P : AV → AH → Prop} {E : ErrS} {f : Nat} {N B C : G.Env → AH → Prop}
theorem w_inner {x0 p : AV} {src : Src} (hs : src.1 = none) {nm : AV} : ∀ (R : List AV) (r0 : Nat) (acc : List AV) (ah : AH) (x4 x5 : Option AV), (∀ v ∈ R, RowK v) → ah[f]? = some (.lst acc) → acc.length + R.length ≤ 900000 →
    (∀ ah' x4 x5, ah'[f]? = some (.lst (acc ++ mkR nm r0 R)) → Fx f ah ah' → N [some x0, some (.ref f), some nm, some p, x4, x5] ah') →
    wsx E (forL src (gTg 2 (gTc (gNm 4) (gTc (gNm 5) (gTn)))) (gIf (gTB (gOp eqO (gOp ixO (gVar 5) (gC (.int 0))) (gC (.str [109, 97, 114, 107])))) (gDrop (gApp (gVar 1) (gTup (gCons (gOp ixO (gVar 5) (gC (.int 1))) (gCons (gTup (gCons (gVar 2) (gCons (gVar 4) (gNil)))) (gNil)))))) (gSkip)) (enA r0 R) [some x0, some (.ref f), some nm, some p, x4, x5] ah) N P B C
  | [], r0, acc, ah, x4, x5, _, g, _, h => by
    rw [enA, s_forN hs]
    exact h ah x4 x5 (by simpa [mkR] using g) (.refl _ _)
  | v :: R, r0, acc, ah, x4, x5, hR, g, hl, h => by
    rw [List.length_cons] at hl
    rw [enA, s_forC hs]
    refine ⟨_, rfl, ?_⟩
    have hv := hR v (by simp)
    have hR' : ∀ w ∈ R, RowK w := fun w hw => hR w (by simp [hw])
    cases hv with
    | mark s =>
      simp [at0, at1]
      rw [lref_eq g]
      simp
      rw [apA_eq g (by omega)]
      simp
      have lf := (List.getElem?_eq_some_iff.mp g).1
      refine w_inner hs R (r0 + 1) (acc ++ [.tup [.str s, .tup [nm, .int r0]]]) _ _ _ hR' (List.getElem?_set_self lf) (by simp; omega) fun ah' x4 x5 g' fx => ?_
      refine h ah' x4 x5 ?_ (Fx.trans .set fx)
      rw [rowk_mark]; simpa using g'
    | oth w l' hw hn =>
      have hw' : ¬ (w = [109, 97, 114, 107]) := hw
      simp [at0, hw']
      refine w_inner hs R (r0 + 1) acc ah _ _ hR' g (by omega) fun ah' x4 x5 g' fx => ?_
      exact h ah' x4 x5 (by rw [rowk_oth hw]; exact g') fx
theorem w_innerL {x0 : AV} {src : Src} (hs : src.1 = none) {nm : AV} : ∀ (R : List AV) (r0 : Nat) (acc : List AV) (ah : AH) (x4 x5 : Option AV), (∀ v ∈ R, RowK v) → ah[f]? = some (.lst acc) → acc.length + R.length ≤ 900000 →
    (∀ ah' x4 x5, ah'[f]? = some (.lst (acc ++ mkR nm r0 R)) → Fx f ah ah' → N [some x0, some (.ref f), some nm, x4, x5] ah') →
    wsx E (forL src (gTg 2 (gTc (gNm 3) (gTc (gNm 4) (gTn)))) (gIf (gTB (gOp eqO (gOp ixO (gVar 4) (gC (.int 0))) (gC (.str [109, 97, 114, 107])))) (gDrop (gApp (gVar 1) (gTup (gCons (gOp ixO (gVar 4) (gC (.int 1))) (gCons (gTup (gCons (gVar 2) (gCons (gVar 3) (gNil)))) (gNil)))))) (gSkip)) (enA r0 R) [some x0, some (.ref f), some nm, x4, x5] ah) N P B C
  | [], r0, acc, ah, x4, x5, _, g, _, h => by
    rw [enA, s_forN hs]
    exact h ah x4 x5 (by simpa [mkR] using g) (.refl _ _)
  | v :: R, r0, acc, ah, x4, x5, hR, g, hl, h => by
    rw [List.length_cons] at hl
    rw [enA, s_forC hs]
    refine ⟨_, rfl, ?_⟩
    have hv := hR v (by simp)
    have hR' : ∀ w ∈ R, RowK w := fun w hw => hR w (by simp [hw])
    cases hv with
    | mark s =>
      simp [at0, at1]
      rw [lref_eq g]
      simp
      rw [apA_eq g (by omega)]
      simp
      have lf := (List.getElem?_eq_some_iff.mp g).1
      refine w_innerL hs R (r0 + 1) (acc ++ [.tup [.str s, .tup [nm, .int r0]]]) _ _ _ hR' (List.getElem?_set_self lf) (by simp; omega) fun ah' x4 x5 g' fx => ?_
      refine h ah' x4 x5 ?_ (Fx.trans .set fx)
      rw [rowk_mark]; simpa using g'
    | oth w l' hw hn =>
      have hw' : ¬ (w = [109, 97, 114, 107]) := hw
      simp [at0, hw']
      refine w_innerL hs R (r0 + 1) acc ah _ _ hR' g (by omega) fun ah' x4 x5 g' fx => ?_
      exact h ah' x4 x5 (by rw [rowk_oth hw]; exact g') fx
theorem w_outer {x0 : AV} {src : Src} (hs : src.1 = none) : ∀ (Q : List (AK × AV)) (acc : List AV) (ah : AH) (x2 x3 x4 x5 : Option AV), (∀ p ∈ Q, PartK p.2) → ah[f]? = some (.lst acc) → acc.length + 60 * Q.length ≤ 800000 →
    (∀ ah' x2 x3 x4 x5, ah'[f]? = some (.lst (acc ++ mkP Q)) → Fx f ah ah' → N [some x0, some (.ref f), x2, x3, x4, x5] ah') →
    wsx E (forL src (gTg 2 (gTc (gNm 2) (gTc (gNm 3) (gTn)))) (gFor (gEnum (gCons (gOp ixO (gVar 3) (gC (.int 2))) (gNil))) (gTg 2 (gTc (gNm 4) (gTc (gNm 5) (gTn)))) (gIf (gTB (gOp eqO (gOp ixO (gVar 5) (gC (.int 0))) (gC (.str [109, 97, 114, 107])))) (gDrop (gApp (gVar 1) (gTup (gCons (gOp ixO (gVar 5) (gC (.int 1))) (gCons (gTup (gCons (gVar 2) (gCons (gVar 4) (gNil)))) (gNil)))))) (gSkip))) (Q.map fun p => .tup [keyV p.1, p.2]) [some x0, some (.ref f), x2, x3, x4, x5] ah) N P B C
  | [], acc, ah, x2, x3, x4, x5, _, g, _, h => by
    rw [List.map_nil, s_forN hs]
    exact h ah x2 x3 x4 x5 (by simpa [mkP] using g) (.refl _ _)
  | p :: Q, acc, ah, x2, x3, x4, x5, hQ, g, hl, h => by
    rw [List.length_cons] at hl
    rw [List.map_cons, s_forC hs]
    refine ⟨_, rfl, ?_⟩
    have hp := hQ p (by simp)
    obtain ⟨k, v⟩ := p
    cases hp with
    | mk a b R h1 h2 hR h3 =>
      simp [at2]
      have ml := mkR_len (keyV k) 0 R
      refine w_inner rfl R 0 acc ah _ _ h3 g (by omega) fun ah' x4 x5 g' fx => ?_
      refine w_outer hs Q (acc ++ mkR (keyV k) 0 R) ah' _ _ _ _ (fun q hq => hQ q (by simp [hq])) g' (by rw [List.length_append]; omega) fun ah2 x2 x3 x4 x5 g2 fx2 => ?_
      exact h ah2 x2 x3 x4 x5 (by rw [List.append_assoc] at g2; exact g2) (fx.trans fx2)
end
end Law
namespace Law
open PySem L2 G
set_option autoImplicit false
theorem look_nd : ∀ {l : List (AK × AV)}, (l.map (·.1)).Nodup → ∀ p ∈ l, lookK l p.1 = some p.2
  | [], _, p, h => by cases h
  | q :: l, nd, p, h => by
    rw [List.map_cons, List.nodup_cons] at nd
    rw [lookK_cons]
    rcases List.mem_cons.mp h with rfl | h
    · rw [if_pos rfl]
    · rw [if_neg (fun z => nd.1 (List.mem_map.mpr ⟨p, h, z.symm⟩))]
      exact look_nd nd.2 p h
theorem ix_dk {ah : AH} {l : List (AK × AV)} {k : AK} : ixO ah (.dk l) (keyV k) = lookK l k := by
  cases k <;> rfl
section
variable {P : AV → AH → Prop} {E : ErrS} {f : Nat} {N B C : G.Env → AH → Prop}
theorem w_outerL {Q0 : List (AK × AV)} (h0 : QOk Q0) {src : Src} (hs : src.1 = none) : ∀ (Q : List (AK × AV)) (acc : List AV) (ah : AH) (x2 x3 x4 : Option AV), (∀ p ∈ Q, p ∈ Q0) → ah[f]? = some (.lst acc) → acc.length + 60 * Q.length ≤ 800000 →
    (∀ ah' x2 x3 x4, ah'[f]? = some (.lst (acc ++ mkP Q)) → Fx f ah ah' → N [some (.dk Q0), some (.ref f), x2, x3, x4] ah') →
    wsx E (forL src (gNm 2) (gFor (gEnum (gCons (gOp ixO (gOp ixO (gVar 0) (gVar 2)) (gC (.int 2))) (gNil))) (gTg 2 (gTc (gNm 3) (gTc (gNm 4) (gTn)))) (gIf (gTB (gOp eqO (gOp ixO (gVar 4) (gC (.int 0))) (gC (.str [109, 97, 114, 107])))) (gDrop (gApp (gVar 1) (gTup (gCons (gOp ixO (gVar 4) (gC (.int 1))) (gCons (gTup (gCons (gVar 2) (gCons (gVar 3) (gNil)))) (gNil)))))) (gSkip))) (Q.map fun p => keyV p.1) [some (.dk Q0), some (.ref f), x2, x3, x4] ah) N P B C
  | [], acc, ah, x2, x3, x4, _, g, _, h => by
    rw [List.map_nil, s_forN hs]
    exact h ah x2 x3 x4 (by simpa [mkP] using g) (.refl _ _)
  | p :: Q, acc, ah, x2, x3, x4, hQ, g, hl, h => by
    rw [List.length_cons] at hl
    rw [List.map_cons, s_forC hs]
    refine ⟨_, rfl, ?_⟩
    have hm := hQ p (by simp)
    have hp := h0.1 p hm
    have lk := look_nd h0.2.1 p hm
    obtain ⟨k, v⟩ := p
    have lk : lookK Q0 k = some v := lk
    cases hp with
    | mk a b R h1 h2 hR h3 =>
      simp [ix_dk, lk, at2]
      have ml := mkR_len (keyV k) 0 R
      refine w_innerL rfl R 0 acc ah _ _ h3 g (by omega) fun ah' x4 x5 g' fx => ?_
      refine w_outerL h0 hs Q (acc ++ mkR (keyV k) 0 R) ah' _ _ _ (fun q hq => hQ q (by simp [hq])) g' (by rw [List.length_append]; omega) fun ah2 x2 x3 x4 g2 fx2 => ?_
      exact h ah2 x2 x3 x4 (by rw [List.append_assoc] at g2; exact g2) (fx.trans fx2)
end
section
variable {ah : AH} {P : AV → AH → Prop} {E : ErrP} {n : Nat}
/-- the program's own list of marks -/
theorem w_places {Q : List (AK × AV)} (hQ : QOk Q) (hl : Q.length ≤ 30) (h : ∀ f ah', ah'[f]? = some (.lst (mkP Q)) → Fx f ah ah' → List.length ah ≤ f → P (.ref f) ah') : wx E (den_mark_places [.dk Q] ah) P := by
  refine w_fun rfl ?_
  unfold body_mark_places
  simp
  refine w_outer rfl Q [] _ _ _ _ _ hQ.1 (by simp) (by simp; omega) fun ah' x2 x3 x4 x5 g fx => ?_
  simp
  refine h _ _ (by simpa using g) ⟨by have := fx.1; simp at this; omega, fun i hi hne => ?_⟩ (Nat.le_refl _)
  rw [fx.2 i (by simp; omega) hne]; exact List.getElem?_append_left hi
/-- the law's -/
theorem w_lplaces {Q : List (AK × AV)} (hQ : QOk Q) (hl : Q.length ≤ 30) (h : ∀ f ah', ah'[f]? = some (.lst (mkP Q)) → Fx f ah ah' → List.length ah ≤ f → P (.ref f) ah') : wx E (den__law_marks [.dk Q] ah) P := by
  refine w_fun rfl ?_
  unfold body__law_marks
  simp
  refine w_outerL hQ rfl Q [] _ _ _ _ (fun p hp => hp) (by simp) (by simp; omega) fun ah' x2 x3 x4 g fx => ?_
  simp
  refine h _ _ (by simpa using g) ⟨by have := fx.1; simp at this; omega, fun i hi hne => ?_⟩ (Nat.le_refl _)
  rw [fx.2 i (by simp; omega) hne]; exact List.getElem?_append_left hi
theorem w_prog (hp : Pt n ah) (h : ∀ K B Q ah', QOk Q → Q.length ≤ 30 → P (.tup [.dk K, .dk B, .dk Q]) ah') : wx E (own1 den__law_program [.ref n, .int 3] ah) P := by
  have hn := hp.lt
  refine wp_lift ?_
  obtain ⟨w, ah', e, rfl, mk⟩ := wp_get (w_prog0 (P := fun w ah' => w = .tup [.ref (List.length ah), .ref (List.length ah + 1), .ref (List.length ah + 2)] ∧ Mk n ah 30 ah') hp fun ah' m => ⟨rfl, m⟩)
  obtain ⟨K, B, Q, M, g1, g2, g3, g4, b1, b2, b3, b4, c1, c2, c3⟩ := mk.ex
  have ku : keepsUp ah ah' := by
    refine ⟨mk.len, fun i hi => ?_⟩
    by_cases z : i = n
    · subst z
      obtain ⟨c, a, b, q⟩ := mk.pt
      exact .inr ⟨_, q, rfl⟩
    · exact .inl (mk.old i hi z)
  unfold own1
  rw [e]
  show wp (@ite _ (keepsUp ah ah') (Classical.propDecidable _) _ _) P
  rw [if_pos ku]
  have fr : ∀ {j : Nat} {l : List (AK × AV)}, List.length ah ≤ j → ah'[j]? = some (.dk l) → (∀ p ∈ l, nr p.2 = true) → resF ah.length ah' (ah'.length + 1) j = some (.dk l) := fun hj g hl => by
    rw [resF, if_neg (by omega), g]
    show (frzVk _ _).map AV.dk = _
    rw [frzk_nr _ hl]; rfl
  have e3 : frzV (resF ah.length ah' (ah'.length + 1)) (.tup [.ref (List.length ah), .ref (List.length ah + 1), .ref (List.length ah + 2)]) = some (.tup [.dk K, .dk B, .dk Q]) := by
    simp only [frzV, frzVs, fr (Nat.le_refl _) g1 c1, fr (by omega) g2 c2, fr (by omega) g3 fun p hp => (c3.1 p hp).nr]
    rfl
  rw [e3]
  exact h K B Q _ c3 b3
end
end Law
namespace Law
open PySem L2 G
set_option autoImplicit false
/-- an entry of a dict of places -/
def plc (p : AK × AV) : Prop := ∃ k r, p.2 = .tup [keyV k, .int r] ∧ okA (keyV k) = true
theorem mkR_prs (k : AK) (hk : okA (keyV k) = true) : ∀ (r : Nat) (R : List AV), (∀ v ∈ R, RowK v) → ∃ ps, prsA (mkR (keyV k) r R) = some ps ∧ ∀ p ∈ ps, plc p
  | _, [], _ => ⟨[], rfl, by simp⟩
  | r, v :: R, h => by
    obtain ⟨ps, e, hp⟩ := mkR_prs k hk (r + 1) R fun w hw => h w (by simp [hw])
    have hv := h v (by simp)
    cases hv with
    | mark s =>
      refine ⟨(.inr s, .tup [keyV k, .int r]) :: ps, ?_, fun p hm => ?_⟩
      · rw [rowk_mark]
        show (match prA (.tup [.str s, .tup [keyV k, .int r]]), prsA (mkR (keyV k) (r + 1) R) with | some p, some ps => some (p :: ps) | _, _ => none) = _
        rw [e]; rfl
      · rcases List.mem_cons.mp hm with rfl | hm
        · exact ⟨k, r, rfl, hk⟩
        · exact hp p hm
    | oth w l hw hn => exact ⟨ps, by rw [rowk_oth hw]; exact e, hp⟩
theorem prsA_app : ∀ {l l' : List AV} {ps qs : List (AK × AV)}, prsA l = some ps → prsA l' = some qs → prsA (l ++ l') = some (ps ++ qs)
  | [], _, _, _, h, h' => by cases h; exact h'
  | v :: l, l', ps, qs, h, h' => by
    have h : (match prA v, prsA l with | some p, some ps => some (p :: ps) | _, _ => none) = some ps := h
    show (match prA v, prsA (l ++ l') with | some p, some ps => some (p :: ps) | _, _ => none) = _
    split at h
    · rename_i p qs' h1 h2
      cases h
      rw [h1, prsA_app h2 h']; rfl
    · cases h
theorem mkP_prs : ∀ {Q : List (AK × AV)}, (∀ p ∈ Q, PartK p.2) → (∀ p ∈ Q, okA (keyV p.1) = true) → ∃ ps, prsA (mkP Q) = some ps ∧ ∀ p ∈ ps, plc p
  | [], _, _ => ⟨[], rfl, by simp⟩
  | (k, v) :: Q, h, hk => by
    obtain ⟨ps, e, hp⟩ := mkP_prs (Q := Q) (fun q hq => h q (by simp [hq])) (fun q hq => hk q (by simp [hq]))
    have hv := h (k, v) (by simp)
    cases hv with
    | mk a b R h1 h2 hR h3 =>
      obtain ⟨qs, e2, hq⟩ := mkR_prs k (hk (k, .tup [a, b, .tup R]) (by simp)) 0 R h3
      refine ⟨qs ++ ps, prsA_app e2 e, fun p hm => ?_⟩
      rcases List.mem_append.mp hm with hm | hm
      · exact hq p hm
      · exact hp p hm
theorem merge_ok : ∀ (ps : List (AK × AV)) {acc : List (AK × AV)}, (acc.map (·.1)).Nodup → (∀ p ∈ acc, plc p) → (∀ p ∈ ps, plc p) → ((mergeA acc ps).map (·.1)).Nodup ∧ ∀ p ∈ mergeA acc ps, plc p
  | [], acc, h1, h2, _ => ⟨h1, h2⟩
  | q :: ps, acc, h1, h2, h3 => by
    show ((mergeA (putA acc q.1 q.2) ps).map (·.1)).Nodup ∧ _
    refine merge_ok ps (putA_nd h1 _ _) (putA_all h2 fun _ => ?_) fun p hp => h3 p (by simp [hp])
    obtain ⟨k, r, e⟩ := h3 q (by simp)
    exact ⟨k, r, e⟩
/-- the marks of a program's parts -/
structure DOk (D : List (AK × AV)) : Prop where
  nd : (D.map (·.1)).Nodup
  ok : ∀ p ∈ D, plc p
theorem dict_ok {Q : List (AK × AV)} (h : QOk Q) : ∃ ps, prsA (mkP Q) = some ps ∧ DOk (mergeA [] ps) := by
  obtain ⟨ps, e, hp⟩ := mkP_prs h.1 h.2.2
  obtain ⟨h1, h2⟩ := merge_ok ps (acc := []) (by simp) (by simp) hp
  exact ⟨ps, e, h1, h2⟩
theorem plc_sh {p : AK × AV} (h : plc p) : shA p.2 = true ∧ eqA p.2 p.2 = true ∧ flatT p.2 = true := by
  obtain ⟨k, r, e, hk⟩ := h
  rw [e]
  have hd : depthA (keyV k) = 0 := by cases k <;> rfl
  refine ⟨?_, ?_, by cases k <;> rfl⟩
  · unfold shA
    rw [Bool.and_eq_true]
    refine ⟨?_, decide_eq_true (by simp [depthA, depthAs, hd])⟩
    rw [okA, okAs, hk]; rfl
  · cases k <;> simp [keyV, eqA, eqAs]
theorem hits_self {D : List (AK × AV)} : ∀ {l : List (AK × AV)}, (∀ p ∈ l, lookK D p.1 = some p.2 ∧ plc p) → hitsA D l = some true
  | [], _ => rfl
  | (k, v) :: l, h => by
    have h1 := h (k, v) (by simp)
    obtain ⟨s1, s2, _⟩ := plc_sh h1.2
    have lk : lookK D k = some v := h1.1
    have s1 : shA v = true := s1
    have s2 : eqA v v = true := s2
    rw [hitsA, lk]
    simp only [s1, s2, Bool.and_self, if_true]
    rw [hits_self fun p hp => h p (by simp [hp])]; rfl
theorem DOk.hits {D : List (AK × AV)} (h : DOk D) : hitsA D D = some true := hits_self fun p hp => ⟨look_nd h.nd p hp, h.ok p hp⟩
end Law
namespace Law
open PySem L2 G
set_option autoImplicit false
@[simp] theorem o_slF {ah : AH} {l : List AV} {lo hi : Option Int} : slO ah (.fl l) lo hi = some (.lst (cutA l lo hi)) := rfl
theorem cut_mem {l : List AV} {lo hi : Option Int} {x : AV} (h : x ∈ cutA l lo hi) : x ∈ l := by
  unfold cutA at h
  exact List.mem_of_mem_drop (List.mem_of_mem_take h)
theorem cut_len {l : List AV} {lo hi : Option Int} : (cutA l lo hi).length ≤ l.length := by
  unfold cutA
  rw [List.length_take, List.length_drop]; omega
theorem o_dcR {ah : AH} {f : Nat} {l : List AV} {ps : List (AK × AV)} (h : ah[f]? = some (.lst l)) (e : prsA l = some ps) : dcR [.ref f] ah = .ok (mergeA [] ps) ah := by
  show (match dr ah (.ref f) with | .lst l => lift1 ((prsA l).map fun ps => mergeA [] ps) ah | _ => .bad) = _
  rw [dr_ref h]
  show lift1 ((prsA l).map fun ps => mergeA [] ps) ah = _
  rw [e]; rfl
theorem o_eqDR {ah : AH} {f : Nat} {D : List (AK × AV)} (h : ah[f]? = some (.dk D)) (hD : DOk D) : eqDO ah (.ref f) (.dk D) = some (.bl true) := by
  show (match dr ah (.ref f), dr ah (.dk D) with | .dk l, .dk l' => (hitsA l' l).map fun b => AV.bl (l.length == l'.length && b) | _, _ => none) = _
  rw [dr_ref h]
  show (hitsA D D).map (fun b => AV.bl (D.length == D.length && b)) = _
  rw [hD.hits]; simp
theorem mkP_len : ∀ {Q : List (AK × AV)}, (∀ p ∈ Q, PartK p.2) → (mkP Q).length ≤ 60 * Q.length
  | [], _ => by simp [mkP]
  | (k, v) :: Q, h => by
    have ih := mkP_len (Q := Q) fun q hq => h q (by simp [hq])
    have hv := h (k, v) (by simp)
    cases hv with
    | mk a b R h1 h2 hR h3 =>
      have := mkR_len (keyV k) 0 R
      show (mkR (keyV k) 0 R ++ mkP Q).length ≤ _
      rw [List.length_append, List.length_cons]; omega
theorem prsA_len : ∀ {l : List AV} {ps : List (AK × AV)}, prsA l = some ps → ps.length = l.length
  | [], _, h => by cases h; rfl
  | v :: l, ps, h => by
    have h : (match prA v, prsA l with | some p, some ps => some (p :: ps) | _, _ => none) = some ps := h
    split at h
    · rename_i p qs h1 h2
      cases h
      rw [List.length_cons, List.length_cons, prsA_len h2]
    · cases h
theorem mergeA_len : ∀ (ps acc : List (AK × AV)), (mergeA acc ps).length ≤ acc.length + ps.length
  | [], acc => by simp [mergeA]
  | q :: ps, acc => by
    have h1 := mergeA_len ps (putA acc q.1 q.2)
    have h2 := putA_len acc q.1 q.2
    show (mergeA (putA acc q.1 q.2) ps).length ≤ _
    rw [List.length_cons]; omega
section
variable {ah : AH} {P : AV → AH → Prop} {E : ErrP}
theorem w_cell {ns : List Int} (hn : ns.length ≤ 63) (h : ∀ i, P (.int i) ah) : wx E (den__law_cell [.fl (ns.map .int), .int 6] ah) P := by
  refine w_fun rfl ?_
  unfold body__law_cell
  simp
  have hl := cut_len (l := ns.map AV.int) (lo := some 6) (hi := some 7)
  rw [List.length_map] at hl
  refine ⟨by omega, ?_⟩
  refine wp_at (by omega) (by simp) fun v hv => ?_
  rcases List.mem_append.mp hv with hv | hv
  · obtain ⟨i, _, rfl⟩ := List.mem_map.mp (cut_mem hv)
    exact h i
  · simp at hv
    subst hv
    exact h 0
theorem w_pot {c : Int} (h : ∀ a b : Int, P (.ref ah.length) (ah ++ [.lst [.int a, .int b, .int 0]])) : wx E (den__law_pot [.int c] ah) P := by
  refine w_fun rfl ?_
  unfold body__law_pot
  simp
  exact ⟨.inr (by split <;> omega), h _ _⟩
theorem w_marksof {Kd Bd : AV} {Q : List (AK × AV)} (hQ : QOk Q) (hl : Q.length ≤ 30) {ps : List (AK × AV)} (e : prsA (mkP Q) = some ps) (h : ∀ f ah', ah'[f]? = some (.dk (mergeA [] ps)) → P (.ref f) ah') : wx E (den_marks_of [.tup [Kd, Bd, .dk Q]] ah) P := by
  refine w_fun rfl ?_
  unfold body_marks_of
  simp [at2]
  refine w_places hQ hl fun f ah1 g fx hf => ?_
  rw [o_dcR g e]
  simp
  exact h _ _ (by simp)
theorem w_law (ns : List Int) (hn : ns.length ≤ 63) (h : ∀ ah, P (.bl true) ah) : wp (den_law [.fl (ns.map .int)] ah) P := by
  refine w_fun rfl ?_
  unfold body_law
  simp
  refine w_cell hn fun c0 => ?_
  have hl := cut_len (l := ns.map AV.int) (lo := none) (hi := some 6)
  rw [List.length_map] at hl
  simp
  refine ⟨by omega, s_forL rfl (I := fun env ah => ∃ K B Q a b c d e, env = [some (.fl (ns.map .int)), some (.tup [.dk K, .dk B, .dk Q]), a, b, c, d, e] ∧ QOk Q ∧ Q.length ≤ 30) _ _ _ ⟨[], [], [], _, _, _, _, _, rfl, ⟨by simp, by simp, by simp⟩, by simp⟩ (fun v hv env ah hI => ?_) (fun _ _ _ => h _)⟩
  obtain ⟨c, rfl⟩ : ∃ c : Int, v = .int c := by
    rcases List.mem_cons.mp hv with rfl | hv
    · exact ⟨_, rfl⟩
    · obtain ⟨i, _, rfl⟩ := List.mem_map.mp (cut_mem hv)
      exact ⟨i, rfl⟩
  obtain ⟨K0, B0, Q0, a, b, c', d, e, rfl, hQ0, hl0⟩ := hI
  refine ⟨_, rfl, ?_⟩
  simp
  refine w_pot fun p q => ?_
  refine w_prog (n := ah.length) ⟨0, p, q, by simp⟩ fun K B Q ah1 hQ hlQ => ?_
  obtain ⟨ps, ep, hD⟩ := dict_ok hQ
  obtain ⟨ps0, ep0, hD0⟩ := dict_ok hQ0
  refine w_marksof hQ hlQ ep fun f ah2 g2 => ?_
  simp [at2]
  refine w_lplaces hQ hlQ fun f3 ah3 g3 fx3 hf3 => ?_
  rw [o_dcR g3 ep]
  have g4 : ah3[f]? = some (.dk (mergeA [] ps)) := by
    have := (List.getElem?_eq_some_iff.mp g2).1
    rw [fx3.2 _ this (by omega)]; exact g2
  have ei : isiA ah3 (.ref f) .dict = some true := by
    unfold isiA
    rw [dr_ref g4]; rfl
  have dl : (mergeA [] ps).length ≤ 2000 := by
    have h1 := mergeA_len ps []
    have h2 := prsA_len ep
    have h3 := mkP_len hQ.1
    simp at h1; omega
  simp [ei]
  rw [o_eqDR g4 hD]
  simp
  refine w_lkD rfl g4 (List.all_eq_true.mpr fun p hp => (plc_sh (hD.ok p hp)).2.2) ?_
  simp
  refine ⟨by omega, w_lcX rfl (f := fun _ => true) (g := fun _ => AV.bl true) _ _ _ (fun w hw => ⟨_, rfl, ?_⟩) ?_⟩
  · obtain ⟨x, hx, rfl⟩ := List.mem_map.mp hw
    obtain ⟨k, r, e, _⟩ := hD.ok x hx
    rw [e]
    simp [wipeE, isiA, at1]
  · refine ⟨rfl, fun x hx => ?_, ?_⟩
    · obtain ⟨_, _, rfl⟩ := List.mem_map.mp hx
      rfl
    · refine wp_eq (bls_map _ (fun _ => true)) ?_
      rw [if_neg (by simp)]
      simp [clrA, g4]
      refine w_marksof hQ0 hl0 ep0 fun f5 ah5 g5 => ?_
      refine w_lplaces hQ0 hl0 fun f6 ah6 g6 fx6 hf6 => ?_
      rw [o_dcR g6 ep0]
      have g7 : ah6[f5]? = some (.dk (mergeA [] ps0)) := by
        have := (List.getElem?_eq_some_iff.mp g5).1
        rw [fx6.2 _ this (by omega)]; exact g5
      simp
      rw [o_eqDR g7 hD0]
      simp
      refine w_marksof hQ hlQ ep fun f8 ah8 g8 => ?_
      rw [o_eqDR g8 hD]
      simp
      exact ⟨K, B, Q, ⟨rfl, rfl, rfl⟩, hQ, hlQ⟩
end
theorem law_true (ns : List Int) (hn : ns.length ≤ 63) : ∃ ah, den_law [.fl (ns.map G.AV.int)] [] = .ok (.bl true) ah := by
  obtain ⟨v, ah, e, q⟩ := wp_get (w_law (P := fun v _ => v = .bl true) (ah := []) ns hn fun _ => rfl)
  exact ⟨ah, by rw [e, q]⟩
end Law
namespace Law
open PySem L2 G
set_option autoImplicit false
def top (i : Nat) : Stmt := PySem.Challenge.pw_changewhile_k27_marks_of.main.body.getD i (.Pass ⟨0, 0, 0, 0⟩)
abbrev s_mark_places : Stmt := top 1
abbrev s_marks_of : Stmt := top 2
abbrev s__law_cell : Stmt := top 4
abbrev s__law_pot : Stmt := top 5
abbrev s__law_take : Stmt := top 6
abbrev s__law_name : Stmt := top 7
abbrev s__law_kind : Stmt := top 8
abbrev s__law_leaf : Stmt := top 9
abbrev s__law_term : Stmt := top 10
abbrev s__law_some : Stmt := top 11
abbrev s__law_names : Stmt := top 12
abbrev s__law_value : Stmt := top 13
abbrev s__law_row : Stmt := top 14
abbrev s__law_part : Stmt := top 15
abbrev s__law_program : Stmt := top 16
abbrev s__law_marks : Stmt := top 17
abbrev s_law : Stmt := top 18
structure Txt (K : PySem.W.Frag) (w : World) (mg : Str → Option Value) : Prop where
  b_all : mg "all" = none
  b_bool : mg "bool" = none
  b_dict : mg "dict" = none
  b_enumerate : mg "enumerate" = none
  b_int : mg "int" = none
  b_isinstance : mg "isinstance" = none
  b_len : mg "len" = none
  b_range : mg "range" = none
  b_set : mg "set" = none
  b_sorted : mg "sorted" = none
  b_tuple : mg "tuple" = none
section
variable {P : Program} {w : World} {K : PySem.W.Frag} {mg : Str → Option Value} {base : Heap}
abbrev N_mark_places : List Str := ["parts", "found", "name", "part", "r", "row"]
theorem sc_mark_places : FnScope N_mark_places ["parts"] (defScope s_mark_places) := ⟨rfl, rfl, rfl, by decide +kernel, rfl, by decide +kernel, by decide +kernel⟩
theorem ok_mark_places {f : Addr} {fd : FuncData} (T : Txt K w mg) (F : Fun K "mark_places" "mark_places" s_mark_places f fd)  : FnG P w K mg base 1 f fd ["parts"] den_mark_places :=
  fnG_of (N := N_mark_places) F sc_mark_places fun cdv A outer s H E W hx =>
    (gs_cons (gs_set (i := 1) sc_mark_places.nd rfl (.inl rfl) (ge_lstH (ga_nil))) (gs_cons (gs_for hx (gi_items (ge_var 0)) (gg_tup rfl (gg_cons (gg_name (i := 2) sc_mark_places.nd rfl (by first | exact Or.inl rfl | exact Or.inr rfl)) (gg_cons (gg_name (i := 3) sc_mark_places.nd rfl (by first | exact Or.inl rfl | exact Or.inr rfl)) (gg_nil (is := []))))) (gs_one (gs_for hx (gi_enum rfl T.b_enumerate (ga_cons (ge_ix (ge_var 3) (ge_int)) (ga_nil))) (gg_tup rfl (gg_cons (gg_name (i := 4) sc_mark_places.nd rfl (by first | exact Or.inl rfl | exact Or.inr rfl)) (gg_cons (gg_name (i := 5) sc_mark_places.nd rfl (by first | exact Or.inl rfl | exact Or.inr rfl)) (gg_nil (is := []))))) (gs_one (gs_if (gt_cm (eq_g hx.u64) (ge_ix (ge_var 5) (ge_int)) (ge_str [109, 97, 114, 107])) (gs_one (gs_drop (ge_app (ge_var 1) (ge_tup (ga_cons (ge_ix (ge_var 5) (ge_int)) (ga_cons (ge_tup (ga_cons (ge_var 2) (ga_cons (ge_var 4) (ga_nil)))) (ga_nil))))))) (gs_nil)))))) (gs_one (gs_ret (ge_var 1)))))
abbrev N_marks_of : List Str := ["program"]
theorem sc_marks_of : FnScope N_marks_of ["program"] (defScope s_marks_of) := ⟨rfl, rfl, rfl, by decide +kernel, rfl, by decide +kernel, by decide +kernel⟩
theorem ok_marks_of {f : Addr} {fd : FuncData} (T : Txt K w mg) (F : Fun K "marks_of" "marks_of" s_marks_of f fd) (h_mark_places : FnD P w K mg base "mark_places" 1 den_mark_places) : FnG P w K mg base 2 f fd ["program"] den_marks_of :=
  fnG_of (N := N_marks_of) F sc_marks_of fun cdv A outer s H E W hx =>
    (gs_one (gs_ret (ge_dictOfH hx.calm rfl T.b_dict (ga_cons (ge_call h_mark_places hx rfl (ga_cons (ge_ix (ge_var 0) (ge_int)) (ga_nil))) (ga_nil)))))
abbrev N__law_cell : List Str := ["_law_script", "_law_at"]
theorem sc__law_cell : FnScope N__law_cell ["_law_script", "_law_at"] (defScope s__law_cell) := ⟨rfl, rfl, rfl, by decide +kernel, rfl, by decide +kernel, by decide +kernel⟩
theorem ok__law_cell {f : Addr} {fd : FuncData} (T : Txt K w mg) (F : Fun K "_law_cell" "_law_cell" s__law_cell f fd)  : FnG P w K mg base 1 f fd ["_law_script", "_law_at"] den__law_cell :=
  fnG_of (N := N__law_cell) F sc__law_cell fun cdv A outer s H E W hx =>
    (gs_one (gs_ret (ge_ix (ge_bin add_g (ge_slice (ge_var 0) (go_some (ge_var 1)) (go_some (ge_bin add_g (ge_var 1) (ge_int)))) (ge_lst (ga_cons (ge_int) (ga_nil)))) (ge_int))))
abbrev N__law_pot : List Str := ["_law_cell_here"]
theorem sc__law_pot : FnScope N__law_pot ["_law_cell_here"] (defScope s__law_pot) := ⟨rfl, rfl, rfl, by decide +kernel, rfl, by decide +kernel, by decide +kernel⟩
theorem ok__law_pot {f : Addr} {fd : FuncData} (T : Txt K w mg) (F : Fun K "_law_pot" "_law_pot" s__law_pot f fd)  : FnG P w K mg base 1 f fd ["_law_cell_here"] den__law_pot :=
  fnG_of (N := N__law_pot) F sc__law_pot fun cdv A outer s H E W hx =>
    (gs_one (gs_ret (ge_lstH (ga_cons (ge_bin mul_g (ge_var 0) (ge_ti int_g rfl T.b_int (by decide +kernel) (ga_cons (ge_cm ge_g (ge_var 0) (ge_bin pow_g (ge_int) (ge_int))) (ga_nil)))) (ga_cons (ge_bin mod_g (ge_bin add_g (ge_bin mul_g (ge_var 0) (ge_int)) (ge_int)) (ge_int)) (ga_cons (ge_int) (ga_nil)))))))
abbrev N__law_take : List Str := ["_law_pot_here", "_law_many", "_law_digit"]
theorem sc__law_take : FnScope N__law_take ["_law_pot_here", "_law_many"] (defScope s__law_take) := ⟨rfl, rfl, rfl, by decide +kernel, rfl, by decide +kernel, by decide +kernel⟩
theorem ok__law_take {f : Addr} {fd : FuncData} (T : Txt K w mg) (F : Fun K "_law_take" "_law_take" s__law_take f fd)  : FnG P w K mg base 1 f fd ["_law_pot_here", "_law_many"] den__law_take :=
  fnG_of (N := N__law_take) F sc__law_take fun cdv A outer s H E W hx =>
    (gs_cons (gs_if (gt_cm gt_g (ge_ix (ge_var 0) (ge_int)) (ge_int)) (gs_cons (gs_set (i := 2) sc__law_take.nd rfl (.inl rfl) (ge_bin mod_g (ge_ix (ge_var 0) (ge_int)) (ge_var 1))) (gs_cons (gs_store hx.room (ge_bin fdiv_g (ge_ix (ge_var 0) (ge_int)) (ge_var 1)) (ge_var 0) (ge_int)) (gs_one (gs_ret (ge_var 2))))) (gs_nil)) (gs_cons (gs_store hx.room (ge_bin mod_g (ge_bin add_g (ge_bin mul_g (ge_ix (ge_var 0) (ge_int)) (ge_int)) (ge_int)) (ge_int)) (ge_var 0) (ge_int)) (gs_one (gs_ret (ge_bin mod_g (ge_bin fdiv_g (ge_bin mod_g (ge_bin mul_g (ge_ix (ge_var 0) (ge_int)) (ge_ix (ge_var 0) (ge_int))) (ge_int)) (ge_int)) (ge_var 1))))))
abbrev N__law_name : List Str := ["_law_pot_here", "_law_way", "_law_words", "_law_name_here", "_law_k"]
theorem sc__law_name : FnScope N__law_name ["_law_pot_here"] (defScope s__law_name) := ⟨rfl, rfl, rfl, by decide +kernel, rfl, by decide +kernel, by decide +kernel⟩
theorem ok__law_name {f : Addr} {fd : FuncData} (T : Txt K w mg) (F : Fun K "_law_name" "_law_name" s__law_name f fd) (h__law_take : FnD P w K mg base "_law_take" 1 den__law_take) : FnG P w K mg base 2 f fd ["_law_pot_here"] den__law_name :=
  fnG_of (N := N__law_name) F sc__law_name fun cdv A outer s H E W hx =>
    (gs_cons (gs_set (i := 1) sc__law_name.nd rfl (.inl rfl) (ge_call h__law_take hx rfl (ga_cons (ge_var 0) (ga_cons (ge_int) (ga_nil))))) (gs_cons (gs_if (gt_cm (eq_g hx.u64) (ge_var 1) (ge_int)) (gs_cons (gs_set (i := 2) sc__law_name.nd rfl (.inl rfl) (ge_lst (ga_cons (ge_str [108, 101, 116]) (ga_cons (ge_str [103, 111]) (ga_cons (ge_str [112, 97, 114, 116]) (ga_cons (ge_str [107, 105, 110, 100]) (ga_cons (ge_str [98, 111, 120]) (ga_cons (ge_str [111, 117, 116]) (ga_cons (ge_str [97, 116]) (ga_cons (ge_str [97, 100, 100]) (ga_cons (ge_str [101, 109, 112, 116, 121]) (ga_cons (ge_str [108, 105, 115, 116]) (ga_cons (ge_str [108, 101, 97, 100]) (ga_cons (ge_str [110, 101, 119]) (ga_cons (ge_str [99, 97, 108, 108]) (ga_cons (ge_str [112, 117, 116]) (ga_nil))))))))))))))))) (gs_cons (gs_set (i := 2) sc__law_name.nd rfl (.inl rfl) (ge_bin add_g (ge_var 2) (ge_lst (ga_cons (ge_str [115, 101, 116]) (ga_cons (ge_str [116, 101, 108, 108]) (ga_cons (ge_str [109, 97, 114, 107]) (ga_cons (ge_str [117, 110, 108, 101, 115, 115]) (ga_cons (ge_str [98, 97, 99, 107]) (ga_cons (ge_str [109, 97, 110, 121]) (ga_cons (ge_str [102, 105, 101, 108, 100]) (ga_cons (ge_str [112, 105, 99, 107]) (ga_cons (ge_str [110, 111, 116]) (ga_cons (ge_str [115, 97, 109, 101]) (ga_cons (ge_str [106, 111, 105, 110]) (ga_nil))))))))))))))) (gs_one (gs_ret (ge_ix (ge_var 2) (ge_call h__law_take hx rfl (ga_cons (ge_var 0) (ga_cons (ge_int) (ga_nil))))))))) (gs_nil)) (gs_cons (gs_if (gt_cm (eq_g hx.u64) (ge_var 1) (ge_int)) (gs_one (gs_ret (ge_ix (ge_str [120, 121, 122, 97, 98]) (ge_call h__law_take hx rfl (ga_cons (ge_var 0) (ga_cons (ge_int) (ga_nil))))))) (gs_nil)) (gs_cons (gs_set (i := 3) sc__law_name.nd rfl (.inl rfl) (ge_str [])) (gs_cons (gs_for hx (gi_r1 rfl T.b_range (ga_cons (ge_bin add_g (ge_int) (ge_call h__law_take hx rfl (ga_cons (ge_var 0) (ga_cons (ge_int) (ga_nil))))) (ga_nil))) (gg_name (i := 4) sc__law_name.nd rfl (by first | exact Or.inl rfl | exact Or.inr rfl)) (gs_one (gs_set (i := 3) sc__law_name.nd rfl (.inl rfl) (ge_bin add_g (ge_var 3) (ge_ix (ge_str [97, 98, 99, 100, 101, 102, 103, 104, 105, 106, 107, 108, 109, 110, 111, 112, 113, 114, 115, 116, 117, 118, 119, 120, 121, 122]) (ge_call h__law_take hx rfl (ga_cons (ge_var 0) (ga_cons (ge_int) (ga_nil))))))))) (gs_one (gs_ret (ge_ix (ge_lst (ga_cons (ge_var 3) (ga_cons (ge_str [120]) (ga_nil)))) (ge_ti int_g rfl T.b_int (by decide +kernel) (ga_cons (ge_cm (in_g hx.u65) (ge_var 3) (ge_lst (ga_cons (ge_str [110, 111]) (ga_cons (ge_str [121, 101, 115]) (ga_cons (ge_str [110, 117, 109, 98, 101, 114]) (ga_cons (ge_str [116, 114, 117, 116, 104]) (ga_nil))))))) (ga_nil)))))))))))
abbrev N__law_kind : List Str := ["_law_pot_here", "_law_deep", "_law_way"]
theorem sc__law_kind : FnScope N__law_kind ["_law_pot_here", "_law_deep"] (defScope s__law_kind) := ⟨rfl, rfl, rfl, by decide +kernel, rfl, by decide +kernel, by decide +kernel⟩
theorem ok__law_kind {f : Addr} {fd : FuncData} {j : Nat} {den__law_kind_ : Den} (T : Txt K w mg) (F : Fun K "_law_kind" "_law_kind" s__law_kind f fd) (h__law_kind : FnD P w K mg base "_law_kind" j den__law_kind_) (h__law_name : FnD P w K mg base "_law_name" j den__law_name) (h__law_take : FnD P w K mg base "_law_take" j den__law_take) : FnG P w K mg base (j + 1) f fd ["_law_pot_here", "_law_deep"] (gFun 2 3 (bodyR__law_kind den__law_kind_)) :=
  fnG_of (N := N__law_kind) F sc__law_kind fun cdv A outer s H E W hx =>
    (gs_cons (gs_set (i := 2) sc__law_kind.nd rfl (.inl rfl) (ge_call h__law_take hx rfl (ga_cons (ge_var 0) (ga_cons (ge_int) (ga_nil))))) (gs_cons (gs_if (PW.pt (gt_and (gt_cm gt_g (ge_var 2) (ge_int)) (gt_and1 (gt_cm gt_g (ge_var 1) (ge_int))))) (gs_one (gs_ret (ge_tup (ga_cons (ge_str [108, 105, 115, 116]) (ga_cons (ge_call h__law_kind hx rfl (ga_cons (ge_var 0) (ga_cons (ge_bin sub_g (ge_var 1) (ge_int)) (ga_nil)))) (ga_nil)))))) (gs_nil)) (gs_one (gs_ret (ge_ix (ge_lst (ga_cons (ge_tup (ga_cons (ge_str [110, 117, 109, 98, 101, 114]) (ga_nil))) (ga_cons (ge_tup (ga_cons (ge_str [116, 114, 117, 116, 104]) (ga_nil))) (ga_cons (ge_tup (ga_cons (ge_str [114, 101, 99, 111, 114, 100]) (ga_cons (ge_call h__law_name hx rfl (ga_cons (ge_var 0) (ga_nil))) (ga_nil)))) (ga_nil))))) (ge_bin mod_g (ge_var 2) (ge_int)))))))
abbrev N__law_leaf : List Str := ["_law_pot_here", "_law_way"]
theorem sc__law_leaf : FnScope N__law_leaf ["_law_pot_here"] (defScope s__law_leaf) := ⟨rfl, rfl, rfl, by decide +kernel, rfl, by decide +kernel, by decide +kernel⟩
theorem ok__law_leaf {f : Addr} {fd : FuncData} (T : Txt K w mg) (F : Fun K "_law_leaf" "_law_leaf" s__law_leaf f fd) (h__law_kind : FnD P w K mg base "_law_kind" 42 (den__law_kind 40)) (h__law_name : FnD P w K mg base "_law_name" 42 den__law_name) (h__law_take : FnD P w K mg base "_law_take" 42 den__law_take) : FnG P w K mg base 43 f fd ["_law_pot_here"] den__law_leaf :=
  fnG_of (N := N__law_leaf) F sc__law_leaf fun cdv A outer s H E W hx =>
    (gs_cons (gs_set (i := 1) sc__law_leaf.nd rfl (.inl rfl) (ge_call h__law_take hx rfl (ga_cons (ge_var 0) (ga_cons (ge_int) (ga_nil))))) (gs_cons (gs_if (gt_cm (eq_g hx.u64) (ge_var 1) (ge_int)) (gs_one (gs_ret (ge_tup (ga_cons (ge_str [110, 117, 109, 98, 101, 114]) (ga_cons (ge_ix (ge_lst (ga_cons (ge_call h__law_take hx rfl (ga_cons (ge_var 0) (ga_cons (ge_int) (ga_nil)))) (ga_cons (ge_call h__law_take hx rfl (ga_cons (ge_var 0) (ga_cons (ge_bin pow_g (ge_int) (ge_int)) (ga_nil)))) (ga_cons (ge_bin sub_g (ge_bin pow_g (ge_int) (ge_int)) (ge_int)) (ga_nil))))) (ge_call h__law_take hx rfl (ga_cons (ge_var 0) (ga_cons (ge_int) (ga_nil))))) (ga_nil)))))) (gs_nil)) (gs_cons (gs_if (gt_cm (eq_g hx.u64) (ge_var 1) (ge_int)) (gs_one (gs_ret (ge_tup (ga_cons (ge_str [116, 114, 117, 116, 104]) (ga_cons (ge_cm (eq_g hx.u64) (ge_call h__law_take hx rfl (ga_cons (ge_var 0) (ga_cons (ge_int) (ga_nil)))) (ge_int)) (ga_nil)))))) (gs_nil)) (gs_cons (gs_if (gt_cm (eq_g hx.u64) (ge_var 1) (ge_int)) (gs_one (gs_ret (ge_tup (ga_cons (ge_str [101, 109, 112, 116, 121]) (ga_cons (ge_call h__law_kind hx rfl (ga_cons (ge_var 0) (ga_cons (ge_int) (ga_nil)))) (ga_nil)))))) (gs_nil)) (gs_one (gs_ret (ge_tup (ga_cons (ge_ix (ge_ix (ge_lst (ga_cons (ge_tup (ga_cons (ge_str [98, 111, 120]) (ga_nil))) (ga_cons (ge_tup (ga_cons (ge_str [110, 97, 109, 101]) (ga_nil))) (ga_nil)))) (ge_bin mod_g (ge_var 1) (ge_int))) (ge_int)) (ga_cons (ge_call h__law_name hx rfl (ga_cons (ge_var 0) (ga_nil))) (ga_nil))))))))))
abbrev N__law_term : List Str := ["_law_pot_here", "_law_deep", "_law_way", "_law_words", "_law_word", "_law_wide", "_law_parts", "_law_k"]
theorem sc__law_term : FnScope N__law_term ["_law_pot_here", "_law_deep"] (defScope s__law_term) := ⟨rfl, rfl, rfl, by decide +kernel, rfl, by decide +kernel, by decide +kernel⟩
theorem ok__law_term {f : Addr} {fd : FuncData} {j : Nat} {den__law_term_ : Den} (T : Txt K w mg) (F : Fun K "_law_term" "_law_term" s__law_term f fd) (h__law_leaf : FnD P w K mg base "_law_leaf" j den__law_leaf) (h__law_name : FnD P w K mg base "_law_name" j den__law_name) (h__law_take : FnD P w K mg base "_law_take" j den__law_take) (h__law_term : FnD P w K mg base "_law_term" j den__law_term_) : FnG P w K mg base (j + 1) f fd ["_law_pot_here", "_law_deep"] (gFun 2 8 (bodyR__law_term den__law_term_)) :=
  fnG_of (N := N__law_term) F sc__law_term fun cdv A outer s H E W hx =>
    (gs_cons (gs_set (i := 2) sc__law_term.nd rfl (.inl rfl) (ge_call h__law_take hx rfl (ga_cons (ge_var 0) (ga_cons (ge_int) (ga_nil))))) (gs_cons (gs_if (PW.pt (gt_or (gt_cm lt_g (ge_var 2) (ge_int)) (gt_or (gt_cm (eq_g hx.u64) (ge_var 1) (ge_int)) (gt_or1 (gt_cm lt_g (ge_ix (ge_var 0) (ge_int)) (ge_int)))))) (gs_one (gs_ret (ge_call h__law_leaf hx rfl (ga_cons (ge_var 0) (ga_nil))))) (gs_nil)) (gs_cons (gs_set (i := 3) sc__law_term.nd rfl (.inl rfl) (ge_lst (ga_cons (ge_str [97, 100, 100]) (ga_cons (ge_str [108, 101, 115, 115]) (ga_cons (ge_str [116, 105, 109, 101, 115]) (ga_cons (ge_str [117, 110, 100, 101, 114]) (ga_cons (ge_str [115, 97, 109, 101]) (ga_cons (ge_str [98, 111, 116, 104]) (ga_cons (ge_str [106, 111, 105, 110]) (ga_cons (ge_str [110, 111, 116]) (ga_cons (ge_str [109, 97, 110, 121]) (ga_cons (ge_str [112, 105, 99, 107]) (ga_cons (ge_str [97, 116]) (ga_cons (ge_str [102, 105, 101, 108, 100]) (ga_cons (ge_str [108, 105, 115, 116]) (ga_nil)))))))))))))))) (gs_cons (gs_set (i := 4) sc__law_term.nd rfl (.inl rfl) (ge_ix (ge_bin add_g (ge_var 3) (ge_lst (ga_cons (ge_str [112, 105, 99, 107]) (ga_cons (ge_str [97, 116]) (ga_cons (ge_str [102, 105, 101, 108, 100]) (ga_nil)))))) (ge_bin sub_g (ge_var 2) (ge_int)))) (gs_cons (gs_set (i := 5) sc__law_term.nd rfl (.inl rfl) (ge_get2 (ge_disp (gpp_cons (ge_str [110, 111, 116]) (ge_int) (gpp_cons (ge_str [109, 97, 110, 121]) (ge_int) (gpp_cons (ge_str [102, 105, 101, 108, 100]) (ge_int) (gpp_cons (ge_str [112, 105, 99, 107]) (ge_int) (gpp_cons (ge_str [97, 116]) (ge_int) (gpp_nil)))))) rfl rfl (by simp) (by decide) (by decide)) (ge_var 4) (ge_int))) (gs_cons (gs_if (gt_cm (eq_g hx.u64) (ge_var 4) (ge_str [108, 105, 115, 116])) (gs_one (gs_set (i := 5) sc__law_term.nd rfl (.inl rfl) (ge_bin add_g (ge_int) (ge_call h__law_take hx rfl (ga_cons (ge_var 0) (ga_cons (ge_int) (ga_nil))))))) (gs_nil)) (gs_cons (gs_store hx.room (ge_bin sub_g (ge_ix (ge_var 0) (ge_int)) (ge_var 5)) (ge_var 0) (ge_int)) (gs_cons (gs_setLcH (i := 6) (own := [("_law_k", 7)]) rfl sc__law_term.nd rfl rfl (sw_true rfl rfl rfl (by decide +kernel)) (gi_r1 rfl T.b_range (ga_cons (ge_var 5) (ga_nil))) (blkOk_by (N := N__law_term) (sc := defScope s__law_term) (by decide +kernel)) (by decide) (fun _ _ _ _ _ => gg_name (i := 7) sc__law_term.nd rfl (by first | exact Or.inl rfl | exact Or.inr rfl)) (fun _ _ _ _ _ => gt_yes) (fun _ _ _ _ _ => ge_call h__law_term (XG.blk hx) rfl (ga_cons (ge_var 0) (ga_cons (ge_bin sub_g (ge_var 1) (ge_int)) (ga_nil))))) (gs_cons (gs_if (gt_cm (eq_g hx.u64) (ge_var 4) (ge_str [102, 105, 101, 108, 100])) (gs_one (gs_drop (ge_app (ge_var 6) (ge_call h__law_name hx rfl (ga_cons (ge_var 0) (ga_nil)))))) (gs_nil)) (gs_one (gs_ret (ge_bin add_g (ge_tup (ga_cons (ge_var 4) (ga_nil))) (ge_ti tup_g rfl T.b_tuple (by decide +kernel) (ga_cons (ge_var 6) (ga_nil)))))))))))))))
abbrev N__law_some : List Str := ["_law_pot_here", "_law_left"]
theorem sc__law_some : FnScope N__law_some ["_law_pot_here", "_law_left"] (defScope s__law_some) := ⟨rfl, rfl, rfl, by decide +kernel, rfl, by decide +kernel, by decide +kernel⟩
theorem ok__law_some {f : Addr} {fd : FuncData} (T : Txt K w mg) (F : Fun K "_law_some" "_law_some" s__law_some f fd) (h__law_term : FnD P w K mg base "_law_term" 83 (den__law_term 40)) : FnG P w K mg base 84 f fd ["_law_pot_here", "_law_left"] den__law_some :=
  fnG_of (N := N__law_some) F sc__law_some fun cdv A outer s H E W hx =>
    (gs_cons (gs_store hx.room (ge_var 1) (ge_var 0) (ge_int)) (gs_one (gs_ret (ge_call h__law_term hx rfl (ga_cons (ge_var 0) (ga_cons (ge_int) (ga_nil)))))))
abbrev N__law_names : List Str := ["_law_pot_here", "_law_most", "_law_k"]
theorem sc__law_names : FnScope N__law_names ["_law_pot_here", "_law_most"] (defScope s__law_names) := ⟨rfl, rfl, rfl, by decide +kernel, rfl, by decide +kernel, by decide +kernel⟩
theorem ok__law_names {f : Addr} {fd : FuncData} (T : Txt K w mg) (F : Fun K "_law_names" "_law_names" s__law_names f fd) (h__law_name : FnD P w K mg base "_law_name" 2 den__law_name) (h__law_take : FnD P w K mg base "_law_take" 2 den__law_take) : FnG P w K mg base 3 f fd ["_law_pot_here", "_law_most"] den__law_names :=
  fnG_of (N := N__law_names) F sc__law_names fun cdv A outer s H E W hx =>
    (gs_one (gs_ret (ge_soS hx rfl T.b_sorted rfl T.b_set (ge_lc (own := [("_law_k", 2)]) rfl sc__law_names.nd (gi_r1 rfl T.b_range (ga_cons (ge_call h__law_take hx rfl (ga_cons (ge_var 0) (ga_cons (ge_bin add_g (ge_var 1) (ge_int)) (ga_nil)))) (ga_nil))) (blkOk_by (N := N__law_names) (sc := defScope s__law_names) (by decide +kernel)) (by decide) (fun _ _ _ _ _ => gg_name (i := 2) sc__law_names.nd rfl (by first | exact Or.inl rfl | exact Or.inr rfl)) (fun _ _ _ _ _ => gt_yes) (fun _ _ _ _ _ => ge_call h__law_name (XG.blk hx) rfl (ga_cons (ge_var 0) (ga_nil)))))))
abbrev N__law_value : List Str := ["_law_pot_here", "_law_deep", "_law_way", "_law_many", "_law_k"]
theorem sc__law_value : FnScope N__law_value ["_law_pot_here", "_law_deep"] (defScope s__law_value) := ⟨rfl, rfl, rfl, by decide +kernel, rfl, by decide +kernel, by decide +kernel⟩
theorem ok__law_value {f : Addr} {fd : FuncData} {j : Nat} {den__law_value_ : Den} (T : Txt K w mg) (F : Fun K "_law_value" "_law_value" s__law_value f fd) (h__law_take : FnD P w K mg base "_law_take" j den__law_take) (h__law_value : FnD P w K mg base "_law_value" j den__law_value_) : FnG P w K mg base (j + 1) f fd ["_law_pot_here", "_law_deep"] (gFun 2 5 (bodyR__law_value den__law_value_)) :=
  fnG_of (N := N__law_value) F sc__law_value fun cdv A outer s H E W hx =>
    (gs_cons (gs_set (i := 2) sc__law_value.nd rfl (.inl rfl) (ge_call h__law_take hx rfl (ga_cons (ge_var 0) (ga_cons (ge_int) (ga_nil))))) (gs_cons (gs_if (PW.pt (gt_and (gt_cm (eq_g hx.u64) (ge_var 2) (ge_int)) (gt_and1 (gt_cm gt_g (ge_var 1) (ge_int))))) (gs_cons (gs_set (i := 3) sc__law_value.nd rfl (.inl rfl) (ge_call h__law_take hx rfl (ga_cons (ge_var 0) (ga_cons (ge_ix (ge_lst (ga_cons (ge_int) (ga_cons (ge_int) (ga_cons (ge_int) (ga_cons (ge_ix (ge_lst (ga_cons (ge_int) (ga_cons (ge_int) (ga_nil)))) (ge_bin fdiv_g (ge_call h__law_take hx rfl (ga_cons (ge_var 0) (ga_cons (ge_int) (ga_nil)))) (ge_int))) (ga_nil)))))) (ge_var 1)) (ga_nil))))) (gs_one (gs_ret (ge_ti tup_g rfl T.b_tuple (by decide +kernel) (ga_cons (ge_lc (own := [("_law_k", 4)]) rfl sc__law_value.nd (gi_r1 rfl T.b_range (ga_cons (ge_var 3) (ga_nil))) (blkOk_by (N := N__law_value) (sc := defScope s__law_value) (by decide +kernel)) (by decide) (fun _ _ _ _ _ => gg_name (i := 4) sc__law_value.nd rfl (by first | exact Or.inl rfl | exact Or.inr rfl)) (fun _ _ _ _ _ => gt_yes) (fun _ _ _ _ _ => ge_call h__law_value (XG.blk hx) rfl (ga_cons (ge_var 0) (ga_cons (ge_bin sub_g (ge_var 1) (ge_int)) (ga_nil))))) (ga_nil)))))) (gs_nil)) (gs_cons (gs_if (gt_cm (eq_g hx.u64) (ge_var 2) (ge_int)) (gs_one (gs_ret (ge_cm (eq_g hx.u64) (ge_call h__law_take hx rfl (ga_cons (ge_var 0) (ga_cons (ge_int) (ga_nil)))) (ge_int)))) (gs_nil)) (gs_one (gs_ret (ge_ix (ge_lst (ga_cons (ge_call h__law_take hx rfl (ga_cons (ge_var 0) (ga_cons (ge_int) (ga_nil)))) (ga_cons (ge_call h__law_take hx rfl (ga_cons (ge_var 0) (ga_cons (ge_bin pow_g (ge_int) (ge_int)) (ga_nil)))) (ga_cons (ge_bin sub_g (ge_bin pow_g (ge_int) (ge_int)) (ge_int)) (ga_nil))))) (ge_call h__law_take hx rfl (ga_cons (ge_var 0) (ga_cons (ge_int) (ga_nil))))))))))
abbrev N__law_row : List Str := ["_law_pot_here", "_law_left", "_law_rows", "_law_word", "_law_fields", "_law_terms", "_law_name_here", "_law_k"]
theorem sc__law_row : FnScope N__law_row ["_law_pot_here", "_law_left", "_law_rows"] (defScope s__law_row) := ⟨rfl, rfl, rfl, by decide +kernel, rfl, by decide +kernel, by decide +kernel⟩
theorem ok__law_row {f : Addr} {fd : FuncData} (T : Txt K w mg) (F : Fun K "_law_row" "_law_row" s__law_row f fd) (h__law_name : FnD P w K mg base "_law_name" 84 den__law_name) (h__law_names : FnD P w K mg base "_law_names" 84 den__law_names) (h__law_some : FnD P w K mg base "_law_some" 84 den__law_some) (h__law_take : FnD P w K mg base "_law_take" 84 den__law_take) : FnG P w K mg base 85 f fd ["_law_pot_here", "_law_left", "_law_rows"] den__law_row :=
  fnG_of (N := N__law_row) F sc__law_row fun cdv A outer s H E W hx =>
    (gs_cons (gs_set (i := 3) sc__law_row.nd rfl (.inl rfl) (ge_ix (ge_lst (ga_cons (ge_str [108, 101, 116]) (ga_cons (ge_str [112, 117, 116]) (ga_cons (ge_str [115, 101, 116]) (ga_cons (ge_str [110, 101, 119]) (ga_cons (ge_str [99, 97, 108, 108]) (ga_cons (ge_str [116, 101, 108, 108]) (ga_cons (ge_str [103, 111]) (ga_cons (ge_str [117, 110, 108, 101, 115, 115]) (ga_cons (ge_str [98, 97, 99, 107]) (ga_nil))))))))))) (ge_call h__law_take hx rfl (ga_cons (ge_var 0) (ga_cons (ge_int) (ga_nil)))))) (gs_cons (gs_if (gt_cm (in_g hx.u65) (ge_var 3) (ge_lst (ga_cons (ge_str [108, 101, 116]) (ga_cons (ge_str [112, 117, 116]) (ga_nil))))) (gs_one (gs_ret (ge_tup (ga_cons (ge_var 3) (ga_cons (ge_call h__law_name hx rfl (ga_cons (ge_var 0) (ga_nil))) (ga_cons (ge_call h__law_some hx rfl (ga_cons (ge_var 0) (ga_cons (ge_var 1) (ga_nil)))) (ga_nil))))))) (gs_nil)) (gs_cons (gs_if (gt_cm (eq_g hx.u64) (ge_var 3) (ge_str [115, 101, 116])) (gs_one (gs_ret (ge_tup (ga_cons (ge_var 3) (ga_cons (ge_call h__law_some hx rfl (ga_cons (ge_var 0) (ga_cons (ge_var 1) (ga_nil)))) (ga_cons (ge_call h__law_name hx rfl (ga_cons (ge_var 0) (ga_nil))) (ga_cons (ge_call h__law_some hx rfl (ga_cons (ge_var 0) (ga_cons (ge_var 1) (ga_nil)))) (ga_nil)))))))) (gs_nil)) (gs_cons (gs_if (gt_cm (eq_g hx.u64) (ge_var 3) (ge_str [110, 101, 119])) (gs_cons (gs_set (i := 4) sc__law_row.nd rfl (.inl rfl) (ge_ti tup_g rfl T.b_tuple (by decide +kernel) (ga_cons (ge_lc (own := [("_law_name_here", 6)]) rfl sc__law_row.nd (gi_any (ge_call h__law_names hx rfl (ga_cons (ge_var 0) (ga_cons (ge_int) (ga_nil))))) (blkOk_by (N := N__law_row) (sc := defScope s__law_row) (by decide +kernel)) (by decide) (fun _ _ _ _ _ => gg_name (i := 6) sc__law_row.nd rfl (by first | exact Or.inl rfl | exact Or.inr rfl)) (fun _ _ _ _ _ => gt_yes) (fun _ _ _ _ _ => ge_tup (ga_cons (ge_var 6) (ga_cons (ge_call h__law_some (XG.blk hx) rfl (ga_cons (ge_var 0) (ga_cons (ge_bin fdiv_g (ge_var 1) (ge_int)) (ga_nil)))) (ga_nil))))) (ga_nil)))) (gs_one (gs_ret (ge_tup (ga_cons (ge_var 3) (ga_cons (ge_call h__law_name hx rfl (ga_cons (ge_var 0) (ga_nil))) (ga_cons (ge_call h__law_name hx rfl (ga_cons (ge_var 0) (ga_nil))) (ga_cons (ge_var 4) (ga_nil))))))))) (gs_nil)) (gs_cons (gs_if (gt_cm (eq_g hx.u64) (ge_var 3) (ge_str [99, 97, 108, 108])) (gs_cons (gs_set (i := 5) sc__law_row.nd rfl (.inl rfl) (ge_ti tup_g rfl T.b_tuple (by decide +kernel) (ga_cons (ge_lc (own := [("_law_k", 7)]) rfl sc__law_row.nd (gi_r1 rfl T.b_range (ga_cons (ge_call h__law_take hx rfl (ga_cons (ge_var 0) (ga_cons (ge_int) (ga_nil)))) (ga_nil))) (blkOk_by (N := N__law_row) (sc := defScope s__law_row) (by decide +kernel)) (by decide) (fun _ _ _ _ _ => gg_name (i := 7) sc__law_row.nd rfl (by first | exact Or.inl rfl | exact Or.inr rfl)) (fun _ _ _ _ _ => gt_yes) (fun _ _ _ _ _ => ge_call h__law_some (XG.blk hx) rfl (ga_cons (ge_var 0) (ga_cons (ge_bin fdiv_g (ge_var 1) (ge_int)) (ga_nil))))) (ga_nil)))) (gs_one (gs_ret (ge_tup (ga_cons (ge_var 3) (ga_cons (ge_call h__law_name hx rfl (ga_cons (ge_var 0) (ga_nil))) (ga_cons (ge_call h__law_name hx rfl (ga_cons (ge_var 0) (ga_nil))) (ga_cons (ge_var 5) (ga_nil))))))))) (gs_nil)) (gs_cons (gs_if (gt_cm (eq_g hx.u64) (ge_var 3) (ge_str [103, 111])) (gs_one (gs_ret (ge_tup (ga_cons (ge_var 3) (ga_cons (ge_call h__law_take hx rfl (ga_cons (ge_var 0) (ga_cons (ge_var 2) (ga_nil)))) (ga_nil)))))) (gs_nil)) (gs_cons (gs_if (gt_cm (eq_g hx.u64) (ge_var 3) (ge_str [117, 110, 108, 101, 115, 115])) (gs_one (gs_ret (ge_tup (ga_cons (ge_var 3) (ga_cons (ge_call h__law_some hx rfl (ga_cons (ge_var 0) (ga_cons (ge_var 1) (ga_nil)))) (ga_cons (ge_call h__law_take hx rfl (ga_cons (ge_var 0) (ga_cons (ge_var 2) (ga_nil)))) (ga_nil))))))) (gs_nil)) (gs_one (gs_ret (ge_tup (ga_cons (ge_var 3) (ga_cons (ge_call h__law_some hx rfl (ga_cons (ge_var 0) (ga_cons (ge_var 1) (ga_nil)))) (ga_nil)))))))))))))
abbrev N__law_part : List Str := ["_law_pot_here", "_law_marks_here", "_law_left", "_law_most", "_law_takes", "_law_many", "_law_rows", "_law_k", "_law_mark", "_law_name_here"]
theorem sc__law_part : FnScope N__law_part ["_law_pot_here", "_law_marks_here", "_law_left", "_law_most"] (defScope s__law_part) := ⟨rfl, rfl, rfl, by decide +kernel, rfl, by decide +kernel, by decide +kernel⟩
theorem ok__law_part {f : Addr} {fd : FuncData} (T : Txt K w mg) (F : Fun K "_law_part" "_law_part" s__law_part f fd) (h__law_kind : FnD P w K mg base "_law_kind" 85 (den__law_kind 40)) (h__law_name : FnD P w K mg base "_law_name" 85 den__law_name) (h__law_names : FnD P w K mg base "_law_names" 85 den__law_names) (h__law_row : FnD P w K mg base "_law_row" 85 den__law_row) (h__law_some : FnD P w K mg base "_law_some" 85 den__law_some) (h__law_take : FnD P w K mg base "_law_take" 85 den__law_take) : FnG P w K mg base 86 f fd ["_law_pot_here", "_law_marks_here", "_law_left", "_law_most"] den__law_part :=
  fnG_of (N := N__law_part) F sc__law_part fun cdv A outer s H E W hx =>
    (gs_cons (gs_setLc (i := 4) (own := [("_law_name_here", 9)]) rfl sc__law_part.nd rfl rfl (sw_true rfl rfl rfl (by decide +kernel)) (gi_any (ge_call h__law_names hx rfl (ga_cons (ge_var 0) (ga_cons (ge_int) (ga_nil))))) (blkOk_by (N := N__law_part) (sc := defScope s__law_part) (by decide +kernel)) (by decide) (fun _ _ _ _ _ => gg_name (i := 9) sc__law_part.nd rfl (by first | exact Or.inl rfl | exact Or.inr rfl)) (fun _ _ _ _ _ => gt_yes) (fun _ _ _ _ _ => ge_tup (ga_cons (ge_var 9) (ga_cons (ge_call h__law_kind (XG.blk hx) rfl (ga_cons (ge_var 0) (ga_cons (ge_int) (ga_nil)))) (ga_nil))))) (gs_cons (gs_if (gt_cm (eq_g hx.u64) (ge_call h__law_take hx rfl (ga_cons (ge_var 0) (ga_cons (ge_int) (ga_nil)))) (ge_int)) (gs_one (gs_set (i := 4) sc__law_part.nd rfl (.inl rfl) (ge_rev (ge_var 4)))) (gs_nil)) (gs_cons (gs_set (i := 5) sc__law_part.nd rfl (.inr rfl) (ge_bin add_g (ge_int) (ge_call h__law_take hx rfl (ga_cons (ge_var 0) (ga_cons (ge_ix (ge_lst (ga_cons (ge_int) (ga_cons (ge_var 3) (ga_nil)))) (ge_bin fdiv_g (ge_call h__law_take hx rfl (ga_cons (ge_var 0) (ga_cons (ge_int) (ga_nil)))) (ge_int))) (ga_nil)))))) (gs_cons (gs_setLcH (i := 6) (own := [("_law_k", 7)]) rfl sc__law_part.nd rfl rfl (sw_true rfl rfl rfl (by decide +kernel)) (gi_r1 rfl T.b_range (ga_cons (ge_var 5) (ga_nil))) (blkOk_by (N := N__law_part) (sc := defScope s__law_part) (by decide +kernel)) (by decide) (fun _ _ _ _ _ => gg_name (i := 7) sc__law_part.nd rfl (by first | exact Or.inl rfl | exact Or.inr rfl)) (fun _ _ _ _ _ => gt_yes) (fun _ _ _ _ _ => ge_call h__law_row (XG.blk hx) rfl (ga_cons (ge_var 0) (ga_cons (ge_var 2) (ga_cons (ge_var 5) (ga_nil)))))) (gs_cons (gs_for hx (gi_r1 rfl T.b_range (ga_cons (ge_bin sub_g (ge_var 5) (ge_int)) (ga_nil))) (gg_name (i := 7) sc__law_part.nd rfl (by first | exact Or.inl rfl | exact Or.inr rfl)) (gs_cons (gs_set (i := 8) sc__law_part.nd rfl (.inl rfl) (ge_call h__law_name hx rfl (ga_cons (ge_var 0) (ga_nil)))) (gs_one (gs_if (PW.pt (gt_and (gt_cm (notin_g hx.u65) (ge_var 8) (ge_var 1)) (gt_and1 (gt_cm (eq_g hx.u64) (ge_call h__law_take hx rfl (ga_cons (ge_var 0) (ga_cons (ge_int) (ga_nil)))) (ge_int))))) (gs_cons (gs_store hx.room (ge_tup (ga_cons (ge_str [109, 97, 114, 107]) (ga_cons (ge_var 8) (ga_nil)))) (ge_var 6) (ge_var 7)) (gs_one (gs_drop (ge_app (ge_var 1) (ge_var 8))))) (gs_nil))))) (gs_cons (gs_store hx.room (ge_ix (ge_lst (ga_cons (ge_tup (ga_cons (ge_str [103, 111]) (ga_cons (ge_call h__law_take hx rfl (ga_cons (ge_var 0) (ga_cons (ge_var 5) (ga_nil)))) (ga_nil)))) (ga_cons (ge_tup (ga_cons (ge_str [98, 97, 99, 107]) (ga_cons (ge_call h__law_some hx rfl (ga_cons (ge_var 0) (ga_cons (ge_var 2) (ga_nil)))) (ga_nil)))) (ga_nil)))) (ge_call h__law_take hx rfl (ga_cons (ge_var 0) (ga_cons (ge_int) (ga_nil))))) (ge_var 6) (ge_neg (ge_int))) (gs_one (gs_ret (ge_tup (ga_cons (ge_ti tup_g rfl T.b_tuple (by decide +kernel) (ga_cons (ge_var 4) (ga_nil))) (ga_cons (ge_call h__law_kind hx rfl (ga_cons (ge_var 0) (ga_cons (ge_int) (ga_nil)))) (ga_cons (ge_ti tup_g rfl T.b_tuple (by decide +kernel) (ga_cons (ge_var 6) (ga_nil))) (ga_nil)))))))))))))
abbrev N__law_program : List Str := ["_law_pot_here", "_law_left", "_law_made", "_law_marks_here", "_law_name_here", "_law_sort", "_law_field"]
theorem sc__law_program : FnScope N__law_program ["_law_pot_here", "_law_left"] (defScope s__law_program) := ⟨rfl, rfl, rfl, by decide +kernel, rfl, by decide +kernel, by decide +kernel⟩
theorem ok__law_program {f : Addr} {fd : FuncData} (T : Txt K w mg) (F : Fun K "_law_program" "_law_program" s__law_program f fd) (h__law_kind : FnD P w K mg base "_law_kind" 86 (den__law_kind 40)) (h__law_names : FnD P w K mg base "_law_names" 86 den__law_names) (h__law_part : FnD P w K mg base "_law_part" 86 den__law_part) (h__law_take : FnD P w K mg base "_law_take" 86 den__law_take) (h__law_value : FnD P w K mg base "_law_value" 86 (den__law_value 40)) : FnG P w K mg base 87 f fd ["_law_pot_here", "_law_left"] den__law_program :=
  fnG_of (N := N__law_program) F sc__law_program fun cdv A outer s H E W hx =>
    (gs_cons (gs_set (i := 2) sc__law_program.nd rfl (.inl rfl) (ge_tup (ga_cons (ge_dk0H) (ga_cons (ge_dk0H) (ga_cons (ge_dk0H) (ga_nil)))))) (gs_cons (gs_set (i := 3) sc__law_program.nd rfl (.inl rfl) (ge_lstH (ga_nil))) (gs_cons (gs_for hx (gi_any (ge_call h__law_names hx rfl (ga_cons (ge_var 0) (ga_cons (ge_ix (ge_lst (ga_cons (ge_int) (ga_cons (ge_int) (ga_cons (ge_int) (ga_nil))))) (ge_call h__law_take hx rfl (ga_cons (ge_var 0) (ga_cons (ge_int) (ga_nil))))) (ga_nil))))) (gg_name (i := 4) sc__law_program.nd rfl (by first | exact Or.inl rfl | exact Or.inr rfl)) (gs_cons (gs_set (i := 5) sc__law_program.nd rfl (.inl rfl) (ge_call h__law_take hx rfl (ga_cons (ge_var 0) (ga_cons (ge_int) (ga_nil))))) (gs_cons (gs_if (PW.pt (gt_and (gt_cm (eq_g hx.u64) (ge_var 5) (ge_int)) (gt_and1 (gt_cm lt_g (ge_bi len_g rfl T.b_len (by decide +kernel) (ga_cons (ge_ix (ge_var 2) (ge_int)) (ga_nil))) (ge_int))))) (gs_one (gs_store hx.room (ge_ti tup_g rfl T.b_tuple (by decide +kernel) (ga_cons (ge_lc (own := [("_law_field", 6)]) rfl sc__law_program.nd (gi_any (ge_call h__law_names hx rfl (ga_cons (ge_var 0) (ga_cons (ge_int) (ga_nil))))) (blkOk_by (N := N__law_program) (sc := defScope s__law_program) (by decide +kernel)) (by decide) (fun _ _ _ _ _ => gg_name (i := 6) sc__law_program.nd rfl (by first | exact Or.inl rfl | exact Or.inr rfl)) (fun _ _ _ _ _ => gt_yes) (fun _ _ _ _ _ => ge_tup (ga_cons (ge_var 6) (ga_cons (ge_call h__law_kind (XG.blk hx) rfl (ga_cons (ge_var 0) (ga_cons (ge_int) (ga_nil)))) (ga_nil))))) (ga_nil))) (ge_ix (ge_var 2) (ge_int)) (ge_var 4))) (gs_nil)) (gs_cons (gs_if (PW.pt (gt_and (gt_cm (eq_g hx.u64) (ge_var 5) (ge_int)) (gt_and1 (gt_cm lt_g (ge_bi len_g rfl T.b_len (by decide +kernel) (ga_cons (ge_ix (ge_var 2) (ge_int)) (ga_nil))) (ge_int))))) (gs_one (gs_store hx.room (ge_tup (ga_cons (ge_call h__law_kind hx rfl (ga_cons (ge_var 0) (ga_cons (ge_int) (ga_nil)))) (ga_cons (ge_call h__law_value hx rfl (ga_cons (ge_var 0) (ga_cons (ge_int) (ga_nil)))) (ga_nil)))) (ge_ix (ge_var 2) (ge_int)) (ge_var 4))) (gs_nil)) (gs_one (gs_if (PW.pt (gt_and (gt_cm (eq_g hx.u64) (ge_var 5) (ge_int)) (gt_and1 (gt_cm lt_g (ge_bi len_g rfl T.b_len (by decide +kernel) (ga_cons (ge_ix (ge_var 2) (ge_int)) (ga_nil))) (ge_int))))) (gs_one (gs_store hx.room (ge_call h__law_part hx rfl (ga_cons (ge_var 0) (ga_cons (ge_var 3) (ga_cons (ge_var 1) (ga_cons (ge_ix (ge_lst (ga_cons (ge_int) (ga_cons (ge_int) (ga_nil)))) (ge_ti int_g rfl T.b_int (by decide +kernel) (ga_cons (ge_cm (eq_g hx.u64) (ge_ix (ge_var 2) (ge_int)) (ge_dk0)) (ga_nil)))) (ga_nil)))))) (ge_ix (ge_var 2) (ge_int)) (ge_var 4))) (gs_nil))))))) (gs_one (gs_ret (ge_var 2))))))
abbrev N__law_marks : List Str := ["_law_parts", "_law_found", "_law_name_here", "_law_r", "_law_row_here"]
theorem sc__law_marks : FnScope N__law_marks ["_law_parts"] (defScope s__law_marks) := ⟨rfl, rfl, rfl, by decide +kernel, rfl, by decide +kernel, by decide +kernel⟩
theorem ok__law_marks {f : Addr} {fd : FuncData} (T : Txt K w mg) (F : Fun K "_law_marks" "_law_marks" s__law_marks f fd)  : FnG P w K mg base 1 f fd ["_law_parts"] den__law_marks :=
  fnG_of (N := N__law_marks) F sc__law_marks fun cdv A outer s H E W hx =>
    (gs_cons (gs_set (i := 1) sc__law_marks.nd rfl (.inl rfl) (ge_lstH (ga_nil))) (gs_cons (gs_for hx (gi_any (ge_var 0)) (gg_name (i := 2) sc__law_marks.nd rfl (by first | exact Or.inl rfl | exact Or.inr rfl)) (gs_one (gs_for hx (gi_enum rfl T.b_enumerate (ga_cons (ge_ix (ge_ix (ge_var 0) (ge_var 2)) (ge_int)) (ga_nil))) (gg_tup rfl (gg_cons (gg_name (i := 3) sc__law_marks.nd rfl (by first | exact Or.inl rfl | exact Or.inr rfl)) (gg_cons (gg_name (i := 4) sc__law_marks.nd rfl (by first | exact Or.inl rfl | exact Or.inr rfl)) (gg_nil (is := []))))) (gs_one (gs_if (gt_cm (eq_g hx.u64) (ge_ix (ge_var 4) (ge_int)) (ge_str [109, 97, 114, 107])) (gs_one (gs_drop (ge_app (ge_var 1) (ge_tup (ga_cons (ge_ix (ge_var 4) (ge_int)) (ga_cons (ge_tup (ga_cons (ge_var 2) (ga_cons (ge_var 3) (ga_nil)))) (ga_nil))))))) (gs_nil)))))) (gs_one (gs_ret (ge_var 1)))))
abbrev N_law : List Str := ["_law_script", "_law_elder", "_law_cell_here", "_law_program_here", "_law_found", "_law_due", "_law_place"]
theorem sc_law : FnScope N_law ["_law_script"] (defScope s_law) := ⟨rfl, rfl, rfl, by decide +kernel, rfl, by decide +kernel, by decide +kernel⟩
theorem ok_law {f : Addr} {fd : FuncData} (T : Txt K w mg) (F : Fun K "law" "law" s_law f fd) (h__law_cell : FnD P w K mg base "_law_cell" 87 den__law_cell) (h__law_marks : FnD P w K mg base "_law_marks" 87 den__law_marks) (h__law_pot : FnD P w K mg base "_law_pot" 87 den__law_pot) (h__law_program : FnD P w K mg base "_law_program" 87 (own1 den__law_program)) (h_marks_of : FnD P w K mg base "marks_of" 87 den_marks_of) : FnG P w K mg base 88 f fd ["_law_script"] den_law :=
  fnG_of (N := N_law) F sc_law fun cdv A outer s H E W hx =>
    (gs_cons (gs_set (i := 1) sc_law.nd rfl (.inl rfl) (ge_tup (ga_cons (ge_dk0) (ga_cons (ge_dk0) (ga_cons (ge_dk0) (ga_nil)))))) (gs_cons (gs_for hx (gi_any (ge_bin add_g (ge_lst (ga_cons (ge_bin add_g (ge_call h__law_cell hx rfl (ga_cons (ge_var 0) (ga_cons (ge_int) (ga_nil)))) (ge_bin mul_g (ge_int) (ge_bi len_g rfl T.b_len (by decide +kernel) (ga_cons (ge_var 0) (ga_nil))))) (ga_nil))) (ge_slice (ge_var 0) (go_none) (go_some (ge_int))))) (gg_name (i := 2) sc_law.nd rfl (by first | exact Or.inl rfl | exact Or.inr rfl)) (gs_cons (gs_set (i := 3) sc_law.nd rfl (.inl rfl) (ge_call h__law_program hx rfl (ga_cons (ge_call h__law_pot hx rfl (ga_cons (ge_var 2) (ga_nil))) (ga_cons (ge_int) (ga_nil))))) (gs_cons (gs_set (i := 4) sc_law.nd rfl (.inl rfl) (ge_call h_marks_of hx rfl (ga_cons (ge_var 3) (ga_nil)))) (gs_cons (gs_set (i := 5) sc_law.nd rfl (.inl rfl) (ge_dictOf hx.calm rfl T.b_dict (ga_cons (ge_call h__law_marks hx rfl (ga_cons (ge_ix (ge_var 3) (ge_int)) (ga_nil))) (ga_nil)))) (gs_cons (gs_if (PW.pt (gt_or (gt_not (gt_truth (ge_isi .dict rfl T.b_isinstance rfl T.b_dict (by decide +kernel) (by decide) (by decide) (ge_var 4)))) (gt_or1 (gt_cm (neD_g hx.u65) (ge_var 4) (ge_var 5))))) (gs_one (gs_ret (ge_bl))) (gs_nil)) (gs_cons (gs_if (gt_not (gt_truth (ge_bi (all_g hx.calm) rfl T.b_all (by decide +kernel) (ga_cons (ge_lkD (ge_lc (own := [("_law_place", 6)]) rfl sc_law.nd (gi_vals (ge_var 4)) (blkOk_by (N := N_law) (sc := defScope s_law) (by decide +kernel)) (by decide) (fun _ _ _ _ _ => gg_name (i := 6) sc_law.nd rfl (by first | exact Or.inl rfl | exact Or.inr rfl)) (fun _ _ _ _ _ => gt_yes) (fun _ _ _ _ _ => ge_and (ge_isi .tuple rfl T.b_isinstance rfl T.b_tuple (by decide +kernel) (by decide) (by decide) (ge_var 6)) (ge_one (ge_not (ge_isi .bool rfl T.b_isinstance rfl T.b_bool (by decide +kernel) (by decide) (by decide) (ge_ix (ge_var 6) (ge_int)))))))) (ga_nil))))) (gs_one (gs_ret (ge_bl))) (gs_nil)) (gs_cons (gs_drop (ge_clr (ge_var 4))) (gs_cons (gs_if (PW.pt (gt_or (gt_cm (neD_g hx.u65) (ge_call h_marks_of hx rfl (ga_cons (ge_var 1) (ga_nil))) (ge_dictOf hx.calm rfl T.b_dict (ga_cons (ge_call h__law_marks hx rfl (ga_cons (ge_ix (ge_var 1) (ge_int)) (ga_nil))) (ga_nil)))) (gt_or1 (gt_cm (neD_g hx.u65) (ge_call h_marks_of hx rfl (ga_cons (ge_var 3) (ga_nil))) (ge_var 5))))) (gs_one (gs_ret (ge_bl))) (gs_nil)) (gs_one (gs_set (i := 1) sc_law.nd rfl (.inl rfl) (ge_var 3))))))))))) (gs_one (gs_ret (ge_bl)))))
end
theorem all_mk {l : PySem.W.OpenLaw} {w : World} {K : PySem.W.Frag} {h : Heap} {mg : Str → Option Value} {fa : Addr} (X : K.In h) (G : h.Ns mainGlobals mg) (hfa : mg "law" = some (.ref fa))
    {f_mark_places : Addr} {od_mark_places an_mark_places : Option Addr} {sl_mark_places : Array (Option Value)} {oc_mark_places kV_mark_places dc_mark_places pm_mark_places cd_mark_places ct_mark_places : Value}
    {f_marks_of : Addr} {od_marks_of an_marks_of : Option Addr} {sl_marks_of : Array (Option Value)} {oc_marks_of kV_marks_of dc_marks_of pm_marks_of cd_marks_of ct_marks_of : Value}
    {f__law_cell : Addr} {od__law_cell an__law_cell : Option Addr} {sl__law_cell : Array (Option Value)} {oc__law_cell kV__law_cell dc__law_cell pm__law_cell cd__law_cell ct__law_cell : Value}
    {f__law_pot : Addr} {od__law_pot an__law_pot : Option Addr} {sl__law_pot : Array (Option Value)} {oc__law_pot kV__law_pot dc__law_pot pm__law_pot cd__law_pot ct__law_pot : Value}
    {f__law_take : Addr} {od__law_take an__law_take : Option Addr} {sl__law_take : Array (Option Value)} {oc__law_take kV__law_take dc__law_take pm__law_take cd__law_take ct__law_take : Value}
    {f__law_name : Addr} {od__law_name an__law_name : Option Addr} {sl__law_name : Array (Option Value)} {oc__law_name kV__law_name dc__law_name pm__law_name cd__law_name ct__law_name : Value}
    {f__law_kind : Addr} {od__law_kind an__law_kind : Option Addr} {sl__law_kind : Array (Option Value)} {oc__law_kind kV__law_kind dc__law_kind pm__law_kind cd__law_kind ct__law_kind : Value}
    {f__law_leaf : Addr} {od__law_leaf an__law_leaf : Option Addr} {sl__law_leaf : Array (Option Value)} {oc__law_leaf kV__law_leaf dc__law_leaf pm__law_leaf cd__law_leaf ct__law_leaf : Value}
    {f__law_term : Addr} {od__law_term an__law_term : Option Addr} {sl__law_term : Array (Option Value)} {oc__law_term kV__law_term dc__law_term pm__law_term cd__law_term ct__law_term : Value}
    {f__law_some : Addr} {od__law_some an__law_some : Option Addr} {sl__law_some : Array (Option Value)} {oc__law_some kV__law_some dc__law_some pm__law_some cd__law_some ct__law_some : Value}
    {f__law_names : Addr} {od__law_names an__law_names : Option Addr} {sl__law_names : Array (Option Value)} {oc__law_names kV__law_names dc__law_names pm__law_names cd__law_names ct__law_names : Value}
    {f__law_value : Addr} {od__law_value an__law_value : Option Addr} {sl__law_value : Array (Option Value)} {oc__law_value kV__law_value dc__law_value pm__law_value cd__law_value ct__law_value : Value}
    {f__law_row : Addr} {od__law_row an__law_row : Option Addr} {sl__law_row : Array (Option Value)} {oc__law_row kV__law_row dc__law_row pm__law_row cd__law_row ct__law_row : Value}
    {f__law_part : Addr} {od__law_part an__law_part : Option Addr} {sl__law_part : Array (Option Value)} {oc__law_part kV__law_part dc__law_part pm__law_part cd__law_part ct__law_part : Value}
    {f__law_program : Addr} {od__law_program an__law_program : Option Addr} {sl__law_program : Array (Option Value)} {oc__law_program kV__law_program dc__law_program pm__law_program cd__law_program ct__law_program : Value}
    {f__law_marks : Addr} {od__law_marks an__law_marks : Option Addr} {sl__law_marks : Array (Option Value)} {oc__law_marks kV__law_marks dc__law_marks pm__law_marks cd__law_marks ct__law_marks : Value}
    {f_law : Addr} {od_law an_law : Option Addr} {sl_law : Array (Option Value)} {oc_law kV_law dc_law pm_law cd_law ct_law : Value}
    (a_mark_places : PySem.W.nsIn K mainGlobals "mark_places" = some (some (.ref f_mark_places))) (l_mark_places : K.lookup f_mark_places = some ⟨oc_mark_places, od_mark_places, .func (PySem.W.fnOf "mark_places" "mark_places" (defArgs s_mark_places) (defBody s_mark_places) (defScope s_mark_places) .none kV_mark_places dc_mark_places pm_mark_places an_mark_places cd_mark_places ct_mark_places), sl_mark_places⟩) (e_mark_places : PySem.W.codeIn K cd_mark_places "mark_places" = true) (k_mark_places : PySem.W.keepIn K (.ref f_mark_places) = true)
    (a_marks_of : PySem.W.nsIn K mainGlobals "marks_of" = some (some (.ref f_marks_of))) (l_marks_of : K.lookup f_marks_of = some ⟨oc_marks_of, od_marks_of, .func (PySem.W.fnOf "marks_of" "marks_of" (defArgs s_marks_of) (defBody s_marks_of) (defScope s_marks_of) .none kV_marks_of dc_marks_of pm_marks_of an_marks_of cd_marks_of ct_marks_of), sl_marks_of⟩) (e_marks_of : PySem.W.codeIn K cd_marks_of "marks_of" = true) (k_marks_of : PySem.W.keepIn K (.ref f_marks_of) = true)
    (a__law_cell : PySem.W.nsIn K mainGlobals "_law_cell" = some (some (.ref f__law_cell))) (l__law_cell : K.lookup f__law_cell = some ⟨oc__law_cell, od__law_cell, .func (PySem.W.fnOf "_law_cell" "_law_cell" (defArgs s__law_cell) (defBody s__law_cell) (defScope s__law_cell) .none kV__law_cell dc__law_cell pm__law_cell an__law_cell cd__law_cell ct__law_cell), sl__law_cell⟩) (e__law_cell : PySem.W.codeIn K cd__law_cell "_law_cell" = true) (k__law_cell : PySem.W.keepIn K (.ref f__law_cell) = true)
    (a__law_pot : PySem.W.nsIn K mainGlobals "_law_pot" = some (some (.ref f__law_pot))) (l__law_pot : K.lookup f__law_pot = some ⟨oc__law_pot, od__law_pot, .func (PySem.W.fnOf "_law_pot" "_law_pot" (defArgs s__law_pot) (defBody s__law_pot) (defScope s__law_pot) .none kV__law_pot dc__law_pot pm__law_pot an__law_pot cd__law_pot ct__law_pot), sl__law_pot⟩) (e__law_pot : PySem.W.codeIn K cd__law_pot "_law_pot" = true) (k__law_pot : PySem.W.keepIn K (.ref f__law_pot) = true)
    (a__law_take : PySem.W.nsIn K mainGlobals "_law_take" = some (some (.ref f__law_take))) (l__law_take : K.lookup f__law_take = some ⟨oc__law_take, od__law_take, .func (PySem.W.fnOf "_law_take" "_law_take" (defArgs s__law_take) (defBody s__law_take) (defScope s__law_take) .none kV__law_take dc__law_take pm__law_take an__law_take cd__law_take ct__law_take), sl__law_take⟩) (e__law_take : PySem.W.codeIn K cd__law_take "_law_take" = true) (k__law_take : PySem.W.keepIn K (.ref f__law_take) = true)
    (a__law_name : PySem.W.nsIn K mainGlobals "_law_name" = some (some (.ref f__law_name))) (l__law_name : K.lookup f__law_name = some ⟨oc__law_name, od__law_name, .func (PySem.W.fnOf "_law_name" "_law_name" (defArgs s__law_name) (defBody s__law_name) (defScope s__law_name) .none kV__law_name dc__law_name pm__law_name an__law_name cd__law_name ct__law_name), sl__law_name⟩) (e__law_name : PySem.W.codeIn K cd__law_name "_law_name" = true) (k__law_name : PySem.W.keepIn K (.ref f__law_name) = true)
    (a__law_kind : PySem.W.nsIn K mainGlobals "_law_kind" = some (some (.ref f__law_kind))) (l__law_kind : K.lookup f__law_kind = some ⟨oc__law_kind, od__law_kind, .func (PySem.W.fnOf "_law_kind" "_law_kind" (defArgs s__law_kind) (defBody s__law_kind) (defScope s__law_kind) .none kV__law_kind dc__law_kind pm__law_kind an__law_kind cd__law_kind ct__law_kind), sl__law_kind⟩) (e__law_kind : PySem.W.codeIn K cd__law_kind "_law_kind" = true) (k__law_kind : PySem.W.keepIn K (.ref f__law_kind) = true)
    (a__law_leaf : PySem.W.nsIn K mainGlobals "_law_leaf" = some (some (.ref f__law_leaf))) (l__law_leaf : K.lookup f__law_leaf = some ⟨oc__law_leaf, od__law_leaf, .func (PySem.W.fnOf "_law_leaf" "_law_leaf" (defArgs s__law_leaf) (defBody s__law_leaf) (defScope s__law_leaf) .none kV__law_leaf dc__law_leaf pm__law_leaf an__law_leaf cd__law_leaf ct__law_leaf), sl__law_leaf⟩) (e__law_leaf : PySem.W.codeIn K cd__law_leaf "_law_leaf" = true) (k__law_leaf : PySem.W.keepIn K (.ref f__law_leaf) = true)
    (a__law_term : PySem.W.nsIn K mainGlobals "_law_term" = some (some (.ref f__law_term))) (l__law_term : K.lookup f__law_term = some ⟨oc__law_term, od__law_term, .func (PySem.W.fnOf "_law_term" "_law_term" (defArgs s__law_term) (defBody s__law_term) (defScope s__law_term) .none kV__law_term dc__law_term pm__law_term an__law_term cd__law_term ct__law_term), sl__law_term⟩) (e__law_term : PySem.W.codeIn K cd__law_term "_law_term" = true) (k__law_term : PySem.W.keepIn K (.ref f__law_term) = true)
    (a__law_some : PySem.W.nsIn K mainGlobals "_law_some" = some (some (.ref f__law_some))) (l__law_some : K.lookup f__law_some = some ⟨oc__law_some, od__law_some, .func (PySem.W.fnOf "_law_some" "_law_some" (defArgs s__law_some) (defBody s__law_some) (defScope s__law_some) .none kV__law_some dc__law_some pm__law_some an__law_some cd__law_some ct__law_some), sl__law_some⟩) (e__law_some : PySem.W.codeIn K cd__law_some "_law_some" = true) (k__law_some : PySem.W.keepIn K (.ref f__law_some) = true)
    (a__law_names : PySem.W.nsIn K mainGlobals "_law_names" = some (some (.ref f__law_names))) (l__law_names : K.lookup f__law_names = some ⟨oc__law_names, od__law_names, .func (PySem.W.fnOf "_law_names" "_law_names" (defArgs s__law_names) (defBody s__law_names) (defScope s__law_names) .none kV__law_names dc__law_names pm__law_names an__law_names cd__law_names ct__law_names), sl__law_names⟩) (e__law_names : PySem.W.codeIn K cd__law_names "_law_names" = true) (k__law_names : PySem.W.keepIn K (.ref f__law_names) = true)
    (a__law_value : PySem.W.nsIn K mainGlobals "_law_value" = some (some (.ref f__law_value))) (l__law_value : K.lookup f__law_value = some ⟨oc__law_value, od__law_value, .func (PySem.W.fnOf "_law_value" "_law_value" (defArgs s__law_value) (defBody s__law_value) (defScope s__law_value) .none kV__law_value dc__law_value pm__law_value an__law_value cd__law_value ct__law_value), sl__law_value⟩) (e__law_value : PySem.W.codeIn K cd__law_value "_law_value" = true) (k__law_value : PySem.W.keepIn K (.ref f__law_value) = true)
    (a__law_row : PySem.W.nsIn K mainGlobals "_law_row" = some (some (.ref f__law_row))) (l__law_row : K.lookup f__law_row = some ⟨oc__law_row, od__law_row, .func (PySem.W.fnOf "_law_row" "_law_row" (defArgs s__law_row) (defBody s__law_row) (defScope s__law_row) .none kV__law_row dc__law_row pm__law_row an__law_row cd__law_row ct__law_row), sl__law_row⟩) (e__law_row : PySem.W.codeIn K cd__law_row "_law_row" = true) (k__law_row : PySem.W.keepIn K (.ref f__law_row) = true)
    (a__law_part : PySem.W.nsIn K mainGlobals "_law_part" = some (some (.ref f__law_part))) (l__law_part : K.lookup f__law_part = some ⟨oc__law_part, od__law_part, .func (PySem.W.fnOf "_law_part" "_law_part" (defArgs s__law_part) (defBody s__law_part) (defScope s__law_part) .none kV__law_part dc__law_part pm__law_part an__law_part cd__law_part ct__law_part), sl__law_part⟩) (e__law_part : PySem.W.codeIn K cd__law_part "_law_part" = true) (k__law_part : PySem.W.keepIn K (.ref f__law_part) = true)
    (a__law_program : PySem.W.nsIn K mainGlobals "_law_program" = some (some (.ref f__law_program))) (l__law_program : K.lookup f__law_program = some ⟨oc__law_program, od__law_program, .func (PySem.W.fnOf "_law_program" "_law_program" (defArgs s__law_program) (defBody s__law_program) (defScope s__law_program) .none kV__law_program dc__law_program pm__law_program an__law_program cd__law_program ct__law_program), sl__law_program⟩) (e__law_program : PySem.W.codeIn K cd__law_program "_law_program" = true) (k__law_program : PySem.W.keepIn K (.ref f__law_program) = true)
    (a__law_marks : PySem.W.nsIn K mainGlobals "_law_marks" = some (some (.ref f__law_marks))) (l__law_marks : K.lookup f__law_marks = some ⟨oc__law_marks, od__law_marks, .func (PySem.W.fnOf "_law_marks" "_law_marks" (defArgs s__law_marks) (defBody s__law_marks) (defScope s__law_marks) .none kV__law_marks dc__law_marks pm__law_marks an__law_marks cd__law_marks ct__law_marks), sl__law_marks⟩) (e__law_marks : PySem.W.codeIn K cd__law_marks "_law_marks" = true) (k__law_marks : PySem.W.keepIn K (.ref f__law_marks) = true)
    (a_law : PySem.W.nsIn K mainGlobals "law" = some (some (.ref f_law))) (l_law : K.lookup f_law = some ⟨oc_law, od_law, .func (PySem.W.fnOf "law" "law" (defArgs s_law) (defBody s_law) (defScope s_law) .none kV_law dc_law pm_law an_law cd_law ct_law), sl_law⟩) (e_law : PySem.W.codeIn K cd_law "law" = true) (k_law : PySem.W.keepIn K (.ref f_law) = true)
    (z_all : PySem.W.nsIn K mainGlobals "all" = some none)
    (z_bool : PySem.W.nsIn K mainGlobals "bool" = some none)
    (z_dict : PySem.W.nsIn K mainGlobals "dict" = some none)
    (z_enumerate : PySem.W.nsIn K mainGlobals "enumerate" = some none)
    (z_int : PySem.W.nsIn K mainGlobals "int" = some none)
    (z_isinstance : PySem.W.nsIn K mainGlobals "isinstance" = some none)
    (z_len : PySem.W.nsIn K mainGlobals "len" = some none)
    (z_range : PySem.W.nsIn K mainGlobals "range" = some none)
    (z_set : PySem.W.nsIn K mainGlobals "set" = some none)
    (z_sorted : PySem.W.nsIn K mainGlobals "sorted" = some none)
    (z_tuple : PySem.W.nsIn K mainGlobals "tuple" = some none)
    : ∃ fd : FuncData, (∀ (s : Shared) (v : Value), BindsTo s fd ⟨[v], []⟩ [("_law_script", v)]) ∧ ∀ base : Heap, K.In base → base.Ns mainGlobals mg → FnG l.prog w K mg base 88 fa fd ["_law_script"] den_law := by
  have e := hfa.symm.trans (PySem.W.mg_of X G a_law)
  cases e
  have T : Txt K w mg := ⟨PySem.W.mg_none_of X G z_all, PySem.W.mg_none_of X G z_bool, PySem.W.mg_none_of X G z_dict, PySem.W.mg_none_of X G z_enumerate, PySem.W.mg_none_of X G z_int, PySem.W.mg_none_of X G z_isinstance, PySem.W.mg_none_of X G z_len, PySem.W.mg_none_of X G z_range, PySem.W.mg_none_of X G z_set, PySem.W.mg_none_of X G z_sorted, PySem.W.mg_none_of X G z_tuple⟩
  have F_mark_places := fun_mk (st := s_mark_places) l_mark_places e_mark_places k_mark_places
  have b_mark_places := F_mark_places.binds (ps := ["parts"]) fun _ _ _ _ _ _ us hl => match us, hl with | [_], _ => rfl
  have F_marks_of := fun_mk (st := s_marks_of) l_marks_of e_marks_of k_marks_of
  have b_marks_of := F_marks_of.binds (ps := ["program"]) fun _ _ _ _ _ _ us hl => match us, hl with | [_], _ => rfl
  have F__law_cell := fun_mk (st := s__law_cell) l__law_cell e__law_cell k__law_cell
  have b__law_cell := F__law_cell.binds (ps := ["_law_script", "_law_at"]) fun _ _ _ _ _ _ us hl => match us, hl with | [_, _], _ => rfl
  have F__law_pot := fun_mk (st := s__law_pot) l__law_pot e__law_pot k__law_pot
  have b__law_pot := F__law_pot.binds (ps := ["_law_cell_here"]) fun _ _ _ _ _ _ us hl => match us, hl with | [_], _ => rfl
  have F__law_take := fun_mk (st := s__law_take) l__law_take e__law_take k__law_take
  have b__law_take := F__law_take.binds (ps := ["_law_pot_here", "_law_many"]) fun _ _ _ _ _ _ us hl => match us, hl with | [_, _], _ => rfl
  have F__law_name := fun_mk (st := s__law_name) l__law_name e__law_name k__law_name
  have b__law_name := F__law_name.binds (ps := ["_law_pot_here"]) fun _ _ _ _ _ _ us hl => match us, hl with | [_], _ => rfl
  have F__law_kind := fun_mk (st := s__law_kind) l__law_kind e__law_kind k__law_kind
  have b__law_kind := F__law_kind.binds (ps := ["_law_pot_here", "_law_deep"]) fun _ _ _ _ _ _ us hl => match us, hl with | [_, _], _ => rfl
  have F__law_leaf := fun_mk (st := s__law_leaf) l__law_leaf e__law_leaf k__law_leaf
  have b__law_leaf := F__law_leaf.binds (ps := ["_law_pot_here"]) fun _ _ _ _ _ _ us hl => match us, hl with | [_], _ => rfl
  have F__law_term := fun_mk (st := s__law_term) l__law_term e__law_term k__law_term
  have b__law_term := F__law_term.binds (ps := ["_law_pot_here", "_law_deep"]) fun _ _ _ _ _ _ us hl => match us, hl with | [_, _], _ => rfl
  have F__law_some := fun_mk (st := s__law_some) l__law_some e__law_some k__law_some
  have b__law_some := F__law_some.binds (ps := ["_law_pot_here", "_law_left"]) fun _ _ _ _ _ _ us hl => match us, hl with | [_, _], _ => rfl
  have F__law_names := fun_mk (st := s__law_names) l__law_names e__law_names k__law_names
  have b__law_names := F__law_names.binds (ps := ["_law_pot_here", "_law_most"]) fun _ _ _ _ _ _ us hl => match us, hl with | [_, _], _ => rfl
  have F__law_value := fun_mk (st := s__law_value) l__law_value e__law_value k__law_value
  have b__law_value := F__law_value.binds (ps := ["_law_pot_here", "_law_deep"]) fun _ _ _ _ _ _ us hl => match us, hl with | [_, _], _ => rfl
  have F__law_row := fun_mk (st := s__law_row) l__law_row e__law_row k__law_row
  have b__law_row := F__law_row.binds (ps := ["_law_pot_here", "_law_left", "_law_rows"]) fun _ _ _ _ _ _ us hl => match us, hl with | [_, _, _], _ => rfl
  have F__law_part := fun_mk (st := s__law_part) l__law_part e__law_part k__law_part
  have b__law_part := F__law_part.binds (ps := ["_law_pot_here", "_law_marks_here", "_law_left", "_law_most"]) fun _ _ _ _ _ _ us hl => match us, hl with | [_, _, _, _], _ => rfl
  have F__law_program := fun_mk (st := s__law_program) l__law_program e__law_program k__law_program
  have b__law_program := F__law_program.binds (ps := ["_law_pot_here", "_law_left"]) fun _ _ _ _ _ _ us hl => match us, hl with | [_, _], _ => rfl
  have F__law_marks := fun_mk (st := s__law_marks) l__law_marks e__law_marks k__law_marks
  have b__law_marks := F__law_marks.binds (ps := ["_law_parts"]) fun _ _ _ _ _ _ us hl => match us, hl with | [_], _ => rfl
  have F_law := fun_mk (st := s_law) l_law e_law k_law
  refine ⟨PySem.W.fnOf "law" "law" (defArgs s_law) (defBody s_law) (defScope s_law) .none kV_law dc_law pm_law an_law cd_law ct_law, fun s v => .of_eq rfl, fun base _ _ => ?_⟩
  have D_mark_places : FnD l.prog w K mg base "mark_places" 1 den_mark_places := ⟨_, _, _, PySem.W.mg_of X G a_mark_places, F_mark_places.kp, b_mark_places, ok_mark_places T F_mark_places ⟩
  have D_marks_of : FnD l.prog w K mg base "marks_of" 2 den_marks_of := ⟨_, _, _, PySem.W.mg_of X G a_marks_of, F_marks_of.kp, b_marks_of, ok_marks_of T F_marks_of (D_mark_places.mono (by decide))⟩
  have D__law_cell : FnD l.prog w K mg base "_law_cell" 1 den__law_cell := ⟨_, _, _, PySem.W.mg_of X G a__law_cell, F__law_cell.kp, b__law_cell, ok__law_cell T F__law_cell ⟩
  have D__law_pot : FnD l.prog w K mg base "_law_pot" 1 den__law_pot := ⟨_, _, _, PySem.W.mg_of X G a__law_pot, F__law_pot.kp, b__law_pot, ok__law_pot T F__law_pot ⟩
  have D__law_take : FnD l.prog w K mg base "_law_take" 1 den__law_take := ⟨_, _, _, PySem.W.mg_of X G a__law_take, F__law_take.kp, b__law_take, ok__law_take T F__law_take ⟩
  have D__law_name : FnD l.prog w K mg base "_law_name" 2 den__law_name := ⟨_, _, _, PySem.W.mg_of X G a__law_name, F__law_name.kp, b__law_name, ok__law_name T F__law_name (D__law_take.mono (by decide))⟩
  have R__law_kind : ∀ n : Nat, FnD l.prog w K mg base "_law_kind" (2 + n) (den__law_kind n) := fun n => by
    induction n with
    | zero => exact ⟨_, _, _, PySem.W.mg_of X G a__law_kind, F__law_kind.kp, b__law_kind, fnG_bad⟩
    | succ n ih =>
      have I__law_kind := ih
      exact ⟨_, _, _, PySem.W.mg_of X G a__law_kind, F__law_kind.kp, b__law_kind, ok__law_kind T F__law_kind I__law_kind (D__law_name.mono (Nat.le_trans (by decide : 2 ≤ 2) (Nat.le_add_right 2 n))) (D__law_take.mono (Nat.le_trans (by decide : 1 ≤ 2) (Nat.le_add_right 2 n)))⟩
  have D__law_kind : FnD l.prog w K mg base "_law_kind" 42 (den__law_kind 40) := (R__law_kind 40)
  have D__law_leaf : FnD l.prog w K mg base "_law_leaf" 43 den__law_leaf := ⟨_, _, _, PySem.W.mg_of X G a__law_leaf, F__law_leaf.kp, b__law_leaf, ok__law_leaf T F__law_leaf (D__law_kind.mono (by decide)) (D__law_name.mono (by decide)) (D__law_take.mono (by decide))⟩
  have R__law_term : ∀ n : Nat, FnD l.prog w K mg base "_law_term" (43 + n) (den__law_term n) := fun n => by
    induction n with
    | zero => exact ⟨_, _, _, PySem.W.mg_of X G a__law_term, F__law_term.kp, b__law_term, fnG_bad⟩
    | succ n ih =>
      have I__law_term := ih
      exact ⟨_, _, _, PySem.W.mg_of X G a__law_term, F__law_term.kp, b__law_term, ok__law_term T F__law_term (D__law_leaf.mono (Nat.le_trans (by decide : 43 ≤ 43) (Nat.le_add_right 43 n))) (D__law_name.mono (Nat.le_trans (by decide : 2 ≤ 43) (Nat.le_add_right 43 n))) (D__law_take.mono (Nat.le_trans (by decide : 1 ≤ 43) (Nat.le_add_right 43 n))) I__law_term⟩
  have D__law_term : FnD l.prog w K mg base "_law_term" 83 (den__law_term 40) := (R__law_term 40)
  have D__law_some : FnD l.prog w K mg base "_law_some" 84 den__law_some := ⟨_, _, _, PySem.W.mg_of X G a__law_some, F__law_some.kp, b__law_some, ok__law_some T F__law_some (D__law_term.mono (by decide))⟩
  have D__law_names : FnD l.prog w K mg base "_law_names" 3 den__law_names := ⟨_, _, _, PySem.W.mg_of X G a__law_names, F__law_names.kp, b__law_names, ok__law_names T F__law_names (D__law_name.mono (by decide)) (D__law_take.mono (by decide))⟩
  have R__law_value : ∀ n : Nat, FnD l.prog w K mg base "_law_value" (1 + n) (den__law_value n) := fun n => by
    induction n with
    | zero => exact ⟨_, _, _, PySem.W.mg_of X G a__law_value, F__law_value.kp, b__law_value, fnG_bad⟩
    | succ n ih =>
      have I__law_value := ih
      exact ⟨_, _, _, PySem.W.mg_of X G a__law_value, F__law_value.kp, b__law_value, ok__law_value T F__law_value (D__law_take.mono (Nat.le_trans (by decide : 1 ≤ 1) (Nat.le_add_right 1 n))) I__law_value⟩
  have D__law_value : FnD l.prog w K mg base "_law_value" 41 (den__law_value 40) := (R__law_value 40)
  have D__law_row : FnD l.prog w K mg base "_law_row" 85 den__law_row := ⟨_, _, _, PySem.W.mg_of X G a__law_row, F__law_row.kp, b__law_row, ok__law_row T F__law_row (D__law_name.mono (by decide)) (D__law_names.mono (by decide)) (D__law_some.mono (by decide)) (D__law_take.mono (by decide))⟩
  have D__law_part : FnD l.prog w K mg base "_law_part" 86 den__law_part := ⟨_, _, _, PySem.W.mg_of X G a__law_part, F__law_part.kp, b__law_part, ok__law_part T F__law_part (D__law_kind.mono (by decide)) (D__law_name.mono (by decide)) (D__law_names.mono (by decide)) (D__law_row.mono (by decide)) (D__law_some.mono (by decide)) (D__law_take.mono (by decide))⟩
  have D__law_program : FnD l.prog w K mg base "_law_program" 87 den__law_program := ⟨_, _, _, PySem.W.mg_of X G a__law_program, F__law_program.kp, b__law_program, ok__law_program T F__law_program (D__law_kind.mono (by decide)) (D__law_names.mono (by decide)) (D__law_part.mono (by decide)) (D__law_take.mono (by decide)) (D__law_value.mono (by decide))⟩
  have D__law_marks : FnD l.prog w K mg base "_law_marks" 1 den__law_marks := ⟨_, _, _, PySem.W.mg_of X G a__law_marks, F__law_marks.kp, b__law_marks, ok__law_marks T F__law_marks ⟩
  exact ok_law (P := l.prog) (w := w) (base := base) T F_law (D__law_cell.mono (by decide)) (D__law_marks.mono (by decide)) (D__law_pot.mono (by decide)) (D__law_program.own1.mono (by decide)) (D_marks_of.mono (by decide))
end Law
open PySem PySem.W PyProof.Rows
set_option maxRecDepth 100000 in
set_option maxHeartbeats 0 in
theorem PySem.Challenge.cw_changewhile_k27_marks_of_holds : PySem.Challenge.rw_changewhile_k27_marks_of.Holds := by
  w_on; o_law; k_head; (case hw => w_witness2)
  k_fill
  refine G.walk (l := PySem.Challenge.rw_changewhile_k27_marks_of) (k := 88) (x := "_law_script") (den := Law.den_law) rfl (by decide) rfl ⟨rfl, by decide, by decide⟩ (fun w h Y => PySem.W.kIn_of Y) ?F Law.law_true
  case F =>
    intro w mg fa h KX G hmg
    refine' Law.all_mk KX G hmg ?a_mark_places ?l_mark_places ?e_mark_places ?k_mark_places ?a_marks_of ?l_marks_of ?e_marks_of ?k_marks_of ?a__law_cell ?l__law_cell ?e__law_cell ?k__law_cell ?a__law_pot ?l__law_pot ?e__law_pot ?k__law_pot ?a__law_take ?l__law_take ?e__law_take ?k__law_take ?a__law_name ?l__law_name ?e__law_name ?k__law_name ?a__law_kind ?l__law_kind ?e__law_kind ?k__law_kind ?a__law_leaf ?l__law_leaf ?e__law_leaf ?k__law_leaf ?a__law_term ?l__law_term ?e__law_term ?k__law_term ?a__law_some ?l__law_some ?e__law_some ?k__law_some ?a__law_names ?l__law_names ?e__law_names ?k__law_names ?a__law_value ?l__law_value ?e__law_value ?k__law_value ?a__law_row ?l__law_row ?e__law_row ?k__law_row ?a__law_part ?l__law_part ?e__law_part ?k__law_part ?a__law_program ?l__law_program ?e__law_program ?k__law_program ?a__law_marks ?l__law_marks ?e__law_marks ?k__law_marks ?a_law ?l_law ?e_law ?k_law ?z_all ?z_bool ?z_dict ?z_enumerate ?z_int ?z_isinstance ?z_len ?z_range ?z_set ?z_sorted ?z_tuple
    (case a_mark_places => k_is)
    (case l_mark_places => k_is)
    (case e_mark_places => k_is)
    (case k_mark_places => k_is)
    (case a_marks_of => k_is)
    (case l_marks_of => k_is)
    (case e_marks_of => k_is)
    (case k_marks_of => k_is)
    (case a__law_cell => k_is)
    (case l__law_cell => k_is)
    (case e__law_cell => k_is)
    (case k__law_cell => k_is)
    (case a__law_pot => k_is)
    (case l__law_pot => k_is)
    (case e__law_pot => k_is)
    (case k__law_pot => k_is)
    (case a__law_take => k_is)
    (case l__law_take => k_is)
    (case e__law_take => k_is)
    (case k__law_take => k_is)
    (case a__law_name => k_is)
    (case l__law_name => k_is)
    (case e__law_name => k_is)
    (case k__law_name => k_is)
    (case a__law_kind => k_is)
    (case l__law_kind => k_is)
    (case e__law_kind => k_is)
    (case k__law_kind => k_is)
    (case a__law_leaf => k_is)
    (case l__law_leaf => k_is)
    (case e__law_leaf => k_is)
    (case k__law_leaf => k_is)
    (case a__law_term => k_is)
    (case l__law_term => k_is)
    (case e__law_term => k_is)
    (case k__law_term => k_is)
    (case a__law_some => k_is)
    (case l__law_some => k_is)
    (case e__law_some => k_is)
    (case k__law_some => k_is)
    (case a__law_names => k_is)
    (case l__law_names => k_is)
    (case e__law_names => k_is)
    (case k__law_names => k_is)
    (case a__law_value => k_is)
    (case l__law_value => k_is)
    (case e__law_value => k_is)
    (case k__law_value => k_is)
    (case a__law_row => k_is)
    (case l__law_row => k_is)
    (case e__law_row => k_is)
    (case k__law_row => k_is)
    (case a__law_part => k_is)
    (case l__law_part => k_is)
    (case e__law_part => k_is)
    (case k__law_part => k_is)
    (case a__law_program => k_is)
    (case l__law_program => k_is)
    (case e__law_program => k_is)
    (case k__law_program => k_is)
    (case a__law_marks => k_is)
    (case l__law_marks => k_is)
    (case e__law_marks => k_is)
    (case k__law_marks => k_is)
    (case a_law => k_is)
    (case l_law => k_is)
    (case e_law => k_is)
    (case k_law => k_is)
    (case z_all => k_is)
    (case z_bool => k_is)
    (case z_dict => k_is)
    (case z_enumerate => k_is)
    (case z_int => k_is)
    (case z_isinstance => k_is)
    (case z_len => k_is)
    (case z_range => k_is)
    (case z_set => k_is)
    (case z_sorted => k_is)
    (case z_tuple => k_is)
