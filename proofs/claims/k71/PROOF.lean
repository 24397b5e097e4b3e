import PyProof.Rows.All
import HandS.ForMost
import HandS.Exc
import HandS.Defaults
import HandS.ExcOwn
import HandS.TryMany
import HandS.WordsExc
import HandS.Wide
import HandS.TupAny
import HandS.Deep
import HandS.IsInst
import HandS.Gcd
import HandS.Conv
import HandS.Dict
import HandS.Iter
import HandS.SortInts
import HandS.Style
import HandS.More
import HandS.Flow
import HandS.CallSlots
import HandS.Zip
import HandS.ExcIs
import HandS.ExcField
import HandS.Head0
import HandS.Head1
import HandS.Head2
import HandS.HeadEnd
import HandS.HeadHook1
import HandS.HeadHook2
import HandS.Head3
import PySem.Challenge.RW_knotproved_k71_whole_directed_two_bridge
set_option Elab.async false
set_option linter.all false
set_option Elab.async false
set_option linter.all false
set_option maxRecDepth 100000
set_option maxHeartbeats 1000000
/-! Values as trees, what they are in an abstract heap, and how heaps grow. -/
namespace EV
open PySem L2

/-- a value as a tree: lists and dicts by what they hold -/
inductive Val where
  | non | bl (b : Bool) | int (i : Int) | str (s : Str) | tup (xs : List Val) | lst (xs : List Val) | dic (ks : List Key) (xs : List Val) | scr (xs : List Val)

/-- a list that is given from outside: locked, of the written part, or never written any more -/
def ScL (K : PySem.W.Frag) (F : Addr → Prop) (H : Hp) (a : Addr) (xs : List V) : Prop :=
  (F a ∧ H a = some (.lst xs)) ∨ (∃ o, H a = some (.frz o (.lst xs))) ∨
    ∃ (o : Obj) (its : Array Value) (n : Nat), K.lookup a = some o ∧ o.cls = .type "list" ∧ o.dict = none ∧ o.data = .seq its n ∧ its.size ≤ sizeLine ∧ Vals xs its.toList

section
variable (K : PySem.W.Frag) (F : Addr → Prop) (H : Hp)
mutual
/-- x is the tree v in the heap H; F: what is never written any more -/
def VR : Val → V → Prop
  | .non, x => x = .non
  | .bl b, x => x = .bl b
  | .int i, x => x = .int i
  | .str s, x => x = .str s
  | .tup vs, x => ∃ a xs, x = .ref a ∧ SqT K H a xs ∧ VRs vs xs
  | .lst vs, x => ∃ a xs, x = .ref a ∧ F a ∧ H a = some (.lst xs) ∧ VRs vs xs
  | .dic ks vs, x => ∃ a xs, x = .ref a ∧ F a ∧ Rd H a (.dK (ks.zip xs)) ∧ ks.length = xs.length ∧ VRs vs xs
  | .scr vs, x => ∃ a xs, x = .ref a ∧ ScL K F H a xs ∧ VRs vs xs
def VRs : List Val → List V → Prop
  | [], xs => xs = []
  | v :: vs, xs => ∃ y ys, xs = y :: ys ∧ VR v y ∧ VRs vs ys
end
/-- the tree v stands at the address a, to be written -/
def OwnAt (a : Addr) : Val → Prop
  | .lst vs => ∃ xs, H a = some (.lst xs) ∧ VRs K F H vs xs
  | .dic ks vs => ∃ xs, H a = some (.dK (ks.zip xs)) ∧ ks.length = xs.length ∧ VRs K F H vs xs
  | _ => False
/-- borrowed: read now -/
def BR (v : Val) (x : V) : Prop := VR K F H v x ∨ ∃ a, x = .ref a ∧ OwnAt K F H a v
end

/-- what a tree leans on is as it was -/
structure Mono (F F' : Addr → Prop) (H H' : Hp) : Prop where
  fz : ∀ a, F a → F' a ∧ H' a = H a
  tp : ∀ a xs, H a = some (.tup xs) → H' a = some (.tup xs)
  fr : ∀ a o u, H a = some (.frz o u) → H' a = some (.frz o u)
theorem Mono.refl (F : Addr → Prop) (H : Hp) : Mono F F H H := ⟨fun _ h => ⟨h, rfl⟩, fun _ _ h => h, fun _ _ _ h => h⟩
section
variable {K : PySem.W.Frag} {F F' : Addr → Prop} {H H' : Hp}
theorem Mono.sqT (m : Mono F F' H H') {a : Addr} {xs : List V} (h : SqT K H a xs) : SqT K H' a xs := by
  rcases h with (h | ⟨o, h⟩) | h
  · exact .inl (.inl (m.tp _ _ h))
  · exact .inl (.inr ⟨o, m.fr _ _ _ h⟩)
  · exact .inr h
theorem Mono.scL (m : Mono F F' H H') {a : Addr} {xs : List V} (h : ScL K F H a xs) : ScL K F' H' a xs := by
  rcases h with ⟨f, h⟩ | ⟨o, h⟩ | h
  · exact .inl ⟨(m.fz a f).1, (m.fz a f).2.trans h⟩
  · exact .inr (.inl ⟨o, m.fr _ _ _ h⟩)
  · exact .inr (.inr h)
mutual
theorem VR.mono (m : Mono F F' H H') : ∀ (v : Val) {x : V}, VR K F H v x → VR K F' H' v x
  | .non, _, h => h
  | .bl _, _, h => h
  | .int _, _, h => h
  | .str _, _, h => h
  | .tup vs, _, ⟨a, xs, e, q, r⟩ => ⟨a, xs, e, m.sqT q, VRs.mono m vs r⟩
  | .lst vs, _, ⟨a, xs, e, f, q, r⟩ => ⟨a, xs, e, (m.fz a f).1, (m.fz a f).2.trans q, VRs.mono m vs r⟩
  | .dic ks vs, _, ⟨a, xs, e, f, q, l, r⟩ => ⟨a, xs, e, (m.fz a f).1, q.imp (m.fz a f).2.trans fun ⟨o, z⟩ => ⟨o, (m.fz a f).2.trans z⟩, l, VRs.mono m vs r⟩
  | .scr vs, _, ⟨a, xs, e, q, r⟩ => ⟨a, xs, e, m.scL q, VRs.mono m vs r⟩
theorem VRs.mono (m : Mono F F' H H') : ∀ (vs : List Val) {xs : List V}, VRs K F H vs xs → VRs K F' H' vs xs
  | [], _, h => h
  | v :: vs, _, ⟨y, ys, e, r, q⟩ => ⟨y, ys, e, VR.mono m v r, VRs.mono m vs q⟩
end
theorem OwnAt.mono (m : Mono F F' H H') {a : Addr} {v : Val} (e : H' a = H a) (h : OwnAt K F H a v) : OwnAt K F' H' a v := by
  cases v with
  | lst vs => obtain ⟨xs, q, r⟩ := h; exact ⟨xs, e.trans q, VRs.mono m vs r⟩
  | dic ks vs => obtain ⟨xs, q, l, r⟩ := h; exact ⟨xs, e.trans q, l, VRs.mono m vs r⟩
  | _ => exact (show False from h).elim
theorem VRs.length : ∀ {vs : List Val} {xs : List V}, VRs K F H vs xs → vs.length = xs.length
  | [], _, h => by cases (show _ = [] from h); rfl
  | _ :: _, _, ⟨y, ys, e, _, q⟩ => by subst e; simp [VRs.length q]
theorem VRs.get : ∀ {vs : List Val} {xs : List V} {i : Nat} {v : Val}, VRs K F H vs xs → vs[i]? = some v → ∃ x, xs[i]? = some x ∧ VR K F H v x
  | [], _, _, _, _, e => by simp at e
  | w :: vs, _, 0, v, ⟨y, ys, e, r, q⟩, h => by
    have e2 : w = v := by simpa using h
    subst e e2
    exact ⟨y, rfl, r⟩
  | w :: vs, _, i + 1, v, ⟨y, ys, e, r, q⟩, h => by
    subst e
    obtain ⟨x, h1, h2⟩ := VRs.get (i := i) q (by simpa using h)
    exact ⟨x, by simpa using h1, h2⟩
theorem VRs.append : ∀ {vs ws : List Val} {xs ys : List V}, VRs K F H vs xs → VRs K F H ws ys → VRs K F H (vs ++ ws) (xs ++ ys)
  | [], _, _, _, h, q => by cases (show _ = [] from h); exact q
  | _ :: _, _, _, _, ⟨y, ys, e, r, q⟩, p => by subst e; exact ⟨y, _, rfl, r, VRs.append q p⟩
theorem VRs.take : ∀ {vs : List Val} {xs : List V} (n : Nat), VRs K F H vs xs → VRs K F H (vs.take n) (xs.take n)
  | [], _, n, h => by cases (show _ = [] from h); simp; rfl
  | _ :: _, _, 0, _ => rfl
  | _ :: _, _, n + 1, ⟨y, ys, e, r, q⟩ => by subst e; exact ⟨y, _, rfl, r, VRs.take n q⟩
theorem VRs.drop : ∀ {vs : List Val} {xs : List V} (n : Nat), VRs K F H vs xs → VRs K F H (vs.drop n) (xs.drop n)
  | [], _, n, h => by cases (show _ = [] from h); simp; rfl
  | _ :: _, _, 0, h => h
  | _ :: _, _, n + 1, ⟨y, ys, e, r, q⟩ => by subst e; exact VRs.drop n q
theorem VRs.reverse : ∀ {vs : List Val} {xs : List V}, VRs K F H vs xs → VRs K F H vs.reverse xs.reverse
  | [], _, h => by cases (show _ = [] from h); rfl
  | _ :: _, _, ⟨y, ys, e, r, q⟩ => by
    subst e
    rw [List.reverse_cons, List.reverse_cons]
    exact VRs.append (VRs.reverse q) ⟨y, [], rfl, r, rfl⟩
theorem VRs.set {v : Val} {x : V} (r : VR K F H v x) : ∀ {vs : List Val} {xs : List V} (n : Nat), VRs K F H vs xs → VRs K F H (vs.set n v) (xs.set n x)
  | [], _, n, h => by cases (show _ = [] from h); rfl
  | _ :: _, _, 0, ⟨y, ys, e, _, q⟩ => by subst e; exact ⟨x, _, rfl, r, q⟩
  | _ :: _, _, n + 1, ⟨y, ys, e, p, q⟩ => by subst e; exact ⟨y, _, rfl, p, VRs.set r n q⟩
theorem VRs.one {v : Val} {x : V} (r : VR K F H v x) : VRs K F H [v] [x] := ⟨x, [], rfl, r, rfl⟩
theorem ScL.sq {a : Addr} {xs : List V} (h : ScL K F H a xs) : SqL K H a xs := by
  rcases h with ⟨_, h⟩ | ⟨o, h⟩ | h
  · exact .inl (.inl h)
  · exact .inl (.inr ⟨o, h⟩)
  · exact .inr h
/-- a list that may be read -/
theorem BR.lst {vs : List Val} {x : V} (h : BR K F H (.lst vs) x) : ∃ a xs, x = .ref a ∧ H a = some (.lst xs) ∧ VRs K F H vs xs := by
  rcases h with ⟨a, xs, e, f, q, r⟩ | ⟨a, e, xs, q, r⟩
  · exact ⟨a, xs, e, q, r⟩
  · exact ⟨a, xs, e, q, r⟩
theorem BR.tup {vs : List Val} {x : V} (h : BR K F H (.tup vs) x) : ∃ a xs, x = .ref a ∧ SqT K H a xs ∧ VRs K F H vs xs := by
  rcases h with ⟨a, xs, e, q, r⟩ | ⟨a, e, q⟩
  · exact ⟨a, xs, e, q, r⟩
  · exact (show False from q).elim
theorem BR.dic {ks : List Key} {vs : List Val} {x : V} (h : BR K F H (.dic ks vs) x) : ∃ a xs, x = .ref a ∧ Rd H a (.dK (ks.zip xs)) ∧ ks.length = xs.length ∧ VRs K F H vs xs := by
  rcases h with ⟨a, xs, e, f, q, l, r⟩ | ⟨a, e, xs, q, l, r⟩
  · exact ⟨a, xs, e, q, l, r⟩
  · exact ⟨a, xs, e, .inl q, l, r⟩
theorem BR.int {i : Int} {x : V} (h : BR K F H (.int i) x) : x = .int i := by
  rcases h with h | ⟨a, e, q⟩
  · exact h
  · exact (show False from q).elim
theorem BR.bl {i : Bool} {x : V} (h : BR K F H (.bl i) x) : x = .bl i := by
  rcases h with h | ⟨a, e, q⟩
  · exact h
  · exact (show False from q).elim
theorem BR.str {i : Str} {x : V} (h : BR K F H (.str i) x) : x = .str i := by
  rcases h with h | ⟨a, e, q⟩
  · exact h
  · exact (show False from q).elim
theorem BR.non {x : V} (h : BR K F H .non x) : x = .non := by
  rcases h with h | ⟨a, e, q⟩
  · exact h
  · exact (show False from q).elim
end

/-- from (F, H) to (F', H'): only objects of O were written; what is new in F' was in O or not there -/
structure Ext (O F F' : Addr → Prop) (H H' : Hp) : Prop where
  keep : ∀ a o, H a = some o → ¬ O a → H' a = some o
  old : ∀ a o, H a = some o → ∃ o', H' a = some o'
  sub : ∀ a, F a → F' a
  new : ∀ a, F' a → F a ∨ H a = none ∨ O a
  tr : (∀ a, F a → ∃ o, H a = some o) → ∀ a, F' a → ∃ o, H' a = some o
theorem Ext.refl (O F : Addr → Prop) (H : Hp) : Ext O F F H H := ⟨fun _ _ h _ => h, fun _ o h => ⟨o, h⟩, fun _ h => h, fun _ h => .inl h, fun h => h⟩
section
variable {O O' F F' F'' : Addr → Prop} {H H' H'' : Hp}
theorem Ext.free (e : Ext O F F' H H') {a : Addr} (h : H' a = none) : H a = none := by
  cases q : H a with
  | none => rfl
  | some o =>
    obtain ⟨o', q'⟩ := e.old a o q
    rw [h] at q'; cases q'
theorem Ext.trans (e : Ext O F F' H H') (e' : Ext O' F' F'' H' H'') (h : ∀ a, O' a → O a ∨ H a = none) : Ext O F F'' H H'' where
  keep := fun a o q n => e'.keep a o (e.keep a o q n) fun z => (h a z).elim n fun z => by rw [z] at q; cases q
  old := fun a o q => by
    obtain ⟨o', q'⟩ := e.old a o q
    exact e'.old a o' q'
  sub := fun a f => e'.sub a (e.sub a f)
  new := fun a f => by
    rcases e'.new a f with f | f | f
    · exact e.new a f
    · exact .inr (.inl (e.free f))
    · rcases h a f with z | z
      · exact .inr (.inr z)
      · exact .inr (.inl z)
  tr := fun h => e'.tr (e.tr h)
theorem Ext.wide (e : Ext O F F' H H') (h : ∀ a, O a → O' a) : Ext O' F F' H H' :=
  ⟨fun a o q n => e.keep a o q fun z => n (h a z), e.old, e.sub, fun a f => (e.new a f).imp id (Or.imp id (h a)), e.tr⟩
/-- a new object is laid -/
theorem Ext.laid {p : Addr} {o : HO} (O F : Addr → Prop) (h : H p = none) : Ext O F F H (upd H p o) :=
  have k : ∀ a u, H a = some u → upd H p o a = some u := fun a u q => by rw [upd_ne (ne_of_none q h)]; exact q
  ⟨fun a u q _ => k a u q, fun a u q => ⟨u, k a u q⟩, fun _ f => f, fun _ f => .inl f, fun t a f => let ⟨u, q⟩ := t a f; ⟨u, k a u q⟩⟩
/-- .. and locked -/
theorem Ext.locked {p : Addr} {o : HO} (O F : Addr → Prop) (h : H p = none) : Ext O F (fun a => F a ∨ a = p) H (upd H p o) :=
  have k : ∀ a u, H a = some u → upd H p o a = some u := fun a u q => by rw [upd_ne (ne_of_none q h)]; exact q
  ⟨fun a u q _ => k a u q, fun a u q => ⟨u, k a u q⟩, fun _ f => .inl f, fun a f => f.imp id fun e => .inl (by rw [e]; exact h), fun t a f => f.elim (fun f => let ⟨u, q⟩ := t a f; ⟨u, k a u q⟩) fun e => ⟨o, by rw [e]; exact upd_same⟩⟩
end
end EV
set_option Elab.async false
set_option linter.all false
set_option maxRecDepth 100000
set_option maxHeartbeats 1000000
/-! The language and what it does: values, slots, expressions, statements. -/
namespace EV
open PySem L2

/-- a local name's slot: nothing known; a value that is never written any more; a list or dict of this frame alone, to be written -/
inductive Sl where
  | no | fz (v : Val) | ow (v : Val)
inductive R (α : Type) where
  | got (a : α) | ex (c : Nat) (p : Option Val) | bad
def R.bind {α β : Type} (r : R α) (f : α → R β) : R β := match r with
  | .got a => f a
  | .ex c p => .ex c p
  | .bad => .bad
def R.of {α : Type} : Option α → R α
  | some a => .got a
  | none => .bad
abbrev Ro := List Sl
/-- a value, whether it is new and nobody else's, the slots -/
abbrev RV := R ((Val × Bool) × Ro)

inductive Tg where
  | nm (i : Nat) | tp (ts : List Tg)
inductive Op where
  | add | sub | mul | fdiv | mod | pow
  deriving DecidableEq
inductive Cm where
  | eq | ne | lt | le | gt | ge | isN | notN | in_ | notin
  deriving DecidableEq
inductive BI where
  | len | abs | int | sum | all | any | tuple | list | gcd | sorted | max | min | dict
  deriving DecidableEq
inductive Ty where
  | int | bool | str | tuple | list
  deriving DecidableEq
inductive E where
  | var (i : Nat) | non | bl (b : Bool) | int (i : Int) | str (s : Str) | glob (g : Nat)
  | bin (op : Op) (a b : E) | neg (a : E) | not (a : E) | and (a b : E) | or (a b : E) | one (a : E) | ife (c a b : E)
  | cmp (op : Cm) (a b : E) | chain (op op' : Cm) (a b c : E)
  | call (f : Nat) (es : List E) | bi (b : BI) (es : List E) | isi (a : E) (t : Ty) | isis (a : E) (ts : List Ty)
  | ix (a b : E) | sl (a lo hi : E) | nop | rev (a : E) | tup (es : List E) | lst (es : List E)
  | lc (elt : E) (tg : Tg) (it : E) (c : E) (own : List Nat)
  | lc2 (elt : E) (tg : Tg) (it : E) (c : E) (tg' : Tg) (it' : E) (c' : E) (own own' : List Nat)
  | rng1 (a : E) | rng2 (a b : E) | rng3 (a b c : E) | enum (a : E) | zip (a b : E)
  | disp (ks : List Key) (es : List E) | get (d k v : E) | lcK (elt : E) (tg : Tg) (i : Nat) (c : E) (own : List Nat) | items (d : E) | val (a : E)

/-! ### values -/
def truth : Val → Option Bool
  | .non => some false
  | .bl b => some b
  | .int i => some (i != 0)
  | .str _ => none
  | .tup xs => some (!xs.isEmpty)
  | .lst xs => some (!xs.isEmpty)
  | .dic _ _ => none
  | .scr _ => none
def mulOk (i j : Int) : Bool := decide (-(2 ^ 64) < i ∧ i < 2 ^ 64) || (decide (-(2 ^ 64) < j ∧ j < 2 ^ 64) || decide (i.natAbs.log2 + j.natAbs.log2 < 1000000))
def divOk (j : Int) : Bool := decide (j ≠ 0 ∧ j.natAbs < 1073741824)
def powOk (i j : Int) : Bool := decide (0 ≤ j ∧ j ≤ 1000000 ∧ i.natAbs < 2 ^ 64)
def binV : Op → Val → Val → Option (Val × Bool)
  | .add, .int i, .int j => some (.int (i + j), false)
  | .sub, .int i, .int j => some (.int (i - j), false)
  | .mul, .int i, .int j => if mulOk i j then some (.int (i * j), false) else none
  | .fdiv, .int i, .int j => if divOk j then some (.int (i.fdiv j), false) else none
  | .mod, .int i, .int j => if j = 0 then none else some (.int (i.fmod j), false)
  | .pow, .int i, .int j => if powOk i j then some (.int (i ^ j.toNat), false) else none
  | .add, .tup xs, .tup ys => if xs.length + ys.length ≤ sizeLine then some (.tup (xs ++ ys), false) else none
  | .add, .lst xs, .lst ys => if xs.length + ys.length ≤ sizeLine then some (.lst (xs ++ ys), true) else none
  | .mul, .lst xs, .int k => if decide (-(2 ^ 63) ≤ k ∧ k < 2 ^ 63 ∧ xs.length * k.toNat ≤ sizeLine) then some (.lst (List.replicate k.toNat xs).flatten, true) else none
  | _, _, _ => none
mutual
/-- the value as data, where == goes by data -/
def toD : Val → Option PyData
  | .non => some .none
  | .bl b => some (.bool b)
  | .int i => some (.int i)
  | .str x => some (.str x)
  | .tup xs => match toDs xs with
    | some ds => some (.tuple ds)
    | none => none
  | .lst xs => match toDs xs with
    | some ds => some (.list ds)
    | none => none
  | _ => none
def toDs : List Val → Option (List PyData)
  | [] => some []
  | x :: xs => match toD x, toDs xs with
    | some d, some ds => some (d :: ds)
    | _, _ => none
end
def dataV (v : Val) : Option PyData := match toD v with
  | some d => if SeqAt.shaped d then some d else none
  | none => none
def eqV (v w : Val) : Option Bool := match dataV v, dataV w with
  | some d, some e => some (PyData.eqv d e)
  | _, _ => none
def inVal (v w : Val) : Option Bool := match dataV v, dataV w with
  | some d, some (.list ds) => some (ds.any fun z => PyData.eqv z d)
  | some d, some (.tuple ds) => some (ds.any fun z => PyData.eqv z d)
  | _, _ => none
def Val.isNon : Val → Bool
  | .non => true
  | _ => false
def keyV : Val → Option Key
  | .int i => some (.inl i)
  | .str s => some (.inr s)
  | _ => none
def keyVal : Key → Val
  | .inl i => .int i
  | .inr s => .str s
def lookK : List Key → List Val → Key → Option Val
  | k :: ks, v :: vs, j => if k = j then some v else lookK ks vs j
  | _, _, _ => none
def putK' (ks : List Key) (vs : List Val) (j : Key) (w : Val) : List Key × List Val :=
  if ks.any fun k => decide (k = j) then (ks, (ks.zip vs).map fun p => if p.1 = j then w else p.2) else (ks ++ [j], vs ++ [w])
def mergeD (ks : List Key) (vs : List Val) : List (Key × Val) → List Key × List Val
  | [] => (ks, vs)
  | p :: r => let q := putK' ks vs p.1 p.2; mergeD q.1 q.2 r
def inDic (v : Val) (ks : List Key) (vs : List Val) : Option Bool := (keyV v).map fun k => (lookK ks vs k).isSome
def cmpV : Cm → Val → Val → Option Bool
  | .eq, v, w => eqV v w
  | .ne, v, w => (eqV v w).map (!·)
  | .lt, .int i, .int j => some (decide (i < j))
  | .le, .int i, .int j => some (decide (i ≤ j))
  | .gt, .int i, .int j => some (decide (j < i))
  | .ge, .int i, .int j => some (decide (j ≤ i))
  | .isN, v, .non => some v.isNon
  | .notN, v, .non => some (!v.isNon)
  | .in_, v, w => inVal v w
  | .notin, v, w => (inVal v w).map (!·)
  | _, _, _ => none
def isDic : Val → Bool
  | .dic _ _ => true
  | _ => false
def dicOf : Val → Option (List Key × List Val)
  | .dic ks vs => some (ks, vs)
  | _ => none
/-- with dicts -/
def cmpW (op : Cm) (v w : Val) : Option Bool := match op, w with
  | .in_, .dic ks vs => inDic v ks vs
  | .notin, .dic ks vs => (inDic v ks vs).map (!·)
  | _, _ => cmpV op v w
def intsOf : List Val → Option (List Int)
  | [] => some []
  | .int i :: r => (intsOf r).map (i :: ·)
  | _ :: _ => none
def blsOf : List Val → Option (List Bool)
  | [] => some []
  | .bl b :: r => (blsOf r).map (b :: ·)
  | _ :: _ => none
def lenV : Val → Option Nat
  | .tup xs => some xs.length
  | .lst xs => some xs.length
  | .str s => if s.length ≤ sizeLine then some s.length else none
  | _ => none
/-- insertion of pairs of ints by their order -/
def pairsOf : List Val → Option (List (Int × Int))
  | [] => some []
  | .tup [.int i, .int j] :: r => (pairsOf r).map ((i, j) :: ·)
  | _ :: _ => none
def insI (i : Int) : List Int → List Int
  | [] => [i]
  | j :: r => if i ≤ j then i :: j :: r else j :: insI i r
def isortI : List Int → List Int
  | [] => []
  | i :: r => insI i (isortI r)
def topI (f : Int → Int → Int) : List Int → Option Int
  | [] => none
  | i :: r => some (r.foldl f i)
def maxI (a b : Int) : Int := if b > a then b else a
def minI (a b : Int) : Int := if b < a then b else a
def kvsOf : List Val → Option (List (Key × Val))
  | [] => some []
  | .tup [k, v] :: r => (keyV k).bind fun k => (kvsOf r).map ((k, v) :: ·)
  | _ :: _ => none
def biV : BI → List Val → Option (Val × Bool)
  | .len, [v] => (lenV v).map fun n => (.int (n : Int), false)
  | .abs, [.int i] => some (.int (if i < 0 then -i else i), false)
  | .int, [.int i] => some (.int i, false)
  | .sum, [.lst xs] => (intsOf xs).map fun is => (.int is.sum, false)
  | .all, [.lst xs] => (blsOf xs).map fun bs => (.bl (bs.all id), false)
  | .any, [.lst xs] => (blsOf xs).map fun bs => (.bl (bs.any id), false)
  | .tuple, [.lst xs] => some (.tup xs, false)
  | .tuple, [.tup xs] => some (.tup xs, false)
  | .list, [.lst xs] => some (.lst xs, true)
  | .list, [.tup xs] => some (.lst xs, true)
  | .list, [.dic ks vs] => some (.lst (ks.map keyVal), true)
  | .sorted, [.lst xs] => (intsOf xs).map fun is => (.lst ((isortI is).map .int), true)
  | .max, [.int i, .int j] => some (.int (maxI i j), false)
  | .min, [.int i, .int j] => some (.int (minI i j), false)
  | .max, [.lst xs] => (intsOf xs).bind fun is => (topI maxI is).map fun m => (.int m, false)
  | .min, [.lst xs] => (intsOf xs).bind fun is => (topI minI is).map fun m => (.int m, false)
  | .dict, [.lst xs] => (kvsOf xs).map fun ps => (.dic (mergeD [] [] ps).1 (mergeD [] [] ps).2, true)
  | .gcd, [.int a, .int b] => some (.int ((Nat.gcd a.natAbs b.natAbs : Nat) : Int), false)
  | _, _ => none
def isTy : Val → Ty → Bool
  | .bl _, .bool => true
  | .bl _, .int => true
  | .int _, .int => true
  | .str _, .str => true
  | .tup _, .tuple => true
  | .lst _, .list => true
  | .scr _, .list => true
  | _, _ => false
def ixV : Val → Val → Option Val
  | .lst xs, .int i => atI xs i
  | .tup xs, .int i => atI xs i
  | _, _ => none
/-- with dicts -/
def ixW : Val → Val → Option Val
  | .dic ks vs, w => (keyV w).bind (lookK ks vs)
  | v, w => ixV v w
def cutL (xs : List Val) (lo hi : Option Int) : List Val := (xs.drop (HT.sIx xs.length 0 lo)).take (HT.sIx xs.length xs.length hi - HT.sIx xs.length 0 lo)
def slV : Val → Option Int → Option Int → Option (Val × Bool)
  | .lst xs, lo, hi => some (.lst (cutL xs lo hi), true)
  | .tup xs, lo, hi => some (.tup (cutL xs lo hi), false)
  | _, _, _ => none
def partV : Val → Option Int
  | .int i => some i
  | _ => none
def revV : Val → Option (Val × Bool)
  | .lst xs => some (.lst xs.reverse, true)
  | .tup xs => some (.tup xs.reverse, false)
  | _ => none
def rngL (lo : Int) : Nat → List Val
  | 0 => []
  | n + 1 => .int lo :: rngL (lo + 1) n
def rngOk (i : Int) : Bool := decide (-(2 ^ 62) ≤ i ∧ i < 2 ^ 62)
def itemsV : Val → Option (List Val)
  | .lst xs => some xs
  | .tup xs => some xs
  | .scr xs => some xs
  | _ => none
def enumL (k : Int) : List Val → List Val
  | [] => []
  | x :: xs => .tup [.int k, x] :: enumL (k + 1) xs
def zipL : List Val → List Val → List Val
  | x :: xs, y :: ys => .tup [x, y] :: zipL xs ys
  | _, _ => []

/-! ### slots -/
/-- read as a value: from here on nobody writes it -/
def rdV (ρ : Ro) (i : Nat) : RV := match ρ[i]? with
  | some (.fz v) => .got ((v, false), ρ)
  | some (.ow v) => .got ((v, false), ρ.set i (.fz v))
  | _ => .bad
/-- read now -/
def rdB (ρ : Ro) (i : Nat) : R (Val × Ro) := match ρ[i]? with
  | some (.fz v) => .got (v, ρ)
  | some (.ow v) => .got (v, ρ)
  | _ => .bad
def borrow (e : E) (ρ : Ro) (r : RV) : R (Val × Ro) := match e with
  | .var i => rdB ρ i
  | _ => r.bind fun z => .got (z.1.1, z.2)
mutual
def bindT : Tg → Val → Ro → Option Ro
  | .nm i, v, ρ => if i < ρ.length then some (ρ.set i (.fz v)) else none
  | .tp ts, v, ρ => match v with
    | .tup vs => bindTs ts vs ρ
    | _ => none
def bindTs : List Tg → List Val → Ro → Option Ro
  | [], [], ρ => some ρ
  | t :: ts, v :: vs, ρ => (bindT t v ρ).bind fun ρ' => bindTs ts vs ρ'
  | _, _, _ => none
end
def wipeR (ρ : Ro) : List Nat → Ro
  | [] => ρ
  | i :: is => (wipeR ρ is).set i .no
/-- behind a block: its own names are the frame's again -/
def backR (ρ : Ro) (ρ' : Ro) : List Nat → Ro
  | [] => ρ'
  | i :: is => (backR ρ ρ' is).set i (ρ[i]?.getD .no)
/-- behind a call: what was lent comes back -/
def giveR : List (Option Nat) → List Sl → Ro → Ro
  | some i :: is, s :: ss, ρ => giveR is ss (ρ.set i s)
  | none :: is, _ :: ss, ρ => giveR is ss ρ
  | _, _, ρ => ρ
structure Env' where
  den : Nat → List Sl → R ((Val × Bool) × List Sl)
  stab : Nat → List Bool
  gl : List (Str × Val)
def passA (st : Bool) (e : E) (ρ : Ro) (r : RV) : R ((Sl × Option Nat) × Ro) := match st, e with
  | true, .var i => (match ρ[i]? with
    | some (.fz v) => .got ((.fz v, none), ρ)
    | some (.ow v) => .got ((.ow v, some i), ρ.set i .no)
    | _ => .bad)
  | _, _ => r.bind fun z => .got ((.fz z.1.1, none), z.2)
/-- an own list that is handed: it is taken behind the further arguments -/
def lateA (st : Bool) (e : E) (ρ : Ro) : Option Nat := match st, e with
  | true, .var i => (match ρ[i]? with
    | some (.ow _) => some i
    | _ => none)
  | _, _ => none
def takeA (i : Nat) (y : List (Sl × Option Nat) × Ro) : R (List (Sl × Option Nat) × Ro) := match y.2[i]? with
  | some (.ow v) => .got ((.ow v, some i) :: y.1, y.2.set i .no)
  | some (.fz v) => .got ((.fz v, none) :: y.1, y.2)
  | _ => .bad
/-- a comprehension's loop: f gives what an item adds -/
def loopL (f : Val → Ro → R (List Val × Ro)) : List Val → Ro → R (List Val × Ro)
  | [], ρ => .got ([], ρ)
  | x :: xs, ρ => (f x ρ).bind fun z => (loopL f xs z.2).bind fun y => .got (z.1 ++ y.1, y.2)
/-- no exception leaves a block -/
def R.hush {α : Type} : R α → R α
  | .got a => .got a
  | _ => .bad
def testR (r : RV) : R (Bool × Ro) := r.bind fun z => match truth z.1.1 with
  | some b => .got (b, z.2)
  | none => .bad
/-- a slice's part -/
def partR (e : E) (ρ : Ro) (r : RV) : R (Option Int × Ro) := match e with
  | .nop => .got (none, ρ)
  | _ => r.bind fun y => (R.of (partV y.1.1)).bind fun i => .got (some i, y.2)
/-- a comprehension's condition, if there is one -/
def condR (e : E) (ρ : Ro) (r : RV) : R (Bool × Ro) := match e with
  | .nop => .got (true, ρ)
  | _ => testR r
/-- a turn of a comprehension -/
def turnR (Γ : Env') (tg : Tg) (own : List Nat) (x : Val) (ρ : Ro) (c : Ro → R (Bool × Ro)) (e : Ro → RV) : R (List Val × Ro) :=
  (R.of (bindT tg x (wipeR ρ own))).bind fun ρ1 => ((c ρ1).bind fun t => match t.1 with
    | true => (e t.2).bind fun y => .got ([y.1.1], backR ρ y.2 own)
    | false => .got ([], backR ρ t.2 own)).hush
/-- a dict in a slot, to be gone through: from here on nobody writes it -/
def keysR (ρ : Ro) (i : Nat) : R (List Val × Ro) := (rdV ρ i).bind fun z => match z.1.1 with
  | .dic ks _ => .got (ks.map keyVal, z.2)
  | _ => .bad
mutual
def ev (Γ : Env') : E → Ro → RV
  | .var i, ρ => rdV ρ i
  | .non, ρ => .got ((.non, false), ρ)
  | .bl b, ρ => .got ((.bl b, false), ρ)
  | .int i, ρ => .got ((.int i, false), ρ)
  | .str s, ρ => .got ((.str s, false), ρ)
  | .glob g, ρ => (match Γ.gl[g]? with
    | some p => .got ((p.2, false), ρ)
    | none => .bad)
  | .bin op a b, ρ => (borrow a ρ (ev Γ a ρ)).bind fun x => (borrow b x.2 (ev Γ b x.2)).bind fun y => (R.of (binV op x.1 y.1)).bind fun v => .got (v, y.2)
  | .neg a, ρ => (ev Γ a ρ).bind fun x => match x.1.1 with
    | .int i => .got ((.int (-i), false), x.2)
    | _ => .bad
  | .not a, ρ => (testR (ev Γ a ρ)).bind fun x => .got ((.bl (!x.1), false), x.2)
  | .and a b, ρ => (ev Γ a ρ).bind fun x => match truth x.1.1 with
    | some true => ev Γ b x.2
    | some false => .got x
    | none => .bad
  | .or a b, ρ => (ev Γ a ρ).bind fun x => match truth x.1.1 with
    | some true => .got x
    | some false => ev Γ b x.2
    | none => .bad
  | .one a, ρ => ev Γ a ρ
  | .ife c a b, ρ => (testR (ev Γ c ρ)).bind fun x => match x.1 with
    | true => ev Γ a x.2
    | false => ev Γ b x.2
  | .cmp op a b, ρ => (borrow a ρ (ev Γ a ρ)).bind fun x => (borrow b x.2 (ev Γ b x.2)).bind fun y => (R.of (cmpW op x.1 y.1)).bind fun v => .got ((.bl v, false), y.2)
  | .chain op op' a b c, ρ => (borrow a ρ (ev Γ a ρ)).bind fun x => (borrow b x.2 (ev Γ b x.2)).bind fun y => (R.of (cmpV op x.1 y.1)).bind fun v => match v with
    | true => (borrow c y.2 (ev Γ c y.2)).bind fun z => (R.of (cmpV op' y.1 z.1)).bind fun w => .got ((.bl w, false), z.2)
    | false => .got ((.bl false, false), y.2)
  | .call f es, ρ => (evAs Γ (Γ.stab f) es ρ).bind fun z => (Γ.den f (z.1.map (·.1))).bind fun y => .got (y.1, giveR (z.1.map (·.2)) y.2 z.2)
  | .bi b es, ρ => (evBs Γ es ρ).bind fun z => (R.of (biV b z.1)).bind fun v => .got (v, z.2)
  | .isi a t, ρ => (borrow a ρ (ev Γ a ρ)).bind fun x => .got ((.bl (isTy x.1 t), false), x.2)
  | .isis a ts, ρ => (borrow a ρ (ev Γ a ρ)).bind fun x => .got ((.bl (ts.any (isTy x.1)), false), x.2)
  | .ix a b, ρ => (borrow a ρ (ev Γ a ρ)).bind fun x => (ev Γ b x.2).bind fun y => (R.of (ixW x.1 y.1.1)).bind fun v => .got ((v, false), y.2)
  | .nop, ρ => .bad
  | .sl a lo hi, ρ => (borrow a ρ (ev Γ a ρ)).bind fun x => (partR lo x.2 (ev Γ lo x.2)).bind fun l => (partR hi l.2 (ev Γ hi l.2)).bind fun h => (R.of (slV x.1 l.1 h.1)).bind fun v => .got (v, h.2)
  | .rev a, ρ => (borrow a ρ (ev Γ a ρ)).bind fun x => (R.of (revV x.1)).bind fun v => .got (v, x.2)
  | .tup es, ρ => (evs Γ es ρ).bind fun z => if z.1.length ≤ sizeLine then .got ((.tup z.1, false), z.2) else .bad
  | .lst es, ρ => (evs Γ es ρ).bind fun z => if z.1.length ≤ sizeLine then .got ((.lst z.1, true), z.2) else .bad
  | .lc elt tg it c own, ρ => (ev Γ it ρ).bind fun z => (R.of (itemsV z.1.1)).bind fun items => if sizeLine < items.length then .bad else
      (loopL (fun x ρ => turnR Γ tg own x ρ (fun ρ1 => condR c ρ1 (ev Γ c ρ1)) (fun ρ1 => ev Γ elt ρ1)) items z.2).bind fun y => .got ((.lst y.1, true), y.2)
  | .lc2 elt tg it c tg' it' c' own own', ρ => .bad
  | .rng1 a, ρ => (ev Γ a ρ).bind fun x => match x.1.1 with
    | .int n => if rngOk n then .got ((.lst (rngL 0 n.toNat), false), x.2) else .bad
    | _ => .bad
  | .rng2 a b, ρ => (ev Γ a ρ).bind fun x => (ev Γ b x.2).bind fun y => match x.1.1, y.1.1 with
    | .int m, .int n => if rngOk m && rngOk n then .got ((.lst (rngL m (n - m).toNat), false), y.2) else .bad
    | _, _ => .bad
  | .rng3 a b c, ρ => .bad
  | .enum a, ρ => (ev Γ a ρ).bind fun x => match x.1.1 with
    | .lst xs => .got ((.lst (enumL 0 xs), false), x.2)
    | _ => .bad
  | .disp ks es, ρ => (evs Γ es ρ).bind fun z => if ks.length = z.1.length ∧ ks.length ≤ 15 then .got ((.dic (mergeD [] [] (ks.zip z.1)).1 (mergeD [] [] (ks.zip z.1)).2, true), z.2) else .bad
  | .get d k v, ρ => (borrow d ρ (ev Γ d ρ)).bind fun x => (R.of (dicOf x.1)).bind fun kv => (ev Γ k x.2).bind fun y => (ev Γ v y.2).bind fun z => (R.of (keyV y.1.1)).bind fun k => .got (((lookK kv.1 kv.2 k).getD z.1.1, false), z.2)
  | .lcK elt tg i c own, ρ => (keysR ρ i).bind fun z => if sizeLine < z.1.length then .bad else
      ((loopL (fun x ρ => turnR Γ tg own x ρ (fun ρ1 => condR c ρ1 (ev Γ c ρ1)) (fun ρ1 => ev Γ elt ρ1)) z.1 z.2).hush).bind fun y => .got ((.lst y.1, true), y.2)
  | .items d, ρ => .bad
  | .val a, ρ => ev Γ a ρ
  | .zip a b, ρ => (ev Γ a ρ).bind fun x => (ev Γ b x.2).bind fun y => (R.of (itemsV x.1.1)).bind fun xs => (R.of (itemsV y.1.1)).bind fun ys => .got ((.lst (zipL xs ys), false), y.2)
/-- values one after another -/
def evs (Γ : Env') : List E → Ro → R (List Val × Ro)
  | [], ρ => .got ([], ρ)
  | e :: es, ρ => (ev Γ e ρ).bind fun x => (evs Γ es x.2).bind fun y => .got (x.1.1 :: y.1, y.2)
/-- .. read now -/
def evBs (Γ : Env') : List E → Ro → R (List Val × Ro)
  | [], ρ => .got ([], ρ)
  | e :: es, ρ => (borrow e ρ (ev Γ e ρ)).bind fun x => (evBs Γ es x.2).bind fun y => .got (x.1 :: y.1, y.2)
/-- a call's arguments -/
def evAs (Γ : Env') (sts : List Bool) : List E → Ro → R (List (Sl × Option Nat) × Ro)
  | [], ρ => .got ([], ρ)
  | e :: es, ρ => (match lateA (sts.headD false) e ρ with
    | some i => (evAs Γ sts.tail es ρ).bind (takeA i)
    | none => (passA (sts.headD false) e ρ (ev Γ e ρ)).bind fun x => (evAs Γ sts.tail es x.2).bind fun y => .got (x.1 :: y.1, y.2))
end
end EV
set_option Elab.async false
set_option linter.all false
set_option maxRecDepth 100000
set_option maxHeartbeats 1000000
/-! What it means that the slots stand for a frame, and that an evaluation was followed. -/
namespace EV
open PySem L2

def SltR (K : PySem.W.Frag) (F : Addr → Prop) (H : Hp) : Sl → Option V → Prop
  | .no, _ => True
  | .fz v, x => ∃ y, x = some y ∧ VR K F H v y
  | .ow v, x => ∃ a, x = some (.ref a) ∧ ¬ F a ∧ OwnAt K F H a v
/-- the addresses of the frame's own lists -/
def Own (ρ : Ro) (σ : St) (a : Addr) : Prop := ∃ (i : Nat) (v : Val), ρ[i]? = some (Sl.ow v) ∧ σ[i]? = some (some (V.ref a))
structure SR (K : PySem.W.Frag) (F : Addr → Prop) (H : Hp) (ρ : Ro) (σ : St) : Prop where
  len : ρ.length = σ.length
  slot : ∀ (i : Nat) (s : Sl) (o : Option V), ρ[i]? = some s → σ[i]? = some o → SltR K F H s o
  dist : ∀ (i j : Nat) (v w : Val) (a : Addr), ρ[i]? = some (Sl.ow v) → ρ[j]? = some (Sl.ow w) → σ[i]? = some (some (V.ref a)) → σ[j]? = some (some (V.ref a)) → i = j
  ft : ∀ a, F a → ∃ o, H a = some o
section
variable {K : PySem.W.Frag} {F F' F'' : Addr → Prop} {H H' H'' : Hp} {ρ ρ' ρ'' : Ro} {σ : St}
theorem SR.at (S : SR K F H ρ σ) {i : Nat} {s : Sl} (e : ρ[i]? = some s) : ∃ o, σ[i]? = some o ∧ SltR K F H s o := by
  have h1 : i < σ.length := by rw [← S.len]; exact (List.getElem?_eq_some_iff.mp e).1
  exact ⟨σ[i], List.getElem?_eq_getElem h1, S.slot i s _ e (List.getElem?_eq_getElem h1)⟩
theorem SR.own (S : SR K F H ρ σ) {a : Addr} (h : Own ρ σ a) : ¬ F a ∧ ∃ v, OwnAt K F H a v := by
  obtain ⟨i, v, e1, e2⟩ := h
  obtain ⟨b, e3, nf, ow⟩ := S.slot i _ _ e1 e2
  cases e3
  exact ⟨nf, v, ow⟩
theorem OwnAt.kind {a : Addr} {v : Val} (h : OwnAt K F H a v) : (∃ xs, H a = some (HO.lst xs)) ∨ ∃ kvs, H a = some (HO.dK kvs) := by
  cases v with
  | lst vs => obtain ⟨xs, q, _⟩ := h; exact .inl ⟨xs, q⟩
  | dic ks vs => obtain ⟨xs, q, _⟩ := h; exact .inr ⟨_, q⟩
  | _ => exact (show False from h).elim
theorem SR.mono (S : SR K F H ρ σ) (e : Ext (Own ρ σ) F F' H H') : Mono F F' H H' where
  fz := fun a f => by
    obtain ⟨o, h⟩ := S.ft a f
    exact ⟨e.sub a f, by rw [h]; exact e.keep a o h fun z => (S.own z).1 f⟩
  tp := fun a xs h => e.keep a _ h fun z => by
    obtain ⟨_, v, w⟩ := S.own z
    rcases w.kind with ⟨ys, q⟩ | ⟨ys, q⟩ <;> (rw [h] at q; cases q)
  fr := fun a o u h => e.keep a _ h fun z => by
    obtain ⟨_, v, w⟩ := S.own z
    rcases w.kind with ⟨ys, q⟩ | ⟨ys, q⟩ <;> (rw [h] at q; cases q)
def SameH (H H' : Hp) : Prop := ∀ b o, H b = some o → H' b = some o
/-- from the slots ρ and (F, H) to ρ' and (F', H'), the frame's values being σ; m: own lists may have been written -/
structure Go (K : PySem.W.Frag) (m : Bool) (ρ ρ' : Ro) (σ : St) (F F' : Addr → Prop) (H H' : Hp) : Prop where
  ext : Ext (Own ρ σ) F F' H H'
  sr : SR K F' H' ρ' σ
  own : ∀ a, Own ρ' σ a → Own ρ σ a
  same : m = false → SameH H H'
theorem Go.refl (m : Bool) (S : SR K F H ρ σ) : Go K m ρ ρ σ F F H H := ⟨.refl _ _ _, S, fun _ h => h, fun _ _ _ h => h⟩
theorem Go.trans {m m' : Bool} (g : Go K m ρ ρ' σ F F' H H') (g' : Go K m' ρ' ρ'' σ F' F'' H' H'') : Go K (m || m') ρ ρ'' σ F F'' H H'' :=
  ⟨g.ext.trans g'.ext fun a h => .inl (g.own a h), g'.sr, fun a h => g.own a (g'.own a h), fun e => by
    obtain ⟨e1, e2⟩ := Bool.or_eq_false_iff.mp e
    exact fun b o h => g'.same e2 b o (g.same e1 b o h)⟩
theorem Go.up {m m' : Bool} (g : Go K m ρ ρ' σ F F' H H') (h : m' = false → m = false) : Go K m' ρ ρ' σ F F' H H' := ⟨g.ext, g.sr, g.own, fun e => g.same (h e)⟩
/-- all that was there is there -/
structure Gr (F F' : Addr → Prop) (H H' : Hp) : Prop where
  ext : Ext (fun _ => False) F F' H H'
theorem Gr.refl (F : Addr → Prop) (H : Hp) : Gr F F H H := ⟨.refl _ _ _⟩
theorem Gr.same (g : Gr F F' H H') : SameH H H' := fun b o h => g.ext.keep b o h fun z => z
theorem Gr.mono (g : Gr F F' H H') (t : ∀ a, F a → ∃ o, H a = some o) : Mono F F' H H' :=
  ⟨fun a f => by obtain ⟨o, h⟩ := t a f; exact ⟨g.ext.sub a f, by rw [h]; exact g.same a o h⟩, fun a xs h => g.same a _ h, fun a o u h => g.same a _ h⟩
theorem SR.gr (S : SR K F H ρ σ) (g : Gr F F' H H') : SR K F' H' ρ σ := by
  have m := g.mono S.ft
  refine ⟨S.len, fun i s o e1 e2 => ?_, S.dist, g.ext.tr S.ft⟩
  have q := S.slot i s o e1 e2
  cases s with
  | no => trivial
  | fz v => obtain ⟨y, e, r⟩ := q; exact ⟨y, e, VR.mono m v r⟩
  | ow v =>
    obtain ⟨a, e, nf, w⟩ := q
    have hk : ∃ u, H a = some u := by rcases w.kind with ⟨ys, z⟩ | ⟨ys, z⟩ <;> exact ⟨_, z⟩
    obtain ⟨u, hu⟩ := hk
    refine ⟨a, e, fun f => ?_, w.mono m (by rw [hu]; exact g.same a u hu)⟩
    rcases g.ext.new a f with z | z | z
    · exact nf z
    · rw [hu] at z; cases z
    · exact z
theorem Go.gr (S : SR K F H ρ σ) (m : Bool) (g : Gr F F' H H') : Go K m ρ ρ σ F F' H H' := ⟨g.ext.wide fun _ h => h.elim, S.gr g, fun _ h => h, fun _ => g.same⟩
/-- what came of an expression: a new list or dict that is nobody else's, or a value -/
def RX (K : PySem.W.Frag) (F' : Addr → Prop) (H' H : Hp) (v : Val) : Bool → V → Prop
  | true, x => ∃ a, x = .ref a ∧ ¬ F' a ∧ H a = none ∧ OwnAt K F' H' a v
  | false, x => VR K F' H' v x
theorem RX.br {v : Val} {b : Bool} {x : V} (h : RX K F' H' H v b x) : BR K F' H' v x := by
  cases b with
  | true => obtain ⟨a, e, _, _, w⟩ := h; exact .inr ⟨a, e, w⟩
  | false => exact .inl h
theorem SR.ownSome (S : SR K F H ρ σ) {a : Addr} (h : Own ρ σ a) : H a ≠ none := fun q => by
  obtain ⟨_, v, w⟩ := S.own h
  rcases w.kind with ⟨ys, z⟩ | ⟨ys, z⟩ <;> (rw [q] at z; cases z)
theorem Go.sub {m : Bool} (g : Go K m ρ ρ' σ F F' H H') : ∀ a, F a → F' a := g.ext.sub
/-- an address is locked -/
theorem SR.lock (S : SR K F H ρ σ) {a : Addr} (no : ¬ Own ρ σ a) (hk : ∃ u, H a = some u) : SR K (fun b => F b ∨ b = a) H ρ σ := by
  have mm : Mono F (fun b => F b ∨ b = a) H H := ⟨fun b f => ⟨.inl f, rfl⟩, fun _ _ h => h, fun _ _ _ h => h⟩
  refine ⟨S.len, fun i s o e1 e2 => ?_, S.dist, fun b f => f.elim (S.ft b) fun e => by rw [e]; exact hk⟩
  have q := S.slot i s o e1 e2
  cases s with
  | no => trivial
  | fz v => obtain ⟨y, e, r⟩ := q; exact ⟨y, e, VR.mono mm v r⟩
  | ow v =>
    obtain ⟨b, e, nf, w⟩ := q
    refine ⟨b, e, fun f => f.elim nf fun z => no ⟨i, v, e1, ?_⟩, w.mono mm rfl⟩
    rw [e2, e, z]
theorem OwnAt.vr {a : Addr} {v : Val} (h : OwnAt K F H a v) : VR K (fun b => F b ∨ b = a) H v (.ref a) := by
  have mm : Mono F (fun b => F b ∨ b = a) H H := ⟨fun b f => ⟨.inl f, rfl⟩, fun _ _ h => h, fun _ _ _ h => h⟩
  cases v with
  | lst vs => obtain ⟨xs, q, r⟩ := h; exact ⟨a, xs, rfl, .inr rfl, q, VRs.mono mm vs r⟩
  | dic ks vs => obtain ⟨xs, q, l, r⟩ := h; exact ⟨a, xs, rfl, .inr rfl, .inl q, l, VRs.mono mm vs r⟩
  | _ => exact (show False from h).elim
/-- nobody will write it any more -/
theorem RX.lock {m : Bool} {v : Val} {b : Bool} {x : V} (S : SR K F H ρ σ) (g : Go K m ρ ρ' σ F F' H H') (h : RX K F' H' H v b x) : ∃ F'', Go K m ρ ρ' σ F F'' H H' ∧ VR K F'' H' v x ∧ Mono F' F'' H' H' := by
  cases b with
  | false => exact ⟨F', g, h, Mono.refl _ _⟩
  | true =>
    obtain ⟨a, rfl, nf, hn, w⟩ := h
    have hk : ∃ u, H' a = some u := by rcases w.kind with ⟨ys, z⟩ | ⟨ys, z⟩ <;> exact ⟨_, z⟩
    have no : ¬ Own ρ' σ a := fun z => S.ownSome (g.own a z) hn
    refine ⟨fun b => F' b ∨ b = a, ⟨⟨g.ext.keep, g.ext.old, fun b f => .inl (g.ext.sub b f), fun b f => f.elim (g.ext.new b) fun e => .inr (.inl (by rw [e]; exact hn)), fun t b f => f.elim (g.ext.tr t b) fun e => by rw [e]; exact hk⟩, g.sr.lock no hk, g.own, g.same⟩, w.vr, ⟨fun b f => ⟨.inl f, rfl⟩, fun _ _ h => h, fun _ _ _ h => h⟩⟩
end
end EV
set_option Elab.async false
set_option linter.all false
set_option maxRecDepth 100000
set_option maxHeartbeats 1000000
/-! Readings by the evaluator. -/
namespace EV
open PySem L2

mutual
/-- may the expression write the frame's own lists -/
def mutE : E → Bool
  | .call _ _ => true
  | .lc _ _ _ _ _ => true
  | .lc2 _ _ _ _ _ _ _ _ _ => true
  | .bin _ a b => mutE a || mutE b
  | .neg a => mutE a
  | .not a => mutE a
  | .and a b => mutE a || mutE b
  | .or a b => mutE a || mutE b
  | .one a => mutE a
  | .ife c a b => mutE c || (mutE a || mutE b)
  | .cmp _ a b => mutE a || mutE b
  | .chain _ _ a b c => mutE a || (mutE b || mutE c)
  | .bi _ es => mutEs es
  | .isi a _ => mutE a
  | .isis a _ => mutE a
  | .ix a b => mutE a || mutE b
  | .sl a lo hi => mutE a || (mutE lo || mutE hi)
  | .rev a => mutE a
  | .tup es => mutEs es
  | .lst es => mutEs es
  | .rng1 a => mutE a
  | .rng2 a b => mutE a || mutE b
  | .rng3 a b c => mutE a || (mutE b || mutE c)
  | .enum a => mutE a
  | .zip a b => mutE a || mutE b
  | .disp _ es => mutEs es
  | .get d k v => mutE d || (mutE k || mutE v)
  | .lcK _ _ _ _ _ => true
  | .items d => mutE d
  | .val a => mutE a
  | _ => false
def mutEs : List E → Bool
  | [] => false
  | e :: es => mutE e || mutEs es
end
def isVar : E → Bool
  | .var _ => true
  | _ => false

/-- what is known of an exception's own dict -/
def XR (K : PySem.W.Frag) (p : Option Val) (d : Option Addr) (F' : Addr → Prop) (H' : Hp) : Prop := match p with
  | none => d = none
  | some v => ∃ dd x, d = some dd ∧ H' dd = some (.xd [("number", x)]) ∧ VR K F' H' v x
/-- r was followed from ρ, F, H on: then P, or W of an exception -/
def Res (K : PySem.W.Frag) (W : WX) (Cl : Nat → Addr) (m : Bool) (σ : St) (ρ : Ro) (F : Addr → Prop) (H : Hp) {α : Type} (r : R (α × Ro)) (P : α → Ro → (Addr → Prop) → Hp → Prop) : Prop := match r with
  | .got z => ∀ F' H', Go K m ρ z.2 σ F F' H H' → P z.1 z.2 F' H'
  | .ex c p => ∀ d F' H', Ext (Own ρ σ) F F' H H' → XR K p d F' H' → W (.ref (Cl c)) d σ H'
  | .bad => False
section
variable {K : PySem.W.Frag} {W : WX} {Cl : Nat → Addr} {m m' : Bool} {σ : St} {ρ : Ro} {F F' : Addr → Prop} {H H' : Hp} {α β : Type}
theorem Res.imp {r : R (α × Ro)} {P P' : α → Ro → (Addr → Prop) → Hp → Prop} (h : Res K W Cl m σ ρ F H r P) (hm : m' = true → m = true) (i : ∀ a ρ' F' H', Go K m' ρ ρ' σ F F' H H' → P a ρ' F' H' → P' a ρ' F' H') : Res K W Cl m' σ ρ F H r P' := by
  cases r with
  | got z => exact fun F' H' g => i _ _ _ _ g (h F' H' (g.up fun e => by cases m' with | false => rfl | true => rw [hm rfl] at e; cases e))
  | ex c p => exact h
  | bad => exact h
theorem Res.map {r : R (α × Ro)} {P P' : α → Ro → (Addr → Prop) → Hp → Prop} (h : Res K W Cl m σ ρ F H r P) (i : ∀ a ρ', (∀ F' H', Go K m ρ ρ' σ F F' H H' → P a ρ' F' H') → ∀ F' H', Go K m ρ ρ' σ F F' H H' → P' a ρ' F' H') : Res K W Cl m σ ρ F H r P' := by
  cases r with
  | got z => exact i _ _ h
  | ex c p => exact h
  | bad => exact h
theorem Res.bind {r : R (α × Ro)} {f : α × Ro → R (β × Ro)} {P : β → Ro → (Addr → Prop) → Hp → Prop} (h : Res K W Cl (m || m') σ ρ F H (r.bind f) P) :
    Res K W Cl m σ ρ F H r fun a ρ1 F1 H1 => Res K W Cl m' σ ρ1 F1 H1 (f (a, ρ1)) P := by
  cases r with
  | got z =>
    intro F1 H1 g
    have h : Res K W Cl (m || m') σ ρ F H (f z) P := h
    show Res K W Cl m' σ z.2 F1 H1 (f z) P
    cases e : f z with
    | got y =>
      rw [e] at h
      exact fun F2 H2 g2 => h F2 H2 (g.trans g2)
    | ex c p =>
      rw [e] at h
      exact fun d F2 H2 x q => h d F2 H2 (g.ext.trans x fun a o => .inl (g.own a o)) q
    | bad => rw [e] at h; exact h
  | ex c p => exact h
  | bad => exact h
theorem Res.bind1 {r : R (α × Ro)} {f : α × Ro → R (β × Ro)} {P : β → Ro → (Addr → Prop) → Hp → Prop} (h : Res K W Cl m σ ρ F H (r.bind f) P) :
    Res K W Cl m σ ρ F H r fun a ρ1 F1 H1 => Res K W Cl false σ ρ1 F1 H1 (f (a, ρ1)) P := Res.bind (by rw [Bool.or_false]; exact h)
/-- a step without code of its own -/
theorem Res.pure {a : α} {P : α → Ro → (Addr → Prop) → Hp → Prop} (S : SR K F H ρ σ) (h : Res K W Cl m σ ρ F H (.got (a, ρ)) P) (g : Gr F F' H H') : P a ρ F' H' := h F' H' (Go.gr S m g)
theorem Res.eq {r : R (α × Ro)} {P : α → Ro → (Addr → Prop) → Hp → Prop} (h : Res K W Cl m σ ρ F H r P) : Res K W Cl m σ ρ F H r fun a ρ' F' H' => r = .got (a, ρ') ∧ P a ρ' F' H' := by
  cases r with
  | got z => exact fun F' H' g => ⟨rfl, h F' H' g⟩
  | ex c p => exact h
  | bad => exact h
theorem Res.of {o : Option α} {f : α → R (β × Ro)} {P : β → Ro → (Addr → Prop) → Hp → Prop} (h : Res K W Cl m σ ρ F H ((R.of o).bind f) P) : ∃ a, o = some a ∧ Res K W Cl m σ ρ F H (f a) P := by
  cases o with
  | none => exact (show False from h).elim
  | some a => exact ⟨a, rfl, h⟩
/-- borrowed: a value, or a list that stands at a; if it is not a name's it is none of the frame's own -/
def BX (K : PySem.W.Frag) (F : Addr → Prop) (H : Hp) (ρ : Ro) (σ : St) (n : Bool) (v : Val) (x : V) : Prop :=
  VR K F H v x ∨ ∃ a, x = .ref a ∧ OwnAt K F H a v ∧ (n = true ∨ ¬ Own ρ σ a)
theorem BX.br {n : Bool} {v : Val} {x : V} (h : BX K F H ρ σ n v x) : BR K F H v x := h.imp id fun ⟨a, e, w, _⟩ => ⟨a, e, w⟩
theorem BX.later {n : Bool} {v : Val} {x : V} {ρ' : Ro} (S : SR K F H ρ σ) (h : BX K F H ρ σ n v x) (g : Go K m ρ ρ' σ F F' H H') (hm : n = true → m = false) : BX K F' H' ρ' σ n v x := by
  have mm := S.mono g.ext
  rcases h with h | ⟨a, e, w, k⟩
  · exact .inl (VR.mono mm v h)
  · refine .inr ⟨a, e, w.mono mm ?_, k.imp id fun no z => no (g.own a z)⟩
    have hk : ∃ u, H a = some u := by rcases w.kind with ⟨ys, z⟩ | ⟨ys, z⟩ <;> exact ⟨_, z⟩
    obtain ⟨u, hu⟩ := hk
    rw [hu]
    rcases k with k | k
    · exact g.same (hm k) a u hu
    · exact g.ext.keep a u hu k
end

theorem RX.back {H0 : Hp} {v : Val} {b : Bool} {x : V} (h : RX K F' H' H v b x) (f : ∀ a, H a = none → H0 a = none) : RX K F' H' H0 v b x := by
  cases b with
  | false => exact h
  | true =>
    obtain ⟨ad, e1, e2, e3, e4⟩ := h
    exact ⟨ad, e1, e2, f ad e3, e4⟩
/-- what is wanted behind an expression, a test -/
abbrev PQ (K : PySem.W.Frag) (H : Hp) (Q : VK) : Val × Bool → Ro → (Addr → Prop) → Hp → Prop := fun z _ F' H' => ∀ x, RX K F' H' H z.1 z.2 x → Q x H'
abbrev PB (Q : Bool → Hp → Prop) : Bool → Ro → (Addr → Prop) → Hp → Prop := fun b _ _ H' => Q b H'
theorem Res.toH {H0 : Hp} {r : RV} {Q : VK} (h : Res K W Cl m σ ρ F H r (PQ K H0 Q)) (f : ∀ a, H a = none → H0 a = none) (hm : m' = true → m = true) : Res K W Cl m' σ ρ F H r (PQ K H Q) :=
  h.imp hm fun _ _ _ _ _ p x r => p x (r.back f)
section
variable (X : Cx) (W : WX) (Cl : Nat → Addr) (Γ : Env')
def TEv (e : E) : TE := fun σ H Q => ∃ ρ F, SR X.K F H ρ σ ∧ Res X.K W Cl (mutE e) σ ρ F H (ev Γ e ρ) (PQ X.K H Q)
def TVv (e : E) : TE := fun σ H Q => ∃ ρ F, SR X.K F H ρ σ ∧ Res X.K W Cl (mutE e) σ ρ F H (ev Γ e ρ) fun z _ F' H' => ∀ x, VR X.K F' H' z.1 x → Q x H'
def TBv (e : E) : TE := fun σ H Q => ∃ ρ F, SR X.K F H ρ σ ∧ Res X.K W Cl (mutE e) σ ρ F H (borrow e ρ (ev Γ e ρ)) fun v ρ' F' H' => ∀ x, BX X.K F' H' ρ' σ (isVar e) v x → Q x H'
def TTv (e : E) : TT := fun σ H Q => ∃ ρ F, SR X.K F H ρ σ ∧ Res X.K W Cl (mutE e) σ ρ F H (testR (ev Γ e ρ)) (PB Q)
end
theorem PE.imp {X : Cx} {e : Expr} {t t' : TE} (h : PE X e t) (i : ∀ σ H Q, t' σ H Q → t σ H Q) : PE X e t' := ⟨fun pins s σ H Q I q => h.run pins s σ H Q I (i σ H Q q)⟩
theorem PT.imp {X : Cx} {e : Expr} {t t' : TT} (h : PT X e t) (i : ∀ σ H Q, t' σ H Q → t σ H Q) : PT X e t' := ⟨fun pins s σ H Q I q => h.run pins s σ H Q I (i σ H Q q)⟩
theorem PA.imp {X : Cx} {e : List Expr} {t t' : TA} (h : PA X e t) (i : ∀ σ H Q, t' σ H Q → t σ H Q) : PA X e t' := ⟨fun pos pins s σ H Q I q => h.run pos pins s σ H Q I (i σ H Q q)⟩
section
variable {X : Cx} {W : WX} {Cl : Nat → Addr} {Γ : Env'} {e : E} {a : Expr}
theorem pe_val (h : PE X a (TEv X W Cl Γ e)) : PE X a (TVv X W Cl Γ e) := PE.imp h fun σ H Q ⟨ρ, F, S, q⟩ => ⟨ρ, F, S, q.map fun z ρ' p F' H' g x r => by
  obtain ⟨F'', g2, r2, _⟩ := r.lock S g
  exact p F'' H' g2 x r2⟩
theorem pe_bor (h : PE X a (TEv X W Cl Γ e)) (hn : isVar e = false) : PE X a (TBv X W Cl Γ e) := PE.imp h fun σ H Q ⟨ρ, F, S, q⟩ => ⟨ρ, F, S, by
  have eb : ∀ r : RV, borrow e ρ r = r.bind fun z => .got (z.1.1, z.2) := fun r => by
    cases e <;> first | rfl | cases hn
  rw [eb] at q
  have q2 := Res.bind (m := mutE e) (m' := false) (by rw [Bool.or_false]; exact q)
  refine q2.imp id fun z ρ' F' H' g p x r => ?_
  refine Res.pure g.sr p (Gr.refl _ _) x ?_
  cases hz : z.2 with
  | false => rw [hz] at r; exact .inl r
  | true =>
    rw [hz] at r
    obtain ⟨a, e1, nf, hn, w⟩ := r
    exact .inr ⟨a, e1, w, .inr fun o => S.ownSome (g.own a o) hn⟩⟩
/-- a local name, read now -/
theorem pe_borV {i : Nat} (h : PE X a (tVar i)) : PE X a (TBv X W Cl Γ (.var i)) := PE.imp h fun σ H Q ⟨ρ, F, S, q⟩ => by
  have q : Res X.K W Cl false σ ρ F H (rdB ρ i) _ := q
  unfold rdB at q
  cases hs : ρ[i]? with
  | none => rw [hs] at q; exact q.elim
  | some s =>
    obtain ⟨o, e, r⟩ := S.at hs
    rw [hs] at q
    cases s with
    | no => exact q.elim
    | fz v =>
      obtain ⟨y, e2, r⟩ := r
      exact ⟨y, by rw [e, e2], q F H (Go.refl _ S) y (.inl r)⟩
    | ow v =>
      obtain ⟨b, e2, nf, w⟩ := r
      exact ⟨.ref b, by rw [e, e2], q F H (Go.refl _ S) _ (.inr ⟨b, rfl, w, .inl rfl⟩)⟩
/-- .. as a value: locked from here on -/
theorem set_own {ρ : Ro} {σ : St} {i : Nat} {v : Val} {s : Sl} (hs : ∀ w, s ≠ .ow w) {b : Addr} (h : Own (ρ.set i s) σ b) : ∃ j w, j ≠ i ∧ ρ[j]? = some (Sl.ow w) ∧ σ[j]? = some (some (V.ref b)) := by
  obtain ⟨j, w, e1, e2⟩ := h
  by_cases hj : j = i
  · subst hj
    by_cases hl : j < ρ.length
    · rw [List.getElem?_set_self hl] at e1
      exact absurd (Option.some.inj e1) (hs w)
    · rw [List.getElem?_eq_none (by simpa using hl)] at e1; cases e1
  · rw [List.getElem?_set_ne (Ne.symm hj)] at e1
    exact ⟨j, w, hj, e1, e2⟩
theorem lock_slot {K : PySem.W.Frag} {ρ : Ro} {σ : St} {F : Addr → Prop} {H : Hp} {i : Nat} {v : Val} {b : Addr} (S : SR K F H ρ σ) (hs : ρ[i]? = some (Sl.ow v)) (hb : σ[i]? = some (some (V.ref b))) :
    Go K false ρ (ρ.set i (.fz v)) σ F (fun a => F a ∨ a = b) H H ∧ VR K (fun a => F a ∨ a = b) H v (.ref b) := by
  have ob : Own ρ σ b := ⟨i, v, hs, hb⟩
  obtain ⟨nf, _⟩ := S.own ob
  obtain ⟨b', e3, _, w⟩ := S.slot i _ _ hs hb
  obtain rfl : b = b' := by cases e3; rfl
  have hk : ∃ u, H b = some u := by rcases w.kind with ⟨ys, z⟩ | ⟨ys, z⟩ <;> exact ⟨_, z⟩
  have il : i < ρ.length := (List.getElem?_eq_some_iff.mp hs).1
  have mm : Mono F (fun a => F a ∨ a = b) H H := ⟨fun a f => ⟨.inl f, rfl⟩, fun _ _ h => h, fun _ _ _ h => h⟩
  refine ⟨⟨⟨fun a o h _ => h, fun a o h => ⟨o, h⟩, fun a f => .inl f, fun a f => f.imp id fun e => .inr (by rw [e]; exact ob), fun t a f => f.elim (t a) fun e => by rw [e]; exact hk⟩, ⟨by simpa using S.len, fun j s o e1 e2 => ?_, fun j k v1 v2 a h1 h2 h3 h4 => ?_, fun a f => f.elim (S.ft a) fun e => by rw [e]; exact hk⟩, fun a h => ?_, fun _ _ _ h => h⟩, w.vr⟩
  · by_cases hj : j = i
    · subst hj
      rw [List.getElem?_set_self il] at e1
      cases e1
      rw [hb] at e2; cases e2
      exact ⟨_, rfl, w.vr⟩
    · rw [List.getElem?_set_ne (Ne.symm hj)] at e1
      have q := S.slot j s o e1 e2
      cases s with
      | no => trivial
      | fz u => obtain ⟨y, e, r⟩ := q; exact ⟨y, e, VR.mono mm u r⟩
      | ow u =>
        obtain ⟨c, e, nf2, w2⟩ := q
        refine ⟨c, e, fun f => f.elim nf2 fun z => hj ?_, w2.mono mm rfl⟩
        exact S.dist j i _ _ b e1 hs (by rw [e2, e, z]) hb
  · obtain ⟨j', w1, n1, e1, e2⟩ := set_own (ρ := ρ) (i := i) (s := .fz v) (v := v) (fun w h => by cases h) ⟨j, v1, h1, h3⟩
    by_cases c1 : j = i
    · subst c1; rw [List.getElem?_set_self il] at h1; cases h1
    · by_cases c2 : k = i
      · subst c2; rw [List.getElem?_set_self il] at h2; cases h2
      · rw [List.getElem?_set_ne (Ne.symm c1)] at h1
        rw [List.getElem?_set_ne (Ne.symm c2)] at h2
        exact S.dist j k _ _ a h1 h2 h3 h4
  · obtain ⟨j, w1, _, e1, e2⟩ := set_own (v := v) (fun w h => by cases h) h
    exact ⟨j, w1, e1, e2⟩
theorem pe_var' {i : Nat} (h : PE X a (tVar i)) : PE X a (TEv X W Cl Γ (.var i)) := PE.imp h fun σ H Q ⟨ρ, F, S, q⟩ => by
  have q : Res X.K W Cl false σ ρ F H (rdV ρ i) _ := q
  unfold rdV at q
  cases hs : ρ[i]? with
  | none => rw [hs] at q; exact q.elim
  | some s =>
    obtain ⟨o, e, r⟩ := S.at hs
    rw [hs] at q
    cases s with
    | no => exact q.elim
    | fz v =>
      obtain ⟨y, e2, r⟩ := r
      exact ⟨y, by rw [e, e2], q F H (Go.refl _ S) y r⟩
    | ow v =>
      obtain ⟨b, e2, nf, w⟩ := r
      obtain ⟨g, r2⟩ := lock_slot S hs (by rw [e, e2])
      exact ⟨.ref b, by rw [e, e2], q _ H g _ r2⟩
/-- a value that wants no code -/
theorem pe_con' {v : Val} {y : V} (h : PE X a (tC y)) (he : ∀ ρ, ev Γ e ρ = .got ((v, false), ρ)) (r : ∀ F H, VR X.K F H v y) : PE X a (TEv X W Cl Γ e) := PE.imp h fun σ H Q ⟨ρ, F, S, q⟩ => by
  rw [he] at q
  exact q F H (Go.refl _ S) y (r F H)
end
end EV
set_option Elab.async false
set_option linter.all false
set_option maxRecDepth 100000
set_option maxHeartbeats 1000000
/-! Operators, comparisons, built-in functions by trees. -/
namespace EV
open PySem L2
section
variable {X : Cx} {K : PySem.W.Frag} {F F' : Addr → Prop} {H H' : Hp}

/-! ### + - * // % ** -/
def opS : Op → Operator
  | .add => .Add | .sub => .Sub | .mul => .Mult | .fdiv => .FloorDiv | .mod => .Mod | .pow => .Pow
/-- every locked address is tracked -/
def Tr (F : Addr → Prop) (H : Hp) : Prop := ∀ a, F a → ∃ o, H a = some o
def rBin (K : PySem.W.Frag) (op : Op) : R2 := fun x y H Q => ∃ F v w u, Tr F H ∧ BR K F H v x ∧ BR K F H w y ∧ binV op v w = some u ∧ ∀ z F' H', Gr F F' H H' → RX K F' H' H u.1 u.2 z → Q z H'
theorem VRs.nil_iff {vs : List Val} {xs : List V} (r : VRs K F H vs xs) : vs = [] ↔ xs = [] := by
  have e := r.length
  constructor
  · intro h; subst h; exact List.length_eq_zero_iff.mp (by simpa using e.symm)
  · intro h; subst h; exact List.length_eq_zero_iff.mp (by simpa using e)
theorem VRs.rep {vs : List Val} {xs : List V} (r : VRs K F H vs xs) : ∀ n : Nat, VRs K F H (List.replicate n vs).flatten (List.replicate n xs).flatten
  | 0 => rfl
  | n + 1 => by
    rw [List.replicate_succ, List.replicate_succ, List.flatten_cons, List.flatten_cons]
    exact VRs.append r (VRs.rep r n)
/-- a new tuple -/
theorem new_tup {vs : List Val} {xs : List V} {Q : VK} (t : Tr F H) (r : VRs K F H vs xs) (q : ∀ z F' H', Gr F F' H H' → RX K F' H' H (.tup vs) false z → Q z H') : ∀ p, H p = none → Q (.ref p) (upd H p (.tup xs)) := fun p hp => by
  have g : Gr F F H (upd H p (.tup xs)) := ⟨Ext.laid _ F hp⟩
  exact q _ F _ g ⟨p, xs, rfl, .inl (.inl upd_same), VRs.mono (g.mono t) vs r⟩
/-- a new list, nobody else's -/
theorem new_lst {vs : List Val} {xs : List V} {Q : VK} (t : Tr F H) (r : VRs K F H vs xs) (q : ∀ z F' H', Gr F F' H H' → RX K F' H' H (.lst vs) true z → Q z H') : ∀ p, H p = none → Q (.ref p) (upd H p (.lst xs)) := fun p hp => by
  have g : Gr F F H (upd H p (.lst xs)) := ⟨Ext.laid _ F hp⟩
  exact q _ F _ g ⟨p, rfl, fun f => (by obtain ⟨o, h⟩ := t p f; rw [hp] at h; cases h), hp, xs, upd_same, VRs.mono (g.mono t) vs r⟩
theorem opr_bin (op : Op) : OpR X (binaryOp (opS op)) (rBin X.K op) := by
  intro pins s σ H x y v u Q I rx ry h
  obtain ⟨F, a, b, c, t, ra, rb, e, q⟩ := h
  have iq : ∀ i : Int, c = (.int i, false) → Q (.int i) H := fun i ec => q _ F H (Gr.refl _ _) (by rw [ec]; rfl)
  cases op with
  | add =>
    cases a with
    | int i =>
      cases b with
      | int j => exact op_add pins s σ H x y v u Q I rx ry ⟨i, j, ra.int, rb.int, iq _ (Option.some.inj e).symm⟩
      | _ => cases e
    | tup xs =>
      cases b with
      | tup ys =>
        have e : (if xs.length + ys.length ≤ sizeLine then some (Val.tup (xs ++ ys), false) else none) = some c := e
        split at e
        · rename_i hz
          cases e
          obtain ⟨p, ps, rfl, h1, r1⟩ := ra.tup
          obtain ⟨p2, ps2, rfl, h2, r2⟩ := rb.tup
          refine op_catA pins s σ H _ _ v u Q I rx ry ⟨p, p2, ps, ps2, rfl, rfl, h1, h2, by rw [← r1.length, ← r2.length]; exact hz, fun z => ?_, fun _ z => ?_, fun _ _ => new_tup t (VRs.append r1 r2) q⟩
          · have e0 := r1.nil_iff.mpr z
            subst e0
            exact q _ F H (Gr.refl _ _) ⟨p2, ps2, rfl, h2, r2⟩
          · have e0 := r2.nil_iff.mpr z
            subst e0
            refine q _ F H (Gr.refl _ _) ⟨p, ps, rfl, h1, ?_⟩
            rw [List.append_nil]
            exact r1
        · cases e
      | _ => cases e
    | lst xs =>
      cases b with
      | lst ys =>
        have e : (if xs.length + ys.length ≤ sizeLine then some (Val.lst (xs ++ ys), true) else none) = some c := e
        split at e
        · rename_i hz
          cases e
          obtain ⟨p, ps, rfl, h1, r1⟩ := ra.lst
          obtain ⟨p2, ps2, rfl, h2, r2⟩ := rb.lst
          exact op_cat pins s σ H _ _ v u Q I rx ry ⟨p, p2, ps, ps2, rfl, rfl, h1, h2, by rw [← r1.length, ← r2.length]; exact hz, new_lst t (VRs.append r1 r2) q⟩
        · cases e
      | _ => cases e
    | _ => cases e
  | sub =>
    cases a with
    | int i =>
      cases b with
      | int j => exact op_sub pins s σ H x y v u Q I rx ry ⟨i, j, ra.int, rb.int, iq _ (Option.some.inj e).symm⟩
      | _ => cases e
    | _ => cases e
  | mul =>
    cases a with
    | int i =>
      cases b with
      | int j =>
        have e : (if mulOk i j = true then some (Val.int (i * j), false) else none) = some c := e
        split at e
        · rename_i hz
          have iq := iq _ (Option.some.inj e).symm
          unfold mulOk at hz
          rcases Bool.or_eq_true_iff.mp hz with h1 | h1
          · exact op_mul pins s σ H x y v u Q I rx ry ⟨i, j, ra.int, rb.int, .inl (of_decide_eq_true h1), iq⟩
          · rcases Bool.or_eq_true_iff.mp h1 with h1 | h1
            · exact op_mul pins s σ H x y v u Q I rx ry ⟨i, j, ra.int, rb.int, .inr (of_decide_eq_true h1), iq⟩
            · have h2 := of_decide_eq_true h1
              exact op_mulW pins s σ H x y v u Q I rx ry ⟨i, j, ra.int, rb.int, h2, iq⟩
        · cases e
      | _ => cases e
    | lst xs =>
      cases b with
      | int k =>
        have e : (if decide (-(2 ^ 63) ≤ k ∧ k < 2 ^ 63 ∧ xs.length * k.toNat ≤ sizeLine) = true then some (Val.lst (List.replicate k.toNat xs).flatten, true) else none) = some c := e
        split at e
        · rename_i hz
          cases e
          obtain ⟨z1, z2, z3⟩ := of_decide_eq_true hz
          obtain ⟨p, ps, rfl, h1, r1⟩ := ra.lst
          exact op_rep pins s σ H _ _ v u Q I rx ry ⟨p, k, ps, rfl, rb.int, h1, z1, z2, by rw [← r1.length]; exact z3, new_lst t (r1.rep _) q⟩
        · cases e
      | _ => cases e
    | _ => cases e
  | fdiv =>
    cases a with
    | int i =>
      cases b with
      | int j =>
        have e : (if divOk j = true then some (Val.int (i.fdiv j), false) else none) = some c := e
        split at e
        · rename_i hz
          have h2 := of_decide_eq_true hz
          exact op_fdivN pins s σ H x y v u Q I rx ry ⟨i, j, ra.int, rb.int, h2, iq _ (Option.some.inj e).symm⟩
        · cases e
      | _ => cases e
    | _ => cases e
  | mod =>
    cases a with
    | int i =>
      cases b with
      | int j =>
        have e : (if j = 0 then none else some (Val.int (i.fmod j), false)) = some c := e
        split at e
        · cases e
        · rename_i hz
          exact op_modN pins s σ H x y v u Q I rx ry ⟨i, j, ra.int, rb.int, hz, iq _ (Option.some.inj e).symm⟩
      | _ => cases e
    | _ => cases e
  | pow =>
    cases a with
    | int i =>
      cases b with
      | int j =>
        have e : (if powOk i j = true then some (Val.int (i ^ j.toNat), false) else none) = some c := e
        split at e
        · rename_i hz
          have h2 := of_decide_eq_true hz
          exact op_pow pins s σ H x y v u Q I rx ry ⟨i, j, ra.int, rb.int, h2, iq _ (Option.some.inj e).symm⟩
        · cases e
      | _ => cases e
    | _ => cases e

/-! ### comparisons -/
def cmS : Cm → CmpOp
  | .eq => .Eq | .ne => .NotEq | .lt => .Lt | .le => .LtE | .gt => .Gt | .ge => .GtE | .isN => .Is | .notN => .IsNot | .in_ => .In | .notin => .NotIn
def rCm (K : PySem.W.Frag) (op : Cm) : R2 := fun x y H Q => ∃ F v w b, BR K F H v x ∧ BR K F H w y ∧ cmpV op v w = some b ∧ Q (.bl b) H
mutual
theorem VR.dp : ∀ (v : Val) {x : V} {d : PyData}, VR K F H v x → toD v = some d → Dp K H x d
  | .non, x, d, r, e => by cases e; cases (show x = V.non from r); exact .non
  | .bl b, x, d, r, e => by cases e; cases (show x = V.bl b from r); exact .bl b
  | .int i, x, d, r, e => by cases e; cases (show x = V.int i from r); exact .int i
  | .str s, x, d, r, e => by cases e; cases (show x = V.str s from r); exact .str s
  | .tup vs, x, d, ⟨a, xs, ex, q, r⟩, e => by
    have e : (match toDs vs with | some ds => some (PyData.tuple ds) | none => none) = some d := e
    cases h : toDs vs with
    | none => rw [h] at e; cases e
    | some ds => rw [h] at e; cases e; subst ex; exact .tup q (VRs.dp vs r h)
  | .lst vs, x, d, ⟨a, xs, ex, f, q, r⟩, e => by
    have e : (match toDs vs with | some ds => some (PyData.list ds) | none => none) = some d := e
    cases h : toDs vs with
    | none => rw [h] at e; cases e
    | some ds => rw [h] at e; cases e; subst ex; exact .lst (.inl (.inl q)) (VRs.dp vs r h)
  | .dic _ _, _, _, _, e => by cases e
  | .scr _, _, _, _, e => by cases e
theorem VRs.dp : ∀ (vs : List Val) {xs : List V} {ds : List PyData}, VRs K F H vs xs → toDs vs = some ds → DpAll K H xs ds
  | [], xs, ds, r, e => by cases e; cases (show xs = [] from r); exact .nil
  | v :: vs, xs, ds, ⟨y, ys, ex, r, q⟩, e => by
    have e : (match toD v, toDs vs with | some d, some ds => some (d :: ds) | _, _ => none) = some ds := e
    cases h1 : toD v with
    | none => rw [h1] at e; cases e
    | some d1 =>
      cases h2 : toDs vs with
      | none => rw [h1, h2] at e; cases e
      | some ds1 => rw [h1, h2] at e; cases e; subst ex; exact .cons (VR.dp v r h1) (VRs.dp vs q h2)
end
theorem BR.dp {v : Val} {x : V} {d : PyData} (r : BR K F H v x) (e : dataV v = some d) : Dp K H x d ∧ SeqAt.shaped d = true := by
  unfold dataV at e
  cases h : toD v with
  | none => rw [h] at e; cases e
  | some d1 =>
    rw [h] at e
    have e : (if SeqAt.shaped d1 = true then some d1 else none) = some d := e
    split at e
    · rename_i hs
      cases e
      refine ⟨?_, hs⟩
      rcases r with r | ⟨a, ex, w⟩
      · exact VR.dp v r h
      · cases v with
        | lst vs =>
          obtain ⟨xs, q, r⟩ := w
          have h : (match toDs vs with | some ds => some (PyData.list ds) | none => none) = some d := h
          cases h3 : toDs vs with
          | none => rw [h3] at h; cases h
          | some ds => rw [h3] at h; cases h; subst ex; exact .lst (.inl (.inl q)) (VRs.dp vs r h3)
        | _ => first | exact (show False from w).elim | cases h
    · cases e
theorem eqV_some {v w : Val} {b : Bool} (e : eqV v w = some b) : ∃ d d', dataV v = some d ∧ dataV w = some d' ∧ b = PyData.eqv d d' := by
  unfold eqV at e
  cases h1 : dataV v with
  | none => rw [h1] at e; cases e
  | some d =>
    cases h2 : dataV w with
    | none => rw [h1, h2] at e; cases e
    | some d' => rw [h1, h2] at e; cases e; exact ⟨d, d', rfl, rfl, rfl⟩
theorem inVal_some {v w : Val} {b : Bool} (e : inVal v w = some b) : ∃ d ds, dataV v = some d ∧ (dataV w = some (.list ds) ∨ dataV w = some (.tuple ds)) ∧ b = ds.any fun z => PyData.eqv z d := by
  unfold inVal at e
  cases h1 : dataV v with
  | none => rw [h1] at e; cases e
  | some d =>
    cases h2 : dataV w with
    | none => rw [h1, h2] at e; cases e
    | some d' =>
      rw [h1, h2] at e
      cases d' with
      | list ds => cases e; exact ⟨d, ds, rfl, .inl rfl, rfl⟩
      | tuple ds => cases e; exact ⟨d, ds, rfl, .inr rfl, rfl⟩
      | _ => cases e
theorem shaped_room {A : Around} {d : PyData} {ds : List PyData} (sd : SeqAt.shaped d = true) (hu : A.units + 65 < cLine) : A.units + 1 + min (PyData.depthAll ds) d.depth < cLine := by
  have h1 := SeqAt.depth_of_shaped sd
  have h2 := Nat.min_le_right (PyData.depthAll ds) d.depth
  omega
theorem isN_of {v : Val} {x : V} (r : BR K F H v x) : decide (x = .non) = v.isNon := by
  cases v with
  | non => rw [r.non]; rfl
  | bl b => rw [r.bl]; rfl
  | int i => rw [r.int]; rfl
  | str i => rw [r.str]; rfl
  | tup vs => obtain ⟨a, xs, e, _⟩ := r.tup; rw [e]; rfl
  | lst vs => obtain ⟨a, xs, e, _⟩ := r.lst; rw [e]; rfl
  | dic ks vs => obtain ⟨a, xs, e, _⟩ := r.dic; rw [e]; rfl
  | scr vs =>
    rcases r with ⟨a, xs, e, _⟩ | ⟨a, e, w⟩
    · rw [e]; rfl
    · rw [e]; rfl
theorem opr_cm (hu : X.A.units + 65 < cLine) (op : Cm) : OpR X (compareOp (cmS op)) (rCm X.K op) := by
  intro pins s σ H x y v u Q I rx ry h
  obtain ⟨F, a, b, c, ra, rb, e, q⟩ := h
  have hu2 : X.A.units + 64 < cLine := by omega
  cases op with
  | eq =>
    obtain ⟨d, d', e1, e2, rfl⟩ := eqV_some e
    exact op_eqD hu2 pins s σ H x y v u Q I rx ry ⟨d, d', (ra.dp e1).1, (rb.dp e2).1, (ra.dp e1).2, (rb.dp e2).2, q⟩
  | ne =>
    have e : (eqV a b).map (fun z => !z) = some c := e
    cases h : eqV a b with
    | none => rw [h] at e; cases e
    | some z =>
      rw [h] at e
      cases e
      obtain ⟨d, d', e1, e2, rfl⟩ := eqV_some h
      exact op_neD hu2 pins s σ H x y v u Q I rx ry ⟨d, d', (ra.dp e1).1, (rb.dp e2).1, (ra.dp e1).2, (rb.dp e2).2, q⟩
  | lt =>
    cases a with
    | int i => cases b with
      | int j => cases e; exact op_lt pins s σ H x y v u Q I rx ry ⟨i, j, ra.int, rb.int, q⟩
      | _ => cases e
    | _ => cases e
  | le =>
    cases a with
    | int i => cases b with
      | int j => cases e; exact op_le pins s σ H x y v u Q I rx ry ⟨i, j, ra.int, rb.int, q⟩
      | _ => cases e
    | _ => cases e
  | gt =>
    cases a with
    | int i => cases b with
      | int j => cases e; exact op_gt pins s σ H x y v u Q I rx ry ⟨i, j, ra.int, rb.int, q⟩
      | _ => cases e
    | _ => cases e
  | ge =>
    cases a with
    | int i => cases b with
      | int j => cases e; exact op_ge pins s σ H x y v u Q I rx ry ⟨i, j, ra.int, rb.int, q⟩
      | _ => cases e
    | _ => cases e
  | isN =>
    cases b with
    | non =>
      have e : some a.isNon = some c := by cases a <;> exact e
      cases e
      exact op_isN pins s σ H x y v u Q I rx ry ⟨rb.non, by rw [isN_of ra]; exact q⟩
    | _ => cases a <;> cases e
  | notN =>
    cases b with
    | non =>
      have e : some (!a.isNon) = some c := by cases a <;> exact e
      cases e
      exact op_notN pins s σ H x y v u Q I rx ry ⟨rb.non, by rw [isN_of ra]; exact q⟩
    | _ => cases a <;> cases e
  | in_ =>
    obtain ⟨d, ds, e1, e2, rfl⟩ := inVal_some e
    obtain ⟨dx, sd⟩ := ra.dp e1
    rcases e2 with e2 | e2
    · obtain ⟨dy, se⟩ := rb.dp e2
      exact op_inD hu pins s σ H x y v u Q I rx ry ⟨d, ds, dx, dy, sd, se, q⟩
    · obtain ⟨dy, se⟩ := rb.dp e2
      obtain ⟨as, r1⟩ := Dp.reads I d x v dx rx
      obtain ⟨bs, r2⟩ := Dp.reads I (.tuple ds) y u dy ry
      exact SeqAt.in_tuple_reads r2 r1 (SeqAt.canLay_of_shaped se) (SeqAt.canLay_of_shaped sd) (shaped_room sd hu) ⟨.bl _, H, I, rfl, q⟩
  | notin =>
    have e : (inVal a b).map (fun z => !z) = some c := e
    cases h : inVal a b with
    | none => rw [h] at e; cases e
    | some z =>
      rw [h] at e
      cases e
      obtain ⟨d, ds, e1, e2, rfl⟩ := inVal_some h
      obtain ⟨dx, sd⟩ := ra.dp e1
      rcases e2 with e2 | e2
      · obtain ⟨dy, se⟩ := rb.dp e2
        exact op_notInD hu pins s σ H x y v u Q I rx ry ⟨d, ds, dx, dy, sd, se, q⟩
      · obtain ⟨dy, se⟩ := rb.dp e2
        obtain ⟨as, r1⟩ := Dp.reads I d x v dx rx
        obtain ⟨bs, r2⟩ := Dp.reads I (.tuple ds) y u dy ry
        exact SeqAt.notIn_tuple_reads r2 r1 (SeqAt.canLay_of_shaped se) (SeqAt.canLay_of_shaped sd) (shaped_room sd hu) ⟨.bl _, H, I, rfl, q⟩
/-! ### truth -/
theorem truth_of {v : Val} {x : V} {b : Bool} (r : BR K F H v x) (e : truth v = some b) : TruV K x H b := by
  cases v with
  | non => rw [r.non]; cases e; rfl
  | bl b => rw [r.bl]; cases e; rfl
  | int i => rw [r.int]; cases e; rfl
  | tup vs =>
    obtain ⟨a, xs, ex, q, r1⟩ := r.tup
    subst ex
    cases e
    refine .inr (.inl ⟨xs, q, ?_⟩)
    have l := r1.length
    cases vs <;> cases xs <;> first | rfl | (simp at l)
  | lst vs =>
    obtain ⟨a, xs, ex, q, r1⟩ := r.lst
    subst ex
    cases e
    refine .inl ⟨xs, .inl (.inl q), ?_⟩
    have l := r1.length
    cases vs <;> cases xs <;> first | rfl | (simp at l)
  | _ => cases e
end
end EV
set_option Elab.async false
set_option linter.all false
set_option maxRecDepth 100000
set_option maxHeartbeats 1000000
/-! Dicts. -/
namespace EV
open PySem L2
section
variable {X : Cx} {K : PySem.W.Frag} {F F' : Addr → Prop} {H H' : Hp}
theorem kV_keyV {v : Val} {x : V} {k : Key} (r : BR K F H v x) (e : keyV v = some k) : x = kV k := by
  cases v with
  | int i => cases e; exact r.int
  | str s => cases e; exact r.str
  | _ => cases e
theorem keyVal_vr (k : Key) : VR K F H (keyVal k) (kV k) := by cases k <;> rfl
/-- the entries -/
def DR (K : PySem.W.Frag) (F : Addr → Prop) (H : Hp) (ks : List Key) (vs : List Val) (kvs : List (Key × V)) : Prop := ∃ xs, kvs = ks.zip xs ∧ ks.length = xs.length ∧ VRs K F H vs xs
theorem DR.nil : DR K F H [] [] [] := ⟨[], rfl, rfl, rfl⟩
theorem DR.look : ∀ {ks : List Key} {vs : List Val} {kvs : List (Key × V)} {j : Key}, DR K F H ks vs kvs → (lookK ks vs j = none → valV kvs j = none) ∧ ∀ v, lookK ks vs j = some v → ∃ x, valV kvs j = some x ∧ VR K F H v x
  | [], vs, kvs, j, ⟨xs, e, l, r⟩ => by
    subst e
    exact ⟨fun _ => valV_nil, fun v e => by cases vs <;> cases e⟩
  | k :: ks, [], kvs, j, ⟨[], e, l, r⟩ => by cases l
  | k :: ks, [], kvs, j, ⟨x :: xs, e, l, r⟩ => by cases r
  | k :: ks, v :: vs, kvs, j, ⟨[], e, l, r⟩ => by cases l
  | k :: ks, v :: vs, kvs, j, ⟨x :: xs, e, l, r⟩ => by
    subst e
    obtain ⟨y, ys, e2, r1, r2⟩ := r
    cases e2
    have ih := DR.look (ks := ks) (vs := vs) (j := j) ⟨xs, rfl, by simpa using l, r2⟩
    unfold lookK
    by_cases h : k = j
    · rw [if_pos h]
      exact ⟨fun z => (by cases z), fun u z => ⟨x, valV_pos h, by cases z; exact r1⟩⟩
    · rw [if_neg h]
      refine ⟨fun z => ?_, fun u z => ?_⟩
      · rw [← ih.1 z]; exact valV_neg h
      · obtain ⟨x2, e2, r3⟩ := ih.2 u z
        exact ⟨x2, by rw [← e2]; exact valV_neg h, r3⟩
theorem zip_any {ks : List Key} {xs : List V} (j : Key) : ∀ {ks : List Key} {xs : List V}, ks.length = xs.length → ((ks.zip xs).any fun kv => decide (kv.1 = j)) = ks.any fun k => decide (k = j)
  | [], _, _ => rfl
  | _ :: _, [], l => by cases l
  | k :: ks, x :: xs, l => by
    have l2 : ks.length = xs.length := by simpa using l
    simp [List.zip_cons_cons, List.any_cons, zip_any (ks := ks) (xs := xs) j l2]
theorem zip_put {w : Val} {x : V} (rw_ : VR K F H w x) (j : Key) : ∀ {ks : List Key} {vs : List Val} {xs : List V}, ks.length = xs.length → VRs K F H vs xs →
    ∃ ys, ((ks.zip xs).map fun kv => if kv.1 = j then (kv.1, x) else kv) = ks.zip ys ∧ ks.length = ys.length ∧ VRs K F H ((ks.zip vs).map fun p => if p.1 = j then w else p.2) ys
  | [], vs, xs, l, r => ⟨[], rfl, rfl, rfl⟩
  | k :: ks, [], [], l, r => by cases l
  | k :: ks, [], x' :: xs, l, r => by cases r
  | k :: ks, v :: vs, [], l, r => by cases l
  | k :: ks, v :: vs, x' :: xs, l, r => by
    obtain ⟨y, ys, e2, r1, r2⟩ := r
    cases e2
    obtain ⟨zs, e, l2, r3⟩ := zip_put rw_ j (ks := ks) (vs := vs) (xs := xs) (by simpa using l) r2
    by_cases h : k = j
    · exact ⟨x :: zs, by simp [List.zip_cons_cons, h, e], by simp [l2], ⟨x, zs, rfl, by simp [h]; exact rw_, r3⟩⟩
    · exact ⟨x' :: zs, by simp [List.zip_cons_cons, h, e], by simp [l2], ⟨x', zs, rfl, by simp [h]; exact r1, r3⟩⟩
theorem DR.put {ks : List Key} {vs : List Val} {kvs : List (Key × V)} {j : Key} {w : Val} {x : V} (d : DR K F H ks vs kvs) (r : VR K F H w x) : DR K F H (putK' ks vs j w).1 (putK' ks vs j w).2 (putK kvs j x) := by
  obtain ⟨xs, e, l, rs⟩ := d
  subst e
  unfold putK' putK
  rw [zip_any (ks := ks) (xs := xs) j l]
  by_cases h : (ks.any fun k => decide (k = j)) = true
  · rw [if_pos h, if_pos h]
    obtain ⟨ys, e, l2, r2⟩ := zip_put r j l rs
    exact ⟨ys, e, l2, r2⟩
  · rw [if_neg h, if_neg h]
    refine ⟨xs ++ [x], ?_, by simp [l], VRs.append rs (VRs.one r)⟩
    rw [List.zip_append l]
    rfl
theorem DR.merge : ∀ {ps : List (Key × Val)} {qs : List (Key × V)} {ks : List Key} {vs : List Val} {kvs : List (Key × V)}, DR K F H ks vs kvs → (Paired (fun (p : Key × Val) (q : Key × V) => p.1 = q.1 ∧ VR K F H p.2 q.2) ps qs) → DR K F H (mergeD ks vs ps).1 (mergeD ks vs ps).2 (mergeK kvs qs)
  | _, _, _, _, _, d, .nil => d
  | p :: ps, q :: qs, ks, vs, kvs, d, .cons ⟨e, r⟩ t => by
    show DR K F H (mergeD (putK' ks vs p.1 p.2).1 (putK' ks vs p.1 p.2).2 ps).1 (mergeD (putK' ks vs p.1 p.2).1 (putK' ks vs p.1 p.2).2 ps).2 (mergeK (putK kvs q.1 q.2) qs)
    rw [← e]
    exact DR.merge (DR.put d r) t
theorem DR.own {ks : List Key} {vs : List Val} {kvs : List (Key × V)} {a : Addr} (d : DR K F H ks vs kvs) (h : H a = some (.dK kvs)) : OwnAt K F H a (.dic ks vs) := by
  obtain ⟨xs, e, l, r⟩ := d
  subst e
  exact ⟨xs, h, l, r⟩
theorem DR.mono {ks : List Key} {vs : List Val} {kvs : List (Key × V)} (m : Mono F F' H H') (d : DR K F H ks vs kvs) : DR K F' H' ks vs kvs := by
  obtain ⟨xs, e, l, r⟩ := d
  exact ⟨xs, e, l, VRs.mono m _ r⟩
theorem BR.dr {ks : List Key} {vs : List Val} {x : V} (h : BR K F H (.dic ks vs) x) : ∃ a kvs, x = .ref a ∧ Rd H a (.dK kvs) ∧ DR K F H ks vs kvs := by
  obtain ⟨a, xs, e, q, l, r⟩ := h.dic
  exact ⟨a, _, e, q, xs, rfl, l, r⟩
/-- a new dict, nobody else's -/
theorem new_dic {ks : List Key} {vs : List Val} {kvs : List (Key × V)} {Q : VK} (t : Tr F H) (d : DR K F H ks vs kvs) (q : ∀ z F' H', Gr F F' H H' → RX K F' H' H (.dic ks vs) true z → Q z H') : ∀ p, H p = none → Q (.ref p) (upd H p (.dK kvs)) := fun p hp => by
  have g : Gr F F H (upd H p (.dK kvs)) := ⟨Ext.laid _ F hp⟩
  refine q _ F _ g ⟨p, rfl, fun f => ?_, hp, (d.mono (g.mono t)).own upd_same⟩
  obtain ⟨o, z⟩ := t p f
  rw [hp] at z
  cases z
theorem zip_keys : ∀ {ks : List Key} {zs : List V}, ks.length = zs.length → ((ks.zip zs).map fun kv => kV kv.1) = ks.map kV
  | [], _, _ => rfl
  | _ :: _, [], l => by cases l
  | k :: ks, z :: zs, l => by rw [List.zip_cons_cons, List.map_cons, zip_keys (by simpa using l)]; rfl
theorem keys_vr : ∀ ks : List Key, VRs K F H (ks.map keyVal) (ks.map kV)
  | [] => rfl
  | k :: ks => ⟨_, _, rfl, keyVal_vr k, keys_vr ks⟩
theorem ints_vr : ∀ js : List Int, VRs K F H (js.map .int) (js.map V.int)
  | [] => rfl
  | j :: js => ⟨_, _, rfl, rfl, ints_vr js⟩
/-! ### sorted -/
theorem insI_perm (i : Int) : ∀ l : List Int, (insI i l).Perm (i :: l)
  | [] => .refl _
  | j :: r => by
    unfold insI
    split
    · exact .refl _
    · exact ((insI_perm i r).cons j).trans (.swap i j r)
theorem isortI_perm : ∀ l : List Int, (isortI l).Perm l
  | [] => .refl _
  | i :: r => (insI_perm i (isortI r)).trans ((isortI_perm r).cons i)
theorem insI_sorted (i : Int) : ∀ {l : List Int}, l.Pairwise (· ≤ ·) → (insI i l).Pairwise (· ≤ ·)
  | [], _ => by simp [insI]
  | j :: r, h => by
    unfold insI
    rw [List.pairwise_cons] at h
    split
    · rename_i hij
      refine List.pairwise_cons.mpr ⟨fun k hk => ?_, List.pairwise_cons.mpr h⟩
      rcases List.mem_cons.mp hk with e | hk
      · omega
      · have := h.1 k hk; omega
    · rename_i hij
      refine List.pairwise_cons.mpr ⟨fun k hk => ?_, insI_sorted i h.2⟩
      rcases List.mem_cons.mp ((insI_perm i r).mem_iff.mp hk) with e | hk
      · omega
      · exact h.1 k hk
theorem isortI_sorted : ∀ l : List Int, (isortI l).Pairwise (· ≤ ·)
  | [] => .nil
  | i :: r => insI_sorted i (isortI_sorted r)
theorem sorted_uniq : ∀ {a b : List Int}, a.Perm b → a.Pairwise (· ≤ ·) → b.Pairwise (· ≤ ·) → a = b
  | [], b, p, _, _ => (List.nil_perm.mp p).symm
  | i :: a, [], p, _, _ => by have := p.length_eq; simp at this
  | i :: a, j :: b, p, ha, hb => by
    rw [List.pairwise_cons] at ha hb
    have e : i = j := by
      have h1 : i ∈ j :: b := p.mem_iff.mp List.mem_cons_self
      have h2 : j ∈ i :: a := p.mem_iff.mpr List.mem_cons_self
      rcases List.mem_cons.mp h1 with e | h1
      · exact e
      · rcases List.mem_cons.mp h2 with e | h2
        · exact e.symm
        · have := hb.1 i h1; have := ha.1 j h2; omega
    subst e
    rw [sorted_uniq ((List.perm_cons i).mp p) ha.2 hb.2]
theorem topI_ok {f : Int → Int → Int} (hf : ∀ a b, f a b = a ∨ f a b = b) : ∀ {l : List Int} {i m : Int}, l.foldl f i = m → m = i ∨ m ∈ l
  | [], i, m, e => .inl e.symm
  | j :: l, i, m, e => by
    rcases topI_ok hf (l := l) (i := f i j) e with h | h
    · rcases hf i j with q | q
      · exact .inl (h.trans q)
      · exact .inr (by rw [h, q]; exact List.mem_cons_self)
    · exact .inr (List.mem_cons_of_mem _ h)
theorem max_ge : ∀ {l : List Int} {i : Int}, i ≤ l.foldl maxI i ∧ ∀ y ∈ l, y ≤ l.foldl maxI i
  | [], i => ⟨Int.le_refl _, fun _ h => nomatch h⟩
  | j :: l, i => by
    obtain ⟨h1, h2⟩ := max_ge (l := l) (i := maxI i j)
    have h3 : i ≤ maxI i j ∧ j ≤ maxI i j := by unfold maxI; split <;> omega
    refine ⟨Int.le_trans h3.1 h1, fun y hy => ?_⟩
    rcases List.mem_cons.mp hy with e | hy
    · rw [e]; exact Int.le_trans h3.2 h1
    · exact h2 y hy
theorem min_le : ∀ {l : List Int} {i : Int}, l.foldl minI i ≤ i ∧ ∀ y ∈ l, l.foldl minI i ≤ y
  | [], i => ⟨Int.le_refl _, fun _ h => nomatch h⟩
  | j :: l, i => by
    obtain ⟨h1, h2⟩ := min_le (l := l) (i := minI i j)
    have h3 : minI i j ≤ i ∧ minI i j ≤ j := by unfold minI; split <;> omega
    refine ⟨Int.le_trans h1 h3.1, fun y hy => ?_⟩
    rcases List.mem_cons.mp hy with e | hy
    · rw [e]; exact Int.le_trans h1 h3.2
    · exact h2 y hy
end
end EV
set_option Elab.async false
set_option linter.all false
set_option maxRecDepth 100000
set_option maxHeartbeats 1000000
/-! Built-in functions, subscripts, slices. -/
namespace EV
open PySem L2
section
variable {X : Cx} {K : PySem.W.Frag} {F F' : Addr → Prop} {H H' : Hp}
def BRs (K : PySem.W.Frag) (F : Addr → Prop) (H : Hp) : List Val → List V → Prop
  | [], xs => xs = []
  | v :: vs, xs => ∃ y ys, xs = y :: ys ∧ BR K F H v y ∧ BRs K F H vs ys
theorem BRs.one {v : Val} {xs : List V} (h : BRs K F H [v] xs) : ∃ x, xs = [x] ∧ BR K F H v x := by
  obtain ⟨y, ys, e, r, q⟩ := h
  cases (show ys = [] from q)
  exact ⟨y, e, r⟩
theorem BRs.two {v w : Val} {xs : List V} (h : BRs K F H [v, w] xs) : ∃ x y, xs = [x, y] ∧ BR K F H v x ∧ BR K F H w y := by
  obtain ⟨y, ys, e, r, q⟩ := h
  obtain ⟨z, e2, r2⟩ := BRs.one q
  subst e2
  exact ⟨y, z, e, r, r2⟩
theorem VRs.ints : ∀ {vs : List Val} {xs : List V} {is : List Int}, VRs K F H vs xs → intsOf vs = some is → xs = is.map V.int
  | [], xs, is, r, e => by cases e; exact r
  | v :: vs, xs, is, ⟨y, ys, ex, r, q⟩, e => by
    cases v with
    | int i =>
      have e : (intsOf vs).map (i :: ·) = some is := e
      cases h : intsOf vs with
      | none => rw [h] at e; cases e
      | some js =>
        rw [h] at e
        cases e
        have ih := VRs.ints q h
        have ey : y = .int i := r
        rw [ex, ey, ih, List.map_cons]
    | _ => cases e
theorem VRs.bls : ∀ {vs : List Val} {xs : List V} {is : List Bool}, VRs K F H vs xs → blsOf vs = some is → xs = is.map V.bl
  | [], xs, is, r, e => by cases e; exact r
  | v :: vs, xs, is, ⟨y, ys, ex, r, q⟩, e => by
    cases v with
    | bl i =>
      have e : (blsOf vs).map (i :: ·) = some is := e
      cases h : blsOf vs with
      | none => rw [h] at e; cases e
      | some js =>
        rw [h] at e
        cases e
        have ih := VRs.bls q h
        have ey : y = .bl i := r
        rw [ex, ey, ih, List.map_cons]
    | _ => cases e
def rBi (K : PySem.W.Frag) (b : BI) : List V → Hp → VK → Prop := fun xs H Q => ∃ F vs u, Tr F H ∧ BRs K F H vs xs ∧ biV b vs = some u ∧ ∀ z F' H', Gr F F' H H' → RX K F' H' H u.1 u.2 z → Q z H'
def biN : BI → Str
  | .len => "len" | .abs => "abs" | .int => "int" | .sum => "sum" | .all => "all" | .any => "any" | .tuple => "tuple" | .list => "list" | .gcd => "gcd" | .sorted => "sorted" | .max => "max" | .min => "min" | .dict => "dict"
def biF : BI → Value
  | .len => .builtin "len" | .abs => .builtin "abs" | .int => .type "int" | .sum => .builtin "sum" | .all => .builtin "all" | .any => .builtin "any"
  | .tuple => .type "tuple" | .list => .type "list" | .gcd => .builtin "math.gcd" | .sorted => .builtin "sorted" | .max => .builtin "max" | .min => .builtin "min" | .dict => .type "dict"
theorem biV1 {b : BI} {vs : List Val} {u : Val × Bool} (hb : b ≠ .gcd ∧ b ≠ .max ∧ b ≠ .min) (e : biV b vs = some u) : ∃ v, vs = [v] := by
  cases b <;> (cases vs with
    | nil => cases e
    | cons v r => cases r with
      | nil => exact ⟨v, rfl⟩
      | cons w r2 => first | (cases v <;> cases w <;> cases r2 <;> first | (exact absurd rfl hb.1) | (exact absurd rfl hb.2.1) | (exact absurd rfl hb.2.2) | cases e) | cases e)
theorem VRs.kvs : ∀ {vs : List Val} {xs : List V} {ps : List (Key × Val)}, VRs K F H vs xs → kvsOf vs = some ps → ∃ (as : List Addr) (qs : List (Key × V)), xs = as.map V.ref ∧ Paired (fun p (kv : Key × V) => SqT K H p [kV kv.1, kv.2]) as qs ∧ Paired (fun (p : Key × Val) (q : Key × V) => p.1 = q.1 ∧ VR K F H p.2 q.2) ps qs
  | [], xs, ps, r, e => by cases e; exact ⟨[], [], r, .nil, .nil⟩
  | v :: vs, xs, ps, ⟨y, ys, ex, r, q⟩, e => by
    cases v with
    | tup ws =>
      cases ws with
      | nil => cases e
      | cons k ws => cases ws with
        | nil => cases e
        | cons w ws => cases ws with
          | cons _ _ => cases e
          | nil =>
            have e : (keyV k).bind (fun k => (kvsOf vs).map ((k, w) :: ·)) = some ps := e
            cases hk : keyV k with
            | none => rw [hk] at e; cases e
            | some kk =>
              rw [hk] at e
              have e : (kvsOf vs).map ((kk, w) :: ·) = some ps := e
              cases h : kvsOf vs with
              | none => rw [h] at e; cases e
              | some qs =>
                rw [h] at e
                cases e
                obtain ⟨as, rs, e1, p1, p2⟩ := VRs.kvs q h
                obtain ⟨a, zs, ey, sq, vr⟩ := r
                subst ey
                obtain ⟨z1, zr, e3, r3, r4⟩ := vr
                obtain ⟨z2, zr2, e4, r5, r6⟩ := r4
                cases (show zr2 = [] from r6)
                subst e3 e4
                have hz : z1 = kV kk := kV_keyV (.inl r3) hk
                subst hz
                exact ⟨a :: as, (kk, z2) :: rs, by rw [ex, e1]; rfl, .cons sq p1, .cons ⟨rfl, r5⟩ p2⟩
    | _ => cases e
theorem callr_bi (hc : X.calm = true) (b : BI) : CallR X (biF b) (rBi X.K b) := by
  intro pins s σ H xs us Q I r h
  obtain ⟨F, vs, u, t, rs, e, q⟩ := h
  have iq : ∀ i : Int, u = (.int i, false) → Q (.int i) H := fun i ec => q _ F H (Gr.refl _ _) (by rw [ec]; rfl)
  have bq : ∀ i : Bool, u = (.bl i, false) → Q (.bl i) H := fun i ec => q _ F H (Gr.refl _ _) (by rw [ec]; rfl)
  cases b with
  | len =>
    obtain ⟨v, rfl⟩ := biV1 (by refine ⟨?_, ?_, ?_⟩ <;> decide) e
    obtain ⟨x, rfl, rx⟩ := rs.one
    have e : (lenV v).map (fun n => (Val.int (n : Int), false)) = some u := e
    cases h : lenV v with
    | none => rw [h] at e; cases e
    | some n =>
      rw [h] at e
      have iq := iq _ (Option.some.inj e).symm
      refine call_len pins s σ H [x] us Q I r ⟨x, n, rfl, ?_, iq⟩
      cases v with
      | tup ws =>
        obtain ⟨a, ys, ex, h1, r1⟩ := rx.tup
        subst ex
        cases h
        exact .inr ⟨ys, h1, r1.length⟩
      | lst ws =>
        obtain ⟨a, ys, ex, h1, r1⟩ := rx.lst
        subst ex
        cases h
        exact .inl ⟨ys, .inl (.inl h1), r1.length⟩
      | str z =>
        rw [rx.str]
        have h : (if z.length ≤ sizeLine then some z.length else none) = some n := h
        split at h
        · rename_i hz
          cases h
          exact ⟨hz, rfl⟩
        · cases h
      | _ => cases h
  | abs =>
    obtain ⟨v, rfl⟩ := biV1 (by refine ⟨?_, ?_, ?_⟩ <;> decide) e
    obtain ⟨x, rfl, rx⟩ := rs.one
    cases v with
    | int i => exact call_abs pins s σ H [x] us Q I r ⟨i, by rw [rx.int], iq _ (Option.some.inj e).symm⟩
    | _ => cases e
  | int =>
    obtain ⟨v, rfl⟩ := biV1 (by refine ⟨?_, ?_, ?_⟩ <;> decide) e
    obtain ⟨x, rfl, rx⟩ := rs.one
    cases v with
    | int i => exact call_int1 pins s σ H [x] us Q I r (.inl ⟨i, by rw [rx.int], iq _ (Option.some.inj e).symm⟩)
    | _ => cases e
  | sum =>
    obtain ⟨v, rfl⟩ := biV1 (by refine ⟨?_, ?_, ?_⟩ <;> decide) e
    obtain ⟨x, rfl, rx⟩ := rs.one
    cases v with
    | lst ws =>
      obtain ⟨a, ys, ex, h1, r1⟩ := rx.lst
      subst ex
      have e : (intsOf ws).map (fun is => (Val.int is.sum, false)) = some u := e
      cases h : intsOf ws with
      | none => rw [h] at e; cases e
      | some is =>
        rw [h] at e
        exact cr_sum hc pins s σ H _ us Q I r ⟨a, is, rfl, .inl (.inl (by rw [h1, r1.ints h])), iq _ (Option.some.inj e).symm⟩
    | _ => cases e
  | all =>
    obtain ⟨v, rfl⟩ := biV1 (by refine ⟨?_, ?_, ?_⟩ <;> decide) e
    obtain ⟨x, rfl, rx⟩ := rs.one
    cases v with
    | lst ws =>
      obtain ⟨a, ys, ex, h1, r1⟩ := rx.lst
      subst ex
      have e : (blsOf ws).map (fun is => (Val.bl (is.all id), false)) = some u := e
      cases h : blsOf ws with
      | none => rw [h] at e; cases e
      | some is =>
        rw [h] at e
        exact cr_all hc pins s σ H _ us Q I r ⟨a, is, rfl, .inl (.inl (by rw [h1, r1.bls h])), bq _ (Option.some.inj e).symm⟩
    | _ => cases e
  | any =>
    obtain ⟨v, rfl⟩ := biV1 (by refine ⟨?_, ?_, ?_⟩ <;> decide) e
    obtain ⟨x, rfl, rx⟩ := rs.one
    cases v with
    | lst ws =>
      obtain ⟨a, ys, ex, h1, r1⟩ := rx.lst
      subst ex
      have e : (blsOf ws).map (fun is => (Val.bl (is.any id), false)) = some u := e
      cases h : blsOf ws with
      | none => rw [h] at e; cases e
      | some is =>
        rw [h] at e
        exact cr_any hc pins s σ H _ us Q I r ⟨a, is, rfl, .inl (.inl (by rw [h1, r1.bls h])), bq _ (Option.some.inj e).symm⟩
    | _ => cases e
  | tuple =>
    obtain ⟨v, rfl⟩ := biV1 (by refine ⟨?_, ?_, ?_⟩ <;> decide) e
    obtain ⟨x, rfl, rx⟩ := rs.one
    cases v with
    | lst ws =>
      obtain ⟨a, ys, ex, h1, r1⟩ := rx.lst
      subst ex
      cases e
      exact call_tuple_of pins s σ H _ us Q I r ⟨a, ys, rfl, .inl ⟨.inl (.inl h1), new_tup t r1 q⟩⟩
    | tup ws =>
      obtain ⟨a, ys, ex, h1, r1⟩ := rx.tup
      subst ex
      cases e
      exact call_tuple_of pins s σ H _ us Q I r ⟨a, ys, rfl, .inr ⟨h1, q _ F H (Gr.refl _ _) ⟨a, ys, rfl, h1, r1⟩⟩⟩
    | _ => cases e
  | list =>
    obtain ⟨v, rfl⟩ := biV1 (by refine ⟨?_, ?_, ?_⟩ <;> decide) e
    obtain ⟨x, rfl, rx⟩ := rs.one
    cases v with
    | lst ws =>
      obtain ⟨a, ys, ex, h1, r1⟩ := rx.lst
      subst ex
      cases e
      exact call_list_of pins s σ H _ us Q I r ⟨a, ys, rfl, .inl (.inl (.inl h1)), new_lst t r1 q⟩
    | tup ws =>
      obtain ⟨a, ys, ex, h1, r1⟩ := rx.tup
      subst ex
      cases e
      exact call_list_of pins s σ H _ us Q I r ⟨a, ys, rfl, .inr h1, new_lst t r1 q⟩
    | dic ks ws =>
      obtain ⟨a, kvs, ex, h1, d⟩ := rx.dr
      subst ex
      cases e
      obtain ⟨zs, e2, l, _⟩ := d
      have ek : (kvs.map fun kv => kV kv.1) = ks.map kV := by rw [e2]; exact zip_keys l
      have vr : VRs X.K F H (ks.map keyVal) (ks.map kV) := keys_vr ks
      exact call_listD hc pins s σ H _ us Q I r ⟨a, kvs, rfl, h1, by rw [ek]; exact new_lst t vr q⟩
    | _ => cases e
  | gcd =>
    cases vs with
    | nil => cases e
    | cons v r1 => cases r1 with
      | nil => cases v <;> cases e
      | cons w r2 => cases r2 with
        | cons _ _ => cases v <;> cases w <;> cases e
        | nil =>
          obtain ⟨x, y, rfl, rx, ry⟩ := rs.two
          cases v with
          | int i => cases w with
            | int j => exact cr_gcd pins s σ H _ us Q I r ⟨i, j, by rw [rx.int, ry.int], iq _ (Option.some.inj e).symm⟩
            | _ => cases e
          | _ => cases e
  | sorted =>
    obtain ⟨v, rfl⟩ := biV1 (by refine ⟨?_, ?_, ?_⟩ <;> decide) e
    obtain ⟨x, rfl, rx⟩ := rs.one
    cases v with
    | lst ws =>
      obtain ⟨a, ys, ex, h1, r1⟩ := rx.lst
      subst ex
      have e : (intsOf ws).map (fun is => (Val.lst ((isortI is).map .int), true)) = some u := e
      cases h : intsOf ws with
      | none => rw [h] at e; cases e
      | some is =>
        rw [h] at e
        cases e
        refine cr_sortedI pins s σ H _ us Q I r ⟨a, is, rfl, .inl (.inl (by rw [h1, r1.ints h])), fun ns' p hp hs hn => ?_⟩
        have : ns' = isortI is := sorted_uniq (hp.trans (isortI_perm is).symm) hs (isortI_sorted is)
        subst this
        exact new_lst t (ints_vr _) q p hn
    | _ => cases e
  | dict =>
    obtain ⟨v, rfl⟩ := biV1 (by refine ⟨?_, ?_, ?_⟩ <;> decide) e
    obtain ⟨x, rfl, rx⟩ := rs.one
    cases v with
    | lst ws =>
      obtain ⟨a, ys, ex, h1, r1⟩ := rx.lst
      subst ex
      have e : (kvsOf ws).map (fun ps => (Val.dic (mergeD [] [] ps).1 (mergeD [] [] ps).2, true)) = some u := e
      cases h : kvsOf ws with
      | none => rw [h] at e; cases e
      | some ps =>
        rw [h] at e
        cases e
        obtain ⟨as, qs, e1, p1, p2⟩ := r1.kvs h
        exact call_dictP hc pins s σ H _ us Q I r ⟨a, as, qs, rfl, .inl (.inl (by rw [h1, e1])), p1, new_dic t (DR.merge DR.nil p2) q⟩
    | _ => cases e
  | max =>
    cases vs with
    | nil => cases e
    | cons v r1 => cases r1 with
      | nil =>
        obtain ⟨x, rfl, rx⟩ := rs.one
        cases v with
        | lst ws =>
          obtain ⟨a, ys, ex, h1, r1⟩ := rx.lst
          subst ex
          have e : (intsOf ws).bind (fun is => (topI maxI is).map fun m => (Val.int m, false)) = some u := e
          cases h : intsOf ws with
          | none => rw [h] at e; cases e
          | some is =>
            rw [h] at e
            cases is with
            | nil => cases e
            | cons i is =>
              refine cr_max hc pins s σ H _ us Q I r ⟨a, i :: is, rfl, .inl (.inl (by rw [h1, r1.ints h])), Nat.succ_pos _, fun m hm hle => ?_⟩
              have em : m = is.foldl maxI i := by
                have h1 := hle (is.foldl maxI i) (by
                  rcases topI_ok (f := maxI) (fun a b => by unfold maxI; split <;> simp) (l := is) (i := i) rfl with e | e
                  · rw [e]; exact List.mem_cons_self
                  · exact List.mem_cons_of_mem _ e)
                have h2 : m ≤ is.foldl maxI i := by
                  obtain ⟨g1, g2⟩ := max_ge (l := is) (i := i)
                  rcases List.mem_cons.mp hm with e | e
                  · rw [e]; exact g1
                  · exact g2 m e
                omega
              subst em
              exact iq _ (Option.some.inj e).symm
        | _ => cases e
      | cons w r2 => cases r2 with
        | cons _ _ => cases v <;> cases w <;> cases e
        | nil =>
          obtain ⟨x, y, rfl, rx, ry⟩ := rs.two
          cases v with
          | int i => cases w with
            | int j => exact call_max2 hc pins s σ H _ us Q I r ⟨i, j, by rw [rx.int, ry.int], iq _ (Option.some.inj e).symm⟩
            | _ => cases e
          | _ => cases e
  | min =>
    cases vs with
    | nil => cases e
    | cons v r1 => cases r1 with
      | nil =>
        obtain ⟨x, rfl, rx⟩ := rs.one
        cases v with
        | lst ws =>
          obtain ⟨a, ys, ex, h1, r1⟩ := rx.lst
          subst ex
          have e : (intsOf ws).bind (fun is => (topI minI is).map fun m => (Val.int m, false)) = some u := e
          cases h : intsOf ws with
          | none => rw [h] at e; cases e
          | some is =>
            rw [h] at e
            cases is with
            | nil => cases e
            | cons i is =>
              refine cr_min hc pins s σ H _ us Q I r ⟨a, i :: is, rfl, .inl (.inl (by rw [h1, r1.ints h])), Nat.succ_pos _, fun m hm hle => ?_⟩
              have em : m = is.foldl minI i := by
                have h1 := hle (is.foldl minI i) (by
                  rcases topI_ok (f := minI) (fun a b => by unfold minI; split <;> simp) (l := is) (i := i) rfl with e | e
                  · rw [e]; exact List.mem_cons_self
                  · exact List.mem_cons_of_mem _ e)
                have h2 : is.foldl minI i ≤ m := by
                  obtain ⟨g1, g2⟩ := min_le (l := is) (i := i)
                  rcases List.mem_cons.mp hm with e | e
                  · rw [e]; exact g1
                  · exact g2 m e
                omega
              subst em
              exact iq _ (Option.some.inj e).symm
        | _ => cases e
      | cons w r2 => cases r2 with
        | cons _ _ => cases v <;> cases w <;> cases e
        | nil =>
          obtain ⟨x, y, rfl, rx, ry⟩ := rs.two
          cases v with
          | int i => cases w with
            | int j => exact call_min2 hc pins s σ H _ us Q I r ⟨i, j, by rw [rx.int, ry.int], iq _ (Option.some.inj e).symm⟩
            | _ => cases e
          | _ => cases e

/-! ### subscripts, slices -/
theorem VRs.atI {vs : List Val} {xs : List V} {i : Int} {v : Val} (r : VRs K F H vs xs) (e : L2.atI vs i = some v) : ∃ x, L2.atI xs i = some x ∧ VR K F H v x := by
  unfold L2.atI at e ⊢
  rw [← r.length]
  cases h : ixN vs.length i with
  | none => rw [h] at e; cases e
  | some j =>
    rw [h] at e
    exact r.get e
def rIxV (K : PySem.W.Frag) : R2 := fun x y H Q => ∃ F v w u, BR K F H v x ∧ BR K F H w y ∧ ixV v w = some u ∧ ∀ z, VR K F H u z → Q z H
theorem ixr : IxR X (rIxV X.K) := by
  intro value slice pins s σ H x y v u Q I rx ry h hs
  obtain ⟨F, a, b, c, ra, rb, e, q⟩ := h
  cases a with
  | lst ws =>
    cases b with
    | int i =>
      obtain ⟨p, ys, ex, h1, r1⟩ := ra.lst
      obtain ⟨z, hz, r2⟩ := r1.atI e
      exact ix_list value slice pins s σ H x y v u Q I rx ry ⟨p, ys, i, z, ex, rb.int, .inl (.inl h1), hz, q z r2⟩ hs
    | _ => cases e
  | tup ws =>
    cases b with
    | int i =>
      obtain ⟨p, ys, ex, h1, r1⟩ := ra.tup
      obtain ⟨z, hz, r2⟩ := r1.atI e
      exact ix_tup value slice pins s σ H x y v u Q I rx ry ⟨p, ys, i, z, ex, rb.int, h1, hz, q z r2⟩ hs
    | _ => cases e
  | _ => cases e
def rSlV (K : PySem.W.Frag) : V → Option Int → Option Int → Hp → VK → Prop := fun x lo hi H Q => ∃ F v u, Tr F H ∧ BR K F H v x ∧ slV v lo hi = some u ∧ ∀ z F' H', Gr F F' H H' → RX K F' H' H u.1 u.2 z → Q z H'
theorem VRs.cut {vs : List Val} {xs : List V} (r : VRs K F H vs xs) (lo hi : Option Int) : VRs K F H (cutL vs lo hi) (cutV xs lo hi) := by
  unfold cutL cutV
  rw [← r.length]
  exact VRs.take _ (VRs.drop _ r)
theorem cut_whole {vs : List Val} {lo hi : Option Int} (h : HT.sIx vs.length 0 lo = 0 ∧ HT.sIx vs.length vs.length hi = vs.length) : cutL vs lo hi = vs := by
  unfold cutL
  rw [h.1, h.2]
  simp
theorem slr : L2.SlR X (rSlV X.K) := by
  intro pins s σ H x v vl vu lo hi sl Q I rx hs pl pu h
  obtain ⟨F, a, c, t, ra, e, q⟩ := h
  cases a with
  | lst ws =>
    obtain ⟨p, ys, ex, h1, r1⟩ := ra.lst
    cases e
    exact sl_list pins s σ H x v vl vu lo hi sl Q I rx hs pl pu ⟨p, ys, ex, .inl (.inl h1), new_lst t (r1.cut lo hi) q⟩
  | tup ws =>
    obtain ⟨p, ys, ex, h1, r1⟩ := ra.tup
    cases e
    refine sl_tupA pins s σ H x v vl vu lo hi sl Q I rx hs pl pu ⟨p, ys, ex, h1, fun hw => ?_, fun _ => new_tup t (r1.cut lo hi) q⟩
    refine q _ F H (Gr.refl _ _) ?_
    rw [cut_whole (by rw [r1.length]; exact hw)]
    exact ⟨p, ys, rfl, h1, r1⟩
  | _ => cases e
/-! ### isinstance -/
def tyN : Ty → String
  | .int => "int" | .bool => "bool" | .str => "str" | .tuple => "tuple" | .list => "list"
end
end EV
set_option Elab.async false
set_option linter.all false
set_option maxRecDepth 100000
set_option maxHeartbeats 1000000
/-! t[::-1] of a tuple. -/
namespace EV
open PySem L2 PySem.Spec PyProof.Rows
section
variable {prog : Program} {w : World} {A : Around} {E : Value → Shared → Prop} {s : Shared}
theorem adjust_back (n : Nat) : Builtin.Slice.sliceAdjust none none (-1) (n : Int) = ((n : Int) - 1, -1) := by
  unfold Builtin.Slice.sliceAdjust
  first
    | rfl
    | simp
theorem places_back (n : Nat) : Builtin.Slice.slicePlaces ((n : Int) - 1) (-1) (-1) = n := by
  unfold Builtin.Slice.slicePlaces
  have h1 : ¬ ((-1 : Int) > 0) := by decide
  simp only [h1, if_false]
  have e : ((n : Int) - 1 - -1 - 1) / (- -1) = (n : Int) - 1 := by
    rw [show (- -1 : Int) = 1 by decide, Int.ediv_one]
    omega
  rw [e]
  split <;> omega
theorem filterMap_same {α β : Type} {f g : α → Option β} : ∀ {l : List α}, (∀ a ∈ l, f a = g a) → l.filterMap f = l.filterMap g
  | [], _ => rfl
  | a :: l, h => by
    rw [List.filterMap_cons, List.filterMap_cons, h a List.mem_cons_self, filterMap_same fun b hb => h b (List.mem_cons_of_mem _ hb)]
theorem pick_back (xs : Array Value) : ((List.range xs.size).filterMap fun (m : Nat) => xs[(((xs.size : Int) - 1) + (m : Int) * (-1)).toNat]?).toArray = xs.toList.reverse.toArray := by
  have e : ((List.range xs.size).filterMap fun (m : Nat) => xs[(((xs.size : Int) - 1) + (m : Int) * (-1)).toNat]?) = xs.toList.reverse := by
    rw [← PySem.W.krv_all xs, ← List.filterMap_reverse, ← PySem.W.krv_range, List.filterMap_map]
    refine filterMap_same fun m hm => ?_
    have h := List.mem_range.mp hm
    show xs[(((xs.size : Int) - 1) + (m : Int) * (-1)).toNat]? = xs[xs.size - 1 - m]?
    have e2 : (((xs.size : Int) - 1) + (m : Int) * (-1)).toNat = xs.size - 1 - m := by omega
    rw [e2]
  rw [e]
theorem applied_back {sl : Addr} {vl vu vs : Value} {n : Nat} {Q : Int × Int × Nat → Shared → Prop} (hs : s.heap.IsSliceOf sl vl vu vs) (pl : IsPart vl none) (pu : IsPart vu none) (pk : IsPart vs (some (-1)))
    (h : Q ((n : Int) - 1, -1, n) s) : wpAny (model prog w) A (Builtin.Slice.sliceApplied (.ref sl) (pure (n : Int))) Q E s := by
  obtain ⟨os, hos, hcs, hds⟩ := id hs
  unfold Builtin.Slice.sliceApplied Builtin.Slice.sliceFields
  refine wpAny_bind (wpAny_bind (wpAny_field hos hds (x := vl) rfl (wpAny_bind (wpAny_field hos hds (x := vu) rfl (wpAny_bind (wpAny_field hos hds (x := vs) rfl (wpAny_pure ?_)))))))
  refine wpAny_bind (HT.slicePart_ pk ?_)
  show wpAny _ _ (if ((-1 : Int) == 0) = true then _ else _) _ _ s
  rw [if_neg (by decide)]
  refine wpAny_bind (HT.slicePart_ pl (wpAny_bind (HT.slicePart_ pu (wpAny_bind (wpAny_pure ?_)))))
  show wpAny _ _ (match Builtin.Slice.sliceAdjust none none (-1) (n : Int) with | (lo, hi) => pure (lo, (-1 : Int), Builtin.Slice.slicePlaces lo hi (-1))) _ _ s
  rw [adjust_back n]
  show wpAny _ _ (pure (((n : Int) - 1), (-1 : Int), Builtin.Slice.slicePlaces ((n : Int) - 1) (-1) (-1))) _ _ s
  rw [places_back]
  exact wpAny_pure h
theorem getItem_back {t sl : Addr} {items : Array Value} {vl vu vs : Value} {Q : Value → Shared → Prop} (ht : IsTup s.heap t items) (hs : s.heap.IsSliceOf sl vl vu vs) (pl : IsPart vl none) (pu : IsPart vu none) (pk : IsPart vs (some (-1)))
    (h : Q (.ref s.heap.objs.size) { s with heap := s.heap.push { cls := .type "tuple", data := .seq items.toList.reverse.toArray } })
    (hsz : items.size ≤ sizeLine) : wpAny (model prog w) A (getItem (.ref t) (.ref sl)) Q E s := by
  have htake : sizeOk (.seq items.toList.reverse.toArray) := by
    show items.toList.reverse.toArray.size ≤ sizeLine
    rw [List.size_toArray, List.length_reverse, Array.length_toList]
    exact hsz
  obtain ⟨os, hos, hcs, hds⟩ := id hs
  have hTs : s.TypeIs (.ref sl) "slice" := ⟨os, hos, hcs⟩
  unfold getItem
  try with_reducible refine wpAny_holding ?_
  first | refine wpAny_bind (wpAny_pure ?_) | skip
  refine wpAny_bind (wpAny_sequenceKey ht.typeIs (by decide) ?_)
  refine wpAny_bind (wpAny_callSpecial?_slot (name := Str.ofString "__getitem__") ht.typeIs PyProof.Rows.slot_tuple_getitem
    (wpAny_call_entry PyProof.Rows.slot_tuple_getitem ht.typeIs PyProof.Rows.entry_tuple_getitem ?_ (PyProof.Rows.args_tuple_getitem _ _)))
  show wpAny _ _ (Builtin.Tuple.tupleItemsOf (.ref t) >>= _) _ _ s
  refine wpAny_bind (tupleItemsOf_ ht ?_)
  refine wpAny_bind (wpAny_typeOf hTs ?_)
  rw [if_pos (by decide)]
  refine wpAny_bind (applied_back hs pl pu pk ?_)
  have hno : ¬ (((items.size : Int) - 1 == 0 && (-1 : Int) == 1 && items.size == items.size) = true) := by
    intro q
    rw [Bool.and_eq_true, Bool.and_eq_true] at q
    exact absurd q.1.2 (by decide)
  show wpAny _ _ (if ((items.size : Int) - 1 == 0 && (-1 : Int) == 1 && items.size == items.size) = true then _ else _) _ _ s
  rw [if_neg hno, pick_back]
  first
    | exact wpAny_bind (m := Builtin.Tuple.tupleExact _) (wpAny_newObj_type (wpAny_pure ⟨_, rfl, wpAny_pure h⟩) htake)
    | exact wpAny_bind (m := Builtin.Tuple.tupleExact _) (wpAny_newObj_type (wpAny_bind (wpAny_pure (wpAny_pure ⟨_, rfl, wpAny_pure h⟩))) htake)
    | exact wpAny_bind (wpAny_bind (m := Builtin.Tuple.tupleExact _) (wpAny_newObj_type (wpAny_pure (wpAny_pure ⟨_, rfl, wpAny_pure h⟩)) htake))
    | exact wpAny_bind (wpAny_bind (m := Builtin.Tuple.tupleExact _) (wpAny_newObj_type (wpAny_pure ⟨_, rfl, wpAny_pure h⟩) htake))
end
section
variable {X : Cx}
def tRevT (K : PySem.W.Frag) (te : TE) : TE := fun σ H Q => te σ H fun x H1 => ∃ a xs, x = .ref a ∧ SqT K H1 a xs ∧ ∀ p, H1 p = none → Q (.ref p) (upd H1 p (.tup xs.reverse))
theorem pe_revT {e : Expr} {te : TE} {k : Nat} {p1 p2 p3 pos : Pos} (he : PE X e te) : PE X (.Subscript e (.Slice none none (some (.UnaryOp .USub (.Constant (.int 1) k p1) p2)) p3) pos) (tRevT X.K te) := by
  refine ⟨fun pins s σ H Q I h => ?_⟩
  refine Subscript_ (thn (he.run pins s σ H _ I h) fun v s1 ⟨x, H1, I1, r1, q1⟩ => ?_)
  obtain ⟨a, xs, ex, hx, q⟩ := q1
  subst ex
  cases r1
  have hst : PO X (some (.UnaryOp .USub (.Constant (.int 1) k p1) p2)) (tPart (tUn (rU fun i => .int (-i)) (tC (.int 1)))) := po_some (pe_un un_neg pe_int)
  refine wpAny_Slice (thn (po_none.run pins s1 σ H1 (fun o H2 => o = none ∧ H2 = H1) I1 ⟨rfl, rfl⟩) fun vl s2 ⟨l, H2, I2, pl, el, e2⟩ => ?_)
  subst el e2
  refine thn (po_none.run pins s2 σ H2 (fun o H3 => o = none ∧ H3 = H2) I2 ⟨rfl, rfl⟩) fun vu s3 ⟨u, H3, I3, pu, eu, e3⟩ => ?_
  subst eu e3
  refine thn (hst.run pins s3 σ H3 (fun o H4 => o = some (-1) ∧ H4 = H3) I3 ⟨1, rfl, -1, rfl, rfl, rfl⟩) fun vs s4 ⟨o, H4, I4, ps, eo, e4⟩ => ?_
  subst eo e4
  have I5 : Inv X pins σ H4 { s4 with heap := s4.heap.push { cls := .type "slice", data := .fields #[vl, vu, vs] } } := I4.kept (t' := s4.toks) fun b ob q => Heap.get?_push_of_some _ q
  obtain ⟨its, r, ht, hz⟩ := I5.tuple hx
  have hlen := r.length
  show wpAny (model X.prog X.w) X.A (subscriptTail e (.Slice none none (some (.UnaryOp .USub (.Constant (.int 1) k p1) p2)) p3) (.ref a) (.ref s4.heap.objs.size)) (EP X pins σ Q) X.xe { s4 with heap := s4.heap.push { cls := .type "slice", data := .fields #[vl, vu, vs] } }
  refine tail_any (ops := [.ref a, .ref s4.heap.objs.size]) ht.typeIs PyProof.Rows.slot_tuple_getitem.lookup ?_ (by with_unfolding_all rfl)
  refine getItem_back ht (Heap.IsSliceOf.new _ vl vu vs) pl pu ps ?_ (by rw [List.size_toArray]; omega)
  refine ⟨.ref _, _, I5.laid (t' := s4.toks) (o := .tup xs.reverse) (fun b ob q => Heap.get?_push_of_some _ q) (Nat.le_refl _) ?_, rfl, q _ (I5.hok.fresh (Nat.le_refl _))⟩
  exact ⟨by rw [List.length_reverse]; exact hz, _, r.reverse, IsTup.new _ _⟩
end
end EV
set_option Elab.async false
set_option linter.all false
set_option maxRecDepth 100000
set_option maxHeartbeats 1000000
/-! Each form of an expression: what its parts' readings make. -/
namespace EV
open PySem L2
section
variable {X : Cx} {W : WX} {Cl : Nat → Addr} {Γ : Env'} {a b c : E} {x y z : Expr} {pos : Pos}
theorem PE.or {e : Expr} {t1 t2 t' : TE} (h1 : PE X e t1) (h2 : PE X e t2) (i : ∀ σ H Q, t' σ H Q → t1 σ H Q ∨ t2 σ H Q) : PE X e t' := ⟨fun pins s σ H Q I q => by
  rcases i σ H Q q with q | q
  · exact h1.run pins s σ H Q I q
  · exact h2.run pins s σ H Q I q⟩
/-- two operands, one behind the other, both read now -/
theorem two_bor {m : Bool} {ρ : Ro} {σ : St} {F : Addr → Prop} {H : Hp} {β : Type} {f : Val → Val → Ro → R (β × Ro)} {P : β → Ro → (Addr → Prop) → Hp → Prop} {R : V → V → Hp → Prop}
    (S : SR X.K F H ρ σ) (hv : isVar a = true → mutE b = false)
    (h : Res X.K W Cl ((mutE a || mutE b) || m) σ ρ F H ((borrow a ρ (ev Γ a ρ)).bind fun u => (borrow b u.2 (ev Γ b u.2)).bind fun v => f u.1 v.1 v.2) P)
    (k : ∀ v w ρ2 F2 H2 p q, SR X.K F2 H2 ρ2 σ → (∀ a, H2 a = none → H a = none) → BR X.K F2 H2 v p → BX X.K F2 H2 ρ2 σ (isVar b) w q → Res X.K W Cl m σ ρ2 F2 H2 (f v w ρ2) P → R p q H2) :
    TBv X W Cl Γ a σ H fun p H1 => TBv X W Cl Γ b σ H1 fun q H2 => R p q H2 := by
  refine ⟨ρ, F, S, ?_⟩
  rw [Bool.or_assoc] at h
  refine (Res.bind h).imp id fun v ρ1 F1 H1 g1 h1 p rp => ?_
  refine ⟨ρ1, F1, g1.sr, ?_⟩
  refine (Res.bind h1).imp id fun w ρ2 F2 H2 g2 h2 q rq => ?_
  exact k v w ρ2 F2 H2 p q g2.sr (fun a e => g1.ext.free (g2.ext.free e)) (rp.later g1.sr g2 hv).br rq h2
theorem two_borE {m : Bool} {ρ : Ro} {σ : St} {F : Addr → Prop} {H : Hp} {β : Type} {f : Val → Val → Ro → R (β × Ro)} {P : β → Ro → (Addr → Prop) → Hp → Prop} {R : V → V → Hp → Prop}
    (S : SR X.K F H ρ σ) (hv : isVar a = true → mutE b = false)
    (h : Res X.K W Cl ((mutE a || mutE b) || m) σ ρ F H ((borrow a ρ (ev Γ a ρ)).bind fun u => (borrow b u.2 (ev Γ b u.2)).bind fun v => f u.1 v.1 v.2) P)
    (k : ∀ v w ρ1 ρ2 F2 H2 p q, borrow a ρ (ev Γ a ρ) = .got (v, ρ1) → borrow b ρ1 (ev Γ b ρ1) = .got (w, ρ2) → SR X.K F2 H2 ρ2 σ → (∀ a, H2 a = none → H a = none) → BR X.K F2 H2 v p → BX X.K F2 H2 ρ2 σ (isVar b) w q → Res X.K W Cl m σ ρ2 F2 H2 (f v w ρ2) P → R p q H2) :
    TBv X W Cl Γ a σ H fun p H1 => TBv X W Cl Γ b σ H1 fun q H2 => R p q H2 := by
  refine ⟨ρ, F, S, ?_⟩
  rw [Bool.or_assoc] at h
  refine (Res.eq (Res.bind h)).imp id fun v ρ1 F1 H1 g1 ⟨e1, h1⟩ p rp => ?_
  refine ⟨ρ1, F1, g1.sr, ?_⟩
  refine (Res.eq (Res.bind h1)).imp id fun w ρ2 F2 H2 g2 ⟨e2, h2⟩ q rq => ?_
  exact k v w ρ1 ρ2 F2 H2 p q e1 e2 g2.sr (fun a e => g1.ext.free (g2.ext.free e)) (rp.later g1.sr g2 hv).br rq h2
theorem PT.or {e : Expr} {t1 t2 t' : TT} (h1 : PT X e t1) (h2 : PT X e t2) (i : ∀ σ H Q, t' σ H Q → t1 σ H Q ∨ t2 σ H Q) : PT X e t' := ⟨fun pins s σ H Q I q => by
  rcases i σ H Q q with q | q
  · exact h1.run pins s σ H Q I q
  · exact h2.run pins s σ H Q I q⟩
/-- the second operand is a dict -/
def dic2 (Γ : Env') (a b : E) (ρ : Ro) : Bool := match borrow a ρ (ev Γ a ρ) with
  | .got u => (match borrow b u.2 (ev Γ b u.2) with
    | .got v => isDic v.1
    | _ => false)
  | _ => false
theorem dic2_at {ρ ρ1 ρ2 : Ro} {v w : Val} (e1 : borrow a ρ (ev Γ a ρ) = .got (v, ρ1)) (e2 : borrow b ρ1 (ev Γ b ρ1) = .got (w, ρ2)) : dic2 Γ a b ρ = isDic w := by
  unfold dic2
  rw [e1]
  show (match borrow b ρ1 (ev Γ b ρ1) with
    | .got v => isDic v.1
    | _ => false) = _
  rw [e2]
theorem cmpW_no {op : Cm} {v w : Val} (h : isDic w = false) : cmpW op v w = cmpV op v w := by
  cases w <;> first | (cases op <;> rfl) | cases h
/-- what is looked up in a dict -/
theorem in_dic {F : Addr → Prop} {H : Hp} {v w : Val} {p q : V} {b : Bool} {op : Cm} (hi : op = .in_ ∨ op = .notin) (hd : isDic w = true) (rp : BR X.K F H v p) (rq : BR X.K F H w q) (e : cmpW op v w = some b) :
    ∃ a o, q = .ref a ∧ DGet H a p o ∧ b = (if op = .in_ then o.isSome else !o.isSome) := by
  cases w with
  | dic ks vs =>
    obtain ⟨a, kvs, ex, rd, d⟩ := rq.dr
    have key : ∀ z, inDic v ks vs = some z → ∃ o, DGet H a p o ∧ z = o.isSome := fun z hz => by
      unfold inDic at hz
      cases hk : keyV v with
      | none => rw [hk] at hz; cases hz
      | some k =>
        rw [hk] at hz
        cases hz
        refine ⟨valV kvs k, .inl ⟨kvs, k, rd, kV_keyV rp hk, rfl⟩, ?_⟩
        obtain ⟨d1, d2⟩ := d.look (j := k)
        cases hl : lookK ks vs k with
        | none => rw [d1 hl]; show (lookK ks vs k).isSome = _; rw [hl]; rfl
        | some x => obtain ⟨y, hy, _⟩ := d2 x hl; rw [hy]; show (lookK ks vs k).isSome = _; rw [hl]; rfl
    rcases hi with rfl | rfl
    · obtain ⟨o, g, e2⟩ := key b e
      exact ⟨a, o, ex, g, by rw [if_pos rfl]; exact e2⟩
    · have e : (inDic v ks vs).map (fun z => !z) = some b := e
      cases hz : inDic v ks vs with
      | none => rw [hz] at e; cases e
      | some z =>
        rw [hz] at e
        cases e
        obtain ⟨o, g, e2⟩ := key z hz
        exact ⟨a, o, ex, g, by rw [if_neg (by decide), e2]⟩
  | _ => cases hd
theorem pe_bin {op : Op} (ha : PE X x (TBv X W Cl Γ a)) (hb : PE X y (TBv X W Cl Γ b)) (hv : isVar a = true → mutE b = false) : PE X (.BinOp x (opS op) y pos) (TEv X W Cl Γ (.bin op a b)) := by
  refine PE.imp (pe_op (opr_bin op) ha hb) fun σ H Q ⟨ρ, F, S, h⟩ => ?_
  have h : Res X.K W Cl ((mutE a || mutE b) || false) σ ρ F H ((borrow a ρ (ev Γ a ρ)).bind fun x => (borrow b x.2 (ev Γ b x.2)).bind fun y => (R.of (binV op x.1 y.1)).bind fun v => .got (v, y.2)) (PQ X.K H Q) := by rw [Bool.or_false]; exact h
  refine two_bor (f := fun v w ρ2 => (R.of (binV op v w)).bind fun u => .got (u, ρ2)) S hv h fun v w ρ2 F2 H2 p q S2 fr rp rq h2 => ?_
  obtain ⟨u, e, h3⟩ := Res.of h2
  exact ⟨F2, v, w, u, S2.ft, rp, rq.br, e, fun z F' H' g r => Res.pure S2 h3 g z (r.back fr)⟩
theorem pe_cm {op : Cm} (hu : X.A.units + 65 < cLine) (ha : PE X x (TBv X W Cl Γ a)) (hb : PE X y (TBv X W Cl Γ b)) (hv : isVar a = true → mutE b = false) (hm : behindInMarks (cmS op) y = false) : PE X (.Compare x [cmS op] [y] pos) (TEv X W Cl Γ (.cmp op a b)) := by
  have old : ∀ σ H Q ρ F, SR X.K F H ρ σ → dic2 Γ a b ρ = false ∨ (op ≠ .in_ ∧ op ≠ .notin) → Res X.K W Cl (mutE a || mutE b) σ ρ F H (ev Γ (.cmp op a b) ρ) (PQ X.K H Q) → TBv X W Cl Γ a σ H fun p H1 => TBv X W Cl Γ b σ H1 fun q H2 => rCm X.K op p q H2 Q := fun σ H Q ρ F S hd h => by
    have h : Res X.K W Cl ((mutE a || mutE b) || false) σ ρ F H ((borrow a ρ (ev Γ a ρ)).bind fun x => (borrow b x.2 (ev Γ b x.2)).bind fun y => (R.of (cmpW op x.1 y.1)).bind fun v => .got ((Val.bl v, false), y.2)) (PQ X.K H Q) := by rw [Bool.or_false]; exact h
    refine two_borE (f := fun v w ρ2 => (R.of (cmpW op v w)).bind fun u => .got ((Val.bl u, false), ρ2)) S hv h fun v w ρ1 ρ2 F2 H2 p q e1 e2 S2 fr rp rq h2 => ?_
    obtain ⟨u, e, h3⟩ := Res.of h2
    have e : cmpV op v w = some u := by
      rcases hd with hd | ⟨n1, n2⟩
      · rw [dic2_at e1 e2] at hd
        rw [← cmpW_no hd]; exact e
      · cases op <;> first | exact absurd rfl n1 | exact absurd rfl n2 | (cases w <;> exact e)
    exact ⟨F2, v, w, u, rp, rq.br, e, Res.pure S2 h3 (Gr.refl _ _) (.bl u) rfl⟩
  have new : ∀ σ H Q ρ F, SR X.K F H ρ σ → dic2 Γ a b ρ = true → (op = .in_ ∨ op = .notin) → Res X.K W Cl (mutE a || mutE b) σ ρ F H (ev Γ (.cmp op a b) ρ) (PQ X.K H Q) → TBv X W Cl Γ a σ H fun p H1 => TBv X W Cl Γ b σ H1 fun q H2 => ∃ a o, q = .ref a ∧ DGet H2 a p o ∧ Q (.bl (if op = .in_ then o.isSome else !o.isSome)) H2 := fun σ H Q ρ F S hd hi h => by
    have h : Res X.K W Cl ((mutE a || mutE b) || false) σ ρ F H ((borrow a ρ (ev Γ a ρ)).bind fun x => (borrow b x.2 (ev Γ b x.2)).bind fun y => (R.of (cmpW op x.1 y.1)).bind fun v => .got ((Val.bl v, false), y.2)) (PQ X.K H Q) := by rw [Bool.or_false]; exact h
    refine two_borE (f := fun v w ρ2 => (R.of (cmpW op v w)).bind fun u => .got ((Val.bl u, false), ρ2)) S hv h fun v w ρ1 ρ2 F2 H2 p q e1 e2 S2 fr rp rq h2 => ?_
    obtain ⟨u, e, h3⟩ := Res.of h2
    rw [dic2_at e1 e2] at hd
    obtain ⟨ad, o, ex, g, eb⟩ := in_dic hi hd rp rq.br e
    exact ⟨ad, o, ex, g, by rw [← eb]; exact Res.pure S2 h3 (Gr.refl _ _) (.bl u) rfl⟩
  by_cases hi : op = .in_ ∨ op = .notin
  · have hu1 : X.A.units + 1 < cLine := by omega
    rcases hi with rfl | rfl
    · refine PE.or (pe_cmpR (opr_cm hu .in_) ha hb hm) (pe_cmp (pc_din hu1 ha hb) hm) fun σ H Q ⟨ρ, F, S, h⟩ => ?_
      cases hd : dic2 Γ a b ρ with
      | false => exact .inl (old σ H Q ρ F S (.inl hd) h)
      | true => exact .inr (new σ H Q ρ F S hd (.inl rfl) h)
    · refine PE.or (pe_cmpR (opr_cm hu .notin) ha hb hm) (pe_cmp (pc_dnotin hu1 ha hb) hm) fun σ H Q ⟨ρ, F, S, h⟩ => ?_
      cases hd : dic2 Γ a b ρ with
      | false => exact .inl (old σ H Q ρ F S (.inl hd) h)
      | true => exact .inr (new σ H Q ρ F S hd (.inr rfl) h)
  · exact PE.imp (pe_cmpR (opr_cm hu op) ha hb hm) fun σ H Q ⟨ρ, F, S, h⟩ => old σ H Q ρ F S (.inr (not_or.mp hi)) h
theorem test_bl {α : Type} {r : R α} {g : α → R (Bool × Ro)} : testR (r.bind fun u => (g u).bind fun v => .got ((.bl v.1, false), v.2)) = r.bind g := by
  cases r with
  | got u =>
    show testR ((g u).bind fun v => .got ((.bl v.1, false), v.2)) = g u
    cases g u <;> rfl
  | ex c p => rfl
  | bad => rfl
theorem bind_assoc {α β γ : Type} {r : R α} {f : α → R β} {g : β → R γ} : (r.bind f).bind g = r.bind fun u => (f u).bind g := by cases r <;> rfl
theorem testR_bind {α : Type} {r : R α} {f : α → RV} : testR (r.bind f) = r.bind fun u => testR (f u) := by cases r <;> rfl
theorem testR_bl {b : Bool} {ρ : Ro} : testR (.got ((.bl b, false), ρ)) = .got (b, ρ) := rfl
theorem pt_cm {op : Cm} (hu : X.A.units + 65 < cLine) (ha : PE X x (TBv X W Cl Γ a)) (hb : PE X y (TBv X W Cl Γ b)) (hv : isVar a = true → mutE b = false) (hm : behindInMarks (cmS op) y = false) : PT X (.Compare x [cmS op] [y] pos) (TTv X W Cl Γ (.cmp op a b)) := by
  have ee : ∀ ρ, testR (ev Γ (.cmp op a b) ρ) = (borrow a ρ (ev Γ a ρ)).bind fun u => (borrow b u.2 (ev Γ b u.2)).bind fun v => (R.of (cmpW op u.1 v.1)).bind fun t => .got (t, v.2) := fun ρ => by
    show testR ((borrow a ρ (ev Γ a ρ)).bind fun u => (borrow b u.2 (ev Γ b u.2)).bind fun v => (R.of (cmpW op u.1 v.1)).bind fun t => .got ((.bl t, false), v.2)) = _
    simp only [testR_bind, testR_bl]
  have old : ∀ σ H Q ρ F, SR X.K F H ρ σ → dic2 Γ a b ρ = false ∨ (op ≠ .in_ ∧ op ≠ .notin) → Res X.K W Cl (mutE a || mutE b) σ ρ F H (testR (ev Γ (.cmp op a b) ρ)) (PB Q) → TBv X W Cl Γ a σ H fun p H1 => TBv X W Cl Γ b σ H1 fun q H2 => rCm X.K op p q H2 fun x H3 => ∃ c, x = .bl c ∧ Q c H3 := fun σ H Q ρ F S hd h => by
    rw [ee] at h
    have h : Res X.K W Cl ((mutE a || mutE b) || false) σ ρ F H ((borrow a ρ (ev Γ a ρ)).bind fun u => (borrow b u.2 (ev Γ b u.2)).bind fun v => (R.of (cmpW op u.1 v.1)).bind fun t => .got (t, v.2)) (PB Q) := by rw [Bool.or_false]; exact h
    refine two_borE (f := fun v w ρ2 => (R.of (cmpW op v w)).bind fun u => .got (u, ρ2)) S hv h fun v w ρ1 ρ2 F2 H2 p q e1 e2 S2 fr rp rq h2 => ?_
    obtain ⟨u, e, h3⟩ := Res.of h2
    have e : cmpV op v w = some u := by
      rcases hd with hd | ⟨n1, n2⟩
      · rw [dic2_at e1 e2] at hd
        rw [← cmpW_no hd]; exact e
      · cases op <;> first | exact absurd rfl n1 | exact absurd rfl n2 | (cases w <;> exact e)
    exact ⟨F2, v, w, u, rp, rq.br, e, u, rfl, Res.pure S2 h3 (Gr.refl _ _)⟩
  have new : ∀ σ H Q ρ F, SR X.K F H ρ σ → dic2 Γ a b ρ = true → (op = .in_ ∨ op = .notin) → Res X.K W Cl (mutE a || mutE b) σ ρ F H (testR (ev Γ (.cmp op a b) ρ)) (PB Q) → TBv X W Cl Γ a σ H fun p H1 => TBv X W Cl Γ b σ H1 fun q H2 => ∃ a o, q = .ref a ∧ DGet H2 a p o ∧ ∃ c, V.bl (if op = .in_ then o.isSome else !o.isSome) = .bl c ∧ Q c H2 := fun σ H Q ρ F S hd hi h => by
    rw [ee] at h
    have h : Res X.K W Cl ((mutE a || mutE b) || false) σ ρ F H ((borrow a ρ (ev Γ a ρ)).bind fun u => (borrow b u.2 (ev Γ b u.2)).bind fun v => (R.of (cmpW op u.1 v.1)).bind fun t => .got (t, v.2)) (PB Q) := by rw [Bool.or_false]; exact h
    refine two_borE (f := fun v w ρ2 => (R.of (cmpW op v w)).bind fun u => .got (u, ρ2)) S hv h fun v w ρ1 ρ2 F2 H2 p q e1 e2 S2 fr rp rq h2 => ?_
    obtain ⟨u, e, h3⟩ := Res.of h2
    rw [dic2_at e1 e2] at hd
    obtain ⟨ad, o, ex, g, eb⟩ := in_dic hi hd rp rq.br e
    exact ⟨ad, o, ex, g, _, rfl, by rw [← eb]; exact Res.pure S2 h3 (Gr.refl _ _)⟩
  by_cases hi : op = .in_ ∨ op = .notin
  · have hu1 : X.A.units + 1 < cLine := by omega
    rcases hi with rfl | rfl
    · refine PT.or (pt_cmpR (opr_cm hu .in_) ha hb hm) (pt_cmp (pc_din hu1 ha hb) hm) fun σ H Q ⟨ρ, F, S, h⟩ => ?_
      cases hd : dic2 Γ a b ρ with
      | false => exact .inl (old σ H Q ρ F S (.inl hd) h)
      | true => exact .inr (new σ H Q ρ F S hd (.inl rfl) h)
    · refine PT.or (pt_cmpR (opr_cm hu .notin) ha hb hm) (pt_cmp (pc_dnotin hu1 ha hb) hm) fun σ H Q ⟨ρ, F, S, h⟩ => ?_
      cases hd : dic2 Γ a b ρ with
      | false => exact .inl (old σ H Q ρ F S (.inl hd) h)
      | true => exact .inr (new σ H Q ρ F S hd (.inr rfl) h)
  · exact PT.imp (pt_cmpR (opr_cm hu op) ha hb hm) fun σ H Q ⟨ρ, F, S, h⟩ => old σ H Q ρ F S (.inr (not_or.mp hi)) h
theorem pe_neg (ha : PE X x (TEv X W Cl Γ a)) : PE X (.UnaryOp .USub x pos) (TEv X W Cl Γ (.neg a)) := by
  refine PE.imp (pe_un un_neg (pe_val ha)) fun σ H Q ⟨ρ, F, S, h⟩ => ⟨ρ, F, S, ?_⟩
  have h : Res X.K W Cl (mutE a) σ ρ F H ((ev Γ a ρ).bind fun u => match u.1.1 with
    | .int i => .got ((Val.int (-i), false), u.2)
    | _ => .bad) (PQ X.K H Q) := h
  refine (Res.bind1 h).imp id fun u ρ1 F1 H1 g1 h1 p r => ?_
  obtain ⟨v, fr⟩ := u
  cases v with
  | int i => exact ⟨i, r, Res.pure g1.sr h1 (Gr.refl _ _) (.int (-i)) rfl⟩
  | _ => exact h1.elim
/-- a value as a test -/
theorem pt_tru (ha : PE X x (TEv X W Cl Γ a)) (he : ∀ whole, isTrue x X.env whole = (do let v ← whole; standAt x.pos; holding [v] (truthy v))) : PT X x (TTv X W Cl Γ a) := by
  refine PT.imp (pt_truth ha he) fun σ H Q ⟨ρ, F, S, h⟩ => ⟨ρ, F, S, ?_⟩
  have h : Res X.K W Cl (mutE a) σ ρ F H ((ev Γ a ρ).bind fun z => match truth z.1.1 with
    | some b => .got (b, z.2)
    | none => .bad) (PB Q) := h
  refine (Res.bind1 h).imp id fun u ρ1 F1 H1 g1 h1 p r => ?_
  cases e : truth u.1 with
  | none =>
    simp only [e] at h1
    exact h1.elim
  | some k =>
    simp only [e] at h1
    exact ⟨k, truth_of r.br e, Res.pure g1.sr h1 (Gr.refl _ _)⟩
theorem pt_not' (ha : PT X x (TTv X W Cl Γ a)) : PT X (.UnaryOp .Not x pos) (TTv X W Cl Γ (.not a)) := by
  refine PT.imp (pt_not ha) fun σ H Q ⟨ρ, F, S, h⟩ => ⟨ρ, F, S, ?_⟩
  have e : testR (ev Γ (.not a) ρ) = (testR (ev Γ a ρ)).bind fun u => .got (!u.1, u.2) := by
    show testR ((testR (ev Γ a ρ)).bind fun u => .got ((.bl (!u.1), false), u.2)) = _
    simp only [testR_bind, testR_bl]
  rw [e] at h
  have h : Res X.K W Cl (mutE a) σ ρ F H ((testR (ev Γ a ρ)).bind fun u => .got (!u.1, u.2)) (PB Q) := h
  exact (Res.bind1 h).imp id fun u ρ1 F1 H1 g1 h1 => (Res.pure (W := W) (Cl := Cl) g1.sr h1 (Gr.refl _ _) : Q (!u) H1)
theorem pe_not' (ha : PE X x (TEv X W Cl Γ a)) : PE X (.UnaryOp .Not x pos) (TEv X W Cl Γ (.not a)) := by
  refine PE.imp (pe_notT ha) fun σ H Q ⟨ρ, F, S, h⟩ => ⟨ρ, F, S, ?_⟩
  have h : Res X.K W Cl (mutE a) σ ρ F H ((testR (ev Γ a ρ)).bind fun u => .got ((Val.bl (!u.1), false), u.2)) (PQ X.K H Q) := h
  have e : (testR (ev Γ a ρ)).bind (fun u => R.got ((Val.bl (!u.1), false), u.2)) = (ev Γ a ρ).bind fun u => (match truth u.1.1 with | some t => R.got (t, u.2) | none => .bad).bind fun v => .got ((Val.bl (!v.1), false), v.2) := by
    cases ev Γ a ρ <;> rfl
  rw [e] at h
  refine (Res.bind1 h).imp id fun u ρ1 F1 H1 g1 h1 p r => ?_
  cases e : truth u.1 with
  | none => simp only [e] at h1; exact h1.elim
  | some k =>
    simp only [e] at h1
    exact ⟨k, truth_of r.br e, Res.pure g1.sr h1 (Gr.refl _ _) (.bl (!k)) rfl⟩
theorem pe_and' {r : List Expr} (ha : PE X x (TEv X W Cl Γ a)) (hb : PE X (.BoolOp .And (y :: r) pos) (TEv X W Cl Γ b)) : PE X (.BoolOp .And (x :: y :: r) pos) (TEv X W Cl Γ (.and a b)) := by
  refine PE.imp (pe_andT ha hb) fun σ H Q ⟨ρ, F, S, h⟩ => ⟨ρ, F, S, ?_⟩
  refine (Res.bind (m := mutE a) (m' := mutE b) h).imp id fun u ρ1 F1 H1 g1 h1 p rp => ?_
  cases e : truth u.1 with
  | none => simp only [e] at h1; exact h1.elim
  | some k =>
    simp only [e] at h1
    refine ⟨k, truth_of rp.br e, ?_⟩
    cases k with
    | true =>
      rw [if_pos rfl]
      exact ⟨ρ1, F1, g1.sr, h1.toH (fun a e => g1.ext.free e) id⟩
    | false =>
      rw [if_neg Bool.false_ne_true]
      exact Res.pure g1.sr h1 (Gr.refl _ _) p rp
theorem pe_or' {r : List Expr} (ha : PE X x (TEv X W Cl Γ a)) (hb : PE X (.BoolOp .Or (y :: r) pos) (TEv X W Cl Γ b)) : PE X (.BoolOp .Or (x :: y :: r) pos) (TEv X W Cl Γ (.or a b)) := by
  refine PE.imp (pe_orT ha hb) fun σ H Q ⟨ρ, F, S, h⟩ => ⟨ρ, F, S, ?_⟩
  refine (Res.bind (m := mutE a) (m' := mutE b) h).imp id fun u ρ1 F1 H1 g1 h1 p rp => ?_
  cases e : truth u.1 with
  | none => simp only [e] at h1; exact h1.elim
  | some k =>
    simp only [e] at h1
    refine ⟨k, truth_of rp.br e, ?_⟩
    cases k with
    | false =>
      rw [if_neg Bool.false_ne_true]
      exact ⟨ρ1, F1, g1.sr, h1.toH (fun a e => g1.ext.free e) id⟩
    | true =>
      rw [if_pos rfl]
      exact Res.pure g1.sr h1 (Gr.refl _ _) p rp
theorem test_split {r : RV} {f g : Ro → R (Bool × Ro)} : (r.bind fun u => match truth u.1.1 with | some true => f u.2 | some false => g u.2 | none => .bad) = (testR r).bind fun t => match t.1 with | true => f t.2 | false => g t.2 := by
  cases r with
  | got u =>
    show (match truth u.1.1 with | some true => f u.2 | some false => g u.2 | none => .bad) = (match truth u.1.1 with | some b => R.got (b, u.2) | none => .bad).bind _
    cases truth u.1.1 with
    | none => rfl
    | some b => cases b <;> rfl
  | ex c p => rfl
  | bad => rfl
theorem pw_and' {r : List Expr} (ha : PT X x (TTv X W Cl Γ a)) (hb : PW X (.BoolOp .And (y :: r) pos) (TTv X W Cl Γ b)) : PW X (.BoolOp .And (x :: y :: r) pos) (TTv X W Cl Γ (.and a b)) := by
  have hh := pw_and ha hb
  refine ⟨fun wh pins s σ H Q I ⟨ρ, F, S, h⟩ => hh.run wh pins s σ H Q I ⟨ρ, F, S, ?_⟩⟩
  have e : testR (ev Γ (.and a b) ρ) = (testR (ev Γ a ρ)).bind fun t => match t.1 with | true => testR (ev Γ b t.2) | false => .got (false, t.2) := by
    show testR ((ev Γ a ρ).bind _) = _
    cases ev Γ a ρ with
    | got u =>
      obtain ⟨⟨v, fr⟩, ρ'⟩ := u
      cases e : truth v with
      | none => simp only [R.bind, testR, e]
      | some k => cases k <;> simp only [R.bind, testR, e]
    | ex c p => rfl
    | bad => rfl
  rw [e] at h
  refine (Res.bind (m := mutE a) (m' := mutE b) h).imp id fun k ρ1 F1 H1 g1 h1 => ?_
  cases k with
  | true =>
    exact iteT ⟨ρ1, F1, g1.sr, h1⟩
  | false => exact iteF (Res.pure (P := PB Q) g1.sr h1 (Gr.refl _ _))
theorem pw_or' {r : List Expr} (ha : PT X x (TTv X W Cl Γ a)) (hb : PW X (.BoolOp .Or (y :: r) pos) (TTv X W Cl Γ b)) : PW X (.BoolOp .Or (x :: y :: r) pos) (TTv X W Cl Γ (.or a b)) := by
  have hh := pw_or ha hb
  refine ⟨fun wh pins s σ H Q I ⟨ρ, F, S, h⟩ => hh.run wh pins s σ H Q I ⟨ρ, F, S, ?_⟩⟩
  have e : testR (ev Γ (.or a b) ρ) = (testR (ev Γ a ρ)).bind fun t => match t.1 with | true => .got (true, t.2) | false => testR (ev Γ b t.2) := by
    show testR ((ev Γ a ρ).bind _) = _
    cases ev Γ a ρ with
    | got u =>
      obtain ⟨⟨v, fr⟩, ρ'⟩ := u
      cases e : truth v with
      | none => simp only [R.bind, testR, e]
      | some k => cases k <;> simp only [R.bind, testR, e]
    | ex c p => rfl
    | bad => rfl
  rw [e] at h
  refine (Res.bind (m := mutE a) (m' := mutE b) h).imp id fun k ρ1 F1 H1 g1 h1 => ?_
  cases k with
  | false =>
    exact iteF ⟨ρ1, F1, g1.sr, h1⟩
  | true => exact iteT (Res.pure (P := PB Q) g1.sr h1 (Gr.refl _ _))
theorem pe_ife (hc : PT X z (TTv X W Cl Γ c)) (ha : PE X x (TEv X W Cl Γ a)) (hb : PE X y (TEv X W Cl Γ b)) : PE X (.IfExp z x y pos) (TEv X W Cl Γ (.ife c a b)) := by
  refine PE.imp (pe_ifExp hc ha hb) fun σ H Q ⟨ρ, F, S, h⟩ => ⟨ρ, F, S, ?_⟩
  refine (Res.bind (m := mutE c) (m' := mutE a || mutE b) h).imp id fun k ρ1 F1 H1 g1 h1 => ?_
  have go : ∀ {e : E} {m : Bool}, (mutE e = true → m = true) → Res X.K W Cl m σ ρ1 F1 H1 (ev Γ e ρ1) (PQ X.K H Q) → TEv X W Cl Γ e σ H1 Q := fun hm h =>
    ⟨ρ1, F1, g1.sr, h.toH (fun a e => g1.ext.free e) hm⟩
  cases k with
  | true => exact iteT (go (fun e => by rw [e]; rfl) h1)
  | false => exact iteF (go (fun e => by rw [e]; exact Bool.or_true _) h1)
end
end EV
set_option Elab.async false
set_option linter.all false
set_option maxRecDepth 100000
set_option maxHeartbeats 1000000
/-! Chains, subscripts, slices, isinstance, displays, built-in calls. -/
namespace EV
open PySem L2
section
variable {X : Cx} {W : WX} {Cl : Nat → Addr} {Γ : Env'} {a b c : E} {x y z : Expr} {pos : Pos}
theorem chain_core {op op' : Cm} {ρ : Ro} {σ : St} {F : Addr → Prop} {H : Hp} {β : Type} {P : β → Ro → (Addr → Prop) → Hp → Prop} {Q : VK} {d : Bool → Ro → R (β × Ro)}
    (S : SR X.K F H ρ σ) (hv : isVar a = true → mutE b = false) (hw : isVar b = true → mutE c = false)
    (hd : ∀ k ρ' F' H', SR X.K F' H' ρ' σ → Res X.K W Cl false σ ρ' F' H' (d k ρ') P → Q (.bl k) H')
    (h : Res X.K W Cl ((mutE a || mutE b) || mutE c) σ ρ F H ((borrow a ρ (ev Γ a ρ)).bind fun u => (borrow b u.2 (ev Γ b u.2)).bind fun v => (R.of (cmpV op u.1 v.1)).bind fun k => match k with
      | true => (borrow c v.2 (ev Γ c v.2)).bind fun w => (R.of (cmpV op' v.1 w.1)).bind fun l => d l w.2
      | false => d false v.2) P) :
    tChain (rCm X.K op) (rCm X.K op') (TBv X W Cl Γ a) (TBv X W Cl Γ b) (TBv X W Cl Γ c) σ H Q := by
  refine two_bor (f := fun v w ρ2 => (R.of (cmpV op v w)).bind fun k => match k with
      | true => (borrow c ρ2 (ev Γ c ρ2)).bind fun t => (R.of (cmpV op' w t.1)).bind fun l => d l t.2
      | false => d false ρ2) S hv h fun v w ρ2 F2 H2 p q S2 fr rp rq h2 => ?_
  obtain ⟨k, e, h3⟩ := Res.of h2
  refine ⟨F2, v, w, k, rp, rq.br, e, k, rfl, ?_⟩
  cases k with
  | false => exact iteF (hd false ρ2 F2 H2 S2 (h3.imp (fun e => nomatch e) fun _ _ _ _ _ z => z))
  | true =>
    refine iteT ⟨ρ2, F2, S2, ?_⟩
    refine (Res.bind1 h3).imp id fun t ρ3 F3 H3 g3 h4 r rr => ?_
    obtain ⟨l, e2, h5⟩ := Res.of h4
    exact ⟨F3, w, t, l, (rq.later S2 g3 hw).br, rr.br, e2, hd l ρ3 F3 H3 g3.sr h5⟩
theorem pe_ch {op op' : Cm} (hu : X.A.units + 65 < cLine) (ha : PE X x (TBv X W Cl Γ a)) (hb : PE X y (TBv X W Cl Γ b)) (hc : PE X z (TBv X W Cl Γ c)) (hv : isVar a = true → mutE b = false) (hw : isVar b = true → mutE c = false)
    (hm : lastMarks [cmS op, cmS op'] [y, z] = false) : PE X (.Compare x [cmS op, cmS op'] [y, z] pos) (TEv X W Cl Γ (.chain op op' a b c)) := by
  refine PE.imp (pe_chain (opr_cm hu op) (opr_cm hu op') ha hb hc hm) fun σ H Q ⟨ρ, F, S, h⟩ => ?_
  refine chain_core (P := PQ X.K H Q) (d := fun k ρ' => .got ((.bl k, false), ρ')) S hv hw (fun k ρ' F' H' S' h' => Res.pure (P := PQ X.K H Q) S' h' (Gr.refl _ _) (.bl k) rfl) ?_
  rw [Bool.or_assoc]
  exact h
theorem pt_ch {op op' : Cm} (hu : X.A.units + 65 < cLine) (ha : PE X x (TBv X W Cl Γ a)) (hb : PE X y (TBv X W Cl Γ b)) (hc : PE X z (TBv X W Cl Γ c)) (hv : isVar a = true → mutE b = false) (hw : isVar b = true → mutE c = false)
    (hm : lastMarks [cmS op, cmS op'] [y, z] = false) : PT X (.Compare x [cmS op, cmS op'] [y, z] pos) (TTv X W Cl Γ (.chain op op' a b c)) := by
  refine PT.imp (pt_chain (opr_cm hu op) (opr_cm hu op') ha hb hc hm) fun σ H Q ⟨ρ, F, S, h⟩ => ?_
  have e : testR (ev Γ (.chain op op' a b c) ρ) = (borrow a ρ (ev Γ a ρ)).bind fun u => (borrow b u.2 (ev Γ b u.2)).bind fun v => (R.of (cmpV op u.1 v.1)).bind fun k => match k with
      | true => (borrow c v.2 (ev Γ c v.2)).bind fun w => (R.of (cmpV op' v.1 w.1)).bind fun l => .got (l, w.2)
      | false => .got (false, v.2) := by
    show testR ((borrow a ρ (ev Γ a ρ)).bind _) = _
    rw [testR_bind]
    congr 1
    funext u
    rw [testR_bind]
    congr 1
    funext v
    rw [testR_bind]
    congr 1
    funext k
    cases k with
    | true =>
      show testR ((borrow c v.2 (ev Γ c v.2)).bind _) = _
      rw [testR_bind]
      congr 1
      funext w
      rw [testR_bind]
      rfl
    | false => rfl
  rw [e] at h
  show tChain _ _ _ _ _ σ H (fun x H' => ∃ k, x = .bl k ∧ Q k H')
  refine chain_core (P := PB Q) (d := fun k ρ' => .got (k, ρ')) S hv hw (fun k ρ' F' H' S' h' => ⟨k, rfl, Res.pure (P := PB Q) S' h' (Gr.refl _ _)⟩) ?_
  rw [Bool.or_assoc]
  exact h
/-- the value is a dict -/
def dic1 (Γ : Env') (a : E) (ρ : Ro) : Bool := match borrow a ρ (ev Γ a ρ) with
  | .got u => isDic u.1
  | _ => false
theorem pe_ix' (hu : X.A.units + 65 < cLine) (ha : PE X x (TBv X W Cl Γ a)) (hb : PE X y (TEv X W Cl Γ b)) (hv : isVar a = true → mutE b = false) (hs : PlainIx y) : PE X (.Subscript x y pos) (TEv X W Cl Γ (.ix a b)) := by
  refine PE.or (pe_ix ixr ha (pe_val hb) hs) (pe_dget (by omega) ha (pe_val hb) hs) fun σ H Q ⟨ρ, F, S, h⟩ => ?_
  cases hd : dic1 Γ a ρ with
  | false =>
    refine .inl ⟨ρ, F, S, ?_⟩
    refine (Res.eq (Res.bind (m := mutE a) (m' := mutE b) h)).imp id fun v ρ1 F1 H1 g1 ⟨e1, h1⟩ p rp => ⟨ρ1, F1, g1.sr, ?_⟩
    refine (Res.bind1 h1).imp id fun w ρ2 F2 H2 g2 h2 q rq => ?_
    obtain ⟨u, e, h3⟩ := Res.of h2
    have e : ixV v w.1 = some u := by
      unfold dic1 at hd
      rw [e1] at hd
      have hd : isDic v = false := hd
      cases v <;> first | exact e | cases hd
    exact ⟨F2, v, w.1, u, (rp.later g1.sr g2 hv).br, .inl rq, e, fun t r => Res.pure g2.sr h3 (Gr.refl _ _) t r⟩
  | true =>
    refine .inr ⟨ρ, F, S, ?_⟩
    refine (Res.eq (Res.bind (m := mutE a) (m' := mutE b) h)).imp id fun v ρ1 F1 H1 g1 ⟨e1, h1⟩ p rp => ⟨ρ1, F1, g1.sr, ?_⟩
    refine (Res.bind1 h1).imp id fun w ρ2 F2 H2 g2 h2 q rq => ?_
    obtain ⟨u, e, h3⟩ := Res.of h2
    unfold dic1 at hd
    rw [e1] at hd
    have hd : isDic v = true := hd
    cases v with
    | dic ks vs =>
      obtain ⟨ad, kvs, ex, rd, d⟩ := (rp.later g1.sr g2 hv).br.dr
      have e : (keyV w.1).bind (lookK ks vs) = some u := e
      cases hk : keyV w.1 with
      | none => rw [hk] at e; cases e
      | some k =>
        rw [hk] at e
        obtain ⟨z, hz, rz⟩ := (d.look (j := k)).2 u e
        exact ⟨ad, z, ex, .inl ⟨kvs, k, rd, kV_keyV (.inl rq) hk, hz.symm⟩, Res.pure g2.sr h3 (Gr.refl _ _) z rz⟩
    | _ => cases hd
/-- d.get(k, v) -/
theorem pe_get' {c : E} {z : Expr} {apos cpos : Pos} (hu : X.A.units + 65 < cLine) (ha : PE X x (TBv X W Cl Γ a)) (hb : PE X y (TEv X W Cl Γ b)) (hc : PE X z (TEv X W Cl Γ c)) (hv : isVar a = true → (mutE b || mutE c) = false) (hm : M2 X x "get" apos y z cpos) :
    PE X (.Call (.Attribute x "get" apos) [y, z] [] cpos) (TEv X W Cl Γ (.get a b c)) := by
  refine PE.imp (pe_dget2 (by omega) ha (pe_val hb) (pe_val hc) hm) fun σ H Q ⟨ρ, F, S, h⟩ => ⟨ρ, F, S, ?_⟩
  refine (Res.bind (m := mutE a) (m' := mutE b || mutE c) h).imp id fun v ρ1 F1 H1 g1 h1 p rp => ?_
  obtain ⟨kv, e, h1⟩ := Res.of h1
  have hdic : v = .dic kv.1 kv.2 := by cases v <;> first | (cases e; rfl) | cases e
  subst hdic
  obtain ⟨ad, kvs, ex, rd, d⟩ := rp.br.dr
  refine ⟨ad, ex, .inl ⟨kvs, rd⟩, ρ1, F1, g1.sr, ?_⟩
  refine (Res.bind (m := mutE b) (m' := mutE c) h1).imp id fun w ρ2 F2 H2 g2 h2 q rq => ⟨ρ2, F2, g2.sr, ?_⟩
  refine (Res.bind1 h2).imp id fun t ρ3 F3 H3 g3 h3 r rr => ?_
  obtain ⟨k, hk, h3⟩ := Res.of h3
  obtain ⟨ad2, kvs2, ex2, rd2, d2⟩ := ((rp.later g1.sr g2 fun z => (Bool.or_eq_false_iff.mp (hv z)).1).later g2.sr g3 fun z => (Bool.or_eq_false_iff.mp (hv z)).2).br.dr
  rw [ex] at ex2
  cases ex2
  refine ⟨valV kvs2 k, .inl ⟨kvs2, k, rd2, kV_keyV (.inl rq) hk, rfl⟩, ?_⟩
  obtain ⟨l1, l2⟩ := d2.look (j := k)
  have h3 : Res X.K W Cl false σ ρ3 F3 H3 (.got (((lookK kv.1 kv.2 k).getD t.1, false), ρ3)) (PQ X.K H Q) := h3
  cases hl : lookK kv.1 kv.2 k with
  | none =>
    rw [hl] at h3
    rw [l1 hl]
    exact Res.pure g3.sr h3 (Gr.refl _ _) r rr
  | some u =>
    rw [hl] at h3
    obtain ⟨y, hy, ry⟩ := l2 u hl
    rw [hy]
    exact Res.pure g3.sr h3 (Gr.refl _ _) y ry
/-! ### slices -/
def TPv (X : Cx) (W : WX) (Cl : Nat → Addr) (Γ : Env') (e : E) : TO := fun σ H Q => ∃ ρ F, SR X.K F H ρ σ ∧ Res X.K W Cl (mutE e) σ ρ F H (partR e ρ (ev Γ e ρ)) fun i _ _ H' => Q i H'
theorem PO.imp {o : Option Expr} {t t' : TO} (h : PO X o t) (i : ∀ σ H Q, t' σ H Q → t σ H Q) : PO X o t' := ⟨fun pins s σ H Q I q => h.run pins s σ H Q I (i σ H Q q)⟩
theorem po_nop : PO X none (TPv X W Cl Γ .nop) := PO.imp po_none fun σ H Q ⟨ρ, F, S, h⟩ => Res.pure (P := fun i _ _ H' => Q i H') S h (Gr.refl _ _)
theorem po_val (ha : PE X x (TEv X W Cl Γ a)) (hn : a ≠ .nop) : PO X (some x) (TPv X W Cl Γ a) := by
  refine PO.imp (po_some (pe_val ha)) fun σ H Q ⟨ρ, F, S, h⟩ => ⟨ρ, F, S, ?_⟩
  have e : ∀ r : RV, partR a ρ r = r.bind fun y => (R.of (partV y.1.1)).bind fun i => .got (some i, y.2) := fun r => by
    cases a <;> first | rfl | exact absurd rfl hn
  rw [e] at h
  refine (Res.bind1 h).imp id fun v ρ1 F1 H1 g1 h1 p rp => ?_
  obtain ⟨i, e2, h2⟩ := Res.of h1
  obtain ⟨u, f⟩ := v
  cases u with
  | int j =>
    obtain rfl : j = i := Option.some.inj e2
    exact ⟨j, rp, Res.pure (P := fun i _ _ H' => Q i H') g1.sr h2 (Gr.refl _ _)⟩
  | _ => cases e2
theorem pe_sl' {lo hi : Option Expr} {p2 : Pos} (ha : PE X x (TBv X W Cl Γ a)) (hb : PO X lo (TPv X W Cl Γ b)) (hc : PO X hi (TPv X W Cl Γ c)) (hv : isVar a = true → (mutE b || mutE c) = false) : PE X (.Subscript x (.Slice lo hi none p2) pos) (TEv X W Cl Γ (.sl a b c)) := by
  refine PE.imp (pe_slice slr ha hb hc) fun σ H Q ⟨ρ, F, S, h⟩ => ⟨ρ, F, S, ?_⟩
  refine (Res.bind (m := mutE a) (m' := mutE b || mutE c) h).imp id fun v ρ1 F1 H1 g1 h1 p rp => ⟨ρ1, F1, g1.sr, ?_⟩
  refine (Res.bind (m := mutE b) (m' := mutE c) h1).imp id fun l ρ2 F2 H2 g2 h2 => ⟨ρ2, F2, g2.sr, ?_⟩
  refine (Res.bind1 h2).imp id fun r ρ3 F3 H3 g3 h3 => ?_
  obtain ⟨u, e, h4⟩ := Res.of h3
  exact ⟨F3, v, u, g3.sr.ft, (rp.later g1.sr (g2.trans g3) hv).br, e, fun t F' H' g rr => Res.pure g3.sr h4 g t (rr.back fun a e => g1.ext.free (g2.ext.free (g3.ext.free e)))⟩
theorem pe_rev' {k : Nat} {p1 p2 p3 : Pos} (ha : PE X x (TBv X W Cl Γ a)) : PE X (.Subscript x (.Slice none none (some (.UnaryOp .USub (.Constant (.int 1) k p1) p2)) p3) pos) (TEv X W Cl Γ (.rev a)) := by
  have core : ∀ {σ : St} {H : Hp} {Q : VK} {ρ : Ro} {F : Addr → Prop}, SR X.K F H ρ σ → Res X.K W Cl (mutE a) σ ρ F H (ev Γ (.rev a) ρ) (PQ X.K H Q) →
      Res X.K W Cl (mutE a) σ ρ F H (borrow a ρ (ev Γ a ρ)) fun v ρ1 F1 H1 => (∀ a, H1 a = none → H a = none) ∧ SR X.K F1 H1 ρ1 σ ∧ ∃ u, revV v = some u ∧ Res X.K W Cl false σ ρ1 F1 H1 (.got (u, ρ1)) (PQ X.K H Q) := fun S h =>
    (Res.bind1 h).imp id fun v ρ1 F1 H1 g1 h1 => ⟨fun a e => g1.ext.free e, g1.sr, Res.of h1⟩
  refine PE.or (pe_revL ha) (pe_revT ha) fun σ H Q ⟨ρ, F, S, h⟩ => ?_
  have h2 := core S h
  cases e : borrow a ρ (ev Γ a ρ) with
  | bad => rw [e] at h2; exact h2.elim
  | ex c p =>
    rw [e] at h2
    exact .inl ⟨ρ, F, S, by rw [e]; exact h2⟩
  | got u =>
    obtain ⟨v, ρ1⟩ := u
    rw [e] at h2
    cases v with
    | lst vs =>
      refine .inl ⟨ρ, F, S, ?_⟩
      rw [e]
      intro F1 H1 g1 p rp
      obtain ⟨fr, S1, u, e2, h3⟩ := h2 F1 H1 g1
      obtain ⟨ad, ys, ex, hl, r⟩ := rp.br.lst
      cases e2
      exact ⟨ad, ys, ex, .inl (.inl hl), new_lst S1.ft r.reverse fun t F' H' g rr => Res.pure S1 h3 g t (rr.back fr)⟩
    | tup vs =>
      refine .inr ⟨ρ, F, S, ?_⟩
      rw [e]
      intro F1 H1 g1 p rp
      obtain ⟨fr, S1, u, e2, h3⟩ := h2 F1 H1 g1
      obtain ⟨ad, ys, ex, hl, r⟩ := rp.br.tup
      cases e2
      exact ⟨ad, ys, ex, hl, new_tup S1.ft r.reverse fun t F' H' g rr => Res.pure S1 h3 g t (rr.back fr)⟩
    | _ =>
      refine .inl ⟨ρ, F, S, ?_⟩
      rw [e]
      intro F1 H1 g1 p rp
      obtain ⟨fr, S1, u, e2, h3⟩ := h2 F1 H1 g1
      cases e2
/-! ### displays -/
section
variable (X : Cx) (W : WX) (Cl : Nat → Addr) (Γ : Env')
def TVs (es : List E) : TA := fun σ H Q => ∃ ρ F, SR X.K F H ρ σ ∧ Res X.K W Cl (mutEs es) σ ρ F H (evs Γ es ρ) fun vs _ F' H' => ∀ xs, VRs X.K F' H' vs xs → Q xs H'
def TBs (es : List E) : TA := fun σ H Q => ∃ ρ F, SR X.K F H ρ σ ∧ Res X.K W Cl (mutEs es) σ ρ F H (evBs Γ es ρ) fun vs _ F' H' => ∀ xs, BRs X.K F' H' vs xs → Q xs H'
end
variable {es : List E} {xs : List Expr}
theorem pa_vnil : PA X [] (TVs X W Cl Γ []) := PA.imp pa_nil fun σ H Q ⟨ρ, F, S, h⟩ => Res.pure (P := fun vs _ F' H' => ∀ xs, VRs X.K F' H' vs xs → Q xs H') S h (Gr.refl _ _) [] rfl
theorem pa_vcons (ha : PE X x (TEv X W Cl Γ a)) (hs : PA X xs (TVs X W Cl Γ es)) (st : starEach (x :: xs) X.env = (false, eval x X.env) :: starEach xs X.env) : PA X (x :: xs) (TVs X W Cl Γ (a :: es)) := by
  refine PA.imp (pa_cons (pe_val ha) hs st) fun σ H Q ⟨ρ, F, S, h⟩ => ⟨ρ, F, S, ?_⟩
  refine (Res.bind (m := mutE a) (m' := mutEs es) h).imp id fun v ρ1 F1 H1 g1 h1 p rp => ⟨ρ1, F1, g1.sr, ?_⟩
  refine (Res.bind1 h1).imp id fun vs ρ2 F2 H2 g2 h2 ys r => ?_
  exact Res.pure (P := fun vs _ F' H' => ∀ xs, VRs X.K F' H' vs xs → Q xs H') g2.sr h2 (Gr.refl _ _) (p :: ys) ⟨p, ys, rfl, VR.mono (g1.sr.mono g2.ext) _ rp, r⟩
theorem pa_bnil : PA X [] (TBs X W Cl Γ []) := PA.imp pa_nil fun σ H Q ⟨ρ, F, S, h⟩ => Res.pure (P := fun vs _ F' H' => ∀ xs, BRs X.K F' H' vs xs → Q xs H') S h (Gr.refl _ _) [] rfl
theorem pa_bcons (ha : PE X x (TBv X W Cl Γ a)) (hs : PA X xs (TBs X W Cl Γ es)) (hv : isVar a = true → mutEs es = false) (st : starEach (x :: xs) X.env = (false, eval x X.env) :: starEach xs X.env) : PA X (x :: xs) (TBs X W Cl Γ (a :: es)) := by
  refine PA.imp (pa_cons ha hs st) fun σ H Q ⟨ρ, F, S, h⟩ => ⟨ρ, F, S, ?_⟩
  refine (Res.bind (m := mutE a) (m' := mutEs es) h).imp id fun v ρ1 F1 H1 g1 h1 p rp => ⟨ρ1, F1, g1.sr, ?_⟩
  refine (Res.bind1 h1).imp id fun vs ρ2 F2 H2 g2 h2 ys r => ?_
  exact Res.pure (P := fun vs _ F' H' => ∀ xs, BRs X.K F' H' vs xs → Q xs H') g2.sr h2 (Gr.refl _ _) (p :: ys) ⟨p, ys, rfl, (rp.later g1.sr g2 hv).br, r⟩
theorem pe_tup' {k : Nat} (hs : PA X xs (TVs X W Cl Γ es)) : PE X (.Tuple xs k pos) (TEv X W Cl Γ (.tup es)) := by
  refine PE.imp (pe_tup hs) fun σ H Q ⟨ρ, F, S, h⟩ => ⟨ρ, F, S, ?_⟩
  refine (Res.bind1 (m := mutEs es) h).imp id fun vs ρ1 F1 H1 g1 h1 ys r => ?_
  simp only at h1
  split at h1
  · rename_i hz
    exact ⟨by rw [← r.length]; exact hz, new_tup g1.sr.ft r fun t F' H' g rr => Res.pure g1.sr h1 g t (rr.back fun a e => g1.ext.free e)⟩
  · exact h1.elim
theorem pe_lst' (hs : PA X xs (TVs X W Cl Γ es)) : PE X (.List xs pos) (TEv X W Cl Γ (.lst es)) := by
  refine PE.imp (pe_lst hs) fun σ H Q ⟨ρ, F, S, h⟩ => ⟨ρ, F, S, ?_⟩
  refine (Res.bind1 (m := mutEs es) h).imp id fun vs ρ1 F1 H1 g1 h1 ys r => ?_
  simp only at h1
  split at h1
  · rename_i hz
    exact ⟨by rw [← r.length]; exact hz, new_lst g1.sr.ft r fun t F' H' g rr => Res.pure g1.sr h1 g t (rr.back fun a e => g1.ext.free e)⟩
  · exact h1.elim
/-! ### built-in calls -/
theorem tcb_bi {b : BI} {σ : St} {H : Hp} {Q : VK} {ρ : Ro} {F : Addr → Prop} (S : SR X.K F H ρ σ) (h : Res X.K W Cl (mutEs es) σ ρ F H (ev Γ (.bi b es) ρ) (PQ X.K H Q)) : tCB (rBi X.K b) (TBs X W Cl Γ es) σ H Q := by
  refine ⟨ρ, F, S, ?_⟩
  refine (Res.bind1 (m := mutEs es) h).imp id fun vs ρ1 F1 H1 g1 h1 ys r => ?_
  obtain ⟨u, e, h2⟩ := Res.of h1
  exact ⟨F1, vs, u, g1.sr.ft, r, e, fun t F' H' g rr => Res.pure g1.sr h2 g t (rr.back fun a e => g1.ext.free e)⟩
theorem boot_bi (b : BI) (h : b ≠ .gcd) : bootBuiltins (biN b) = some (biF b) := by
  cases b <;> first | exact absurd rfl h | decide +kernel
theorem biN_ok (b : BI) : biN b ≠ "__name__" ∧ (biN b == ("__debug__" : Str)) = false := by
  cases b <;> exact ⟨by decide +kernel, by decide +kernel⟩
theorem pe_bi {b : BI} {p : Pos} (hc : X.calm = true) (hg : Gl X (biN b)) (hm : if b = .gcd then X.mg (biN b) = some (.builtin "math.gcd") else X.mg (biN b) = none) (hs : PA X (x :: xs) (TBs X W Cl Γ es))
    (st : starEach (x :: xs) X.env = (false, eval x X.env) :: starEach xs X.env) (hpl : (backTo pos (starEach xs X.env)).any (·.1) = false) : PE X (.Call (.Name (biN b) p) (x :: xs) [] pos) (TEv X W Cl Γ (.bi b es)) := by
  by_cases hb : b = .gcd
  · rw [if_pos hb] at hm
    subst hb
    exact PE.imp (pe_callBfun (callr_bi hc .gcd) hg hm hs (biN_ok _).2 st hpl) fun σ H Q ⟨ρ, F, S, h⟩ => tcb_bi S h
  · rw [if_neg hb] at hm
    have boot := boot_bi b hb
    have f := (biN_ok b)
    cases b with
    | len => exact PE.imp (pe_callB (callr_bi hc .len) hg hm boot hs f.1 f.2 st hpl) fun σ H Q ⟨ρ, F, S, h⟩ => tcb_bi S h
    | abs => exact PE.imp (pe_callB (callr_bi hc .abs) hg hm boot hs f.1 f.2 st hpl) fun σ H Q ⟨ρ, F, S, h⟩ => tcb_bi S h
    | int => exact PE.imp (pe_callTy (callr_bi hc .int) hg hm boot hs f.1 f.2 st hpl) fun σ H Q ⟨ρ, F, S, h⟩ => tcb_bi S h
    | sum => exact PE.imp (pe_callB (callr_bi hc .sum) hg hm boot hs f.1 f.2 st hpl) fun σ H Q ⟨ρ, F, S, h⟩ => tcb_bi S h
    | all => exact PE.imp (pe_callB (callr_bi hc .all) hg hm boot hs f.1 f.2 st hpl) fun σ H Q ⟨ρ, F, S, h⟩ => tcb_bi S h
    | any => exact PE.imp (pe_callB (callr_bi hc .any) hg hm boot hs f.1 f.2 st hpl) fun σ H Q ⟨ρ, F, S, h⟩ => tcb_bi S h
    | tuple => exact PE.imp (pe_callTy (callr_bi hc .tuple) hg hm boot hs f.1 f.2 st hpl) fun σ H Q ⟨ρ, F, S, h⟩ => tcb_bi S h
    | list => exact PE.imp (pe_callTy (callr_bi hc .list) hg hm boot hs f.1 f.2 st hpl) fun σ H Q ⟨ρ, F, S, h⟩ => tcb_bi S h
    | sorted => exact PE.imp (pe_callB (callr_bi hc .sorted) hg hm boot hs f.1 f.2 st hpl) fun σ H Q ⟨ρ, F, S, h⟩ => tcb_bi S h
    | max => exact PE.imp (pe_callB (callr_bi hc .max) hg hm boot hs f.1 f.2 st hpl) fun σ H Q ⟨ρ, F, S, h⟩ => tcb_bi S h
    | min => exact PE.imp (pe_callB (callr_bi hc .min) hg hm boot hs f.1 f.2 st hpl) fun σ H Q ⟨ρ, F, S, h⟩ => tcb_bi S h
    | dict => exact PE.imp (pe_callTy (callr_bi hc .dict) hg hm boot hs f.1 f.2 st hpl) fun σ H Q ⟨ρ, F, S, h⟩ => tcb_bi S h
    | gcd => exact absurd rfl hb
end
end EV
set_option Elab.async false
set_option linter.all false
set_option maxRecDepth 100000
set_option maxHeartbeats 1000000
/-! Calls of the program's own functions. -/
namespace EV
open PySem L2
section
variable {K : PySem.W.Frag}
/-- an argument as it is handed: a value, or an own list of slot i that is lent -/
def ArgR1 (K : PySem.W.Frag) (ρ0 : Ro) (σ : St) (ρ : Ro) (F : Addr → Prop) (H : Hp) : Sl × Option Nat → V → Prop
  | (.fz v, none), x => VR K F H v x
  | (.ow v, some i), x => ∃ a, x = .ref a ∧ σ[i]? = some (some (V.ref a)) ∧ ¬ F a ∧ OwnAt K F H a v ∧ ¬ Own ρ σ a ∧ Own ρ0 σ a
  | _, _ => False
/-- the addresses of what is lent -/
def owA : List (Sl × Option Nat) → List V → List Addr
  | z :: zs, y :: ys => match z, y with
    | (.ow _, _), .ref a => a :: owA zs ys
    | _, _ => owA zs ys
  | _, _ => []
def ArgRs (K : PySem.W.Frag) (ρ0 : Ro) (σ : St) (ρ : Ro) (F : Addr → Prop) (H : Hp) : List (Sl × Option Nat) → List V → Prop
  | [], xs => xs = []
  | z :: zs, xs => ∃ y ys, xs = y :: ys ∧ ArgR1 K ρ0 σ ρ F H z y ∧ ArgRs K ρ0 σ ρ F H zs ys ∧ (owA (z :: zs) (y :: ys)).Nodup
end
section
variable {X : Cx} {W : WX} {Cl : Nat → Addr} {Γ : Env'}
def TAa (X : Cx) (W : WX) (Cl : Nat → Addr) (Γ : Env') (st : Bool) (e : E) : TE := fun σ H Q => ∃ ρ F, SR X.K F H ρ σ ∧ Res X.K W Cl (mutE e) σ ρ F H (passA st e ρ (ev Γ e ρ)) fun z ρ' F' H' => ∀ x, ArgR1 X.K ρ σ ρ' F' H' z x → Q x H'
theorem pe_arg {st : Bool} {e : E} {x : Expr} (h : PE X x (TEv X W Cl Γ e)) (hn : isVar e = false ∨ st = false) : PE X x (TAa X W Cl Γ st e) := PE.imp (pe_val h) fun σ H Q ⟨ρ, F, S, q⟩ => ⟨ρ, F, S, by
  have eb : ∀ r : RV, passA st e ρ r = r.bind fun z => .got ((.fz z.1.1, none), z.2) := fun r => by
    cases st with
    | false => rfl
    | true => cases e <;> first | rfl | (rcases hn with hn | hn <;> cases hn)
  rw [eb] at q
  exact (Res.bind1 q).imp id fun z ρ' F' H' g p x r => Res.pure (P := fun z ρ' F' H' => ∀ x, ArgR1 X.K ρ σ ρ' F' H' z x → Q x H') g.sr p (Gr.refl _ _) x r⟩
theorem move_slot {K : PySem.W.Frag} {ρ : Ro} {σ : St} {F : Addr → Prop} {H : Hp} {i : Nat} {v : Val} {b : Addr} (S : SR K F H ρ σ) (hs : ρ[i]? = some (Sl.ow v)) (hb : σ[i]? = some (some (V.ref b))) :
    Go K false ρ (ρ.set i .no) σ F F H H ∧ ¬ Own (ρ.set i .no) σ b := by
  have il : i < ρ.length := (List.getElem?_eq_some_iff.mp hs).1
  have out : ∀ {a}, Own (ρ.set i .no) σ a → ∃ j w, j ≠ i ∧ ρ[j]? = some (Sl.ow w) ∧ σ[j]? = some (some (V.ref a)) := fun h => set_own (v := v) (fun w h => by cases h) h
  refine ⟨⟨.refl _ _ _, ⟨by simpa using S.len, fun j s o e1 e2 => ?_, fun j k v1 v2 a h1 h2 h3 h4 => ?_, S.ft⟩, fun a h => ?_, fun _ _ _ h => h⟩, fun h => ?_⟩
  · by_cases hj : j = i
    · subst hj
      rw [List.getElem?_set_self il] at e1
      cases e1
      trivial
    · rw [List.getElem?_set_ne (Ne.symm hj)] at e1
      exact S.slot j s o e1 e2
  · by_cases c1 : j = i
    · subst c1; rw [List.getElem?_set_self il] at h1; cases h1
    · by_cases c2 : k = i
      · subst c2; rw [List.getElem?_set_self il] at h2; cases h2
      · rw [List.getElem?_set_ne (Ne.symm c1)] at h1
        rw [List.getElem?_set_ne (Ne.symm c2)] at h2
        exact S.dist j k _ _ a h1 h2 h3 h4
  · obtain ⟨j, w, _, e1, e2⟩ := out h
    exact ⟨j, w, e1, e2⟩
  · obtain ⟨j, w, hj, e1, e2⟩ := out h
    exact hj (S.dist j i _ _ b e1 hs e2 hb)
theorem pe_argV {i : Nat} {x : Expr} (h : PE X x (tVar i)) : PE X x (TAa X W Cl Γ true (.var i)) := PE.imp h fun σ H Q ⟨ρ, F, S, q⟩ => by
  have q : Res X.K W Cl false σ ρ F H (match ρ[i]? with
    | some (.fz v) => .got ((.fz v, none), ρ)
    | some (.ow v) => .got ((.ow v, some i), ρ.set i .no)
    | _ => .bad) (fun z ρ' F' H' => ∀ x, ArgR1 X.K ρ σ ρ' F' H' z x → Q x H') := q
  cases hs : ρ[i]? with
  | none => rw [hs] at q; exact q.elim
  | some s =>
    obtain ⟨o, e, r⟩ := S.at hs
    rw [hs] at q
    cases s with
    | no => exact q.elim
    | fz v =>
      obtain ⟨y, e2, r⟩ := r
      exact ⟨y, by rw [e, e2], q F H (Go.refl _ S) y r⟩
    | ow v =>
      obtain ⟨b, e2, nf, w⟩ := r
      obtain ⟨g, no⟩ := move_slot S hs (by rw [e, e2])
      exact ⟨.ref b, by rw [e, e2], q _ H g _ ⟨b, rfl, by rw [e, e2], nf, w, no, i, v, hs, by rw [e, e2]⟩⟩
def TAs (X : Cx) (W : WX) (Cl : Nat → Addr) (Γ : Env') (sts : List Bool) (es : List E) : TA := fun σ H Q => ∃ ρ F, SR X.K F H ρ σ ∧ Res X.K W Cl (mutEs es) σ ρ F H (evAs Γ sts es ρ) fun zs ρ' F' H' => ∀ xs, ArgRs X.K ρ σ ρ' F' H' zs xs → Q xs H'
theorem ArgR1.later {K : PySem.W.Frag} {m : Bool} {ρ0 ρ1 ρ2 : Ro} {σ : St} {F1 F2 : Addr → Prop} {H1 H2 : Hp} {z : Sl × Option Nat} {y : V} (S : SR K F1 H1 ρ1 σ) (g : Go K m ρ1 ρ2 σ F1 F2 H1 H2) (r : ArgR1 K ρ0 σ ρ1 F1 H1 z y) : ArgR1 K ρ0 σ ρ2 F2 H2 z y := by
  obtain ⟨s, o⟩ := z
  have mm := S.mono g.ext
  cases s with
  | no => cases o <;> exact r.elim
  | fz v =>
    cases o with
    | none => exact VR.mono mm v r
    | some i => exact r.elim
  | ow v =>
    cases o with
    | none => exact r.elim
    | some i =>
      obtain ⟨a, e, e2, nf, w, no, ow⟩ := r
      have hk : ∃ u, H1 a = some u := by rcases w.kind with ⟨ys, z⟩ | ⟨ys, z⟩ <;> exact ⟨_, z⟩
      obtain ⟨u, hu⟩ := hk
      refine ⟨a, e, e2, fun f => ?_, w.mono mm (by rw [hu]; exact g.ext.keep a u hu no), fun z => no (g.own a z), ow⟩
      rcases g.ext.new a f with z | z | z
      · exact nf z
      · rw [hu] at z; cases z
      · exact no z
theorem ArgRs.own {K : PySem.W.Frag} {ρ0 ρ1 : Ro} {σ : St} {F1 : Addr → Prop} {H1 : Hp} : ∀ {zs : List (Sl × Option Nat)} {ys : List V}, ArgRs K ρ0 σ ρ1 F1 H1 zs ys → ∀ {b}, b ∈ owA zs ys → Own ρ0 σ b ∧ ¬ Own ρ1 σ b
  | [], _, _, b, h => nomatch h
  | z :: zs, _, ⟨y, ys, e, r, rs, _⟩, b, h => by
    subst e
    obtain ⟨s, o⟩ := z
    cases s with
    | no => cases o <;> exact r.elim
    | fz v => exact ArgRs.own rs h
    | ow v =>
      cases o with
      | none => exact r.elim
      | some i =>
        obtain ⟨a, e, _, _, _, no, o⟩ := r
        subst e
        rcases List.mem_cons.mp h with h | h
        · subst h
          exact ⟨o, no⟩
        · exact ArgRs.own rs h
theorem ArgRs.from {K : PySem.W.Frag} {ρ0 ρ0' ρ1 : Ro} {σ : St} {F1 : Addr → Prop} {H1 : Hp} (h : ∀ a, Own ρ0 σ a → Own ρ0' σ a) : ∀ {zs : List (Sl × Option Nat)} {ys : List V}, ArgRs K ρ0 σ ρ1 F1 H1 zs ys → ArgRs K ρ0' σ ρ1 F1 H1 zs ys
  | [], _, r => r
  | z :: zs, _, ⟨y, ys, e, r, rs, n⟩ => by
    refine ⟨y, ys, e, ?_, ArgRs.from h rs, n⟩
    obtain ⟨s, o⟩ := z
    cases s with
    | no => cases o <;> exact r.elim
    | fz v => cases o with
      | none => exact r
      | some i => exact r.elim
    | ow v => cases o with
      | none => exact r.elim
      | some i =>
        obtain ⟨a, e1, e2, nf, w, no, o⟩ := r
        exact ⟨a, e1, e2, nf, w, no, h a o⟩
theorem pa_anil {sts : List Bool} : PA X [] (TAs X W Cl Γ sts []) := PA.imp pa_nil fun σ H Q ⟨ρ, F, S, h⟩ => Res.pure (P := fun zs ρ' F' H' => ∀ xs, ArgRs X.K ρ σ ρ' F' H' zs xs → Q xs H') S h (Gr.refl _ _) [] rfl
theorem lateA_some {st : Bool} {e : E} {ρ : Ro} {i : Nat} (h : lateA st e ρ = some i) : st = true ∧ e = .var i ∧ ∃ v, ρ[i]? = some (Sl.ow v) := by
  unfold lateA at h
  split at h
  · split at h
    · rename_i k v hk
      cases h
      exact ⟨rfl, rfl, v, hk⟩
    · cases h
  · cases h
/-- the frame with its own list still in its place -/
theorem back_slot {K : PySem.W.Frag} {ρ : Ro} {σ : St} {F F1 : Addr → Prop} {H H1 : Hp} {i : Nat} {v : Val} {a : Addr} (hs : ρ[i]? = some (Sl.ow v)) (g : Go K false ρ (ρ.set i .no) σ F F1 H H1) (e2 : σ[i]? = some (some (V.ref a))) (nf : ¬ F1 a) (w : OwnAt K F1 H1 a v) (no : ¬ Own (ρ.set i .no) σ a) :
    Go K false ρ ρ σ F F1 H H1 := by
  refine ⟨g.ext, ⟨by have := g.sr.len; rwa [List.length_set] at this, fun j s o h1 h2 => ?_, fun j k v1 v2 b h1 h2 h3 h4 => ?_, g.sr.ft⟩, fun _ h => h, g.same⟩
  · by_cases hj : j = i
    · subst hj
      rw [hs] at h1; cases h1
      rw [e2] at h2; cases h2
      exact ⟨a, rfl, nf, w⟩
    · exact g.sr.slot j s o (by rw [List.getElem?_set_ne (Ne.symm hj)]; exact h1) h2
  · by_cases c1 : j = i
    · by_cases c2 : k = i
      · rw [c1, c2]
      · subst c1
        rw [e2] at h3; cases h3
        exact absurd ⟨k, v2, by rw [List.getElem?_set_ne (Ne.symm c2)]; exact h2, h4⟩ no
    · by_cases c2 : k = i
      · subst c2
        rw [e2] at h4; cases h4
        exact absurd ⟨j, v1, by rw [List.getElem?_set_ne (Ne.symm c1)]; exact h1, h3⟩ no
      · exact g.sr.dist j k v1 v2 b (by rw [List.getElem?_set_ne (Ne.symm c1)]; exact h1) (by rw [List.getElem?_set_ne (Ne.symm c2)]; exact h2) h3 h4
theorem ArgRs.less {K : PySem.W.Frag} {ρ0 ρ1 ρ2 : Ro} {σ : St} {F1 : Addr → Prop} {H1 : Hp} (h : ∀ a, Own ρ2 σ a → Own ρ1 σ a) : ∀ {zs : List (Sl × Option Nat)} {ys : List V}, ArgRs K ρ0 σ ρ1 F1 H1 zs ys → ArgRs K ρ0 σ ρ2 F1 H1 zs ys
  | [], _, r => r
  | z :: zs, _, ⟨y, ys, e, r, rs, n⟩ => by
    refine ⟨y, ys, e, ?_, ArgRs.less h rs, n⟩
    obtain ⟨s, o⟩ := z
    cases s with
    | no => cases o <;> exact r.elim
    | fz v => cases o with
      | none => exact r
      | some i => exact r.elim
    | ow v => cases o with
      | none => exact r.elim
      | some i =>
        obtain ⟨a, e1, e2, nf, w, no, o⟩ := r
        exact ⟨a, e1, e2, nf, w, fun z => no (h a z), o⟩
theorem ArgRs.nd {K : PySem.W.Frag} {ρ0 ρ1 : Ro} {σ : St} {F1 : Addr → Prop} {H1 : Hp} {zs : List (Sl × Option Nat)} {ys : List V} (h : ArgRs K ρ0 σ ρ1 F1 H1 zs ys) : (owA zs ys).Nodup := by
  cases zs with
  | nil => exact List.nodup_nil
  | cons z' zs' =>
    obtain ⟨y, ys', e, _, _, n⟩ := h
    subst e
    exact n
theorem pa_acons {sts : List Bool} {e : E} {es : List E} {x : Expr} {xs : List Expr} (ha : PE X x (TAa X W Cl Γ (sts.headD false) e)) (hs : PA X xs (TAs X W Cl Γ sts.tail es)) (st : starEach (x :: xs) X.env = (false, eval x X.env) :: starEach xs X.env) : PA X (x :: xs) (TAs X W Cl Γ sts (e :: es)) := by
  refine PA.imp (pa_cons ha hs st) fun σ H Q ⟨ρ, F, S, h⟩ => ⟨ρ, F, S, ?_⟩
  have h : Res X.K W Cl (mutEs (e :: es)) σ ρ F H (match lateA (sts.headD false) e ρ with
    | some i => (evAs Γ sts.tail es ρ).bind (takeA i)
    | none => (passA (sts.headD false) e ρ (ev Γ e ρ)).bind fun x => (evAs Γ sts.tail es x.2).bind fun y => .got (x.1 :: y.1, y.2)) (fun zs ρ' F' H' => ∀ xs, ArgRs X.K ρ σ ρ' F' H' zs xs → Q xs H') := h
  cases hl : lateA (sts.headD false) e ρ with
  | none =>
    rw [hl] at h
    refine (Res.bind (m := mutE e) (m' := mutEs es) h).imp id fun z ρ1 F1 H1 g1 h1 p rp => ⟨ρ1, F1, g1.sr, ?_⟩
    refine (Res.bind1 h1).imp id fun zs ρ2 F2 H2 g2 h2 ys r => ?_
    refine Res.pure (P := fun zs ρ' F' H' => ∀ xs, ArgRs X.K ρ σ ρ' F' H' zs xs → Q xs H') g2.sr h2 (Gr.refl _ _) (p :: ys) ⟨p, ys, rfl, rp.later g1.sr g2, r.from g1.own, ?_⟩
    have nd : (owA zs ys).Nodup := r.nd
    obtain ⟨s, o⟩ := z
    cases s with
    | no => cases o <;> exact rp.elim
    | fz v => exact nd
    | ow v =>
      cases o with
      | none => exact rp.elim
      | some i =>
        obtain ⟨a, e, _, _, _, no, _⟩ := rp
        subst e
        exact List.nodup_cons.mpr ⟨fun h => no (r.own h).1, nd⟩
  | some i =>
    obtain ⟨hst, rfl, v, hv⟩ := lateA_some hl
    rw [hl] at h
    have ep : passA (sts.headD false) (.var i) ρ (ev Γ (.var i) ρ) = .got ((.ow v, some i), ρ.set i .no) := by
      rw [hst]
      show (match ρ[i]? with
        | some (.fz v) => R.got ((Sl.fz v, none), ρ)
        | some (.ow v) => R.got ((Sl.ow v, some i), ρ.set i .no)
        | _ => .bad) = _
      rw [hv]
    rw [ep]
    intro F1 H1 g1 p rp
    obtain ⟨a, rfl, e2, nf, w, no, _⟩ := rp
    have g' := back_slot hv g1 e2 nf w no
    refine ⟨ρ, F1, g'.sr, ?_⟩
    have h1 : Res X.K W Cl (mutEs es) σ ρ F1 H1 ((evAs Γ sts.tail es ρ).bind (takeA i)) (fun zs ρ' F' H' => ∀ xs, ArgRs X.K ρ σ ρ' F' H' zs xs → Q xs H') :=
      (Res.bind (m := false) (m' := mutEs es) (r := R.got ((), ρ)) (f := fun z => (evAs Γ sts.tail es z.2).bind (takeA i)) h) F1 H1 g'
    refine (Res.bind1 h1).imp id fun zs ρ2 F2 H2 g2 h2 ys r => ?_
    have h2 : Res X.K W Cl false σ ρ2 F2 H2 (match ρ2[i]? with
      | some (.ow v) => R.got ((Sl.ow v, some i) :: zs, ρ2.set i .no)
      | some (.fz v) => .got ((.fz v, none) :: zs, ρ2)
      | _ => .bad) (fun zs ρ' F' H' => ∀ xs, ArgRs X.K ρ σ ρ' F' H' zs xs → Q xs H') := h2
    cases hs2 : ρ2[i]? with
    | none => rw [hs2] at h2; exact h2.elim
    | some s =>
      rw [hs2] at h2
      cases s with
      | no => exact h2.elim
      | fz u =>
        obtain ⟨y, ey, ry⟩ := g2.sr.slot i _ _ hs2 e2
        cases ey
        exact h2 F2 H2 (Go.refl _ g2.sr) (.ref a :: ys) ⟨_, ys, rfl, ry, r, r.nd⟩
      | ow u =>
        obtain ⟨b, eb, nb, wb⟩ := g2.sr.slot i _ _ hs2 e2
        cases eb
        obtain ⟨g3, n3⟩ := move_slot g2.sr hs2 e2
        refine h2 F2 H2 g3 (.ref a :: ys) ⟨_, ys, rfl, ⟨a, rfl, e2, nb, wb, n3, ⟨i, v, hv, e2⟩⟩, r.less g3.own, ?_⟩
        exact List.nodup_cons.mpr ⟨fun hm => (r.own hm).2 ⟨i, u, hs2, e2⟩, r.nd⟩
/-! ### the promise of a def -/
abbrev WE0 (E : XK) : WX := fun cls d _ H => E cls d H
/-- a def's promise, by what its call gives -/
def spF (K : PySem.W.Frag) (Cl : Nat → Addr) (call : List Sl → R ((Val × Bool) × List Sl)) : Sp := fun vs H Q E => ∃ args F, SR K F H args (vs.map some) ∧ Res K (WE0 E) Cl true (vs.map some) args F H (call args) (PQ K H Q)
theorem spF.len {K : PySem.W.Frag} {call : List Sl → R ((Val × Bool) × List Sl)} {n : Nat} (hn : ∀ args, args.length ≠ n → call args = .bad) : ∀ vs H Q E, spF K Cl call vs H Q E → vs.length = n := fun vs H Q E ⟨args, F, S, h⟩ => by
  by_cases hl : args.length = n
  · have := S.len
    rw [List.length_map] at this
    omega
  · rw [hn args hl] at h
    exact h.elim
theorem ArgRs.len {K : PySem.W.Frag} {ρ0 ρ1 : Ro} {σ : St} {F1 : Addr → Prop} {H1 : Hp} : ∀ {zs : List (Sl × Option Nat)} {ys : List V}, ArgRs K ρ0 σ ρ1 F1 H1 zs ys → zs.length = ys.length
  | [], _, h => by cases (show _ = [] from h); rfl
  | z :: zs, _, ⟨y, ys, e, _, rs, _⟩ => by subst e; simp [ArgRs.len rs]
theorem ArgRs.get {K : PySem.W.Frag} {ρ0 ρ1 : Ro} {σ : St} {F1 : Addr → Prop} {H1 : Hp} : ∀ {zs : List (Sl × Option Nat)} {ys : List V} {j : Nat} {z : Sl × Option Nat} {y : V}, ArgRs K ρ0 σ ρ1 F1 H1 zs ys → zs[j]? = some z → ys[j]? = some y → ArgR1 K ρ0 σ ρ1 F1 H1 z y
  | [], _, _, _, _, _, h, _ => by simp at h
  | z' :: zs, _, 0, z, y, ⟨y', ys, e, r, _, _⟩, h1, h2 => by
    subst e
    have a : z' = z := by simpa using h1
    have b : y' = y := by simpa using h2
    subst a b
    exact r
  | z' :: zs, _, j + 1, z, y, ⟨y', ys, e, _, rs, _⟩, h1, h2 => by
    subst e
    exact ArgRs.get rs (by simpa using h1) (by simpa using h2)
theorem owA_mem : ∀ {zs : List (Sl × Option Nat)} {ys : List V} {j : Nat} {v : Val} {o : Option Nat} {a : Addr}, zs[j]? = some (.ow v, o) → ys[j]? = some (V.ref a) → a ∈ owA zs ys
  | [], _, _, _, _, _, h, _ => by simp at h
  | _ :: _, [], _, _, _, _, _, h => by simp at h
  | z :: zs, y :: ys, 0, v, o, a, h1, h2 => by
    have e1 : z = (.ow v, o) := by simpa using h1
    have e2 : y = V.ref a := by simpa using h2
    subst e1 e2
    exact List.mem_cons_self
  | z :: zs, y :: ys, j + 1, v, o, a, h1, h2 => by
    have ih := owA_mem (zs := zs) (ys := ys) (j := j) (by simpa using h1) (by simpa using h2)
    unfold owA
    split
    · exact List.mem_cons_of_mem _ ih
    · exact ih
theorem owA_inj : ∀ {zs : List (Sl × Option Nat)} {ys : List V} {j k : Nat} {v w : Val} {o o' : Option Nat} {a : Addr}, (owA zs ys).Nodup → zs[j]? = some (.ow v, o) → zs[k]? = some (.ow w, o') → ys[j]? = some (V.ref a) → ys[k]? = some (V.ref a) → j = k
  | [], _, _, _, _, _, _, _, _, _, h, _, _, _ => by simp at h
  | _ :: _, [], _, _, _, _, _, _, _, _, _, _, h, _ => by simp at h
  | z :: zs, y :: ys, 0, 0, _, _, _, _, _, _, _, _, _, _ => rfl
  | z :: zs, y :: ys, 0, k + 1, v, w, o, o', a, n, h1, h2, h3, h4 => by
    have e1 : z = (.ow v, o) := by simpa using h1
    have e2 : y = V.ref a := by simpa using h3
    subst e1 e2
    exact absurd (owA_mem (zs := zs) (ys := ys) (j := k) (by simpa using h2) (by simpa using h4)) (List.nodup_cons.mp n).1
  | z :: zs, y :: ys, j + 1, 0, v, w, o, o', a, n, h1, h2, h3, h4 => by
    have e1 : z = (.ow w, o') := by simpa using h2
    have e2 : y = V.ref a := by simpa using h4
    subst e1 e2
    exact absurd (owA_mem (zs := zs) (ys := ys) (j := j) (by simpa using h1) (by simpa using h3)) (List.nodup_cons.mp n).1
  | z :: zs, y :: ys, j + 1, k + 1, v, w, o, o', a, n, h1, h2, h3, h4 => by
    have n2 : (owA zs ys).Nodup := by
      unfold owA at n
      split at n
      · exact (List.nodup_cons.mp n).2
      · exact n
    exact congrArg (· + 1) (owA_inj (zs := zs) (ys := ys) n2 (by simpa using h1) (by simpa using h2) (by simpa using h3) (by simpa using h4))
theorem ArgRs.nodup {K : PySem.W.Frag} {ρ0 ρ1 : Ro} {σ : St} {F1 : Addr → Prop} {H1 : Hp} {zs : List (Sl × Option Nat)} {ys : List V} (h : ArgRs K ρ0 σ ρ1 F1 H1 zs ys) : (owA zs ys).Nodup := by
  cases zs with
  | nil => exact List.nodup_nil
  | cons z' zs' =>
    obtain ⟨y, ys', e, _, _, n⟩ := h
    subst e
    exact n
/-- the arguments as the callee has them -/
theorem ArgRs.sr {K : PySem.W.Frag} {ρ0 ρ1 : Ro} {σ : St} {F1 : Addr → Prop} {H1 : Hp} {zs : List (Sl × Option Nat)} {ys : List V} (h : ArgRs K ρ0 σ ρ1 F1 H1 zs ys) (ft : ∀ a, F1 a → ∃ o, H1 a = some o) : SR K F1 H1 (zs.map (·.1)) (ys.map some) := by
  have at_ : ∀ {j : Nat} {s : Sl}, (zs.map (·.1))[j]? = some s → ∃ o, zs[j]? = some (s, o) := fun {j s} e => by
    rw [List.getElem?_map] at e
    cases q : zs[j]? with
    | none => rw [q] at e; cases e
    | some z => rw [q] at e; cases e; exact ⟨z.2, rfl⟩
  have bt : ∀ {j : Nat} {o : Option V}, (ys.map some)[j]? = some o → ∃ y, ys[j]? = some y ∧ o = some y := fun {j o} e => by
    rw [List.getElem?_map] at e
    cases q : ys[j]? with
    | none => rw [q] at e; cases e
    | some z => rw [q] at e; cases e; exact ⟨z, rfl, rfl⟩
  refine ⟨by simp [h.len], fun j s o e1 e2 => ?_, fun j k v w a e1 e2 e3 e4 => ?_, ft⟩
  · obtain ⟨o', e1⟩ := at_ e1
    obtain ⟨y, e3, rfl⟩ := bt e2
    have r := h.get e1 e3
    cases s with
    | no => trivial
    | fz v => cases o' with
      | none => exact ⟨y, rfl, r⟩
      | some i => exact r.elim
    | ow v => cases o' with
      | none => exact r.elim
      | some i =>
        obtain ⟨a, e, _, nf, w, _, _⟩ := r
        exact ⟨a, by rw [e], nf, w⟩
  · obtain ⟨o1, e1⟩ := at_ e1
    obtain ⟨o2, e2⟩ := at_ e2
    obtain ⟨y1, e3, q3⟩ := bt e3
    obtain ⟨y2, e4, q4⟩ := bt e4
    cases q3
    cases q4
    exact owA_inj h.nodup e1 e2 e3 e4
theorem ArgRs.owned {K : PySem.W.Frag} {ρ0 ρ1 : Ro} {σ : St} {F1 : Addr → Prop} {H1 : Hp} {zs : List (Sl × Option Nat)} {ys : List V} (h : ArgRs K ρ0 σ ρ1 F1 H1 zs ys) {a : Addr} (o : Own (zs.map (·.1)) (ys.map some) a) : a ∈ owA zs ys := by
  obtain ⟨j, v, e1, e2⟩ := o
  rw [List.getElem?_map] at e1 e2
  cases q : zs[j]? with
  | none => rw [q] at e1; cases e1
  | some z =>
    cases q2 : ys[j]? with
    | none => rw [q2] at e2; cases e2
    | some y =>
      rw [q] at e1
      rw [q2] at e2
      obtain ⟨s, o⟩ := z
      cases e1
      cases e2
      exact owA_mem q q2
/-- what was lent comes back -/
theorem give_sr {K : PySem.W.Frag} {ρ0 ρ1 : Ro} {σ : St} {F1 F2 : Addr → Prop} {H1 H2 : Hp} : ∀ {zs : List (Sl × Option Nat)} {ys : List V} {outs : List Sl} {ρa : Ro}, ArgRs K ρ0 σ ρ1 F1 H1 zs ys →
    (∀ (j : Nat) (s : Sl) (y : V), outs[j]? = some s → ys[j]? = some y → SltR K F2 H2 s (some y)) → SR K F2 H2 ρa σ → (∀ a ∈ owA zs ys, ¬ Own ρa σ a) →
    SR K F2 H2 (giveR (zs.map (·.2)) outs ρa) σ ∧ ∀ a, Own (giveR (zs.map (·.2)) outs ρa) σ a → Own ρa σ a ∨ a ∈ owA zs ys
  | [], _, _, _, _, _, S, _ => ⟨S, fun a h => .inl h⟩
  | z :: zs, _, [], ρa, ⟨y, ys, e, r, rs, n⟩, ho, S, hn => by
    obtain ⟨s, o⟩ := z
    cases o <;> exact ⟨S, fun a h => .inl h⟩
  | z :: zs, _, u :: us, ρa, ⟨y, ys, e, r, rs, n⟩, ho, S, hn => by
    subst e
    have ho2 : ∀ (j : Nat) (s : Sl) (y : V), us[j]? = some s → ys[j]? = some y → SltR K F2 H2 s (some y) := fun j s y' e1 e2 => ho (j + 1) s y' (by simpa using e1) (by simpa using e2)
    obtain ⟨s, o⟩ := z
    cases s with
    | no => cases o <;> exact r.elim
    | fz v => cases o with
      | none =>
        have q := give_sr (zs := zs) (ys := ys) (outs := us) (ρa := ρa) rs ho2 S hn
        exact q
      | some i => exact r.elim
    | ow v => cases o with
      | none => exact r.elim
      | some i =>
        obtain ⟨a, e, si, _, _, _, _⟩ := r
        subst e
        have n' : a ∉ owA zs ys ∧ (owA zs ys).Nodup := List.nodup_cons.mp n
        have hna : ¬ Own ρa σ a := hn a List.mem_cons_self
        have hu := ho 0 u _ rfl rfl
        have il : i < ρa.length := by rw [S.len]; exact (List.getElem?_eq_some_iff.mp si).1
        have own2 : ∀ b, Own (ρa.set i u) σ b → Own ρa σ b ∨ b = a := fun b ⟨k, w, e1, e2⟩ => by
          by_cases hk : k = i
          · subst hk
            rw [si] at e2
            cases e2
            exact .inr rfl
          · rw [List.getElem?_set_ne (Ne.symm hk)] at e1
            exact .inl ⟨k, w, e1, e2⟩
        have S2 : SR K F2 H2 (ρa.set i u) σ := by
          refine ⟨by simpa using S.len, fun j s o e1 e2 => ?_, fun j k v1 v2 b h1 h2 h3 h4 => ?_, S.ft⟩
          · by_cases hj : j = i
            · subst hj
              rw [List.getElem?_set_self il] at e1
              cases e1
              rw [si] at e2
              cases e2
              exact hu
            · rw [List.getElem?_set_ne (Ne.symm hj)] at e1
              exact S.slot j s o e1 e2
          · by_cases c1 : j = i
            · by_cases c2 : k = i
              · rw [c1, c2]
              · subst c1
                rw [si] at h3
                cases h3
                rw [List.getElem?_set_ne (Ne.symm c2)] at h2
                exact absurd ⟨k, v2, h2, h4⟩ hna
            · by_cases c2 : k = i
              · subst c2
                rw [si] at h4
                cases h4
                rw [List.getElem?_set_ne (Ne.symm c1)] at h1
                exact absurd ⟨j, v1, h1, h3⟩ hna
              · rw [List.getElem?_set_ne (Ne.symm c1)] at h1
                rw [List.getElem?_set_ne (Ne.symm c2)] at h2
                exact S.dist j k _ _ b h1 h2 h3 h4
        have hn2 : ∀ b ∈ owA zs ys, ¬ Own (ρa.set i u) σ b := fun b hb o => by
          rcases own2 b o with o | o
          · exact hn b (List.mem_cons_of_mem _ hb) o
          · exact n'.1 (o ▸ hb)
        obtain ⟨S3, o3⟩ := give_sr (outs := us) rs ho2 S2 hn2
        refine ⟨S3, fun b o => ?_⟩
        rcases o3 b o with o | o
        · rcases own2 b o with o | o
          · exact .inl o
          · exact .inr (by rw [o]; exact List.mem_cons_self)
        · exact .inr (List.mem_cons_of_mem _ o)
/-- behind the call: the frame is as it was, but for what was lent -/
theorem call_back {K : PySem.W.Frag} {m : Bool} {ρ ρ1 : Ro} {σ : St} {F F1 F2 : Addr → Prop} {H H1 H2 : Hp} {zs : List (Sl × Option Nat)} {ys : List V} {outs : List Sl} (g : Go K m ρ ρ1 σ F F1 H H1) (r : ArgRs K ρ σ ρ1 F1 H1 zs ys)
    (g2 : Go K true (zs.map (·.1)) outs (ys.map some) F1 F2 H1 H2) : Go K true ρ (giveR (zs.map (·.2)) outs ρ1) σ F F2 H H2 := by
  have Sa := r.sr g.sr.ft
  have mm : Mono F1 F2 H1 H2 := Sa.mono g2.ext
  have dis : ∀ a, Own ρ1 σ a → ¬ Own (zs.map (·.1)) (ys.map some) a := fun a o o2 => (r.own (r.owned o2)).2 o
  have S1 : SR K F2 H2 ρ1 σ := by
    refine ⟨g.sr.len, fun i s o e1 e2 => ?_, g.sr.dist, g2.sr.ft⟩
    have q := g.sr.slot i s o e1 e2
    cases s with
    | no => trivial
    | fz v => obtain ⟨y, e, r⟩ := q; exact ⟨y, e, VR.mono mm v r⟩
    | ow v =>
      obtain ⟨a, e, nf, w⟩ := q
      have oa : Own ρ1 σ a := ⟨i, v, e1, by rw [e2, e]⟩
      have hk : ∃ u, H1 a = some u := by rcases w.kind with ⟨ys, z⟩ | ⟨ys, z⟩ <;> exact ⟨_, z⟩
      obtain ⟨u, hu⟩ := hk
      refine ⟨a, e, fun f => ?_, w.mono mm (by rw [hu]; exact g2.ext.keep a u hu (dis a oa))⟩
      rcases g2.ext.new a f with z | z | z
      · exact nf z
      · rw [hu] at z; cases z
      · exact dis a oa z
  have hs : ∀ (j : Nat) (s : Sl) (y : V), outs[j]? = some s → ys[j]? = some y → SltR K F2 H2 s (some y) := fun j s y e1 e2 => g2.sr.slot j s _ e1 (by rw [List.getElem?_map, e2]; rfl)
  obtain ⟨S3, own⟩ := give_sr (outs := outs) r hs S1 fun a ha => (r.own ha).2
  refine ⟨g.ext.trans g2.ext fun a o => .inl (r.own (r.owned o)).1, S3, fun a o => ?_, fun e => nomatch e⟩
  rcases own a o with o | o
  · exact g.own a o
  · exact (r.own o).1
/-- a call by the callee's promise -/
theorem tcall {f : Nat} {es : List E} {σ : St} {H : Hp} {Q : VK} {ρ : Ro} {F : Addr → Prop} (S : SR X.K F H ρ σ) (h : Res X.K W Cl true σ ρ F H (ev Γ (.call f es) ρ) (PQ X.K H Q)) :
    tCallS (spF X.K Cl (Γ.den f)) (WE W) (TAs X W Cl Γ (Γ.stab f) es) σ H Q := by
  refine ⟨ρ, F, S, ?_⟩
  have h : Res X.K W Cl true σ ρ F H ((evAs Γ (Γ.stab f) es ρ).bind fun z => (Γ.den f (z.1.map (·.1))).bind fun y => .got (y.1, giveR (z.1.map (·.2)) y.2 z.2)) (PQ X.K H Q) := h
  cases e0 : evAs Γ (Γ.stab f) es ρ with
  | bad => rw [e0] at h; exact h.elim
  | ex c p => rw [e0] at h; exact h
  | got z =>
    obtain ⟨zs, ρ1⟩ := z
    rw [e0] at h
    intro F1 H1 g1 ys r
    refine ⟨zs.map (·.1), F1, r.sr g1.sr.ft, ?_⟩
    have h : Res X.K W Cl true σ ρ F H ((Γ.den f (zs.map (·.1))).bind fun y => .got (y.1, giveR (zs.map (·.2)) y.2 ρ1)) (PQ X.K H Q) := h
    cases e : Γ.den f (zs.map (·.1)) with
    | got y =>
      rw [e] at h
      intro F2 H2 g2 x rx
      exact h F2 H2 (call_back g1 r g2) x (rx.back fun a e => g1.ext.free e)
    | ex c p =>
      rw [e] at h
      intro d F2 H2 x q
      exact h d F2 H2 (g1.ext.trans x fun a o => .inl (r.own (r.owned o)).1) q
    | bad => rw [e] at h; exact h.elim
theorem run_S0 {sp : Sp} {k : Nat} {f : Addr} {fd : FuncData} {E : St → XK} {CX : CXT} {x : Str} {p pos : Pos} (F : FnOk X.prog X.w X.K X.mg X.base CX k f fd [] sp) (hr : Room k X.A) (hg : Gl X x) (hm : X.mg x = some (.ref f)) (hk : PySem.W.keepIn X.K (.ref f) = true) (hb : Binds X.K fd [] []) (hx : ∀ σ, PassesAt CX X σ (E σ))
    (hdb : (x == ("__debug__" : Str)) = false) : PE X (.Call (.Name x p) [] [] pos) (tCallS sp E tNil) := by
  refine ⟨fun pins s σ H Q I h => ?_⟩
  refine wpAny_Call_Name_kw (ld_glob I hg hm ?_ hdb)
  exact PySem.W.callWith_K0 I.kIn hk (run_fnS (us := []) F hr hb (hx σ) I .nil h)
end
end EV
set_option Elab.async false
set_option linter.all false
set_option maxRecDepth 100000
set_option maxHeartbeats 1000000
/-! Targets, what is walked, comprehensions. -/
namespace EV
open PySem L2
mutual
/-- the slots that a target stores -/
def slotsT : Tg → List Nat
  | .nm i => [i]
  | .tp ts => slotsTs ts
def slotsTs : List Tg → List Nat
  | [] => []
  | t :: ts => slotsT t ++ slotsTs ts
end
section
variable {K : PySem.W.Frag} {F F' : Addr → Prop} {H H' : Hp} {ρ ρ' : Ro} {σ σ' : St}
/-- a name is stored -/
theorem SR.store (S : SR K F H ρ σ) {i : Nat} {v : Val} {x : V} (r : VR K F H v x) (hi : i < ρ.length) : SR K F H (ρ.set i (.fz v)) (σ.set i (some x)) ∧ ∀ a, Own (ρ.set i (.fz v)) (σ.set i (some x)) a → Own ρ σ a := by
  have hi2 : i < σ.length := by rw [← S.len]; exact hi
  refine ⟨⟨by simpa using S.len, fun j s o e1 e2 => ?_, fun j k v1 v2 a h1 h2 h3 h4 => ?_, S.ft⟩, fun a ⟨j, w, e1, e2⟩ => ?_⟩
  · by_cases hj : j = i
    · subst hj
      rw [List.getElem?_set_self hi] at e1
      rw [List.getElem?_set_self hi2] at e2
      cases e1
      cases e2
      exact ⟨x, rfl, r⟩
    · rw [List.getElem?_set_ne (Ne.symm hj)] at e1 e2
      exact S.slot j s o e1 e2
  · by_cases c1 : j = i
    · subst c1; rw [List.getElem?_set_self hi] at h1; cases h1
    · by_cases c2 : k = i
      · subst c2; rw [List.getElem?_set_self hi] at h2; cases h2
      · rw [List.getElem?_set_ne (Ne.symm c1)] at h1 h3
        rw [List.getElem?_set_ne (Ne.symm c2)] at h2 h4
        exact S.dist j k _ _ a h1 h2 h3 h4
  · by_cases hj : j = i
    · subst hj; rw [List.getElem?_set_self hi] at e1; cases e1
    · rw [List.getElem?_set_ne (Ne.symm hj)] at e1 e2
      exact ⟨j, w, e1, e2⟩
/-- .. a new list -/
theorem SR.storeNew (S : SR K F H ρ σ) {i : Nat} {v : Val} {a : Addr} (w : OwnAt K F H a v) (nf : ¬ F a) (no : ¬ Own ρ σ a) (hi : i < ρ.length) : SR K F H (ρ.set i (.ow v)) (σ.set i (some (.ref a))) ∧ ∀ b, Own (ρ.set i (.ow v)) (σ.set i (some (.ref a))) b → Own ρ σ b ∨ b = a := by
  have hi2 : i < σ.length := by rw [← S.len]; exact hi
  refine ⟨⟨by simpa using S.len, fun j s o e1 e2 => ?_, fun j k v1 v2 b h1 h2 h3 h4 => ?_, S.ft⟩, fun b ⟨j, w, e1, e2⟩ => ?_⟩
  · by_cases hj : j = i
    · subst hj
      rw [List.getElem?_set_self hi] at e1
      rw [List.getElem?_set_self hi2] at e2
      cases e1
      cases e2
      exact ⟨a, rfl, nf, w⟩
    · rw [List.getElem?_set_ne (Ne.symm hj)] at e1 e2
      exact S.slot j s o e1 e2
  · by_cases c1 : j = i
    · by_cases c2 : k = i
      · rw [c1, c2]
      · subst c1
        rw [List.getElem?_set_self hi2] at h3
        cases h3
        rw [List.getElem?_set_ne (Ne.symm c2)] at h2 h4
        exact absurd ⟨k, v2, h2, h4⟩ no
    · by_cases c2 : k = i
      · subst c2
        rw [List.getElem?_set_self hi2] at h4
        cases h4
        rw [List.getElem?_set_ne (Ne.symm c1)] at h1 h3
        exact absurd ⟨j, v1, h1, h3⟩ no
      · rw [List.getElem?_set_ne (Ne.symm c1)] at h1 h3
        rw [List.getElem?_set_ne (Ne.symm c2)] at h2 h4
        exact S.dist j k _ _ b h1 h2 h3 h4
  · by_cases hj : j = i
    · subst hj
      rw [List.getElem?_set_self hi2] at e2
      cases e2
      exact .inr rfl
    · rw [List.getElem?_set_ne (Ne.symm hj)] at e1 e2
      exact .inl ⟨j, w, e1, e2⟩
/-- the names of ρ' and σ' are those of ρ and σ but for some slots -/
def Agree (is : List Nat) (ρ ρ' : Ro) (σ σ' : St) : Prop := ∀ j, j ∉ is → ρ'[j]? = ρ[j]? ∧ σ'[j]? = σ[j]?
theorem Agree.refl (is : List Nat) (ρ : Ro) (σ : St) : Agree is ρ ρ σ σ := fun _ _ => ⟨rfl, rfl⟩
/-- what a target stores -/
def TGv (K : PySem.W.Frag) (tg : Tg) : TG := fun x σ H Q => ∃ ρ F v ρ', SR K F H ρ σ ∧ VR K F H v x ∧ bindT tg v ρ = some ρ' ∧ ∀ σ', SR K F H ρ' σ' → Agree (slotsT tg) ρ ρ' σ σ' → (∀ a, Own ρ' σ' a → Own ρ σ a) → Q σ' H
def TGvs (K : PySem.W.Frag) (ts : List Tg) : TGs := fun xs σ H Q => ∃ ρ F vs ρ', SR K F H ρ σ ∧ VRs K F H vs xs ∧ bindTs ts vs ρ = some ρ' ∧ ∀ σ', SR K F H ρ' σ' → Agree (slotsTs ts) ρ ρ' σ σ' → (∀ a, Own ρ' σ' a → Own ρ σ a) → Q σ' H
end
theorem PG.imp {X : Cx} {e : Expr} {t t' : TG} (h : PG X e t) (i : ∀ x σ H Q, t' x σ H Q → t x σ H Q) : PG X e t' := ⟨fun pins s σ H v u Q I r q => h.run pins s σ H v u Q I r (i v σ H Q q)⟩
theorem PGs.imp {X : Cx} {e : List Expr} {t t' : TGs} (h : PGs X e t) (i : ∀ x σ H Q, t' x σ H Q → t x σ H Q) : PGs X e t' := ⟨fun pins s σ H v u Q I r q => h.run pins s σ H v u Q I r (i v σ H Q q)⟩
section
variable {X : Cx} {x : Expr} {xs : List Expr} {t : Tg} {ts : List Tg} {pos : Pos}
theorem pg_nm {i : Nat} (h : PG X x (gName i)) : PG X x (TGv X.K (.nm i)) := PG.imp h fun p σ H Q ⟨ρ, F, v, ρ', S, r, e, q⟩ => by
  have e : (if i < ρ.length then some (ρ.set i (.fz v)) else none) = some ρ' := e
  split at e
  · rename_i hi
    cases e
    obtain ⟨S2, o2⟩ := S.store r hi
    refine q _ S2 (fun j hj => ?_) o2
    have hne : i ≠ j := fun e => hj (by rw [← e]; exact List.mem_cons_self)
    exact ⟨List.getElem?_set_ne hne, List.getElem?_set_ne hne⟩
  · cases e
theorem pgs_vnil : PGs X [] (TGvs X.K []) := PGs.imp pgs_nil fun ps σ H Q ⟨ρ, F, vs, ρ', S, r, e, q⟩ => by
  cases vs with
  | nil =>
    have e : some ρ = some ρ' := e
    cases e
    exact ⟨r, q σ S (Agree.refl _ _ _) fun _ h => h⟩
  | cons _ _ => cases e
theorem pgs_vcons (h1 : PG X x (TGv X.K t)) (h2 : PGs X xs (TGvs X.K ts)) (hs : (assignEach (x :: xs) X.env).map (·.2) = assign x X.env :: (assignEach xs X.env).map (·.2)) : PGs X (x :: xs) (TGvs X.K (t :: ts)) := PGs.imp (pgs_cons h1 h2 hs) fun ps σ H Q ⟨ρ, F, vs, ρ', S, r, e, q⟩ => by
  cases vs with
  | nil => cases e
  | cons v vs =>
    obtain ⟨p, pr, ep, r1, r2⟩ := r
    have e : (bindT t v ρ).bind (fun ρ' => bindTs ts vs ρ') = some ρ' := e
    cases e1 : bindT t v ρ with
    | none => rw [e1] at e; cases e
    | some ρ1 =>
      rw [e1] at e
      refine ⟨p, pr, ep, ρ, F, v, ρ1, S, r1, e1, fun σ1 S1 a1 o1 => ⟨ρ1, F, vs, ρ', S1, r2, e, fun σ2 S2 a2 o2 => q σ2 S2 (fun j hj => ?_) fun a h => o1 a (o2 a h)⟩⟩
      have hj : j ∉ slotsT t ++ slotsTs ts := hj
      rw [List.mem_append, not_or] at hj
      obtain ⟨b1, b2⟩ := a1 j hj.1
      obtain ⟨c1, c2⟩ := a2 j hj.2
      exact ⟨c1.trans b1, c2.trans b2⟩
theorem bindTs_len : ∀ {ts : List Tg} {vs : List Val} {ρ ρ' : Ro}, bindTs ts vs ρ = some ρ' → ts.length = vs.length
  | [], [], _, _, _ => rfl
  | [], _ :: _, _, _, e => by cases e
  | _ :: _, [], _, _, e => by cases e
  | t :: ts, v :: vs, ρ, ρ', e => by
    have e : (bindT t v ρ).bind (fun ρ' => bindTs ts vs ρ') = some ρ' := e
    cases e1 : bindT t v ρ with
    | none => rw [e1] at e; cases e
    | some ρ1 => rw [e1] at e; simp [bindTs_len (show bindTs ts vs ρ1 = some ρ' from e)]
theorem pg_tp {k : Nat} (hc : X.calm = true) (h : PGs X xs (TGvs X.K ts)) (hl : xs.length = ts.length) (hn : (assignEach xs X.env).length = xs.length) (hst : (assignEach xs X.env).findIdx? (·.1) = none) : PG X (.Tuple xs k pos) (TGv X.K (.tp ts)) :=
  PG.imp (pg_tup (n := xs.length) hc h hn hst) fun p σ H Q ⟨ρ, F, v, ρ', S, r, e, q⟩ => by
    cases v with
    | tup vs =>
      obtain ⟨a, ys, ep, hq, r⟩ := r
      exact ⟨a, ys, ep, hq, by rw [← r.length, ← bindTs_len (show bindTs ts vs ρ = some ρ' from e), hl], ρ, F, vs, ρ', S, r, e, q⟩
    | _ => cases e
end
/-! ### what is walked -/
structure Walks (K : PySem.W.Frag) (J : It) (items : List Val) (F : Addr → Prop) (H : Hp) : Prop where
  stop : ∀ F' H', Mono F F' H H' → J.stop items.length H'
  go : ∀ i v F' H', items[i]? = some v → Mono F F' H H' → Tr F' H' → J.go i H' ∧ ∀ x H'', J.yld i H' x H'' → Gr F' F' H' H'' ∧ VR K F' H'' v x
section
variable {K : PySem.W.Frag} {F F' : Addr → Prop} {H H' : Hp}
theorem walks_sq {vs : List Val} {xs : List V} {a : Addr} (r : VRs K F H vs xs) (h : ∀ F' H', Mono F F' H H' → SqL K H' a xs) : Walks K (Itl K a) vs F H where
  stop := fun F' H' m => ⟨xs, h F' H' m, by rw [r.length]; exact Nat.le_refl _⟩
  go := fun i v F' H' e m t => by
    obtain ⟨x, e2, r2⟩ := r.get e
    refine ⟨⟨xs, x, h F' H' m, e2⟩, fun y H'' ⟨q1, q2⟩ => ?_⟩
    subst q1
    have e3 := q2 xs (h F' _ m)
    rw [e2] at e3
    cases e3
    exact ⟨Gr.refl _ _, VR.mono m v r2⟩
theorem walks_lst {vs : List Val} {x : V} (r : VR K F H (.lst vs) x) : ∃ a xs, x = .ref a ∧ SqL K H a xs ∧ Walks K (Itl K a) vs F H := by
  obtain ⟨a, xs, e, f, h, r⟩ := r
  exact ⟨a, xs, e, .inl (.inl h), walks_sq r fun F' H' m => .inl (.inl ((m.fz a f).2.trans h))⟩
theorem walks_scr {vs : List Val} {x : V} (r : VR K F H (.scr vs) x) : ∃ a xs, x = .ref a ∧ SqL K H a xs ∧ Walks K (Itl K a) vs F H := by
  obtain ⟨a, xs, e, h, r⟩ := r
  exact ⟨a, xs, e, h.sq, walks_sq r fun F' H' m => (m.scL h).sq⟩
theorem walks_tup {vs : List Val} {x : V} (r : VR K F H (.tup vs) x) : ∃ a xs, x = .ref a ∧ SqT K H a xs ∧ Walks K (Itt K a) vs F H := by
  obtain ⟨a, xs, e, h, r⟩ := r
  refine ⟨a, xs, e, h, ⟨fun F' H' m => ⟨xs, m.sqT h, by rw [r.length]; exact Nat.le_refl _⟩, fun i v F' H' e m t => ?_⟩⟩
  obtain ⟨x, e2, r2⟩ := r.get e
  refine ⟨⟨xs, x, m.sqT h, e2⟩, fun y H'' ⟨q1, q2⟩ => ?_⟩
  subst q1
  have e3 := q2 xs (m.sqT h)
  rw [e2] at e3
  cases e3
  exact ⟨Gr.refl _ _, VR.mono m v r2⟩
theorem rngL_length : ∀ (n : Nat) (lo : Int), (rngL lo n).length = n
  | 0, _ => rfl
  | n + 1, lo => by show (rngL (lo + 1) n).length + 1 = n + 1; rw [rngL_length n]
theorem rngL_get : ∀ (n : Nat) (lo : Int) (i : Nat) (v : Val), (rngL lo n)[i]? = some v → i < n ∧ v = .int (lo + i)
  | 0, _, _, _, e => by cases e
  | n + 1, lo, 0, v, e => by
    have e : some (Val.int lo) = some v := e
    cases e
    exact ⟨Nat.succ_pos _, by simp⟩
  | n + 1, lo, i + 1, v, e => by
    have e : (rngL (lo + 1) n)[i]? = some v := e
    obtain ⟨h1, h2⟩ := rngL_get n (lo + 1) i v e
    refine ⟨Nat.succ_lt_succ h1, ?_⟩
    rw [h2]
    congr 1
    omega
theorem walks_rng (lo : Int) (n : Nat) : Walks K (Itr lo n) (rngL lo n) F H where
  stop := fun F' H' m => by show n ≤ _; rw [rngL_length]; exact Nat.le_refl _
  go := fun i v F' H' e m t => by
    obtain ⟨h1, h2⟩ := rngL_get n lo i v e
    refine ⟨h1, fun x H'' ⟨q1, q2⟩ => ?_⟩
    subst q1 q2 h2
    exact ⟨Gr.refl _ _, rfl⟩
theorem enumL_length : ∀ (xs : List Val) (k : Int), (enumL k xs).length = xs.length
  | [], _ => rfl
  | x :: xs, k => by show (enumL (k + 1) xs).length + 1 = xs.length + 1; rw [enumL_length xs]
theorem enumL_get : ∀ (xs : List Val) (k : Int) (i : Nat) (v : Val), (enumL k xs)[i]? = some v → ∃ u, xs[i]? = some u ∧ v = .tup [.int (k + i), u]
  | [], _, _, _, e => by cases e
  | x :: xs, k, 0, v, e => by
    have e : some (Val.tup [.int k, x]) = some v := e
    cases e
    exact ⟨x, rfl, by simp⟩
  | x :: xs, k, i + 1, v, e => by
    have e : (enumL (k + 1) xs)[i]? = some v := e
    obtain ⟨u, h1, h2⟩ := enumL_get xs (k + 1) i v e
    refine ⟨u, by simpa using h1, ?_⟩
    rw [h2]
    congr 3
    omega
theorem walks_enum {vs : List Val} {x : V} (r : VR K F H (.lst vs) x) : ∃ a xs, x = .ref a ∧ SqL K H a xs ∧ Walks K (Ite K a) (enumL 0 vs) F H := by
  obtain ⟨a, xs, e, f, h, r⟩ := r
  have sq : ∀ F' H', Mono F F' H H' → SqL K H' a xs := fun F' H' m => .inl (.inl ((m.fz a f).2.trans h))
  refine ⟨a, xs, e, .inl (.inl h), ⟨fun F' H' m => ⟨xs, sq F' H' m, by rw [enumL_length, r.length]; exact Nat.le_refl _⟩, fun i v F' H' e m t => ?_⟩⟩
  obtain ⟨u, e1, ev⟩ := enumL_get vs 0 i v e
  obtain ⟨x, e2, r2⟩ := r.get e1
  refine ⟨⟨xs, x, sq F' H' m, e2⟩, fun y H'' ⟨T, z, q1, q2, q3, q4⟩ => ?_⟩
  have e3 := q4 xs (sq F' H' m)
  rw [e2] at e3
  cases e3
  subst q1 q3 ev
  have g : Gr F' F' H' (upd H' T (.tup [.int (i : Nat), x])) := ⟨Ext.laid _ F' q2⟩
  refine ⟨g, T, _, rfl, .inl (.inl upd_same), .int (i : Nat), [x], rfl, ?_, x, [], rfl, VR.mono (g.mono t) u (VR.mono m u r2), rfl⟩
  show V.int (i : Nat) = V.int (0 + (i : Nat))
  simp
theorem zipL_length : ∀ (xs ys : List Val), (zipL xs ys).length = min xs.length ys.length
  | [], ys => by simp [zipL]
  | x :: xs, [] => by simp [zipL]
  | x :: xs, y :: ys => by
    show (zipL xs ys).length + 1 = _
    rw [zipL_length xs ys]
    simp only [List.length_cons]
    omega
theorem zipL_get : ∀ (xs ys : List Val) (i : Nat) (v : Val), (zipL xs ys)[i]? = some v → ∃ u w, xs[i]? = some u ∧ ys[i]? = some w ∧ v = .tup [u, w]
  | [], _, _, _, e => by cases e
  | _ :: _, [], _, _, e => by cases e
  | x :: xs, y :: ys, 0, v, e => by
    have e : some (Val.tup [x, y]) = some v := e
    cases e
    exact ⟨x, y, rfl, rfl, rfl⟩
  | x :: xs, y :: ys, i + 1, v, e => by
    have e : (zipL xs ys)[i]? = some v := e
    obtain ⟨u, w, h1, h2, h3⟩ := zipL_get xs ys i v e
    exact ⟨u, w, by simpa using h1, by simpa using h2, h3⟩
end
end EV
set_option Elab.async false
set_option linter.all false
set_option maxRecDepth 100000
set_option maxHeartbeats 1000000
/-! What a for or a comprehension walks; a comprehension. -/
namespace EV
open PySem L2
/-- the items of what is walked -/
def evItems (Γ : Env') (it : E) (ρ : Ro) : R (List Val × Ro) := (ev Γ it ρ).bind fun z => (R.of (itemsV z.1.1)).bind fun xs => .got (xs, z.2)
def TIt (X : Cx) (W : WX) (Cl : Nat → Addr) (Γ : Env') (it : E) : TI := fun σ H Rr => ∃ ρ F, SR X.K F H ρ σ ∧ Res X.K W Cl (mutE it) σ ρ F H (evItems Γ it ρ) fun items _ F' H' => ∀ J, Walks X.K J items F' H' → Rr J H'
section
variable {X : Cx} {W : WX} {Cl : Nat → Addr} {Γ : Env'} {a b c : E} {x y z tg : Expr} {pos : Pos}
theorem PI.imp {i : Expr} {t t' : TI} (h : PI X tg i t) (f : ∀ σ H Q, t' σ H Q → t σ H Q) : PI X tg i t' := ⟨fun pins s σ H Q I q => h.run pins s σ H Q I (f σ H Q q)⟩
theorem PI.or {i : Expr} {t1 t2 t' : TI} (h1 : PI X tg i t1) (h2 : PI X tg i t2) (f : ∀ σ H Q, t' σ H Q → t1 σ H Q ∨ t2 σ H Q) : PI X tg i t' := ⟨fun pins s σ H Q I q => by
  rcases f σ H Q q with q | q
  · exact h1.run pins s σ H Q I q
  · exact h2.run pins s σ H Q I q⟩
/-- a list or a tuple -/
theorem pi_val (h : PE X x (TEv X W Cl Γ a)) : PI X tg x (TIt X W Cl Γ a) := by
  refine PI.or (pi_list (pe_val h)) (pi_tup (pe_val h)) fun σ H Q ⟨ρ, F, S, q⟩ => ?_
  have q2 := Res.bind1 (show Res X.K W Cl (mutE a) σ ρ F H ((ev Γ a ρ).bind fun z => (R.of (itemsV z.1.1)).bind fun xs => .got (xs, z.2)) _ from q)
  have fin : ∀ {v : Val} {ρ1 : Ro} {F1 : Addr → Prop} {H1 : Hp} {xs : List Val} {J : It}, SR X.K F1 H1 ρ1 σ → itemsV v = some xs → Res X.K W Cl false σ ρ1 F1 H1 ((R.of (itemsV v)).bind fun xs => .got (xs, ρ1)) (fun items _ F' H' => ∀ J, Walks X.K J items F' H' → Q J H') → Walks X.K J xs F1 H1 → Q J H1 := fun S1 e h w => by
    rw [e] at h
    exact Res.pure (P := fun items _ F' H' => ∀ J, Walks X.K J items F' H' → Q J H') S1 h (Gr.refl _ _) _ w
  cases e : ev Γ a ρ with
  | bad => rw [e] at q2; exact q2.elim
  | ex c p => exact .inl ⟨ρ, F, S, by rw [e] at q2 ⊢; exact q2⟩
  | got u =>
    obtain ⟨⟨v, f⟩, ρ1⟩ := u
    rw [e] at q2
    cases v with
    | lst vs =>
      refine .inl ⟨ρ, F, S, ?_⟩
      rw [e]
      intro F1 H1 g1 p r
      obtain ⟨ad, xs, ep, sq, w⟩ := walks_lst r
      exact ⟨ad, ep, ⟨xs, sq⟩, fin g1.sr rfl (q2 F1 H1 g1) w⟩
    | scr vs =>
      refine .inl ⟨ρ, F, S, ?_⟩
      rw [e]
      intro F1 H1 g1 p r
      obtain ⟨ad, xs, ep, sq, w⟩ := walks_scr r
      exact ⟨ad, ep, ⟨xs, sq⟩, fin g1.sr rfl (q2 F1 H1 g1) w⟩
    | tup vs =>
      refine .inr ⟨ρ, F, S, ?_⟩
      rw [e]
      intro F1 H1 g1 p r
      obtain ⟨ad, xs, ep, sq, w⟩ := walks_tup r
      exact ⟨ad, ep, ⟨xs, sq⟩, fin g1.sr rfl (q2 F1 H1 g1) w⟩
    | _ =>
      refine .inl ⟨ρ, F, S, ?_⟩
      rw [e]
      intro F1 H1 g1
      exact (q2 F1 H1 g1).elim
theorem rngOk_of {i : Int} (h : rngOk i = true) : -(2 ^ 62) ≤ i ∧ i < 2 ^ 62 := of_decide_eq_true h
theorem pi_rng1 {p : Pos} (hg : Gl X "range") (hm : X.mg "range" = none) (ha : PE X x (TEv X W Cl Γ a)) (hs : starEach [x] X.env = [(false, eval x X.env)]) : PI X tg (.Call (.Name "range" p) [x] [] pos) (TIt X W Cl Γ (.rng1 a)) := by
  refine PI.imp (pi_range1 hg hm (pa_cons (pe_val ha) pa_nil hs) hs) fun σ H Q ⟨ρ, F, S, q⟩ => ⟨ρ, F, S, ?_⟩
  have q : Res X.K W Cl (mutE a) σ ρ F H (((ev Γ a ρ).bind fun x => match x.1.1 with
    | .int n => if rngOk n then .got ((Val.lst (rngL 0 n.toNat), false), x.2) else .bad
    | _ => .bad).bind fun z => (R.of (itemsV z.1.1)).bind fun xs => .got (xs, z.2)) (fun items _ F' H' => ∀ J, Walks X.K J items F' H' → Q J H') := q
  rw [bind_assoc] at q
  refine (Res.bind1 q).imp id fun u ρ1 F1 H1 g1 h1 p r => ?_
  obtain ⟨v, f⟩ := u
  cases v with
  | int n =>
    simp only at h1
    split at h1
    · rename_i hn
      obtain ⟨n1, n2⟩ := rngOk_of hn
      refine ⟨n, by rw [(show p = V.int n from r)], n1, n2, ?_⟩
      exact Res.pure (P := fun items _ F' H' => ∀ J, Walks X.K J items F' H' → Q J H') g1.sr h1 (Gr.refl _ _) _ (walks_rng 0 n.toNat)
    · exact h1.elim
  | _ => exact h1.elim
theorem pi_rng2 {p : Pos} (hg : Gl X "range") (hm : X.mg "range" = none) (ha : PE X x (TEv X W Cl Γ a)) (hb : PE X y (TEv X W Cl Γ b)) (hs1 : starEach [x] X.env = [(false, eval x X.env)]) (hs2 : starEach [y] X.env = [(false, eval y X.env)]) (hs : starEach [x, y] X.env = (false, eval x X.env) :: starEach [y] X.env) :
    PI X tg (.Call (.Name "range" p) [x, y] [] pos) (TIt X W Cl Γ (.rng2 a b)) := by
  refine PI.imp (pi_range2 hg hm (pa_cons (pe_val ha) (pa_cons (pe_val hb) pa_nil hs2) hs) (by rw [hs, hs2]) hs2) fun σ H Q ⟨ρ, F, S, q⟩ => ⟨ρ, F, S, ?_⟩
  have q : Res X.K W Cl (mutE a || mutE b) σ ρ F H (((ev Γ a ρ).bind fun x => (ev Γ b x.2).bind fun y => match x.1.1, y.1.1 with
    | .int m, .int n => if rngOk m && rngOk n then .got ((Val.lst (rngL m (n - m).toNat), false), y.2) else .bad
    | _, _ => .bad).bind fun z => (R.of (itemsV z.1.1)).bind fun xs => .got (xs, z.2)) (fun items _ F' H' => ∀ J, Walks X.K J items F' H' → Q J H') := q
  rw [bind_assoc] at q
  refine (Res.bind q).imp id fun u ρ1 F1 H1 g1 h1 p r => ⟨ρ1, F1, g1.sr, ?_⟩
  rw [bind_assoc] at h1
  refine (Res.bind1 h1).imp id fun w ρ2 F2 H2 g2 h2 p2 r2 => ?_
  have r3 := VR.mono (g1.sr.mono g2.ext) _ r
  obtain ⟨u, f⟩ := u
  obtain ⟨w, f2⟩ := w
  cases u with
  | int m => cases w with
    | int n =>
      simp only at h2
      split at h2
      · rename_i hn
        obtain ⟨n1, n2⟩ := Bool.and_eq_true_iff.mp hn
        obtain ⟨m1, m2⟩ := rngOk_of n1
        obtain ⟨m3, m4⟩ := rngOk_of n2
        refine ⟨m, n, by rw [(show p = V.int m from r), (show p2 = V.int n from r2)], ⟨m1, m2, m3, m4⟩, ?_⟩
        exact Res.pure (P := fun items _ F' H' => ∀ J, Walks X.K J items F' H' → Q J H') g2.sr h2 (Gr.refl _ _) _ (walks_rng m (n - m).toNat)
      · exact h2.elim
    | _ => exact h2.elim
  | _ => exact h2.elim
theorem pi_enum' {p tpos : Pos} {elts : List Expr} {kk : Nat} (hg : Gl X "enumerate") (hm : X.mg "enumerate" = none) (ha : PE X x (TEv X W Cl Γ a)) (hs : starEach [x] X.env = [(false, eval x X.env)]) : PI X (.Tuple elts kk tpos) (.Call (.Name "enumerate" p) [x] [] pos) (TIt X W Cl Γ (.enum a)) := by
  refine PI.imp (pi_enum hg hm (pa_cons (pe_val ha) pa_nil hs) hs) fun σ H Q ⟨ρ, F, S, q⟩ => ⟨ρ, F, S, ?_⟩
  have q : Res X.K W Cl (mutE a) σ ρ F H (((ev Γ a ρ).bind fun x => match x.1.1 with
    | .lst xs => .got ((Val.lst (enumL 0 xs), false), x.2)
    | _ => .bad).bind fun z => (R.of (itemsV z.1.1)).bind fun xs => .got (xs, z.2)) (fun items _ F' H' => ∀ J, Walks X.K J items F' H' → Q J H') := q
  rw [bind_assoc] at q
  refine (Res.bind1 q).imp id fun u ρ1 F1 H1 g1 h1 p r => ?_
  obtain ⟨v, f⟩ := u
  cases v with
  | lst vs =>
    obtain ⟨ad, xs, ep, sq, w⟩ := walks_enum r
    exact ⟨ad, xs, by rw [ep], sq, Res.pure (P := fun items _ F' H' => ∀ J, Walks X.K J items F' H' → Q J H') g1.sr h1 (Gr.refl _ _) _ w⟩
  | _ => exact h1.elim
/-! ### comprehensions -/
theorem wipe_get {σ : St} {j : Nat} : ∀ {vs : List Nat}, j ∉ vs → (wipe σ vs)[j]? = σ[j]?
  | [], _ => rfl
  | v :: vs, h => by
    have h2 : v ≠ j := fun e => h (by rw [e]; exact List.mem_cons_self)
    have h3 : j ∉ vs := fun e => h (List.mem_cons_of_mem _ e)
    show ((wipe σ vs).set v none)[j]? = σ[j]?
    rw [List.getElem?_set_ne h2, wipe_get h3]
theorem wipe_in {σ : St} {j : Nat} (hl : j < σ.length) : ∀ {vs : List Nat}, j ∈ vs → (wipe σ vs)[j]? = some none
  | [], h => nomatch h
  | v :: vs, h => by
    show ((wipe σ vs).set v none)[j]? = some none
    by_cases e : v = j
    · subst e
      exact List.getElem?_set_self (by rw [wipe_length]; exact hl)
    · rw [List.getElem?_set_ne e]
      rcases List.mem_cons.mp h with h | h
      · exact absurd h.symm e
      · exact wipe_in hl h
theorem wipe_same {σ σ2 : St} {vs : List Nat} (hl : σ2.length = σ.length) (h : ∀ j, j ∉ vs → σ2[j]? = σ[j]?) : wipe σ2 vs = wipe σ vs := by
  apply List.ext_getElem?
  intro j
  by_cases hj : j ∈ vs
  · by_cases hl2 : j < σ.length
    · rw [wipe_in hl2 hj, wipe_in (by rw [hl]; exact hl2) hj]
    · rw [List.getElem?_eq_none (by rw [wipe_length]; omega), List.getElem?_eq_none (by rw [wipe_length]; omega)]
  · rw [wipe_get hj, wipe_get hj, h j hj]
theorem wipeR_length (ρ : Ro) : ∀ vs : List Nat, (wipeR ρ vs).length = ρ.length
  | [] => rfl
  | v :: vs => by unfold wipeR; rw [List.length_set, wipeR_length ρ vs]
theorem wipeR_get {ρ : Ro} {j : Nat} : ∀ {vs : List Nat}, j ∉ vs → (wipeR ρ vs)[j]? = ρ[j]?
  | [], _ => rfl
  | v :: vs, h => by
    have h2 : v ≠ j := fun e => h (by rw [e]; exact List.mem_cons_self)
    have h3 : j ∉ vs := fun e => h (List.mem_cons_of_mem _ e)
    show ((wipeR ρ vs).set v .no)[j]? = ρ[j]?
    rw [List.getElem?_set_ne h2, wipeR_get h3]
theorem wipeR_in {ρ : Ro} {j : Nat} (hl : j < ρ.length) : ∀ {vs : List Nat}, j ∈ vs → (wipeR ρ vs)[j]? = some .no
  | [], h => nomatch h
  | v :: vs, h => by
    show ((wipeR ρ vs).set v .no)[j]? = some .no
    by_cases e : v = j
    · subst e
      exact List.getElem?_set_self (by rw [wipeR_length]; exact hl)
    · rw [List.getElem?_set_ne e]
      rcases List.mem_cons.mp h with h | h
      · exact absurd h.symm e
      · exact wipeR_in hl h
theorem backR_length (ρ ρ' : Ro) : ∀ vs : List Nat, (backR ρ ρ' vs).length = ρ'.length
  | [] => rfl
  | v :: vs => by unfold backR; rw [List.length_set, backR_length ρ ρ' vs]
theorem backR_get {ρ ρ' : Ro} {j : Nat} : ∀ {vs : List Nat}, j ∉ vs → (backR ρ ρ' vs)[j]? = ρ'[j]?
  | [], _ => rfl
  | v :: vs, h => by
    have h2 : v ≠ j := fun e => h (by rw [e]; exact List.mem_cons_self)
    have h3 : j ∉ vs := fun e => h (List.mem_cons_of_mem _ e)
    show ((backR ρ ρ' vs).set v _)[j]? = ρ'[j]?
    rw [List.getElem?_set_ne h2, backR_get h3]
theorem backR_in {ρ ρ' : Ro} {j : Nat} (hl : j < ρ.length) (hl2 : ρ'.length = ρ.length) : ∀ {vs : List Nat}, j ∈ vs → (backR ρ ρ' vs)[j]? = ρ[j]?
  | [], h => nomatch h
  | v :: vs, h => by
    show ((backR ρ ρ' vs).set v (ρ[v]?.getD .no))[j]? = ρ[j]?
    by_cases e : v = j
    · subst e
      rw [List.getElem?_set_self (by rw [backR_length, hl2]; exact hl), List.getElem?_eq_getElem hl]
      rfl
    · rw [List.getElem?_set_ne e]
      rcases List.mem_cons.mp h with h | h
      · exact absurd h.symm e
      · exact backR_in hl hl2 h
theorem SR.wipe {K : PySem.W.Frag} {F : Addr → Prop} {H : Hp} {ρ : Ro} {σ : St} (S : SR K F H ρ σ) (vs : List Nat) : SR K F H (wipeR ρ vs) (L2.wipe σ vs) := by
  refine ⟨by rw [wipeR_length, wipe_length]; exact S.len, fun j s o e1 e2 => ?_, fun j k v w a h1 h2 h3 h4 => ?_, S.ft⟩
  · by_cases hj : j ∈ vs
    · have hl : j < ρ.length := by have := (List.getElem?_eq_some_iff.mp e1).1; rw [wipeR_length] at this; exact this
      rw [wipeR_in hl hj] at e1
      cases e1
      trivial
    · rw [wipeR_get hj] at e1
      rw [wipe_get hj] at e2
      exact S.slot j s o e1 e2
  · have nj : ∀ {i : Nat} {u : Val}, (wipeR ρ vs)[i]? = some (Sl.ow u) → i ∉ vs := fun {i u} h hi => by
      have hl : i < ρ.length := by have := (List.getElem?_eq_some_iff.mp h).1; rw [wipeR_length] at this; exact this
      rw [wipeR_in hl hi] at h
      cases h
    have n1 := nj h1
    have n2 := nj h2
    rw [wipeR_get n1] at h1
    rw [wipeR_get n2] at h2
    rw [wipe_get n1] at h3
    rw [wipe_get n2] at h4
    exact S.dist j k v w a h1 h2 h3 h4
/-- behind a block's turn -/
theorem block_back {K : PySem.W.Frag} {m : Bool} {F F' : Addr → Prop} {H H0 H' : Hp} {ρ ρ1 ρ' : Ro} {σ σ2 : St} {vs : List Nat} (S : SR K F H ρ σ) (g0 : Gr F F H H0) (ag : ∀ j, j ∉ vs → ρ1[j]? = ρ[j]? ∧ σ2[j]? = σ[j]?) (no : ∀ (j : Nat) (u : Val), j ∈ vs → ρ1[j]? ≠ some (Sl.ow u))
    (l1 : ρ1.length = ρ.length) (g : Go K m ρ1 ρ' σ2 F F' H0 H') (l2 : ρ'.length = ρ.length) (no2 : ∀ a, Own ρ' σ2 a → Own ρ1 σ2 a) : Go K true ρ (backR ρ ρ' vs) σ F F' H H' := by
  have own1 : ∀ a, Own ρ1 σ2 a → Own ρ σ a ∧ ∀ (j : Nat) (u : Val), j ∈ vs → ρ[j]? = some (Sl.ow u) → σ[j]? ≠ some (some (V.ref a)) := fun a ⟨i, w, e1, e2⟩ => by
    have hi : i ∉ vs := fun h => no i w h e1
    obtain ⟨q1, q2⟩ := ag i hi
    rw [q1] at e1
    rw [q2] at e2
    exact ⟨⟨i, w, e1, e2⟩, fun j u hj e3 e4 => hi ((S.dist i j w u a e1 e3 e2 e4) ▸ hj)⟩
  have ex : Ext (Own ρ σ) F F' H H' := (g0.ext.wide (O' := Own ρ σ) fun _ h => h.elim).trans g.ext fun a o => .inl (own1 a o).1
  have hl3 : (backR ρ ρ' vs).length = ρ.length := by rw [backR_length, l2]
  have kept : ∀ {a : Addr} {u : HO}, H a = some u → ¬ Own ρ1 σ2 a → H' a = some u := fun h n => g.ext.keep _ _ (g0.same _ _ h) n
  have mm : Mono F F' H H' := S.mono ex
  refine ⟨ex, ⟨hl3.trans S.len, fun j s o e1 e2 => ?_, fun j k v w a h1 h2 h3 h4 => ?_, g.sr.ft⟩, fun a ⟨j, w, e1, e2⟩ => ?_, fun e => nomatch e⟩
  · by_cases hj : j ∈ vs
    · have jl : j < ρ.length := by rw [← hl3]; exact (List.getElem?_eq_some_iff.mp e1).1
      rw [backR_in jl l2 hj] at e1
      have q := S.slot j s o e1 e2
      cases s with
      | no => trivial
      | fz v => obtain ⟨y, e, r⟩ := q; exact ⟨y, e, VR.mono mm v r⟩
      | ow v =>
        obtain ⟨a, e, nf, w⟩ := q
        have hk : ∃ u, H a = some u := by rcases w.kind with ⟨ys, z⟩ | ⟨ys, z⟩ <;> exact ⟨_, z⟩
        obtain ⟨u, hu⟩ := hk
        have n1 : ¬ Own ρ1 σ2 a := fun o => (own1 a o).2 j v hj e1 (by rw [e2, e])
        refine ⟨a, e, fun f => ?_, w.mono mm (by rw [hu]; exact kept hu n1)⟩
        rcases g.ext.new a f with z | z | z
        · exact nf z
        · rw [g0.same a u hu] at z; cases z
        · exact n1 z
    · rw [backR_get hj] at e1
      exact g.sr.slot j s o e1 (by rw [(ag j hj).2]; exact e2)
  · have own2 : ∀ {i : Nat} {u : Val}, i ∉ vs → (backR ρ ρ' vs)[i]? = some (Sl.ow u) → σ[i]? = some (some (V.ref a)) → Own ρ1 σ2 a := fun {i u} hi e3 e4 => no2 a ⟨i, u, by rw [backR_get hi] at e3; exact e3, by rw [(ag i hi).2]; exact e4⟩
    by_cases c1 : j ∈ vs
    · have jl : j < ρ.length := by rw [← hl3]; exact (List.getElem?_eq_some_iff.mp h1).1
      rw [backR_in jl l2 c1] at h1
      by_cases c2 : k ∈ vs
      · have kl : k < ρ.length := by rw [← hl3]; exact (List.getElem?_eq_some_iff.mp h2).1
        rw [backR_in kl l2 c2] at h2
        exact S.dist j k v w a h1 h2 h3 h4
      · exact absurd h3 ((own1 a (own2 c2 h2 h4)).2 j v c1 h1)
    · by_cases c2 : k ∈ vs
      · have kl : k < ρ.length := by rw [← hl3]; exact (List.getElem?_eq_some_iff.mp h2).1
        rw [backR_in kl l2 c2] at h2
        exact absurd h4 ((own1 a (own2 c1 h1 h3)).2 k w c2 h2)
      · rw [backR_get c1] at h1
        rw [backR_get c2] at h2
        exact g.sr.dist j k v w a h1 h2 (by rw [(ag j c1).2]; exact h3) (by rw [(ag k c2).2]; exact h4)
  · by_cases hj : j ∈ vs
    · have jl : j < ρ.length := by rw [← hl3]; exact (List.getElem?_eq_some_iff.mp e1).1
      rw [backR_in jl l2 hj] at e1
      exact ⟨j, w, e1, e2⟩
    · rw [backR_get hj] at e1
      exact (own1 a (no2 a ⟨j, w, e1, by rw [(ag j hj).2]; exact e2⟩)).1
end
end EV
set_option Elab.async false
set_option linter.all false
set_option maxRecDepth 100000
set_option maxHeartbeats 1000000
/-! List comprehensions. -/
namespace EV
open PySem L2
mutual
theorem bindT_facts : ∀ (t : Tg) {v : Val} {ρ ρ' : Ro}, bindT t v ρ = some ρ' → ρ'.length = ρ.length ∧ (∀ j, j ∉ slotsT t → ρ'[j]? = ρ[j]?) ∧ ∀ (j : Nat) (u : Val), j ∈ slotsT t → ρ'[j]? ≠ some (Sl.ow u)
  | .nm i, v, ρ, ρ', e => by
    have e : (if i < ρ.length then some (ρ.set i (.fz v)) else none) = some ρ' := e
    split at e
    · rename_i hi
      cases e
      refine ⟨by simp, fun j hj => List.getElem?_set_ne fun e => hj (by rw [← e]; exact List.mem_cons_self), fun j u hj => ?_⟩
      have ej : j = i := by
        rcases List.mem_cons.mp hj with h | h
        · exact h
        · exact nomatch h
      subst ej
      rw [List.getElem?_set_self hi]
      intro q
      cases q
    · cases e
  | .tp ts, v, ρ, ρ', e => by
    cases v with
    | tup vs => exact bindTs_facts ts e
    | _ => cases e
theorem bindTs_facts : ∀ (ts : List Tg) {vs : List Val} {ρ ρ' : Ro}, bindTs ts vs ρ = some ρ' → ρ'.length = ρ.length ∧ (∀ j, j ∉ slotsTs ts → ρ'[j]? = ρ[j]?) ∧ ∀ (j : Nat) (u : Val), j ∈ slotsTs ts → ρ'[j]? ≠ some (Sl.ow u)
  | [], vs, ρ, ρ', e => by
    cases vs with
    | nil =>
      have e : some ρ = some ρ' := e
      cases e
      exact ⟨rfl, fun _ _ => rfl, fun j u h => nomatch h⟩
    | cons _ _ => cases e
  | t :: ts, vs, ρ, ρ', e => by
    cases vs with
    | nil => cases e
    | cons v vs =>
      have e : (bindT t v ρ).bind (fun ρ' => bindTs ts vs ρ') = some ρ' := e
      cases e1 : bindT t v ρ with
      | none => rw [e1] at e; cases e
      | some ρ1 =>
        rw [e1] at e
        obtain ⟨a1, a2, a3⟩ := bindT_facts t e1
        obtain ⟨b1, b2, b3⟩ := bindTs_facts ts (show bindTs ts vs ρ1 = some ρ' from e)
        refine ⟨b1.trans a1, fun j hj => ?_, fun j u hj => ?_⟩
        · have hj : j ∉ slotsT t ++ slotsTs ts := hj
          rw [List.mem_append, not_or] at hj
          exact (b2 j hj.2).trans (a2 j hj.1)
        · have hj : j ∈ slotsT t ++ slotsTs ts := hj
          by_cases h2 : j ∈ slotsTs ts
          · exact b3 j u h2
          · rw [b2 j h2]
            exact a3 j u ((List.mem_append.mp hj).resolve_right h2)
end
/-- within a block no exception is let out -/
def W0 : WX := fun _ _ _ _ => False
def TCv (K : PySem.W.Frag) (Cl : Nat → Addr) (Γ : Env') (c : E) : TT := fun σ H Q => ∃ ρ F, SR K F H ρ σ ∧ Res K W0 Cl (mutE c) σ ρ F H (condR c ρ (ev Γ c ρ)) (PB Q)
/-- .. the value of a block's element -/
def TVk (K : PySem.W.Frag) (Cl : Nat → Addr) (Γ : Env') (e : E) : TE := fun σ H Q => ∃ ρ F, SR K F H ρ σ ∧ Res K W0 Cl (mutE e) σ ρ F H (ev Γ e ρ) fun z _ F' H' => ∀ x, VR K F' H' z.1 x → Q x H'
section
variable {K : PySem.W.Frag} {F F' F'' : Addr → Prop} {H H' H'' : Hp} {ρ : Ro} {σ : St}
/-- a list that is none of the frame's and not locked is written -/
theorem SR.upd {D : Addr} {o : HO} (S : SR K F H ρ σ) (nf : ¬ F D) (no : ¬ Own ρ σ D) (hl : ∃ xs, H D = some (.lst xs)) : SR K F (upd H D o) ρ σ ∧ Mono F F H (upd H D o) := by
  obtain ⟨xs, hl⟩ := hl
  have mm : Mono F F H (L2.upd H D o) := by
    refine ⟨fun a f => ⟨f, ?_⟩, fun a ys h => ?_, fun a ob u h => ?_⟩
    · rw [upd_ne]
      rintro rfl
      exact nf f
    · rw [upd_ne]
      · exact h
      · rintro rfl
        rw [hl] at h
        cases h
    · rw [upd_ne]
      · exact h
      · rintro rfl
        rw [hl] at h
        cases h
  refine ⟨⟨S.len, fun i s o' e1 e2 => ?_, S.dist, fun a f => ?_⟩, mm⟩
  · have q := S.slot i s o' e1 e2
    cases s with
    | no => trivial
    | fz v => obtain ⟨y, e, r⟩ := q; exact ⟨y, e, VR.mono mm v r⟩
    | ow v =>
      obtain ⟨a, e, nf2, w⟩ := q
      refine ⟨a, e, nf2, w.mono mm ?_⟩
      rw [upd_ne]
      rintro rfl
      exact no ⟨i, v, e1, by rw [e2, e]⟩
  · by_cases h : a = D
    · exact absurd (h ▸ f) nf
    · obtain ⟨u, hu⟩ := S.ft a f
      exact ⟨u, by rw [upd_ne h]; exact hu⟩
theorem Mono.trans (a : Mono F F' H H') (b : Mono F' F'' H' H'') : Mono F F'' H H'' :=
  ⟨fun c f => let ⟨f1, e1⟩ := a.fz c f; let ⟨f2, e2⟩ := b.fz c f1; ⟨f2, e2.trans e1⟩, fun c xs h => b.tp c xs (a.tp c xs h), fun c o u h => b.fr c o u (a.fr c o u h)⟩
end
section
variable {X : Cx} {W : WX} {Cl : Nat → Addr} {Γ : Env'}
/-- a comprehension's loop, from its start -/
theorem lcCore {e c : E} {t : Tg} {vs : List Nat} {items : List Val} {J : It} {F1 : Addr → Prop} {H H1 : Hp} {ρ1 : Ro} {σ : St} {Q : VK} (hsl : ∀ j ∈ slotsT t, j ∈ vs) (S1 : SR X.K F1 H1 ρ1 σ) (fr : ∀ a, H1 a = none → H a = none) (wk : Walks X.K J items F1 H1) (hsz : ¬ sizeLine < items.length)
    (h1 : Res X.K W Cl true σ ρ1 F1 H1 ((loopL (fun x ρ => turnR Γ t vs x ρ (fun ρ1 => condR c ρ1 (ev Γ c ρ1)) (fun ρ1 => ev Γ e ρ1)) items ρ1).bind fun y => .got ((.lst y.1, true), y.2)) (PQ X.K H Q)) (D : Addr) (hD : H1 D = none) :
    ∃ Wf : Nat → Nat → Hp → Prop, (∃ m, Wf 0 m (L2.upd H1 D (.lst []))) ∧ ∀ i m H, Wf i m H → (J.stop i H ∧ Q (.ref D) H) ∨ (J.go i H ∧ ∃ Nx : Hp → Prop, (∀ H', Nx H' → ∃ m', m' < m ∧ Wf (i + 1) m' H') ∧ ∀ x H', J.yld i H x H' → TGv X.K t x (wipe σ vs) H' fun σ2 H2 => wipe σ2 vs = wipe σ vs ∧ TCv X.K Cl Γ c σ2 H2 fun b H3 => if b = true then TVk X.K Cl Γ e σ2 H3 fun y H4 => ∃ acc, H4 D = some (.lst acc) ∧ acc.length < sizeLine ∧ Nx (L2.upd H4 D (.lst (acc ++ [y]))) else Nx H3) := by
  let f : Val → Ro → R (List Val × Ro) := fun x ρ => turnR Γ t vs x ρ (fun ρ1 => condR c ρ1 (ev Γ c ρ1)) (fun ρ1 => ev Γ e ρ1)
  have h1 : Res X.K W Cl true σ ρ1 F1 H1 ((loopL f items ρ1).bind fun y => .got ((.lst y.1, true), y.2)) (PQ X.K H Q) := h1
  have noD : ∀ {ρc : Ro}, (∀ a, Own ρc σ a → Own ρ1 σ a) → ¬ Own ρc σ D := fun k o => S1.ownSome (k D o) hD
  refine ⟨fun i m Hh => m = items.length - i ∧ i ≤ items.length ∧ ∃ ρc Fc acc accV, Go X.K true ρ1 ρc σ F1 Fc H1 Hh ∧ Hh D = some (.lst accV) ∧ ¬ Fc D ∧ VRs X.K Fc Hh acc accV ∧ acc.length ≤ i ∧
    Res X.K W Cl true σ ρ1 F1 H1 ((loopL f (items.drop i) ρc).bind fun y => .got ((.lst (acc ++ y.1), true), y.2)) (PQ X.K H Q), ⟨_, rfl, Nat.zero_le _, ρ1, F1, [], [], Go.gr S1 true ⟨Ext.laid _ F1 hD⟩, upd_same, fun fd => ?_, rfl, Nat.le_refl _, ?_⟩, ?_⟩
  · obtain ⟨o, q⟩ := S1.ft D fd
    rw [hD] at q
    cases q
  · rw [List.drop_zero]
    exact h1
  rintro i m Hh ⟨rfl, hi, ρc, Fc, acc, accV, gc, hDc, nfD, ra, hacc, hres⟩
  have mc : Mono F1 Fc H1 Hh := S1.mono gc.ext
  have Sc : SR X.K Fc Hh ρc σ := gc.sr
  by_cases hlt : i < items.length
  · refine .inr ?_
    have ei : items[i]? = some items[i] := List.getElem?_eq_getElem hlt
    generalize hv : items[i] = v at ei
    obtain ⟨go, yl⟩ := wk.go i v Fc Hh ei mc Sc.ft
    refine ⟨go, fun H' => ∃ ρc Fc acc accV, Go X.K true ρ1 ρc σ F1 Fc H1 H' ∧ H' D = some (.lst accV) ∧ ¬ Fc D ∧ VRs X.K Fc H' acc accV ∧ acc.length ≤ i + 1 ∧
      Res X.K W Cl true σ ρ1 F1 H1 ((loopL f (items.drop (i + 1)) ρc).bind fun y => .got ((.lst (acc ++ y.1), true), y.2)) (PQ X.K H Q), fun H' q => ⟨items.length - (i + 1), by omega, rfl, hlt, q⟩, fun x H' y => ?_⟩
    obtain ⟨gr, vr⟩ := yl x H' y
    have ed : items.drop i = v :: items.drop (i + 1) := by rw [List.drop_eq_getElem_cons hlt, hv]
    rw [ed] at hres
    have hres : Res X.K W Cl true σ ρ1 F1 H1 (((f v ρc).bind fun z => (loopL f (items.drop (i + 1)) z.2).bind fun y => .got (z.1 ++ y.1, y.2)).bind fun y => .got ((.lst (acc ++ y.1), true), y.2)) (PQ X.K H Q) := hres
    have hf : f v ρc = (R.of (bindT t v (wipeR ρc vs))).bind fun ρb => ((condR c ρb (ev Γ c ρb)).bind fun t => match t.1 with
      | true => (ev Γ e t.2).bind fun y => .got ([y.1.1], backR ρc y.2 vs)
      | false => .got ([], backR ρc t.2 vs)).hush := rfl
    rw [hf] at hres
    cases e1 : bindT t v (wipeR ρc vs) with
    | none => rw [e1] at hres; exact hres.elim
    | some ρb =>
      rw [e1] at hres
      have hres : Res X.K W Cl true σ ρ1 F1 H1 (((((condR c ρb (ev Γ c ρb)).bind fun t => match t.1 with
        | true => (ev Γ e t.2).bind fun y => .got ([y.1.1], backR ρc y.2 vs)
        | false => .got ([], backR ρc t.2 vs)).hush).bind fun z => (loopL f (items.drop (i + 1)) z.2).bind fun y => .got (z.1 ++ y.1, y.2)).bind fun y => .got ((.lst (acc ++ y.1), true), y.2)) (PQ X.K H Q) := hres
      obtain ⟨b1, b2, b3⟩ := bindT_facts t e1
      refine ⟨wipeR ρc vs, Fc, v, ρb, (Sc.gr gr).wipe vs, vr, e1, fun σ2 S2 ag o2 => ?_⟩
      have ag2 : ∀ j, j ∉ vs → ρb[j]? = ρc[j]? ∧ σ2[j]? = σ[j]? := fun j hj => by
        obtain ⟨q1, q2⟩ := ag j fun z => hj (hsl j z)
        exact ⟨by rw [q1, wipeR_get hj], by rw [q2, wipe_get hj]⟩
      have lb : ρb.length = ρc.length := by rw [b1, wipeR_length]
      have no2 : ∀ (j : Nat) (u : Val), j ∈ vs → ρb[j]? ≠ some (Sl.ow u) := fun j u hj q => by
        by_cases h2 : j ∈ slotsT t
        · exact b3 j u h2 q
        · rw [b2 j h2] at q
          have hl : j < ρc.length := by rw [← lb, ← (show ρb.length = ρb.length from rfl)]; have := (List.getElem?_eq_some_iff.mp q).1; rw [wipeR_length] at this; omega
          rw [wipeR_in hl hj] at q
          cases q
      refine ⟨wipe_same (by rw [← S2.len, lb, Sc.len]) fun j hj => (ag2 j hj).2, ρb, Fc, S2, ?_⟩
      have back : ∀ {ρe : Ro} {Fe : Addr → Prop} {He : Hp} {me : Bool}, Go X.K me ρb ρe σ2 Fc Fe H' He → Go X.K true ρc (backR ρc ρe vs) σ Fc Fe Hh He := fun ge =>
        block_back Sc gr ag2 no2 lb ge (by rw [ge.sr.len, ← S2.len, lb]) ge.own
      have dat : ∀ {ρe : Ro} {Fe : Addr → Prop} {He : Hp}, Go X.K true ρc ρe σ Fc Fe Hh He → He D = some (.lst accV) ∧ ¬ Fe D ∧ VRs X.K Fe He acc accV := fun ge =>
        ⟨ge.ext.keep D _ hDc (noD gc.own), fun fd => by
          rcases ge.ext.new D fd with z | z | z
          · exact nfD z
          · rw [hDc] at z; cases z
          · exact noD gc.own z, VRs.mono (Sc.mono ge.ext) acc ra⟩
      cases e2 : condR c ρb (ev Γ c ρb) with
      | bad => rw [e2] at hres; exact hres.elim
      | ex cc p => rw [e2] at hres; exact hres.elim
      | got tt =>
        obtain ⟨b, ρ2⟩ := tt
        rw [e2] at hres
        intro F3 H3 g3
        cases b with
        | false =>
          refine iteF ?_
          have ge := back g3
          obtain ⟨d1, d2, d3⟩ := dat ge
          refine ⟨backR ρc ρ2 vs, F3, acc, accV, gc.trans ge, d1, d2, d3, Nat.le_succ_of_le hacc, ?_⟩
          have hres : Res X.K W Cl true σ ρ1 F1 H1 (((loopL f (items.drop (i + 1)) (backR ρc ρ2 vs)).bind fun y => .got ([] ++ y.1, y.2)).bind fun y => .got ((.lst (acc ++ y.1), true), y.2)) (PQ X.K H Q) := hres
          rw [bind_assoc] at hres
          exact hres
        | true =>
          refine iteT ⟨ρ2, F3, g3.sr, ?_⟩
          have hres : Res X.K W Cl true σ ρ1 F1 H1 (((((ev Γ e ρ2).bind fun y => .got ([y.1.1], backR ρc y.2 vs)).hush).bind fun z => (loopL f (items.drop (i + 1)) z.2).bind fun y => .got (z.1 ++ y.1, y.2)).bind fun y => .got ((.lst (acc ++ y.1), true), y.2)) (PQ X.K H Q) := hres
          cases e3 : ev Γ e ρ2 with
          | bad => rw [e3] at hres; exact hres.elim
          | ex cc p => rw [e3] at hres; exact hres.elim
          | got yy =>
            obtain ⟨⟨yv, fr⟩, ρ3⟩ := yy
            rw [e3] at hres
            intro F4 H4 g4 yx ry
            have ge := back (g3.trans g4)
            obtain ⟨d1, d2, d3⟩ := dat ge
            have g5 : Go X.K true ρ1 (backR ρc ρ3 vs) σ F1 F4 H1 H4 := gc.trans ge
            obtain ⟨S6, m6⟩ := SR.upd (o := .lst (accV ++ [yx])) g5.sr d2 (noD g5.own) ⟨_, d1⟩
            have la : acc.length = accV.length := ra.length
            refine ⟨accV, d1, by rw [← la]; omega, backR ρc ρ3 vs, F4, acc ++ [yv], accV ++ [yx], ⟨⟨fun a o q n => ?_, fun a o q => ?_, g5.ext.sub, g5.ext.new, fun t a f => ?_⟩, S6, g5.own, fun e => nomatch e⟩, upd_same, d2, ?_, ?_, ?_⟩
            · rw [upd_ne (ne_of_none q hD)]
              exact g5.ext.keep a o q n
            · obtain ⟨o', q'⟩ := g5.ext.old a o q
              exact ⟨o', by rw [upd_ne (ne_of_none q hD)]; exact q'⟩
            · exact S6.ft a f
            · exact VRs.append (VRs.mono m6 acc d3) ⟨yx, [], rfl, VR.mono m6 yv ry, rfl⟩
            · rw [List.length_append]
              show acc.length + 1 ≤ i + 1
              omega
            · have hres : Res X.K W Cl true σ ρ1 F1 H1 (((loopL f (items.drop (i + 1)) (backR ρc ρ3 vs)).bind fun y => .got ([yv] ++ y.1, y.2)).bind fun y => .got ((.lst (acc ++ y.1), true), y.2)) (PQ X.K H Q) := hres
              rw [bind_assoc] at hres
              have e9 : ∀ y : List Val × Ro, (R.got ((Val.lst (acc ++ ([yv] ++ y.1)), true), y.2)) = .got ((.lst ((acc ++ [yv]) ++ y.1), true), y.2) := fun y => by rw [List.append_assoc]
              simp only [R.bind] at hres ⊢
              simp only [List.append_assoc]
              exact hres
  · have ei : i = items.length := by omega
    subst ei
    refine .inl ⟨wk.stop Fc Hh mc, ?_⟩
    rw [List.drop_length] at hres
    exact hres Fc Hh gc (.ref D) ⟨D, rfl, nfD, fr D hD, accV, hDc, by rw [List.append_nil]; exact ra⟩
theorem lc_imp {e it c : E} {t : Tg} {vs : List Nat} (hsl : ∀ j ∈ slotsT t, j ∈ vs) {σ : St} {H : Hp} {Q : VK} (hh : TEv X W Cl Γ (.lc e t it c vs) σ H Q) :
    tLc (TIt X W Cl Γ it) (TGv X.K t) (TCv X.K Cl Γ c) (TVk X.K Cl Γ e) vs σ H Q := by
  obtain ⟨ρ, F, S, h⟩ := hh
  let f : Val → Ro → R (List Val × Ro) := fun x ρ => turnR Γ t vs x ρ (fun ρ1 => condR c ρ1 (ev Γ c ρ1)) (fun ρ1 => ev Γ e ρ1)
  have h : Res X.K W Cl (mutE it || true) σ ρ F H ((evItems Γ it ρ).bind fun z => if sizeLine < z.1.length then .bad else (loopL f z.1 z.2).bind fun y => .got ((.lst y.1, true), y.2)) (PQ X.K H Q) := by
    rw [Bool.or_true]
    unfold evItems
    rw [bind_assoc]
    have e2 : ∀ z : (Val × Bool) × Ro, (((R.of (itemsV z.1.1)).bind fun xs => R.got (xs, z.2)).bind fun z => if sizeLine < z.1.length then .bad else (loopL f z.1 z.2).bind fun y => .got ((Val.lst y.1, true), y.2)) =
      (R.of (itemsV z.1.1)).bind fun items => if sizeLine < items.length then .bad else (loopL f items z.2).bind fun y => .got ((.lst y.1, true), y.2) := fun z => by
      cases itemsV z.1.1 <;> rfl
    simp only [e2]
    exact h
  refine ⟨ρ, F, S, (Res.bind h).imp id fun items ρ1 F1 H1 g1 h1 J wk D hD => ?_⟩
  simp only at h1
  split at h1
  · exact h1.elim
  rename_i hsz
  exact lcCore hsl g1.sr (fun a e => g1.ext.free e) wk hsz h1 D hD
theorem pe_lc' {elt tg iter : Expr} {ifs : List Expr} {scope : Scope} {own : List (Str × Nat)} {pos : Pos} {e it c : E} {t : Tg} (hc : X.calm = true) (hN : X.N.Nodup) (hi : PI X tg iter (TIt X W Cl Γ it)) (ok : BlkOk X.N X.env.scope scope own)
    (hg : ∀ (s : Shared) (H : Hp) (C : Addr) (cl : List (Str × Addr)) (fp : List Addr), PG (X.blk s H scope (compEnvC scope cl C X.env) fp) tg (TGv X.K t)) (ht : ∀ (s : Shared) (H : Hp) (C : Addr) (cl : List (Str × Addr)) (fp : List Addr), PTs (X.blk s H scope (compEnvC scope cl C X.env) fp) ifs (TCv X.K Cl Γ c))
    (he : ∀ (s : Shared) (H : Hp) (C : Addr) (cl : List (Str × Addr)) (fp : List Addr), PE (X.blk s H scope (compEnvC scope cl C X.env) fp) elt (TVk X.K Cl Γ e)) (hsl : ∀ j ∈ slotsT t, j ∈ own.map (·.2)) (hs : ∀ x, foldedSetIterable iter X.env x = pure x) :
    PE X (.ListComp elt [⟨tg, iter, ifs, 0⟩] scope pos) (TEv X W Cl Γ (.lc e t it c (own.map (·.2)))) :=
  PE.imp (pe_lc hc hN hi ok hg ht he hs) fun σ H Q h => lc_imp hsl h
end
end EV
set_option Elab.async false
set_option linter.all false
set_option maxRecDepth 100000
set_option maxHeartbeats 1000000
/-! A dict that is gone through is locked, and free again behind. -/
namespace EV
open PySem L2
/-- the same dict, locked or not -/
def DLk (x y : Option HO) : Prop := ∃ kvs : List (Key × V), (x = some (.dK kvs) ∨ ∃ o, x = some (.frz o (.dK kvs))) ∧ (y = some (.dK kvs) ∨ ∃ o, y = some (.frz o (.dK kvs)))
structure MonoW (F F' : Addr → Prop) (H H' : Hp) : Prop where
  fz : ∀ a, F a → F' a ∧ (H' a = H a ∨ DLk (H a) (H' a))
  tp : ∀ a xs, H a = some (.tup xs) → H' a = some (.tup xs)
  ft : ∀ a o xs, H a = some (.frz o (.tup xs)) → H' a = some (.frz o (.tup xs))
  fl : ∀ a o xs, H a = some (.frz o (.lst xs)) → H' a = some (.frz o (.lst xs))
section
variable {X : Cx} {K : PySem.W.Frag} {F F' : Addr → Prop} {H H' : Hp} {ρ ρ' : Ro} {σ σ' : St} {O : Addr → Prop} {d : Addr} {od : Obj} {kvs : List (Key × V)}
theorem MonoW.lst (m : MonoW F F' H H') {a : Addr} {xs : List V} (f : F a) (h : H a = some (.lst xs)) : H' a = some (.lst xs) := by
  rcases (m.fz a f).2 with e | ⟨kvs, e, _⟩
  · exact e.trans h
  · rw [h] at e
    rcases e with e | ⟨o, e⟩ <;> cases e
theorem MonoW.dic (m : MonoW F F' H H') {a : Addr} {kvs : List (Key × V)} (f : F a) (h : Rd H a (.dK kvs)) : Rd H' a (.dK kvs) := by
  rcases (m.fz a f).2 with e | ⟨kvs', e1, e2⟩
  · exact h.imp e.trans fun ⟨o, z⟩ => ⟨o, e.trans z⟩
  · have : kvs' = kvs := by
      rcases h with h | ⟨o, h⟩ <;> rcases e1 with e1 | ⟨o', e1⟩ <;> (rw [h] at e1; cases e1)
      · rfl
      · rfl
    subst this
    exact e2
mutual
theorem VR.monoW (m : MonoW F F' H H') : ∀ (v : Val) {x : V}, VR K F H v x → VR K F' H' v x
  | .non, _, h => h
  | .bl _, _, h => h
  | .int _, _, h => h
  | .str _, _, h => h
  | .tup vs, _, ⟨a, xs, e, q, r⟩ => ⟨a, xs, e, by
      rcases q with (q | ⟨o, q⟩) | q
      · exact .inl (.inl (m.tp _ _ q))
      · exact .inl (.inr ⟨o, m.ft _ _ _ q⟩)
      · exact .inr q, VRs.monoW m vs r⟩
  | .lst vs, _, ⟨a, xs, e, f, q, r⟩ => ⟨a, xs, e, (m.fz a f).1, m.lst f q, VRs.monoW m vs r⟩
  | .dic ks vs, _, ⟨a, xs, e, f, q, l, r⟩ => ⟨a, xs, e, (m.fz a f).1, m.dic f q, l, VRs.monoW m vs r⟩
  | .scr vs, _, ⟨a, xs, e, q, r⟩ => ⟨a, xs, e, by
      rcases q with ⟨f, q⟩ | ⟨o, q⟩ | q
      · exact .inl ⟨(m.fz a f).1, m.lst f q⟩
      · exact .inr (.inl ⟨o, m.fl _ _ _ q⟩)
      · exact .inr (.inr q), VRs.monoW m vs r⟩
theorem VRs.monoW (m : MonoW F F' H H') : ∀ (vs : List Val) {xs : List V}, VRs K F H vs xs → VRs K F' H' vs xs
  | [], _, h => h
  | v :: vs, _, ⟨y, ys, e, r, q⟩ => ⟨y, ys, e, VR.monoW m v r, VRs.monoW m vs q⟩
end
theorem OwnAt.monoW (m : MonoW F F' H H') {a : Addr} {v : Val} (e : H' a = H a) (h : OwnAt K F H a v) : OwnAt K F' H' a v := by
  cases v with
  | lst vs => obtain ⟨xs, q, r⟩ := h; exact ⟨xs, e.trans q, VRs.monoW m vs r⟩
  | dic ks vs => obtain ⟨xs, q, l, r⟩ := h; exact ⟨xs, e.trans q, l, VRs.monoW m vs r⟩
  | _ => exact (show False from h).elim
theorem monoW_in (h : H d = some (.dK kvs)) : MonoW F F H (upd H d (.frz od (.dK kvs))) := by
  refine ⟨fun a f => ⟨f, ?_⟩, fun a xs q => ?_, fun a o xs q => ?_, fun a o xs q => ?_⟩
  · by_cases e : a = d
    · subst e; exact .inr ⟨kvs, .inl h, .inr ⟨od, upd_same⟩⟩
    · exact .inl (upd_ne e)
  all_goals
    rw [upd_ne]
    · exact q
    · rintro rfl; rw [h] at q; cases q
theorem monoW_out (h : H d = some (.frz od (.dK kvs))) : MonoW F F H (upd H d (.dK kvs)) := by
  refine ⟨fun a f => ⟨f, ?_⟩, fun a xs q => ?_, fun a o xs q => ?_, fun a o xs q => ?_⟩
  · by_cases e : a = d
    · subst e; exact .inr ⟨kvs, .inr ⟨od, h⟩, .inl upd_same⟩
    · exact .inl (upd_ne e)
  all_goals
    rw [upd_ne]
    · exact q
    · rintro rfl; rw [h] at q; cases q
theorem SR.relock {u : HO} (S : SR K F H ρ σ) (f : F d) (m : MonoW F F H (L2.upd H d u)) : SR K F (L2.upd H d u) ρ σ := by
  refine ⟨S.len, fun i s o e1 e2 => ?_, S.dist, fun a fa => ?_⟩
  · have q := S.slot i s o e1 e2
    cases s with
    | no => trivial
    | fz v => obtain ⟨y, e, r⟩ := q; exact ⟨y, e, VR.monoW m v r⟩
    | ow v =>
      obtain ⟨a, e, nf, w⟩ := q
      exact ⟨a, e, nf, w.monoW m (upd_ne (fun z => nf (z ▸ f)))⟩
  · by_cases e : a = d
    · subst e; exact ⟨u, upd_same⟩
    · obtain ⟨o, h⟩ := S.ft a fa
      exact ⟨o, by rw [upd_ne e]; exact h⟩
/-- what was followed under the lock, was followed -/
theorem Ext.unlock (h : H d = some (.dK kvs)) (no : ¬ O d) (e : Ext O F F' (upd H d (.frz od (.dK kvs))) H') : H' d = some (.frz od (.dK kvs)) ∧ Ext O F F' H (upd H' d (.dK kvs)) := by
  refine ⟨e.keep d _ upd_same no, fun a o q n => ?_, fun a o q => ?_, e.sub, fun a f => ?_, fun t a f => ?_⟩
  · by_cases ea : a = d
    · subst ea; rw [upd_same, ← h]; exact q
    · rw [upd_ne ea]
      exact e.keep a o (by rw [upd_ne ea]; exact q) n
  · by_cases ea : a = d
    · subst ea; exact ⟨_, upd_same⟩
    · obtain ⟨o', q'⟩ := e.old a o (by rw [upd_ne ea]; exact q)
      exact ⟨o', by rw [upd_ne ea]; exact q'⟩
  · rcases e.new a f with z | z | z
    · exact .inl z
    · by_cases ea : a = d
      · subst ea; rw [upd_same] at z; cases z
      · rw [upd_ne ea] at z; exact .inr (.inl z)
    · exact .inr (.inr z)
  · have t2 : ∀ a, F a → ∃ o, upd H d (.frz od (.dK kvs)) a = some o := fun a fa => by
      by_cases ea : a = d
      · subst ea; exact ⟨_, upd_same⟩
      · obtain ⟨o, q⟩ := t a fa
        exact ⟨o, by rw [upd_ne ea]; exact q⟩
    by_cases ea : a = d
    · subst ea; exact ⟨_, upd_same⟩
    · obtain ⟨o, q⟩ := e.tr t2 a f
      exact ⟨o, by rw [upd_ne ea]; exact q⟩
theorem RX.unlock {v : Val} {b : Bool} {x : V} (f : F' d) (h : H' d = some (.frz od (.dK kvs))) (r : RX K F' H' (upd H d (.frz od (.dK kvs))) v b x) : RX K F' (upd H' d (.dK kvs)) H v b x := by
  have m : MonoW F' F' H' (upd H' d (.dK kvs)) := monoW_out h
  cases b with
  | false => exact VR.monoW m v r
  | true =>
    obtain ⟨a, e, nf, hn, w⟩ := r
    have ne : a ≠ d := by rintro rfl; exact nf f
    exact ⟨a, e, nf, by rw [upd_ne ne] at hn; exact hn, w.monoW m (upd_ne ne)⟩
/-- the keys, one after another -/
theorem walks_keys {ks : List Key} (hk : ks.length = kvs.length) (he : ∀ i : Nat, ks[i]? = (kvs[i]?).map Prod.fst) (f : F d) (h : H d = some (.frz od (.dK kvs))) : Walks K (Itk d od kvs) (ks.map keyVal) F H := by
  refine ⟨fun Fc Hc m => ⟨(m.fz d f).2.trans h, by rw [List.length_map]; omega⟩, fun i v Fc Hc hv m t => ?_⟩
  rw [List.getElem?_map] at hv
  cases q : ks[i]? with
  | none => rw [q] at hv; cases hv
  | some k =>
    rw [q] at hv
    cases hv
    have hi := (List.getElem?_eq_some_iff.mp q).1
    refine ⟨⟨(m.fz d f).2.trans h, by omega⟩, fun x H' y => ?_⟩
    obtain ⟨eh, k', v', e1, e2⟩ := y
    subst eh
    refine ⟨Gr.refl _ _, ?_⟩
    rw [he i, e1] at q
    cases q
    rw [e2]
    exact keyVal_vr k'
end
end EV
set_option Elab.async false
set_option linter.all false
set_option maxRecDepth 100000
set_option maxHeartbeats 1000000
/-! A comprehension over a dict. -/
namespace EV
open PySem L2
section
variable {X : Cx} {W : WX} {Cl : Nat → Addr} {Γ : Env'} {K : PySem.W.Frag} {F : Addr → Prop} {H : Hp} {ρ : Ro} {σ : St}
theorem zip_fst : ∀ {ks : List Key} {xs : List V}, ks.length = xs.length → ∀ j : Nat, ks[j]? = ((ks.zip xs)[j]?).map Prod.fst
  | [], _, _, j => by cases j <;> rfl
  | _ :: _, [], l, j => by cases l
  | k :: ks, x :: xs, l, 0 => rfl
  | k :: ks, x :: xs, l, j + 1 => zip_fst (ks := ks) (xs := xs) (by simpa using l) j
theorem VR.dicRef {ks : List Key} {vs : List Val} {x : V} (h : VR K F H (.dic ks vs) x) : ∃ (d : Addr) (kvs : List (Key × V)), x = .ref d ∧ F d ∧ Rd H d (.dK kvs) ∧ ks.length = kvs.length ∧ ∀ j : Nat, ks[j]? = (kvs[j]?).map Prod.fst := by
  obtain ⟨a, xs, e, f, q, l, r⟩ := h
  exact ⟨a, _, e, f, q, by rw [List.length_zip, ← l, Nat.min_self], zip_fst l⟩
theorem keys_start {i : Nat} {z : List Val × Ro} (S : SR K F H ρ σ) (e : keysR ρ i = .got z) : ∃ (F1 : Addr → Prop) (d : Addr) (kvs : List (Key × V)) (ks : List Key), Go K false ρ z.2 σ F F1 H H ∧ σ[i]? = some (some (V.ref d)) ∧ F1 d ∧ Rd H d (.dK kvs) ∧ z.1 = ks.map keyVal ∧ ks.length = kvs.length ∧ ∀ j : Nat, ks[j]? = (kvs[j]?).map Prod.fst := by
  unfold keysR rdV at e
  cases hs : ρ[i]? with
  | none => rw [hs] at e; cases e
  | some s =>
    obtain ⟨o, e1, r⟩ := S.at hs
    rw [hs] at e
    cases s with
    | no => cases e
    | fz v =>
      obtain ⟨y, e2, r⟩ := r
      subst e2
      cases v with
      | dic ks vs =>
        cases e
        obtain ⟨d, kvs, ex, f, q, l, hk⟩ := r.dicRef
        subst ex
        exact ⟨F, d, kvs, ks, Go.refl _ S, e1, f, q, rfl, l, hk⟩
      | _ => cases e
    | ow v =>
      obtain ⟨b, e2, nf, w⟩ := r
      subst e2
      cases v with
      | dic ks vs =>
        cases e
        obtain ⟨g, r2⟩ := lock_slot S hs e1
        obtain ⟨d, kvs, ex, f, q, l, hk⟩ := r2.dicRef
        cases ex
        exact ⟨_, b, kvs, ks, g, e1, f, q, rfl, l, hk⟩
      | _ => cases e
theorem hush_bind {α β : Type} {m : Bool} {r : R (α × Ro)} {f : α × Ro → R (β × Ro)} {P : β → Ro → (Addr → Prop) → Hp → Prop} (h : Res K W Cl m σ ρ F H (r.hush.bind f) P) : Res K W Cl m σ ρ F H (r.bind f) P := by
  cases r with
  | got z => exact h
  | ex c p => exact h.elim
  | bad => exact h.elim
theorem lcK_imp {e c : E} {t : Tg} {vs : List Nat} {i : Nat} (hsl : ∀ j ∈ slotsT t, j ∈ vs) {σ : St} {H : Hp} {Q : VK} (hh : TEv X W Cl Γ (.lcK e t i c vs) σ H Q) :
    tLc (iKeys (tVar i)) (TGv X.K t) (TCv X.K Cl Γ c) (TVk X.K Cl Γ e) vs σ H Q ∨ tLockE (tLc (iKeys (tVar i)) (TGv X.K t) (TCv X.K Cl Γ c) (TVk X.K Cl Γ e) vs) σ H Q := by
  obtain ⟨ρ, F, S, h⟩ := hh
  have h : Res X.K W Cl (false || true) σ ρ F H ((keysR ρ i).bind fun z => if sizeLine < z.1.length then .bad else ((loopL (fun x ρ => turnR Γ t vs x ρ (fun ρ1 => condR c ρ1 (ev Γ c ρ1)) (fun ρ1 => ev Γ e ρ1)) z.1 z.2).hush).bind fun y => .got ((.lst y.1, true), y.2)) (PQ X.K H Q) := h
  have h1 := Res.bind h
  cases ek : keysR ρ i with
  | bad => rw [ek] at h1; exact h1.elim
  | ex cc p =>
    unfold keysR rdV at ek
    cases hs : ρ[i]? with
    | none => rw [hs] at ek; cases ek
    | some s => rw [hs] at ek; cases s with
      | no => cases ek
      | fz v => cases v <;> cases ek
      | ow v => cases v <;> cases ek
  | got z =>
    obtain ⟨F1, d, kvs, ks, g, hσ, f1, rd, ez, l, hk⟩ := keys_start S ek
    rw [ek] at h1
    have h2 := h1 F1 H g
    have h2 : Res X.K W Cl true σ z.2 F1 H (if sizeLine < z.1.length then .bad else ((loopL (fun x ρ => turnR Γ t vs x ρ (fun ρ1 => condR c ρ1 (ev Γ c ρ1)) (fun ρ1 => ev Γ e ρ1)) z.1 z.2).hush).bind fun y => .got ((.lst y.1, true), y.2)) (PQ X.K H Q) := h2
    split at h2
    · exact h2.elim
    · rename_i hsz
      have h3 := hush_bind h2
      rcases rd with hd | ⟨o, hd⟩
      · refine .inr ⟨d, .dK kvs, hd, trivial, fun od => ⟨.ref d, hσ, d, od, rfl, .inl ⟨kvs, upd_same, fun D hD => ?_⟩⟩⟩
        have S1 := g.sr.relock f1 (monoW_in (od := od) hd)
        refine lcCore (W := W) (Cl := Cl) (Γ := Γ) (e := e) (c := c) (Q := fun v H' => H' d = some (HO.frz od (HO.dK kvs)) ∧ Q v (L2.upd H' d (HO.dK kvs))) (H := L2.upd H d (.frz od (.dK kvs))) hsl S1 (fun a e => e) (by rw [ez]; exact walks_keys l hk f1 upd_same) hsz ?_ D hD
        cases el : loopL (fun x ρ => turnR Γ t vs x ρ (fun ρ1 => condR c ρ1 (ev Γ c ρ1)) (fun ρ1 => ev Γ e ρ1)) z.1 z.2 with
        | bad => rw [el] at h2; exact h2.elim
        | ex cc p => rw [el] at h2; exact h2.elim
        | got y =>
          rw [el] at h3
          intro F' H' go x rx
          have no : ¬ Own z.2 σ d := fun o => (g.sr.own o).1 f1
          obtain ⟨hd2, ext2⟩ := Ext.unlock hd no go.ext
          have f2 := go.ext.sub d f1
          exact ⟨hd2, h3 F' _ ⟨ext2, go.sr.relock f2 (monoW_out hd2), go.own, fun e => nomatch e⟩ x (RX.unlock f2 hd2 rx)⟩
      · refine .inl ⟨.ref d, hσ, d, o, rfl, .inl ⟨kvs, hd, fun D hD => ?_⟩⟩
        exact lcCore hsl g.sr (fun a e => e) (by rw [ez]; exact walks_keys l hk f1 hd) hsz h3 D hD
theorem pe_lcK' {elt tg iter : Expr} {ifs : List Expr} {scope : Scope} {own : List (Str × Nat)} {pos : Pos} {e c : E} {t : Tg} {i : Nat} (hc : X.calm = true) (hN : X.N.Nodup) (hi : PE X iter (tVar i)) (ok : BlkOk X.N X.env.scope scope own)
    (hg : ∀ (s : Shared) (H : Hp) (C : Addr) (cl : List (Str × Addr)) (fp : List Addr), PG (X.blk s H scope (compEnvC scope cl C X.env) fp) tg (TGv X.K t)) (ht : ∀ (s : Shared) (H : Hp) (C : Addr) (cl : List (Str × Addr)) (fp : List Addr), PTs (X.blk s H scope (compEnvC scope cl C X.env) fp) ifs (TCv X.K Cl Γ c))
    (he : ∀ (s : Shared) (H : Hp) (C : Addr) (cl : List (Str × Addr)) (fp : List Addr), PE (X.blk s H scope (compEnvC scope cl C X.env) fp) elt (TVk X.K Cl Γ e)) (hsl : ∀ j ∈ slotsT t, j ∈ own.map (·.2)) (hs : ∀ x, foldedSetIterable iter X.env x = pure x) :
    PE X (.ListComp elt [⟨tg, iter, ifs, 0⟩] scope pos) (TEv X W Cl Γ (.lcK e t i c (own.map (·.2)))) := by
  have p := pe_lc (pos := pos) hc hN (pi_keys hi) ok hg ht he hs
  exact PE.or p (pe_lock p) fun σ H Q h => lcK_imp hsl h
end
end EV
set_option Elab.async false
set_option linter.all false
set_option maxRecDepth 100000
set_option maxHeartbeats 1000000
/-! Statements: what they do. -/
namespace EV
open PySem L2
/-- what an except suite's tuple holds -/
inductive HE where
  | bl (b : Bool) | str (s : Str) | non | isi (c : Nat) | isis (cs : List Nat) | fld
inductive S where
  | asg (t : Tg) (e : E) | par3 (i j l : Nat) (a b c : E) | forK (t : Tg) (i : Nat) (body : List S) | par (i j : Nat) (a b : E) | seti (i : Nat) (ix e : E) | app (i : Nat) (e : E)
  | ifs (c : E) (a b : List S) | for_ (t : Tg) (it : E) (body : List S) | whl (c : E) (body : List S)
  | ret (e : E) | retn | raise (c : Nat) | raiseP (c : Nat) (e : E) | brk | cont | pass | expr (e : E)
  | tryRet (body : List S) (hs : List (Nat × Nat × List HE))
/-- how a statement ends -/
inductive O where
  | nx (ρ : Ro) | rt (z : Val × Bool) (ρ : Ro) | bk (ρ : Ro) | ct (ρ : Ro) | ex (c : Nat) (p : Option Val) | bad
def R.toO {α : Type} (r : R α) (f : α → O) : O := match r with
  | .got a => f a
  | .ex c p => .ex c p
  | .bad => .bad
def O.andThen (o : O) (f : Ro → O) : O := match o with
  | .nx ρ => f ρ
  | o => o
def O.hush : O → O
  | .ex _ _ => .bad
  | o => o
def mkS (z : Val × Bool) : Sl := match z.2 with
  | true => .ow z.1
  | false => .fz z.1
def putS (i : Nat) (z : Val × Bool) (ρ : Ro) : O := if i < ρ.length then .nx (ρ.set i (mkS z)) else .bad
def asgR (t : Tg) (z : Val × Bool) (ρ : Ro) : O := match t with
  | .nm i => putS i z ρ
  | .tp ts => match bindT (.tp ts) z.1 ρ with
    | some ρ' => .nx ρ'
    | none => .bad
/-- x[k] = v, x.append(v) of an own list -/
def setV (l : Val) (k : Val) (v : Val) : Option Val := match l, k with
  | .lst xs, .int i => match ixN xs.length i with
    | some j => some (.lst (xs.set j v))
    | none => none
  | .dic ks vs, k => (keyV k).bind fun j => if ks.length < sizeLine then some (.dic (putK' ks vs j v).1 (putK' ks vs j v).2) else none
  | _, _ => none
def appV (l : Val) (v : Val) : Option Val := match l with
  | .lst xs => if xs.length < sizeLine then some (.lst (xs ++ [v])) else none
  | _ => none
def forL (g : Val → Ro → O) : List Val → Ro → O
  | [], ρ => .nx ρ
  | x :: xs, ρ => match g x ρ with
    | .nx ρ' => forL g xs ρ'
    | .ct ρ' => forL g xs ρ'
    | .bk ρ' => .nx ρ'
    | o => o
def whlL (c : Ro → R (Bool × Ro)) (b : Ro → O) : Nat → Ro → O
  | 0, _ => .bad
  | n + 1, ρ => (c ρ).toO fun t => match t.1 with
    | true => match b t.2 with
      | .nx ρ' => whlL c b n ρ'
      | .ct ρ' => whlL c b n ρ'
      | .bk ρ' => .nx ρ'
      | o => o
    | false => .nx t.2
def heV (sub : Nat → Nat → Bool) (c : Nat) (p : Option Val) : HE → Option Val
  | .bl b => some (.bl b)
  | .str s => some (.str s)
  | .non => some .non
  | .isi d => match p with
    | none => some (.bl (sub c d))
    | some _ => none
  | .isis cs => match p with
    | none => some (.bl (cs.any (sub c)))
    | some _ => none
  | .fld => p
def hesV (sub : Nat → Nat → Bool) (c : Nat) (p : Option Val) : List HE → Option (List Val)
  | [] => some []
  | h :: hs => (heV sub c p h).bind fun v => (hesV sub c p hs).map (v :: ·)
def catchL (sub : Nat → Nat → Bool) (c : Nat) (p : Option Val) : List (Nat × Nat × List HE) → Option (Option (List Val))
  | [] => none
  | (d, _, hs) :: r => if sub c d then some (hesV sub c p hs) else catchL sub c p r
def wfuel : Nat := 100000
mutual
def evS (Γ : Env') (sub : Nat → Nat → Bool) : S → Ro → O
  | .asg t e, ρ => (ev Γ e ρ).toO fun z => asgR t z.1 z.2
  | .par i j a b, ρ => (ev Γ a ρ).toO fun x => (ev Γ b x.2).toO fun y => (putS i x.1 y.2).andThen (putS j y.1)
  | .par3 i j l a b c, ρ => (ev Γ a ρ).toO fun x => (ev Γ b x.2).toO fun y => (ev Γ c y.2).toO fun z => ((putS i x.1 z.2).andThen (putS j y.1)).andThen (putS l z.1)
  | .forK t i body, ρ => ((keysR ρ i).toO fun z => forL (fun x ρ => match bindT t x ρ with
    | some ρ' => evSs Γ sub body ρ'
    | none => .bad) z.1 z.2).hush
  | .seti i k e, ρ => (ev Γ e ρ).toO fun x => (match x.2[i]? with
    | some (.ow _) => (ev Γ k x.2).toO fun y => (match y.2[i]? with
      | some (.ow l) => (match setV l y.1.1 x.1.1 with
        | some u => .nx (y.2.set i (.ow u))
        | none => .bad)
      | _ => .bad)
    | _ => .bad)
  | .app i e, ρ => (match ρ[i]? with
    | some (.ow (.lst _)) => (ev Γ e ρ).toO fun x => (match x.2[i]? with
      | some (.ow l) => (match appV l x.1.1 with
        | some u => .nx (x.2.set i (.ow u))
        | none => .bad)
      | _ => .bad)
    | _ => .bad)
  | .ifs c a b, ρ => (testR (ev Γ c ρ)).toO fun t => match t.1 with
    | true => evSs Γ sub a t.2
    | false => evSs Γ sub b t.2
  | .for_ t it body, ρ => (evItems Γ it ρ).toO fun z => forL (fun x ρ => match bindT t x ρ with
    | some ρ' => evSs Γ sub body ρ'
    | none => .bad) z.1 z.2
  | .whl c body, ρ => whlL (fun ρ => testR (ev Γ c ρ)) (fun ρ => evSs Γ sub body ρ) wfuel ρ
  | .ret e, ρ => (ev Γ e ρ).toO fun z => .rt z.1 z.2
  | .retn, ρ => .rt (.non, false) ρ
  | .raise c, _ => .ex c none
  | .raiseP c e, ρ => (ev Γ e ρ).toO fun z => .ex c (some z.1.1)
  | .brk, ρ => .bk ρ
  | .cont, ρ => .ct ρ
  | .pass, ρ => .nx ρ
  | .expr e, ρ => (ev Γ e ρ).toO fun z => .nx z.2
  | .tryRet body hs, ρ => if hs.all (fun h => decide (h.2.1 < ρ.length)) then (match evSs Γ sub body ρ with
    | .ex c p => (match catchL sub c p hs with
      | some (some vs) => .rt (.tup vs, false) (ρ.map fun _ => .no)
      | some none => .bad
      | none => .ex c p)
    | o => o) else .bad
def evSs (Γ : Env') (sub : Nat → Nat → Bool) : List S → Ro → O
  | [], ρ => .nx ρ
  | s :: ss, ρ => (evS Γ sub s ρ).andThen fun ρ' => evSs Γ sub ss ρ'
end
mutual
/-- the slots that a statement stores -/
def asgS : S → List Nat
  | .asg t _ => slotsT t
  | .par i j _ _ => [i, j]
  | .par3 i j l _ _ _ => [i, j, l]
  | .forK t _ body => slotsT t ++ asgSs body
  | .ifs _ a b => asgSs a ++ asgSs b
  | .for_ t _ body => slotsT t ++ asgSs body
  | .whl _ body => asgSs body
  | .tryRet body _ => asgSs body
  | _ => []
def asgSs : List S → List Nat
  | [] => []
  | s :: ss => asgS s ++ asgSs ss
end
/-! ### functions -/
structure Fn where
  np : Nat
  ns : Nat
  body : List S
def Fn.stab (f : Fn) : List Bool := (List.range f.np).map fun j => !(asgSs f.body).contains j
/-- what was lent, as it is given back -/
def outsL : List Bool → List Sl → Ro → List Sl
  | b :: bs, a :: as, ρ => (match b, a with | true, .ow _ => ρ.headD .no | _, _ => .no) :: outsL bs as ρ.tail
  | _, _, _ => []
def runFn (Γ : Env') (sub : Nat → Nat → Bool) (f : Fn) (args : List Sl) : R ((Val × Bool) × List Sl) :=
  if args.length = f.np then match evSs Γ sub f.body (args ++ List.replicate (f.ns - f.np) .no) with
    | .rt z ρ => .got (z, outsL f.stab args ρ)
    | .nx ρ => .got ((.non, false), outsL f.stab args ρ)
    | .ex c p => .ex c p
    | _ => .bad
  else .bad
structure Prg where
  fns : List Fn
  gl : List (Str × Val)
  sub : Nat → Nat → Bool
def Prg.stab (P : Prg) (f : Nat) : List Bool := match P.fns[f]? with
  | some g => g.stab
  | none => []
/-- calls of at most d, one in another -/
def Prg.den (P : Prg) : Nat → Nat → List Sl → R ((Val × Bool) × List Sl)
  | 0, _, _ => .bad
  | d + 1, f, args => match P.fns[f]? with
    | some g => runFn ⟨P.den d, P.stab, P.gl⟩ P.sub g args
    | none => .bad
end EV
set_option Elab.async false
set_option linter.all false
set_option maxRecDepth 100000
set_option maxHeartbeats 1000000
/-! Readings of statements by the evaluator. -/
namespace EV
open PySem L2
structure GoS (K : PySem.W.Frag) (as : List Nat) (ρ ρ' : Ro) (σ σ' : St) (F F' : Addr → Prop) (H H' : Hp) : Prop where
  ext : Ext (Own ρ σ) F F' H H'
  sr : SR K F' H' ρ' σ'
  own : ∀ a, Own ρ' σ' a → Own ρ σ a ∨ H a = none
  agr : ∀ j, j ∉ as → σ'[j]? = σ[j]?
/-- how a statement that ends as o is followed -/
def ResS (K : PySem.W.Frag) (W : WX) (Cl : Nat → Addr) (as : List Nat) (σ : St) (ρ : Ro) (F : Addr → Prop) (H : Hp) (o : O) (D : Ends) : Prop := match o with
  | .nx ρ' => ∀ σ' F' H', GoS K as ρ ρ' σ σ' F F' H H' → D.nx σ' H'
  | .rt z ρ' => ∀ σ' x F' H', GoS K as ρ ρ' σ σ' F F' H H' → RX K F' H' H z.1 z.2 x → D.rt x H'
  | .bk ρ' => ∀ σ' F' H', GoS K as ρ ρ' σ σ' F F' H H' → D.bk σ' H'
  | .ct ρ' => ∀ σ' F' H', GoS K as ρ ρ' σ σ' F F' H H' → D.ct σ' H'
  | .ex c p => ∀ d σ' F' H', Ext (Own ρ σ) F F' H H' → (∀ j, j ∉ as → σ'[j]? = σ[j]?) → XR K p d F' H' → W (.ref (Cl c)) d σ' H'
  | .bad => False
section
variable {K : PySem.W.Frag} {W : WX} {Cl : Nat → Addr} {as as' : List Nat} {ρ ρ' ρ'' : Ro} {σ σ' σ'' : St} {F F' F'' : Addr → Prop} {H H' H'' : Hp}
theorem GoS.of {m : Bool} (g : Go K m ρ ρ' σ F F' H H') : GoS K as ρ ρ' σ σ F F' H H' := ⟨g.ext, g.sr, fun a o => .inl (g.own a o), fun _ _ => rfl⟩
theorem GoS.refl (S : SR K F H ρ σ) : GoS K as ρ ρ σ σ F F H H := ⟨.refl _ _ _, S, fun a o => .inl o, fun _ _ => rfl⟩
theorem GoS.trans (a : GoS K as ρ ρ' σ σ' F F' H H') (b : GoS K as' ρ' ρ'' σ' σ'' F' F'' H' H'') : GoS K (as ++ as') ρ ρ'' σ σ'' F F'' H H'' :=
  ⟨a.ext.trans b.ext a.own, b.sr, fun c o => (b.own c o).elim (a.own c) fun z => .inr (a.ext.free z), fun j hj => by
    rw [List.mem_append, not_or] at hj
    exact (b.agr j hj.2).trans (a.agr j hj.1)⟩
theorem GoS.sub (a : GoS K as ρ ρ' σ σ' F F' H H') (h : ∀ j ∈ as, j ∈ as') : GoS K as' ρ ρ' σ σ' F F' H H' := ⟨a.ext, a.sr, a.own, fun j hj => a.agr j fun z => hj (h j z)⟩
theorem ResS.after {o : O} {D : Ends} (h : ResS K W Cl as' σ ρ F H o D) (g : GoS K as ρ ρ' σ σ' F F' H H') (hs : ∀ j ∈ as, j ∈ as') (hs2 : ∀ j ∈ as'', j ∈ as') : ResS K W Cl as'' σ' ρ' F' H' o D := by
  have up : ∀ {ρ2 σ2 F2 H2}, GoS K as'' ρ' ρ2 σ' σ2 F' F2 H' H2 → GoS K as' ρ ρ2 σ σ2 F F2 H H2 := fun g2 => (g.trans g2).sub fun j hj => (List.mem_append.mp hj).elim (hs j) (hs2 j)
  cases o with
  | nx ρ2 => exact fun σ2 F2 H2 g2 => h σ2 F2 H2 (up g2)
  | rt z ρ2 => exact fun σ2 x F2 H2 g2 r => h σ2 x F2 H2 (up g2) (r.back fun a e => g.ext.free e)
  | bk ρ2 => exact fun σ2 F2 H2 g2 => h σ2 F2 H2 (up g2)
  | ct ρ2 => exact fun σ2 F2 H2 g2 => h σ2 F2 H2 (up g2)
  | ex c p => exact fun d σ2 F2 H2 x a r => h d σ2 F2 H2 (g.ext.trans x g.own) (fun j hj => (a j fun z => hj (hs2 j z)).trans (g.agr j fun z => hj (hs j z))) r
  | bad => exact h
theorem ResS.ends {o : O} {D D' : Ends} (h : ResS K W Cl as σ ρ F H o D) (hs : ∀ j ∈ as', j ∈ as) (h1 : ∀ ρ', o = .nx ρ' → ∀ σ' F' H', GoS K as' ρ ρ' σ σ' F F' H H' → D'.nx σ' H') (h2 : D'.rt = D.rt) (h3 : D'.bk = D.bk) (h4 : D'.ct = D.ct) : ResS K W Cl as' σ ρ F H o D' := by
  cases o with
  | nx ρ2 => exact h1 ρ2 rfl
  | rt z ρ2 => exact fun σ2 x F2 H2 g2 r => by rw [h2]; exact h σ2 x F2 H2 (g2.sub hs) r
  | bk ρ2 => exact fun σ2 F2 H2 g2 => by rw [h3]; exact h σ2 F2 H2 (g2.sub hs)
  | ct ρ2 => exact fun σ2 F2 H2 g2 => by rw [h4]; exact h σ2 F2 H2 (g2.sub hs)
  | ex c p => exact fun d σ2 F2 H2 x a r => h d σ2 F2 H2 x (fun j hj => a j fun z => hj (hs j z)) r
  | bad => exact h
/-- an expression, then what follows -/
theorem Res.stm {α : Type} {m : Bool} {r : R (α × Ro)} {f : α × Ro → O} {D : Ends} {P : α → Ro → (Addr → Prop) → Hp → Prop} (h : ResS K W Cl as σ ρ F H (r.toO f) D)
    (k : ∀ a ρ' F' H', Go K m ρ ρ' σ F F' H H' → ResS K W Cl as σ ρ' F' H' (f (a, ρ')) D → P a ρ' F' H') : Res K W Cl m σ ρ F H r P := by
  cases r with
  | got z => exact fun F' H' g => k z.1 z.2 F' H' g (ResS.after (as := []) (o := f z) h (GoS.of g) (fun _ hj => nomatch hj) fun _ hj => hj)
  | ex c p => exact fun d F' H' x q => h d σ F' H' x (fun _ _ => rfl) q
  | bad => exact h
theorem Res.stm2 {α : Type} {m : Bool} {r : R (α × Ro)} {f : α × Ro → O} {D : Ends} {P : α → Ro → (Addr → Prop) → Hp → Prop} (h : ResS K W Cl as σ ρ F H (r.toO f) D)
    (k : ∀ a ρ', (∀ F' H', Go K m ρ ρ' σ F F' H H' → ResS K W Cl as σ ρ' F' H' (f (a, ρ')) D) → ∀ F' H', Go K m ρ ρ' σ F F' H H' → P a ρ' F' H') : Res K W Cl m σ ρ F H r P := by
  cases r with
  | got z => exact k z.1 z.2 fun F' H' g => (ResS.after (as := []) (o := f z) h (GoS.of g) (fun _ hj => nomatch hj) fun _ hj => hj)
  | ex c p => exact fun d F' H' x q => h d σ F' H' x (fun _ _ => rfl) q
  | bad => exact h
theorem Res.stmE {α : Type} {m : Bool} {r : R (α × Ro)} {f : α × Ro → O} {D : Ends} {P : α → Ro → (Addr → Prop) → Hp → Prop} (h : ResS K W Cl as σ ρ F H (r.toO f) D)
    (k : ∀ a ρ' F' H', r = .got (a, ρ') → Go K m ρ ρ' σ F F' H H' → ResS K W Cl as σ ρ' F' H' (f (a, ρ')) D → P a ρ' F' H') : Res K W Cl m σ ρ F H r P := by
  cases r with
  | got z => exact fun F' H' g => k z.1 z.2 F' H' rfl g (ResS.after (as := []) (o := f z) h (GoS.of g) (fun _ hj => nomatch hj) fun _ hj => hj)
  | ex c p => exact fun d F' H' x q => h d σ F' H' x (fun _ _ => rfl) q
  | bad => exact h
end
section
variable (X : Cx) (W : WX) (Cl : Nat → Addr) (Γ : Env') (sub : Nat → Nat → Bool)
def TSt (s : S) : TS := fun D σ H => ∃ ρ F, SR X.K F H ρ σ ∧ ResS X.K W Cl (asgS s) σ ρ F H (evS Γ sub s ρ) D
def TSts (ss : List S) : TS := fun D σ H => ∃ ρ F, SR X.K F H ρ σ ∧ ResS X.K W Cl (asgSs ss) σ ρ F H (evSs Γ sub ss ρ) D
end
section
variable {X : Cx} {W : WX} {Cl : Nat → Addr} {Γ : Env'} {sub : Nat → Nat → Bool} {x y : Expr} {st : Stmt} {sts : List Stmt} {pos : Pos}
theorem PS.imp {t t' : TS} (h : PS X st t) (i : ∀ D σ H, t' D σ H → t D σ H) : PS X st t' := ⟨fun pins s σ H D I q => h.run pins s σ H D I (i D σ H q)⟩
theorem PSs.imp {t t' : TS} (h : PSs X sts t) (i : ∀ D σ H, t' D σ H → t D σ H) : PSs X sts t' := ⟨fun pins s σ H D I q => h.run pins s σ H D I (i D σ H q)⟩
theorem pss_nil' : PSs X [] (TSts X W Cl Γ sub []) := PSs.imp pss_nil fun D σ H ⟨ρ, F, S, h⟩ => h σ F H (GoS.refl S)
theorem pss_cons' {s : S} {ss : List S} (h1 : PS X st (TSt X W Cl Γ sub s)) (h2 : PSs X sts (TSts X W Cl Γ sub ss)) : PSs X (st :: sts) (TSts X W Cl Γ sub (s :: ss)) := PSs.imp (pss_cons h1 h2) fun D σ H ⟨ρ, F, S, h⟩ => ⟨ρ, F, S, by
  have h : ResS X.K W Cl (asgS s ++ asgSs ss) σ ρ F H ((evS Γ sub s ρ).andThen fun ρ' => evSs Γ sub ss ρ') D := h
  cases e : evS Γ sub s ρ with
  | nx ρ1 =>
    rw [e] at h
    exact fun σ1 F1 H1 g => ⟨ρ1, F1, g.sr, ResS.after (o := evSs Γ sub ss ρ1) h g (fun j hj => List.mem_append_left _ hj) fun j hj => List.mem_append_right _ hj⟩
  | rt z ρ1 => rw [e] at h; exact ResS.ends (o := .rt z ρ1) h (fun j hj => List.mem_append_left _ hj) (fun _ q => nomatch q) rfl rfl rfl
  | bk ρ1 => rw [e] at h; exact ResS.ends (o := .bk ρ1) h (fun j hj => List.mem_append_left _ hj) (fun _ q => nomatch q) rfl rfl rfl
  | ct ρ1 => rw [e] at h; exact ResS.ends (o := .ct ρ1) h (fun j hj => List.mem_append_left _ hj) (fun _ q => nomatch q) rfl rfl rfl
  | ex c p => rw [e] at h; exact ResS.ends (o := .ex c p) h (fun j hj => List.mem_append_left _ hj) (fun _ q => nomatch q) rfl rfl rfl
  | bad => rw [e] at h; exact h⟩
theorem put_go {m : Bool} {K : PySem.W.Frag} {ρ ρ1 : Ro} {σ : St} {F F1 : Addr → Prop} {H H1 : Hp} {i : Nat} {z : Val × Bool} {p : V} (S : SR K F H ρ σ) (g : Go K m ρ ρ1 σ F F1 H H1) (r : RX K F1 H1 H z.1 z.2 p) (hi : i < ρ1.length) :
    GoS K [i] ρ (ρ1.set i (mkS z)) σ (σ.set i (some p)) F F1 H H1 := by
  obtain ⟨v, f⟩ := z
  have ag : ∀ j, j ∉ [i] → (σ.set i (some p))[j]? = σ[j]? := fun j hj => List.getElem?_set_ne fun e => hj (by rw [← e]; exact List.mem_cons_self)
  cases f with
  | false =>
    obtain ⟨S2, o2⟩ := g.sr.store r hi
    exact ⟨g.ext, S2, fun a o => .inl (g.own a (o2 a o)), ag⟩
  | true =>
    obtain ⟨a, rfl, nf, hn, w⟩ := r
    obtain ⟨S2, o2⟩ := g.sr.storeNew w nf (fun o => S.ownSome (g.own a o) hn) hi
    refine ⟨g.ext, S2, fun b o => ?_, ag⟩
    rcases o2 b o with o | o
    · exact .inl (g.own b o)
    · exact .inr (by rw [o]; exact hn)
theorem ps_asgN {i : Nat} {e : E} (h : PS X st (tAsg (TEv X W Cl Γ e) (gName i))) : PS X st (TSt X W Cl Γ sub (.asg (.nm i) e)) := PS.imp h fun D σ H ⟨ρ, F, S, h⟩ => ⟨ρ, F, S, by
  have h : ResS X.K W Cl [i] σ ρ F H ((ev Γ e ρ).toO fun z => putS i z.1 z.2) D := h
  cases e0 : ev Γ e ρ with
  | bad => rw [e0] at h; exact h
  | ex c p => rw [e0] at h; exact fun d F' H' x q => h d σ F' H' x (fun _ _ => rfl) q
  | got z =>
    rw [e0] at h
    intro F1 H1 g p r
    have h : ResS X.K W Cl [i] σ ρ F H (if i < z.2.length then .nx (z.2.set i (mkS z.1)) else .bad) D := h
    split at h
    · rename_i hi
      exact h _ F1 H1 (put_go S g r hi)
    · exact h.elim⟩
theorem ps_asgT {ts : List Tg} {e : E} (h : PS X st (tAsg (TVv X W Cl Γ e) (TGv X.K (.tp ts)))) : PS X st (TSt X W Cl Γ sub (.asg (.tp ts) e)) := PS.imp h fun D σ H ⟨ρ, F, S, h⟩ => ⟨ρ, F, S, by
  have h : ResS X.K W Cl (slotsTs ts) σ ρ F H ((ev Γ e ρ).toO fun z => match bindT (.tp ts) z.1.1 z.2 with
    | some ρ' => .nx ρ'
    | none => .bad) D := h
  cases e0 : ev Γ e ρ with
  | bad => rw [e0] at h; exact h
  | ex c p => rw [e0] at h; exact fun d F' H' x q => h d σ F' H' x (fun _ _ => rfl) q
  | got z =>
    rw [e0] at h
    intro F1 H1 g p r
    have h : ResS X.K W Cl (slotsTs ts) σ ρ F H (match bindT (.tp ts) z.1.1 z.2 with
      | some ρ' => .nx ρ'
      | none => .bad) D := h
    cases e1 : bindT (.tp ts) z.1.1 z.2 with
    | none => rw [e1] at h; exact h.elim
    | some ρ2 =>
      rw [e1] at h
      exact ⟨z.2, F1, z.1.1, ρ2, g.sr, r, e1, fun σ' S' ag o => h σ' F1 H1 ⟨g.ext, S', fun a oa => .inl (g.own a (o a oa)), fun j hj => (ag j hj).2⟩⟩⟩
/-- an own list is written -/
theorem SR.write {K : PySem.W.Frag} {F : Addr → Prop} {H : Hp} {ρ : Ro} {σ : St} {i : Nat} {v u : Val} {p : Addr} {o : HO} (S : SR K F H ρ σ) (hs : ρ[i]? = some (Sl.ow v)) (hp : σ[i]? = some (some (V.ref p)))
    (hw : Mono F F H (L2.upd H p o) → OwnAt K F (L2.upd H p o) p u) : GoS K [] ρ (ρ.set i (.ow u)) σ σ F F H (L2.upd H p o) := by
  have op : Own ρ σ p := ⟨i, v, hs, hp⟩
  obtain ⟨nf, u0, w0⟩ := S.own op
  have il : i < ρ.length := (List.getElem?_eq_some_iff.mp hs).1
  have mm : Mono F F H (L2.upd H p o) := by
    refine ⟨fun a f => ⟨f, ?_⟩, fun a ys h => ?_, fun a ob t h => ?_⟩
    · rw [upd_ne]
      rintro rfl
      exact nf f
    · rw [upd_ne]
      · exact h
      · rintro rfl
        rcases w0.kind with ⟨zs, q⟩ | ⟨zs, q⟩ <;> (rw [h] at q; cases q)
    · rw [upd_ne]
      · exact h
      · rintro rfl
        rcases w0.kind with ⟨zs, q⟩ | ⟨zs, q⟩ <;> (rw [h] at q; cases q)
  have own2 : ∀ {j : Nat} {w : Val} {a : Addr}, (ρ.set i (Sl.ow u))[j]? = some (Sl.ow w) → σ[j]? = some (some (V.ref a)) → ∃ w', ρ[j]? = some (Sl.ow w') := fun {j w a} h1 h2 => by
    by_cases hj : j = i
    · exact ⟨v, by rw [hj]; exact hs⟩
    · rw [List.getElem?_set_ne (Ne.symm hj)] at h1
      exact ⟨w, h1⟩
  refine ⟨⟨fun a q h n => ?_, fun a q h => ?_, fun _ f => f, fun _ f => .inl f, fun t a f => ?_⟩, ⟨by simpa using S.len, fun j s q e1 e2 => ?_, fun j k v1 v2 a h1 h2 h3 h4 => ?_, fun a f => ?_⟩, fun a ⟨j, w, h1, h2⟩ => ?_, fun _ _ => rfl⟩
  · rw [upd_ne]
    · exact h
    · rintro rfl
      exact n op
  · by_cases h : a = p
    · exact ⟨o, by rw [h]; exact upd_same⟩
    · exact ⟨q, by rw [upd_ne h]; assumption⟩
  · obtain ⟨q, h⟩ := t a f
    exact ⟨q, by rw [(mm.fz a f).2]; exact h⟩
  · by_cases hj : j = i
    · subst hj
      rw [List.getElem?_set_self il] at e1
      cases e1
      rw [hp] at e2
      cases e2
      exact ⟨p, rfl, nf, hw mm⟩
    · rw [List.getElem?_set_ne (Ne.symm hj)] at e1
      have q := S.slot j s _ e1 e2
      cases s with
      | no => trivial
      | fz t => obtain ⟨y, e, r⟩ := q; exact ⟨y, e, VR.mono mm t r⟩
      | ow t =>
        obtain ⟨a, e, nf2, w⟩ := q
        refine ⟨a, e, nf2, w.mono mm ?_⟩
        rw [upd_ne]
        rintro rfl
        exact hj (S.dist j i _ _ a e1 hs (by rw [e2, e]) hp)
  · obtain ⟨w1, q1⟩ := own2 h1 h3
    obtain ⟨w2, q2⟩ := own2 h2 h4
    exact S.dist j k _ _ a q1 q2 h3 h4
  · obtain ⟨q, h⟩ := S.ft a f
    exact ⟨q, by rw [(mm.fz a f).2]; exact h⟩
  · obtain ⟨w1, q1⟩ := own2 h1 h2
    exact .inl ⟨j, w1, q1, h2⟩
theorem PS.or {t1 t2 t' : TS} (h1 : PS X st t1) (h2 : PS X st t2) (i : ∀ D σ H, t' D σ H → t1 D σ H ∨ t2 D σ H) : PS X st t' := ⟨fun pins s σ H D I q => by
  rcases i D σ H q with q | q
  · exact h1.run pins s σ H D I q
  · exact h2.run pins s σ H D I q⟩
/-- what is written is a dict -/
def dicS (Γ : Env') (e k : E) (i : Nat) (ρ : Ro) : Bool := match ev Γ e ρ with
  | .got x => (match ev Γ k x.2 with
    | .got y => (match y.2[i]? with
      | some (.ow l) => isDic l
      | _ => false)
    | _ => false)
  | _ => false
theorem dicS_at {e k : E} {i : Nat} {ρ ρ1 ρ2 : Ro} {x y : Val × Bool} {l : Val} (e1 : ev Γ e ρ = .got (x, ρ1)) (e2 : ev Γ k ρ1 = .got (y, ρ2)) (e3 : ρ2[i]? = some (Sl.ow l)) : dicS Γ e k i ρ = isDic l := by
  unfold dicS
  rw [e1]
  show (match ev Γ k ρ1 with
    | .got y => (match y.2[i]? with
      | some (.ow l) => isDic l
      | _ => false)
    | _ => false) = _
  rw [e2]
  show (match ρ2[i]? with
      | some (.ow l) => isDic l
      | _ => false) = _
  rw [e3]
theorem ps_seti' {i : Nat} {k e : E} (h : PS X st (tAsg (TVv X W Cl Γ e) (gSub (tVar i) (TVv X W Cl Γ k) rSetL))) (hd : PS X st (sDPut (tVar i) (TVv X W Cl Γ k) (TVv X W Cl Γ e))) : PS X st (TSt X W Cl Γ sub (.seti i k e)) := PS.or h hd fun D σ H ⟨ρ, F, S, h⟩ => by
  have h : ResS X.K W Cl [] σ ρ F H ((ev Γ e ρ).toO fun x => (match x.2[i]? with
    | some (.ow _) => (ev Γ k x.2).toO fun y => (match y.2[i]? with
      | some (.ow l) => (match setV l y.1.1 x.1.1 with
        | some u => .nx (y.2.set i (.ow u))
        | none => .bad)
      | _ => .bad)
    | _ => .bad)) D := h
  cases hb : dicS Γ e k i ρ with
  | false =>
    refine .inl ⟨ρ, F, S, ?_⟩
    refine Res.stmE h fun z ρ1 F1 H1 q1 g1 h1 p r => ?_
    simp only at h1
    cases e0 : ρ1[i]? with
    | none => rw [e0] at h1; exact h1.elim
    | some s => cases s with
      | no => rw [e0] at h1; exact h1.elim
      | fz _ => rw [e0] at h1; exact h1.elim
      | ow l0 =>
        rw [e0] at h1
        obtain ⟨o0, so0, r0⟩ := g1.sr.at e0
        obtain ⟨a0, ea0, _, _⟩ := r0
        subst ea0
        refine ⟨.ref a0, so0, ρ1, F1, g1.sr, Res.stmE h1 fun y ρ2 F2 H2 q2 g2 h2 q rq => ?_⟩
        simp only at h2
        cases e1 : ρ2[i]? with
        | none => rw [e1] at h2; exact h2.elim
        | some s => cases s with
          | no => rw [e1] at h2; exact h2.elim
          | fz _ => rw [e1] at h2; exact h2.elim
          | ow l =>
            rw [e1] at h2
            cases l with
            | lst vs =>
              obtain ⟨yv, yf⟩ := y
              cases yv with
              | int kk =>
                have h2 : ResS X.K W Cl [] σ ρ2 F2 H2 (match (match ixN vs.length kk with | some j => some (Val.lst (vs.set j z.1)) | none => none) with
                  | some u => .nx (ρ2.set i (.ow u))
                  | none => .bad) D := h2
                obtain ⟨o, so, r2⟩ := g2.sr.at e1
                obtain ⟨a, ea, nf, xs, hx, rs⟩ := r2
                subst ea
                rw [so0] at so
                cases so
                have hl := rs.length
                cases e2 : ixN vs.length kk with
                | none => rw [e2] at h2; exact h2.elim
                | some j =>
                  rw [e2] at h2
                  refine ⟨a0, xs, kk, j, rfl, rq, hx, by rw [← hl]; exact e2, ?_⟩
                  refine h2 σ F2 _ (SR.write g2.sr e1 so0 fun mm => ⟨_, upd_same, ?_⟩)
                  exact VRs.mono mm _ (VRs.set (VR.mono (g1.sr.mono g2.ext) _ r) j rs)
              | _ => exact h2.elim
            | dic ks vs => rw [dicS_at q1 q2 e1] at hb; cases hb
            | _ => exact h2.elim
  | true =>
    refine .inr ⟨ρ, F, S, ?_⟩
    refine Res.stmE h fun z ρ1 F1 H1 q1 g1 h1 p r => ?_
    simp only at h1
    cases e0 : ρ1[i]? with
    | none => rw [e0] at h1; exact h1.elim
    | some s => cases s with
      | no => rw [e0] at h1; exact h1.elim
      | fz _ => rw [e0] at h1; exact h1.elim
      | ow l0 =>
        rw [e0] at h1
        obtain ⟨o0, so0, r0⟩ := g1.sr.at e0
        obtain ⟨a0, ea0, _, _⟩ := r0
        subst ea0
        refine ⟨.ref a0, so0, ρ1, F1, g1.sr, Res.stmE h1 fun y ρ2 F2 H2 q2 g2 h2 q rq => ?_⟩
        simp only at h2
        cases e1 : ρ2[i]? with
        | none => rw [e1] at h2; exact h2.elim
        | some s => cases s with
          | no => rw [e1] at h2; exact h2.elim
          | fz _ => rw [e1] at h2; exact h2.elim
          | ow l =>
            rw [e1] at h2
            rw [dicS_at q1 q2 e1] at hb
            cases l with
            | dic ks vs =>
              have h2 : ResS X.K W Cl [] σ ρ2 F2 H2 (match ((keyV y.1).bind fun j => if ks.length < sizeLine then some (Val.dic (putK' ks vs j z.1).1 (putK' ks vs j z.1).2) else none) with
                | some u => .nx (ρ2.set i (.ow u))
                | none => .bad) D := h2
              obtain ⟨o, so, r2⟩ := g2.sr.at e1
              obtain ⟨a, ea, nf, xs, hx, lx, rs⟩ := r2
              subst ea
              rw [so0] at so
              cases so
              cases hk : keyV y.1 with
              | none => rw [hk] at h2; exact h2.elim
              | some kk =>
                rw [hk] at h2
                have h2 : ResS X.K W Cl [] σ ρ2 F2 H2 (match (if ks.length < sizeLine then some (Val.dic (putK' ks vs kk z.1).1 (putK' ks vs kk z.1).2) else none) with
                  | some u => .nx (ρ2.set i (.ow u))
                  | none => .bad) D := h2
                by_cases hz : ks.length < sizeLine
                · rw [if_pos hz] at h2
                  refine ⟨a0, _, rfl, .inl ⟨_, kk, hx, kV_keyV (.inl rq) hk, by rw [List.length_zip, ← lx, Nat.min_self]; exact hz, rfl⟩, ?_⟩
                  refine h2 σ F2 _ (SR.write g2.sr e1 so0 fun mm => ?_)
                  have d0 : DR X.K F2 H2 ks vs (ks.zip xs) := ⟨xs, rfl, lx, rs⟩
                  exact ((d0.put (VR.mono (g1.sr.mono g2.ext) _ r)).mono mm).own upd_same
                · rw [if_neg hz] at h2
                  exact h2.elim
            | _ => cases hb
theorem ps_app' {i : Nat} {e : E} (h : PS X st (tDrop (tBM X.K "list" rAppend (tVar i) (tCons (TVv X W Cl Γ e) tNil)))) : PS X st (TSt X W Cl Γ sub (.app i e)) := PS.imp h fun D σ H ⟨ρ, F, S, h⟩ => by
  have h : ResS X.K W Cl [] σ ρ F H (match ρ[i]? with
    | some (.ow (.lst _)) => (ev Γ e ρ).toO fun x => (match x.2[i]? with
      | some (.ow l) => (match appV l x.1.1 with
        | some u => .nx (x.2.set i (.ow u))
        | none => .bad)
      | _ => .bad)
    | _ => .bad) D := h
  cases e0 : ρ[i]? with
  | none => rw [e0] at h; exact h.elim
  | some s => cases s with
    | no => rw [e0] at h; exact h.elim
    | fz _ => rw [e0] at h; exact h.elim
    | ow l0 => cases l0 with
     | lst vs0 =>
      rw [e0] at h
      obtain ⟨o0, so0, r0⟩ := S.at e0
      obtain ⟨a0, ea0, nf0, w0⟩ := r0
      subst ea0
      have core : TVv X W Cl Γ e σ H fun x H1 => ∃ xs, H1 a0 = some (.lst xs) ∧ xs.length < sizeLine ∧ D.nx σ (L2.upd H1 a0 (.lst (xs ++ [x]))) := ⟨ρ, F, S, Res.stm h fun z ρ1 F1 H1 g1 h1 p r => by
        simp only at h1
        cases e1 : ρ1[i]? with
        | none => rw [e1] at h1; exact h1.elim
        | some s => cases s with
          | no => rw [e1] at h1; exact h1.elim
          | fz _ => rw [e1] at h1; exact h1.elim
          | ow l =>
            rw [e1] at h1
            cases l with
            | lst vs =>
              have h1 : ResS X.K W Cl [] σ ρ1 F1 H1 (match (if vs.length < sizeLine then some (Val.lst (vs ++ [z.1])) else none) with
                | some u => .nx (ρ1.set i (.ow u))
                | none => .bad) D := h1
              obtain ⟨o, so, r2⟩ := g1.sr.at e1
              obtain ⟨a, ea, nf, xs, hx, rs⟩ := r2
              subst ea
              rw [so0] at so
              cases so
              have hl := rs.length
              by_cases hz : vs.length < sizeLine
              · rw [if_pos hz] at h1
                refine ⟨xs, hx, by rw [← hl]; exact hz, h1 σ F1 _ (SR.write g1.sr e1 so0 fun mm => ⟨_, upd_same, ?_⟩)⟩
                exact VRs.append (VRs.mono mm _ rs) ⟨p, [], rfl, VR.mono mm _ r, rfl⟩
              · rw [if_neg hz] at h1
                exact h1.elim
            | _ => exact h1.elim⟩
      obtain ⟨xs0, hx0, _⟩ := w0
      refine ⟨.ref a0, so0, .inl ⟨rfl, _, .inl (.inl hx0)⟩, ?_⟩
      obtain ⟨ρ', F', S', h'⟩ := core
      refine ⟨ρ', F', S', h'.imp id fun z ρ1 F1 H1 g1 p x r => ?_⟩
      obtain ⟨xs, h1, h2, h3⟩ := p x r
      exact ⟨a0, xs, x, rfl, rfl, h1, h2, h3⟩
     | _ => rw [e0] at h; exact h.elim
theorem ps_ifs {c : E} {a b : List S} {xc : Expr} {xa xb : List Stmt} (hc : PT X xc (TTv X W Cl Γ c)) (ha : PSs X xa (TSts X W Cl Γ sub a)) (hb : PSs X xb (TSts X W Cl Γ sub b)) : PS X (.If xc xa xb pos) (TSt X W Cl Γ sub (.ifs c a b)) :=
  PS.imp (ps_if hc ha hb) fun D σ H ⟨ρ, F, S, h⟩ => ⟨ρ, F, S, by
    have h : ResS X.K W Cl (asgSs a ++ asgSs b) σ ρ F H ((testR (ev Γ c ρ)).toO fun t => match t.1 with
      | true => evSs Γ sub a t.2
      | false => evSs Γ sub b t.2) D := h
    refine Res.stm h fun k ρ1 F1 H1 g1 h1 => ?_
    cases k with
    | true => exact iteT ⟨ρ1, F1, g1.sr, ResS.after (o := evSs Γ sub a ρ1) h1 (GoS.refl g1.sr) (fun j hj => nomatch (show j ∈ ([] : List Nat) from hj)) fun j hj => List.mem_append_left _ hj⟩
    | false => exact iteF ⟨ρ1, F1, g1.sr, ResS.after (o := evSs Γ sub b ρ1) h1 (GoS.refl g1.sr) (fun j hj => nomatch (show j ∈ ([] : List Nat) from hj)) fun j hj => List.mem_append_right _ hj⟩⟩
theorem ps_ret' {e : E} (h : PE X x (TEv X W Cl Γ e)) : PS X (.Return (some x) pos) (TSt X W Cl Γ sub (.ret e)) := PS.imp (ps_ret h) fun D σ H ⟨ρ, F, S, h⟩ => ⟨ρ, F, S, by
  have h : ResS X.K W Cl [] σ ρ F H ((ev Γ e ρ).toO fun z => .rt z.1 z.2) D := h
  cases e0 : ev Γ e ρ with
  | bad => rw [e0] at h; exact h
  | ex c p => rw [e0] at h; exact fun d F' H' x q => h d σ F' H' x (fun _ _ => rfl) q
  | got z =>
    rw [e0] at h
    exact fun F1 H1 g x r => h σ x F1 H1 (GoS.of g) r⟩
theorem ps_retn' : PS X (.Return none pos) (TSt X W Cl Γ sub .retn) := PS.imp ps_retN fun D σ H ⟨ρ, F, S, h⟩ => h σ .non F H (GoS.refl S) rfl
theorem ps_brk' : PS X (.Break pos) (TSt X W Cl Γ sub .brk) := PS.imp ps_break fun D σ H ⟨ρ, F, S, h⟩ => h σ F H (GoS.refl S)
theorem ps_cont' : PS X (.Continue pos) (TSt X W Cl Γ sub .cont) := PS.imp ps_continue fun D σ H ⟨ρ, F, S, h⟩ => h σ F H (GoS.refl S)
theorem ps_pass' : PS X (.Pass pos) (TSt X W Cl Γ sub .pass) := PS.imp ps_pass fun D σ H ⟨ρ, F, S, h⟩ => h σ F H (GoS.refl S)
theorem ps_expr' {e : E} (h : PE X x (TEv X W Cl Γ e)) (hs : swapsWith x none pos.line X.env = pure false) : PS X (.Expr x pos) (TSt X W Cl Γ sub (.expr e)) := PS.imp (ps_expr h hs) fun D σ H ⟨ρ, F, S, h⟩ => ⟨ρ, F, S, by
  have h : ResS X.K W Cl [] σ ρ F H ((ev Γ e ρ).toO fun z => .nx z.2) D := h
  exact Res.stm h fun z ρ1 F1 H1 g1 h1 x r => h1 σ F1 H1 (GoS.refl g1.sr)⟩
theorem ps_raise' {c : Nat} (h : PS X st (fun _ σ H => W (.ref (Cl c)) none σ H)) : PS X st (TSt X W Cl Γ sub (.raise c)) := PS.imp h fun D σ H ⟨ρ, F, S, h⟩ => h none σ F H (.refl _ _ _) (fun _ _ => rfl) rfl
end
end EV
set_option Elab.async false
set_option linter.all false
set_option maxRecDepth 100000
set_option maxHeartbeats 1000000
/-! Loops, two names at once, try. -/
namespace EV
open PySem L2
section
variable {X : Cx} {W : WX} {Cl : Nat → Addr} {Γ : Env'} {sub : Nat → Nat → Bool} {x y : Expr} {st : Stmt} {sts : List Stmt} {pos : Pos}
theorem GoS.mono {K : PySem.W.Frag} {as : List Nat} {ρ ρ' : Ro} {σ σ' : St} {F F' : Addr → Prop} {H H' : Hp} (S : SR K F H ρ σ) (g : GoS K as ρ ρ' σ σ' F F' H H') : Mono F F' H H' := S.mono g.ext
theorem forCore {t : Tg} {body : List S} {items : List Val} {J : It} {ρ1 : Ro} {F1 : Addr → Prop} {H1 : Hp} {σ : St} {D : Ends} (S1 : SR X.K F1 H1 ρ1 σ) (wk : Walks X.K J items F1 H1)
    (h1 : ResS X.K W Cl (slotsT t ++ asgSs body) σ ρ1 F1 H1 (forL (fun x ρ => match bindT t x ρ with
    | some ρ' => evSs Γ sub body ρ'
    | none => .bad) items ρ1) D) :
    ∃ Wf : Nat → Nat → St → Hp → Prop, (∃ m, Wf 0 m σ H1) ∧ ∀ i m σ H, Wf i m σ H → (J.stop i H ∧ D.nx σ H) ∨ (J.go i H ∧ ∃ N : St → Hp → Prop, (∀ σ' H', N σ' H' → ∃ m', m' < m ∧ Wf (i + 1) m' σ' H') ∧ ∀ x H', J.yld i H x H' → TGv X.K t x σ H' fun σ2 H2 => TSts X W Cl Γ sub body { nx := N, rt := D.rt, bk := D.nx, ct := N } σ2 H2) := by
  let gg : Val → Ro → O := fun x ρ => match bindT t x ρ with
    | some ρ' => evSs Γ sub body ρ'
    | none => .bad
  have h1 : ResS X.K W Cl (slotsT t ++ asgSs body) σ ρ1 F1 H1 (forL gg items ρ1) D := h1
  refine ⟨fun i m σc Hc => m = items.length - i ∧ i ≤ items.length ∧ ∃ ρc Fc, SR X.K Fc Hc ρc σc ∧ Mono F1 Fc H1 Hc ∧ ResS X.K W Cl (slotsT t ++ asgSs body) σc ρc Fc Hc (forL gg (items.drop i) ρc) D, ⟨_, rfl, Nat.zero_le _, ρ1, F1, S1, Mono.refl _ _, by rw [List.drop_zero]; exact h1⟩, ?_⟩
  rintro i m σc Hc ⟨rfl, hi, ρc, Fc, Sc, mc, hres⟩
  by_cases hlt : i < items.length
  · refine .inr ?_
    have ei : items[i]? = some items[i] := List.getElem?_eq_getElem hlt
    generalize hv : items[i] = v at ei
    obtain ⟨go, yl⟩ := wk.go i v Fc Hc ei mc Sc.ft
    have ed : items.drop i = v :: items.drop (i + 1) := by rw [List.drop_eq_getElem_cons hlt, hv]
    rw [ed] at hres
    have hres : ResS X.K W Cl (slotsT t ++ asgSs body) σc ρc Fc Hc (match gg v ρc with
      | .nx ρ' => forL gg (items.drop (i + 1)) ρ'
      | .ct ρ' => forL gg (items.drop (i + 1)) ρ'
      | .bk ρ' => .nx ρ'
      | o => o) D := hres
    refine ⟨go, fun σ' H' => ∃ ρc Fc, SR X.K Fc H' ρc σ' ∧ Mono F1 Fc H1 H' ∧ ResS X.K W Cl (slotsT t ++ asgSs body) σ' ρc Fc H' (forL gg (items.drop (i + 1)) ρc) D, fun σ' H' q => ⟨items.length - (i + 1), by omega, rfl, hlt, q⟩, fun x H' yy => ?_⟩
    obtain ⟨gr, vr⟩ := yl x H' yy
    have hgg : gg v ρc = match bindT t v ρc with
      | some ρ' => evSs Γ sub body ρ'
      | none => .bad := rfl
    rw [hgg] at hres
    cases e1 : bindT t v ρc with
    | none => rw [e1] at hres; exact hres.elim
    | some ρb =>
      rw [e1] at hres
      refine ⟨ρc, Fc, v, ρb, Sc.gr gr, vr, e1, fun σ2 S2 ag o2 => ⟨ρb, Fc, S2, ?_⟩⟩
      have gb : GoS X.K (slotsT t) ρc ρb σc σ2 Fc Fc Hc H' := ⟨gr.ext.wide fun _ z => z.elim, S2, fun a o => .inl (o2 a o), fun j hj => (ag j hj).2⟩
      have all : ∀ {ρe σe Fe He}, GoS X.K (asgSs body) ρb ρe σ2 σe Fc Fe H' He → GoS X.K (slotsT t ++ asgSs body) ρc ρe σc σe Fc Fe Hc He := fun ge => gb.trans ge
      have hres : ResS X.K W Cl (slotsT t ++ asgSs body) σc ρc Fc Hc (match evSs Γ sub body ρb with
        | .nx ρ' => forL gg (items.drop (i + 1)) ρ'
        | .ct ρ' => forL gg (items.drop (i + 1)) ρ'
        | .bk ρ' => .nx ρ'
        | o => o) D := hres
      cases e2 : evSs Γ sub body ρb with
      | nx ρ' =>
        rw [e2] at hres
        exact fun σ' F' H'' ge => ⟨ρ', F', ge.sr, mc.trans ((all ge).mono Sc), ResS.after (o := forL gg (items.drop (i + 1)) ρ') hres (all ge) (fun _ z => z) fun _ z => z⟩
      | ct ρ' =>
        rw [e2] at hres
        exact fun σ' F' H'' ge => ⟨ρ', F', ge.sr, mc.trans ((all ge).mono Sc), ResS.after (o := forL gg (items.drop (i + 1)) ρ') hres (all ge) (fun _ z => z) fun _ z => z⟩
      | bk ρ' =>
        rw [e2] at hres
        exact fun σ' F' H'' ge => hres σ' F' H'' (all ge)
      | rt z ρ' =>
        rw [e2] at hres
        exact fun σ' x F' H'' ge r => hres σ' x F' H'' (all ge) (r.back fun a e => gr.ext.free e)
      | ex c p =>
        rw [e2] at hres
        exact fun d σ' F' H'' e ag2 r => hres d σ' F' H'' (gb.ext.trans e gb.own) (fun j hj => by
          rw [List.mem_append, not_or] at hj
          exact (ag2 j hj.2).trans (ag j hj.1).2) r
      | bad => rw [e2] at hres; exact hres
  · have ei : i = items.length := by omega
    subst ei
    rw [List.drop_length] at hres
    exact .inl ⟨wk.stop Fc Hc mc, hres σc Fc Hc (GoS.refl Sc)⟩
theorem ps_for' {t : Tg} {it : E} {body : List S} {tg iter : Expr} (hp : PassesOwn (model X.prog X.w) X.A X.env X.xe) (hc : X.calm = true) (hi : PI X tg iter (TIt X W Cl Γ it)) (hg : PG X tg (TGv X.K t)) (hb : PSs X sts (TSts X W Cl Γ sub body)) (hs : ∀ x, foldedSetIterable iter X.env x = pure x) :
    PS X (.For tg iter sts [] pos) (TSt X W Cl Γ sub (.for_ t it body)) := PS.imp (ps_for hp hc hi hg hb hs) fun D σ H ⟨ρ, F, S, h⟩ => ⟨ρ, F, S, by
  let gg : Val → Ro → O := fun x ρ => match bindT t x ρ with
    | some ρ' => evSs Γ sub body ρ'
    | none => .bad
  have h : ResS X.K W Cl (slotsT t ++ asgSs body) σ ρ F H ((evItems Γ it ρ).toO fun z => forL gg z.1 z.2) D := h
  refine Res.stm h fun items ρ1 F1 H1 g1 h1 J wk => ?_
  exact forCore g1.sr wk h1⟩
theorem ps_forK' {t : Tg} {body : List S} {tg iter : Expr} {i : Nat} (hp : PassesOwn (model X.prog X.w) X.A X.env X.xe) (hc : X.calm = true) (hi : PE X iter (tVar i)) (hg : PG X tg (TGv X.K t)) (hb : PSs X sts (TSts X W Cl Γ sub body)) (hs : ∀ x, foldedSetIterable iter X.env x = pure x) :
    PS X (.For tg iter sts [] pos) (TSt X W Cl Γ sub (.forK t i body)) := by
  have p := ps_for (pos := pos) hp hc (pi_keys hi) hg hb hs
  refine PS.or p (ps_lock p) fun D σ H ⟨ρ, F, S, h⟩ => ?_
  have h : ResS X.K W Cl (slotsT t ++ asgSs body) σ ρ F H (((keysR ρ i).toO fun z => forL (fun x ρ => match bindT t x ρ with
    | some ρ' => evSs Γ sub body ρ'
    | none => .bad) z.1 z.2).hush) D := h
  cases ek : keysR ρ i with
  | bad => rw [ek] at h; exact h.elim
  | ex cc p => rw [ek] at h; exact h.elim
  | got z =>
    obtain ⟨F1, d, kvs, ks, g, hσ, f1, rd, ez, l, hk⟩ := keys_start S ek
    rw [ek] at h
    have h2 := ResS.after (as := []) (as'' := slotsT t ++ asgSs body) h (GoS.of g) (fun _ hj => nomatch hj) fun _ hj => hj
    have h2 : ResS X.K W Cl (slotsT t ++ asgSs body) σ z.2 F1 H ((forL (fun x ρ => match bindT t x ρ with
      | some ρ' => evSs Γ sub body ρ'
      | none => .bad) z.1 z.2).hush) D := h2
    have h3 : ResS X.K W Cl (slotsT t ++ asgSs body) σ z.2 F1 H (forL (fun x ρ => match bindT t x ρ with
      | some ρ' => evSs Γ sub body ρ'
      | none => .bad) z.1 z.2) D := by
      cases el : forL (fun x ρ => match bindT t x ρ with
        | some ρ' => evSs Γ sub body ρ'
        | none => .bad) z.1 z.2 <;> rw [el] at h2 <;> first | exact h2 | exact h2.elim
    rcases rd with hd | ⟨o, hd⟩
    · refine .inr ⟨d, .dK kvs, hd, trivial, fun od => ⟨.ref d, hσ, d, od, rfl, .inl ⟨kvs, upd_same, ?_⟩⟩⟩
      have S1 := g.sr.relock f1 (monoW_in (od := od) hd)
      have no : ¬ Own z.2 σ d := fun o => (g.sr.own o).1 f1
      refine forCore (items := z.1) (ρ1 := z.2) (W := W) (Cl := Cl) (Γ := Γ) (sub := sub) S1 (by rw [ez]; exact walks_keys l hk f1 upd_same) ?_
      have un : ∀ {ρ' : Ro} {σ' : St} {F' : Addr → Prop} {H' : Hp}, GoS X.K (slotsT t ++ asgSs body) z.2 ρ' σ σ' F1 F' (L2.upd H d (.frz od (.dK kvs))) H' → H' d = some (.frz od (.dK kvs)) ∧ F' d ∧ GoS X.K (slotsT t ++ asgSs body) z.2 ρ' σ σ' F1 F' H (L2.upd H' d (.dK kvs)) := fun {ρ' σ' F' H'} go => by
        obtain ⟨hd2, ext2⟩ := Ext.unlock hd no go.ext
        have f2 := go.ext.sub d f1
        refine ⟨hd2, f2, ext2, go.sr.relock f2 (monoW_out hd2), fun a o => (go.own a o).imp id fun hn => ?_, go.agr⟩
        by_cases ea : a = d
        · subst ea; rw [upd_same] at hn; cases hn
        · rw [upd_ne ea] at hn; exact hn
      cases el : forL (fun x ρ => match bindT t x ρ with
        | some ρ' => evSs Γ sub body ρ'
        | none => .bad) z.1 z.2 with
      | nx ρ' => rw [el] at h3; exact fun σ' F' H' go => ⟨(un go).1, h3 σ' F' _ (un go).2.2⟩
      | bk ρ' => rw [el] at h3; exact fun σ' F' H' go => ⟨(un go).1, h3 σ' F' _ (un go).2.2⟩
      | ct ρ' => rw [el] at h3; exact fun σ' F' H' go => ⟨(un go).1, h3 σ' F' _ (un go).2.2⟩
      | rt u ρ' => rw [el] at h3; exact fun σ' x F' H' go rx => ⟨(un go).1, h3 σ' x F' _ (un go).2.2 (RX.unlock (un go).2.1 (un go).1 rx)⟩
      | ex cc p => rw [el] at h2; exact h2.elim
      | bad => rw [el] at h2; exact h2.elim
    · exact .inl ⟨.ref d, hσ, d, o, rfl, .inl ⟨kvs, hd, forCore (items := z.1) (ρ1 := z.2) g.sr (by rw [ez]; exact walks_keys l hk f1 hd) h3⟩⟩
theorem ps_whl' {c : E} {body : List S} {xc : Expr} (hp : PassesOwn (model X.prog X.w) X.A X.env X.xe) (hc : PT X xc (TTv X W Cl Γ c)) (hb : PSs X sts (TSts X W Cl Γ sub body)) : PS X (.While xc sts [] pos) (TSt X W Cl Γ sub (.whl c body)) := PS.imp (ps_while hp hc hb) fun D σ H ⟨ρ, F, S, h⟩ => by
  let cc : Ro → R (Bool × Ro) := fun ρ => testR (ev Γ c ρ)
  let bb : Ro → O := fun ρ => evSs Γ sub body ρ
  have h : ResS X.K W Cl (asgSs body) σ ρ F H (whlL cc bb wfuel ρ) D := h
  refine ⟨fun m σc Hc => ∃ ρc Fc, SR X.K Fc Hc ρc σc ∧ ResS X.K W Cl (asgSs body) σc ρc Fc Hc (whlL cc bb m ρc) D, ⟨_, ρ, F, S, h⟩, ?_⟩
  rintro m σc Hc ⟨ρc, Fc, Sc, hres⟩
  cases m with
  | zero => exact hres.elim
  | succ m =>
    have hres : ResS X.K W Cl (asgSs body) σc ρc Fc Hc ((cc ρc).toO fun t => match t.1 with
      | true => match bb t.2 with
        | .nx ρ' => whlL cc bb m ρ'
        | .ct ρ' => whlL cc bb m ρ'
        | .bk ρ' => .nx ρ'
        | o => o
      | false => .nx t.2) D := hres
    refine ⟨ρc, Fc, Sc, Res.stm hres fun k ρ1 F1 H1 g1 h1 => ?_⟩
    cases k with
    | false => exact iteF (h1 σc F1 H1 (GoS.refl g1.sr))
    | true =>
      refine iteT ⟨fun σ' H' => ∃ ρc Fc, SR X.K Fc H' ρc σ' ∧ ResS X.K W Cl (asgSs body) σ' ρc Fc H' (whlL cc bb m ρc) D, fun σ' H' q => ⟨m, Nat.lt_succ_self m, q⟩, ρ1, F1, g1.sr, ?_⟩
      have h1 : ResS X.K W Cl (asgSs body) σc ρ1 F1 H1 (match evSs Γ sub body ρ1 with
        | .nx ρ' => whlL cc bb m ρ'
        | .ct ρ' => whlL cc bb m ρ'
        | .bk ρ' => .nx ρ'
        | o => o) D := h1
      cases e2 : evSs Γ sub body ρ1 with
      | nx ρ' => rw [e2] at h1; exact fun σ' F' H' ge => ⟨ρ', F', ge.sr, ResS.after (o := whlL cc bb m ρ') h1 ge (fun _ z => z) fun _ z => z⟩
      | ct ρ' => rw [e2] at h1; exact fun σ' F' H' ge => ⟨ρ', F', ge.sr, ResS.after (o := whlL cc bb m ρ') h1 ge (fun _ z => z) fun _ z => z⟩
      | bk ρ' => rw [e2] at h1; exact h1
      | rt z ρ' => rw [e2] at h1; exact h1
      | ex c p => rw [e2] at h1; exact h1
      | bad => rw [e2] at h1; exact h1
/-! ### two names at once -/
theorem pa_two {a b : E} (ha : PE X x (TEv X W Cl Γ a)) (hb : PE X y (TEv X W Cl Γ b)) (hs : starEach [x, y] X.env = (false, eval x X.env) :: starEach [y] X.env) (hs2 : starEach [y] X.env = (false, eval y X.env) :: starEach [] X.env) :
    PA X [x, y] (tCons (TEv X W Cl Γ a) (tCons (TEv X W Cl Γ b) tNil)) := pa_cons ha (pa_cons hb pa_nil hs2) hs
/-- a value, new or not, at a place where the slots may be more -/
def Lat (K : PySem.W.Frag) (ρ : Ro) (σ : St) (F : Addr → Prop) (H : Hp) (B : Hp) (z : Val × Bool) (p : V) : Prop := match z.2 with
  | false => VR K F H z.1 p
  | true => ∃ a, p = .ref a ∧ ¬ F a ∧ OwnAt K F H a z.1 ∧ ¬ Own ρ σ a ∧ B a = none
theorem Lat.store {K : PySem.W.Frag} {ρ : Ro} {σ : St} {F : Addr → Prop} {H B : Hp} {z : Val × Bool} {p : V} {i : Nat} (S : SR K F H ρ σ) (r : Lat K ρ σ F H B z p) (hi : i < ρ.length) :
    SR K F H (ρ.set i (mkS z)) (σ.set i (some p)) ∧ ∀ b, Own (ρ.set i (mkS z)) (σ.set i (some p)) b → Own ρ σ b ∨ (p = .ref b ∧ z.2 = true ∧ B b = none) := by
  obtain ⟨v, f⟩ := z
  cases f with
  | false =>
    obtain ⟨S2, o2⟩ := S.store r hi
    exact ⟨S2, fun b o => .inl (o2 b o)⟩
  | true =>
    obtain ⟨a, rfl, nf, w, no, hn⟩ := r
    obtain ⟨S2, o2⟩ := S.storeNew w nf no hi
    refine ⟨S2, fun b o => (o2 b o).imp id fun e => ?_⟩
    subst e
    exact ⟨rfl, rfl, hn⟩
theorem ps_par' {i j : Nat} {a b : E} (hij : i ≠ j) (h : PS X st (tPar i j (tCons (TEv X W Cl Γ a) (tCons (TEv X W Cl Γ b) tNil)))) : PS X st (TSt X W Cl Γ sub (.par i j a b)) := PS.imp h fun D σ H ⟨ρ, F, S, h⟩ => by
  have h : ResS X.K W Cl [i, j] σ ρ F H ((ev Γ a ρ).toO fun x => (ev Γ b x.2).toO fun y => (putS i x.1 y.2).andThen (putS j y.1)) D := h
  refine ⟨ρ, F, S, ?_⟩
  cases e0 : ev Γ a ρ with
  | bad => rw [e0] at h; exact h
  | ex c p => rw [e0] at h; exact fun d F' H' x q => h d σ F' H' x (fun _ _ => rfl) q
  | got u =>
    rw [e0] at h
    intro F1 H1 g1 p rp
    refine ⟨u.2, F1, g1.sr, ?_⟩
    have h : ResS X.K W Cl [i, j] σ ρ F H ((ev Γ b u.2).toO fun y => (putS i u.1 y.2).andThen (putS j y.1)) D := h
    cases e1 : ev Γ b u.2 with
    | bad => rw [e1] at h; exact h
    | ex c q => rw [e1] at h; exact fun d F' H' x z => h d σ F' H' (g1.ext.trans x fun a o => .inl (g1.own a o)) (fun _ _ => rfl) z
    | got w =>
      rw [e1] at h
      intro F2 H2 g2 q rq
      refine ⟨p, q, rfl, ?_⟩
      have h : ResS X.K W Cl [i, j] σ ρ F H ((if i < w.2.length then O.nx (w.2.set i (mkS u.1)) else .bad).andThen (putS j w.1)) D := h
      by_cases hi : i < w.2.length
      · rw [if_pos hi] at h
        have h : ResS X.K W Cl [i, j] σ ρ F H (if j < (w.2.set i (mkS u.1)).length then .nx ((w.2.set i (mkS u.1)).set j (mkS w.1)) else .bad) D := h
        by_cases hj : j < (w.2.set i (mkS u.1)).length
        · rw [if_pos hj] at h
          -- x, later
          have rp2 : Lat X.K w.2 σ F2 H2 H u.1 p ∧ (u.1.2 = true → ∃ a t, p = .ref a ∧ H1 a = some t) := by
            obtain ⟨⟨uv, uf⟩, uρ⟩ := u
            cases uf with
            | false => exact ⟨VR.mono (g1.sr.mono g2.ext) _ rp, fun z => nomatch z⟩
            | true =>
              obtain ⟨ad, rfl, nf, hn, ow⟩ := rp
              have hk : ∃ t, H1 ad = some t := by rcases ow.kind with ⟨ys, z⟩ | ⟨ys, z⟩ <;> exact ⟨_, z⟩
              obtain ⟨t, ht⟩ := hk
              have no : ¬ Own uρ σ ad := fun o => S.ownSome (g1.own ad o) hn
              refine ⟨⟨ad, rfl, fun f => ?_, ow.mono (g1.sr.mono g2.ext) (by rw [ht]; exact g2.ext.keep ad t ht no), fun o => no (g2.own ad o), hn⟩, fun _ => ⟨ad, t, rfl, ht⟩⟩
              rcases g2.ext.new ad f with z | z | z
              · exact nf z
              · rw [ht] at z; cases z
              · exact no z
          obtain ⟨S3, o3⟩ := Lat.store g2.sr rp2.1 hi
          have rq2 : Lat X.K (w.2.set i (mkS u.1)) (σ.set i (some p)) F2 H2 H w.1 q := by
            obtain ⟨⟨wv, wf⟩, wρ⟩ := w
            cases wf with
            | false => exact rq
            | true =>
              obtain ⟨ad, rfl, nf, hn, ow⟩ := rq
              refine ⟨ad, rfl, nf, ow, fun o => ?_, g1.ext.free hn⟩
              rcases o3 ad o with o | ⟨e, f, _⟩
              · exact g1.sr.ownSome (g2.own ad o) hn
              · obtain ⟨a2, t, e2, ht⟩ := rp2.2 f
                rw [e2] at e
                cases e
                rw [ht] at hn
                cases hn
          obtain ⟨S4, o4⟩ := Lat.store S3 rq2 hj
          refine h _ F2 H2 ⟨g1.ext.trans g2.ext fun a o => .inl (g1.own a o), S4, fun a o => ?_, fun k hk => ?_⟩
          · rcases o4 a o with o | ⟨_, _, z⟩
            · rcases o3 a o with o | ⟨_, _, z⟩
              · exact .inl (g1.own a (g2.own a o))
              · exact .inr z
            · exact .inr z
          · rw [List.getElem?_set_ne, List.getElem?_set_ne]
            · rintro rfl; exact hk List.mem_cons_self
            · rintro rfl; exact hk (List.mem_cons_of_mem _ List.mem_cons_self)
        · rw [if_neg hj] at h
          exact h.elim
      · rw [if_neg hi] at h
        exact h.elim
end
end EV
set_option Elab.async false
set_option linter.all false
set_option maxRecDepth 100000
set_option maxHeartbeats 1000000
/-! Three names at once; a dict displayed. -/
namespace EV
open PySem L2
section
variable {X : Cx} {W : WX} {Cl : Nat → Addr} {Γ : Env'} {sub : Nat → Nat → Bool} {x y : Expr} {st : Stmt} {sts : List Stmt} {pos : Pos}
variable {K : PySem.W.Frag} {F F' F'' : Addr → Prop} {H H' H'' B : Hp} {ρ ρ' ρ'' : Ro} {σ : St} {m : Bool} {z : Val × Bool} {p : V}
theorem Lat.of (S : SR K F H ρ σ) (g : Go K m ρ ρ' σ F F' H H') (r : RX K F' H' H z.1 z.2 p) : Lat K ρ' σ F' H' H z p := by
  obtain ⟨v, f⟩ := z
  cases f with
  | false => exact r
  | true =>
    obtain ⟨a, e, nf, hn, w⟩ := r
    exact ⟨a, e, nf, w, fun o => S.ownSome (g.own a o) hn, hn⟩
theorem Lat.back (h : Lat K ρ σ F H B z p) (k : ∀ a, B a = none → H'' a = none) : Lat K ρ σ F H H'' z p := by
  obtain ⟨v, f⟩ := z
  cases f with
  | false => exact h
  | true =>
    obtain ⟨a, e, nf, w, no, hn⟩ := h
    exact ⟨a, e, nf, w, no, k a hn⟩
theorem Lat.there (h : Lat K ρ σ F H B z p) (hz : z.2 = true) : ∃ a t, p = .ref a ∧ H a = some t := by
  obtain ⟨v, f⟩ := z
  cases hz
  obtain ⟨a, e, nf, w, no, hn⟩ := h
  rcases w.kind with ⟨ys, q⟩ | ⟨ys, q⟩ <;> exact ⟨a, _, e, q⟩
theorem Lat.later (S : SR K F H ρ σ) (h : Lat K ρ σ F H B z p) (g : Go K m ρ ρ' σ F F' H H') : Lat K ρ' σ F' H' B z p := by
  obtain ⟨v, f⟩ := z
  cases f with
  | false => exact VR.mono (S.mono g.ext) _ h
  | true =>
    obtain ⟨a, e, nf, w, no, hn⟩ := h
    have hk : ∃ t, H a = some t := by rcases w.kind with ⟨ys, q⟩ | ⟨ys, q⟩ <;> exact ⟨_, q⟩
    obtain ⟨t, ht⟩ := hk
    refine ⟨a, e, fun f => ?_, w.mono (S.mono g.ext) (by rw [ht]; exact g.ext.keep a t ht no), fun o => no (g.own a o), hn⟩
    rcases g.ext.new a f with q | q | q
    · exact nf q
    · rw [ht] at q; cases q
    · exact no q
/-- another is stored -/
theorem Lat.step {i : Nat} {z' : Val × Bool} {p' : V} (h : Lat K ρ σ F H B z p) (o2 : ∀ b, Own (ρ.set i (mkS z')) (σ.set i (some p')) b → Own ρ σ b ∨ (p' = .ref b ∧ z'.2 = true)) (hd : ∀ a, z.2 = true → z'.2 = true → p = .ref a → p' = .ref a → False) : Lat K (ρ.set i (mkS z')) (σ.set i (some p')) F H B z p := by
  obtain ⟨v, f⟩ := z
  cases f with
  | false => exact h
  | true =>
    obtain ⟨a, e, nf, w, no, hn⟩ := h
    refine ⟨a, e, nf, w, fun o => ?_, hn⟩
    rcases o2 a o with o | ⟨e2, f2⟩
    · exact no o
    · exact hd a rfl f2 e e2
theorem ps_par3' {i j l : Nat} {a b c : E} (h : PS X st (tPar3 i j l (tCons (TEv X W Cl Γ a) (tCons (TEv X W Cl Γ b) (tCons (TEv X W Cl Γ c) tNil))))) : PS X st (TSt X W Cl Γ sub (.par3 i j l a b c)) := PS.imp h fun D σ H ⟨ρ, F, S, h⟩ => by
  have h : ResS X.K W Cl [i, j, l] σ ρ F H ((ev Γ a ρ).toO fun x => (ev Γ b x.2).toO fun y => (ev Γ c y.2).toO fun z => ((putS i x.1 z.2).andThen (putS j y.1)).andThen (putS l z.1)) D := h
  refine ⟨ρ, F, S, ?_⟩
  cases e0 : ev Γ a ρ with
  | bad => rw [e0] at h; exact h
  | ex c p => rw [e0] at h; exact fun d F' H' x q => h d σ F' H' x (fun _ _ => rfl) q
  | got u =>
    rw [e0] at h
    intro F1 H1 g1 p1 r1
    refine ⟨u.2, F1, g1.sr, ?_⟩
    have h : ResS X.K W Cl [i, j, l] σ ρ F H ((ev Γ b u.2).toO fun y => (ev Γ c y.2).toO fun z => ((putS i u.1 z.2).andThen (putS j y.1)).andThen (putS l z.1)) D := h
    cases e1 : ev Γ b u.2 with
    | bad => rw [e1] at h; exact h
    | ex c q => rw [e1] at h; exact fun d F' H' x z => h d σ F' H' (g1.ext.trans x fun a o => .inl (g1.own a o)) (fun _ _ => rfl) z
    | got v =>
      rw [e1] at h
      intro F2 H2 g2 p2 r2
      refine ⟨v.2, F2, g2.sr, ?_⟩
      have h : ResS X.K W Cl [i, j, l] σ ρ F H ((ev Γ c v.2).toO fun z => ((putS i u.1 z.2).andThen (putS j v.1)).andThen (putS l z.1)) D := h
      cases e2 : ev Γ c v.2 with
      | bad => rw [e2] at h; exact h
      | ex c q => rw [e2] at h; exact fun d F' H' x z => h d σ F' H' ((g1.ext.trans g2.ext fun a o => .inl (g1.own a o)).trans x fun a o => .inl (g1.own a (g2.own a o))) (fun _ _ => rfl) z
      | got w =>
        rw [e2] at h
        intro F3 H3 g3 p3 r3
        refine ⟨p1, p2, p3, rfl, ?_⟩
        have h : ResS X.K W Cl [i, j, l] σ ρ F H (((if i < w.2.length then O.nx (w.2.set i (mkS u.1)) else .bad).andThen (putS j v.1)).andThen (putS l w.1)) D := h
        by_cases hi : i < w.2.length
        · rw [if_pos hi] at h
          have h : ResS X.K W Cl [i, j, l] σ ρ F H ((if j < (w.2.set i (mkS u.1)).length then O.nx ((w.2.set i (mkS u.1)).set j (mkS v.1)) else .bad).andThen (putS l w.1)) D := h
          by_cases hj : j < (w.2.set i (mkS u.1)).length
          · rw [if_pos hj] at h
            have h : ResS X.K W Cl [i, j, l] σ ρ F H (if l < ((w.2.set i (mkS u.1)).set j (mkS v.1)).length then O.nx (((w.2.set i (mkS u.1)).set j (mkS v.1)).set l (mkS w.1)) else .bad) D := h
            by_cases hl : l < ((w.2.set i (mkS u.1)).set j (mkS v.1)).length
            · rw [if_pos hl] at h
              have la := Lat.of S g1 r1
              have la2 := la.later g1.sr g2
              have la3 := la2.later g2.sr g3
              have lb := Lat.of g1.sr g2 r2
              have lb3 := lb.later g2.sr g3
              have lc := Lat.of g2.sr g3 r3
              have dab : ∀ a, v.1.2 = true → u.1.2 = true → p2 = .ref a → p1 = .ref a → False := fun a h1 h2 q1 q2 => by
                obtain ⟨a', t, e3, ht⟩ := la.there h2
                rw [q2] at e3
                cases e3
                obtain ⟨⟨vv, vf⟩, vρ⟩ := v
                cases h1
                obtain ⟨a'', e4, _, hn, _⟩ := r2
                rw [q1] at e4
                cases e4
                rw [ht] at hn
                cases hn
              have dac : ∀ a, w.1.2 = true → u.1.2 = true → p3 = .ref a → p1 = .ref a → False := fun a h1 h2 q1 q2 => by
                obtain ⟨a', t, e3, ht⟩ := la2.there h2
                rw [q2] at e3
                cases e3
                obtain ⟨⟨vv, vf⟩, vρ⟩ := w
                cases h1
                obtain ⟨a'', e4, _, hn, _⟩ := r3
                rw [q1] at e4
                cases e4
                rw [ht] at hn
                cases hn
              have dbc : ∀ a, w.1.2 = true → v.1.2 = true → p3 = .ref a → p2 = .ref a → False := fun a h1 h2 q1 q2 => by
                obtain ⟨a', t, e3, ht⟩ := lb.there h2
                rw [q2] at e3
                cases e3
                obtain ⟨⟨vv, vf⟩, vρ⟩ := w
                cases h1
                obtain ⟨a'', e4, _, hn, _⟩ := r3
                rw [q1] at e4
                cases e4
                rw [ht] at hn
                cases hn
              obtain ⟨S4, o4⟩ := Lat.store g3.sr la3 hi
              have lb4 := (lb3.back fun a e => g1.ext.free e).step (i := i) (z' := u.1) (p' := p1) (fun b o => (o4 b o).imp id fun ⟨e, f, _⟩ => ⟨e, f⟩) dab
              obtain ⟨S5, o5⟩ := Lat.store S4 lb4 hj
              have lc4 := (lc.back fun a e => g1.ext.free (g2.ext.free e)).step (i := i) (z' := u.1) (p' := p1) (fun b o => (o4 b o).imp id fun ⟨e, f, _⟩ => ⟨e, f⟩) dac
              have lc5 := lc4.step (i := j) (z' := v.1) (p' := p2) (fun b o => (o5 b o).imp id fun ⟨e, f, _⟩ => ⟨e, f⟩) dbc
              obtain ⟨S6, o6⟩ := Lat.store S5 lc5 hl
              refine h _ F3 H3 ⟨(g1.ext.trans g2.ext fun a o => .inl (g1.own a o)).trans g3.ext fun a o => .inl (g1.own a (g2.own a o)), S6, fun a o => ?_, fun k hk => ?_⟩
              · rcases o6 a o with o | ⟨_, _, q⟩
                · rcases o5 a o with o | ⟨_, _, q⟩
                  · rcases o4 a o with o | ⟨_, _, q⟩
                    · exact .inl (g1.own a (g2.own a (g3.own a o)))
                    · exact .inr q
                  · exact .inr q
                · exact .inr q
              · rw [List.getElem?_set_ne, List.getElem?_set_ne, List.getElem?_set_ne]
                · rintro rfl; exact hk List.mem_cons_self
                · rintro rfl; exact hk (List.mem_cons_of_mem _ List.mem_cons_self)
                · rintro rfl; exact hk (List.mem_cons_of_mem _ (List.mem_cons_of_mem _ List.mem_cons_self))
            · rw [if_neg hl] at h
              exact h.elim
          · rw [if_neg hj] at h
            exact h.elim
        · rw [if_neg hi] at h
          exact h.elim
/-! ### dict displays -/
theorem pe_disp0 : PE X (.Dict [] [] pos) (TEv X W Cl Γ (.disp [] [])) := PE.imp pe_dnewK fun σ H Q ⟨ρ, F, S, h⟩ => by
  have h : Res X.K W Cl false σ ρ F H (.got ((.dic [] [], true), ρ)) (PQ X.K H Q) := h
  exact new_dic S.ft DR.nil fun t F' H' g rr => Res.pure S h g t rr
def trsD (X : Cx) (W : WX) (Cl : Nat → Addr) (Γ : Env') (ks : List Key) (es : List E) : List (TE × TE) := (ks.zip es).map fun p => (tC (kV p.1), TVv X W Cl Γ p.2)
theorem pairs_imp : ∀ {ks : List Key} {es : List E} {ρ : Ro} {F : Addr → Prop} {H : Hp} {Q : List (V × V) → Hp → Prop}, ks.length = es.length → SR X.K F H ρ σ →
    Res X.K W Cl (mutEs es) σ ρ F H (evs Γ es ρ) (fun vs _ F' H' => ∀ xs, VRs X.K F' H' vs xs → Q ((ks.map kV).zip xs) H') → tPairs (trsD X W Cl Γ ks es) σ H Q
  | [], [], ρ, F, H, Q, _, S, h => h F H (Go.refl _ S) [] rfl
  | [], _ :: _, _, _, _, _, l, _, _ => by cases l
  | _ :: _, [], _, _, _, _, l, _, _ => by cases l
  | k :: ks, e :: es, ρ, F, H, Q, l, S, h => by
    have h : Res X.K W Cl (mutE e || mutEs es) σ ρ F H ((ev Γ e ρ).bind fun x => (evs Γ es x.2).bind fun y => .got (x.1.1 :: y.1, y.2)) (fun vs _ F' H' => ∀ xs, VRs X.K F' H' vs xs → Q (((k :: ks).map kV).zip xs) H') := h
    refine ⟨ρ, F, S, (Res.bind h).imp id fun v ρ1 F1 H1 g1 h1 p rp => ?_⟩
    refine pairs_imp (ks := ks) (es := es) (by simpa using l) g1.sr ((Res.bind1 h1).imp id fun vs ρ2 F2 H2 g2 h2 xs r => ?_)
    exact Res.pure (P := fun vs _ F' H' => ∀ xs, VRs X.K F' H' vs xs → Q (((k :: ks).map kV).zip xs) H') g2.sr h2 (Gr.refl _ _) (p :: xs) ⟨p, xs, rfl, VR.mono (g1.sr.mono g2.ext) _ rp, r⟩
theorem paired_zip : ∀ {ks : List Key} {vs : List Val} {xs : List V}, ks.length = vs.length → VRs K F H vs xs → Paired (fun (p : Key × Val) (q : Key × V) => p.1 = q.1 ∧ VR K F H p.2 q.2) (ks.zip vs) (ks.zip xs)
  | [], _, _, _, _ => .nil
  | _ :: _, [], _, l, _ => by cases l
  | k :: ks, v :: vs, _, l, ⟨y, ys, e, r, q⟩ => by
    subst e
    exact .cons ⟨rfl, r⟩ (paired_zip (by simpa using l) q)
theorem zip_kV : ∀ {ks : List Key} {xs : List V}, (ks.map kV).zip xs = (ks.zip xs).map fun kv => (kV kv.1, kv.2)
  | [], _ => rfl
  | _ :: _, [] => rfl
  | k :: ks, x :: xs => by rw [List.map_cons, List.zip_cons_cons, List.zip_cons_cons, List.map_cons, zip_kV]
theorem SR.updK {D : Addr} {o : HO} {kvs : List (Key × V)} (S : SR K F H ρ σ) (nf : ¬ F D) (no : ¬ Own ρ σ D) (hl : H D = some (.dK kvs)) : SR K F (L2.upd H D o) ρ σ ∧ Mono F F H (L2.upd H D o) := by
  have mm : Mono F F H (L2.upd H D o) := by
    refine ⟨fun a f => ⟨f, upd_ne fun z => nf (z ▸ f)⟩, fun a ys h => ?_, fun a ob u h => ?_⟩
    · rw [upd_ne]
      · exact h
      · rintro rfl; rw [hl] at h; cases h
    · rw [upd_ne]
      · exact h
      · rintro rfl; rw [hl] at h; cases h
  refine ⟨⟨S.len, fun i s o' e1 e2 => ?_, S.dist, fun a f => ?_⟩, mm⟩
  · have q := S.slot i s o' e1 e2
    cases s with
    | no => trivial
    | fz v => obtain ⟨y, e, r⟩ := q; exact ⟨y, e, VR.mono mm v r⟩
    | ow v =>
      obtain ⟨a, e, nf2, w⟩ := q
      refine ⟨a, e, nf2, w.mono mm (upd_ne fun z => no ⟨i, v, e1, by rw [e2, e, z]⟩)⟩
  · obtain ⟨u, hu⟩ := S.ft a f
    have ne : a ≠ D := fun z => nf (z ▸ f)
    exact ⟨u, by rw [upd_ne ne]; exact hu⟩
theorem pe_disp' {ks : List Key} {es : List E} {keys : List (Option Expr)} {values : List Expr} (h : PPs X pos keys values (trsD X W Cl Γ ks es)) (hall : keys.all (·.isSome) = true) (hl : keys.length = values.length) (h0 : keys ≠ []) (h15 : keys.length ≤ 15) (hke : ks.length = es.length) :
    PE X (.Dict keys values pos) (TEv X W Cl Γ (.disp ks es)) := by
  refine PE.imp (pe_disp h hall hl h0 h15) fun σ H Q ⟨ρ, F, S, h⟩ p hp => ?_
  have g0 : Gr F F H (L2.upd H p (.dK [])) := ⟨Ext.laid _ F hp⟩
  have S0 := S.gr g0
  refine pairs_imp hke S0 ?_
  have h : Res X.K W Cl (mutEs es) σ ρ F H ((evs Γ es ρ).bind fun z => if ks.length = z.1.length ∧ ks.length ≤ 15 then .got ((.dic (mergeD [] [] (ks.zip z.1)).1 (mergeD [] [] (ks.zip z.1)).2, true), z.2) else .bad) (PQ X.K H Q) := h
  cases e : evs Γ es ρ with
  | bad => rw [e] at h; exact h
  | ex c q =>
    rw [e] at h
    exact fun d F' H' ex xr => h d F' H' ((g0.ext.wide fun _ z => z.elim).trans ex fun a o => .inl o) xr
  | got z =>
    rw [e] at h
    have h : Res X.K W Cl (mutEs es) σ ρ F H (if ks.length = z.1.length ∧ ks.length ≤ 15 then .got ((.dic (mergeD [] [] (ks.zip z.1)).1 (mergeD [] [] (ks.zip z.1)).2, true), z.2) else .bad) (PQ X.K H Q) := h
    by_cases hz : ks.length = z.1.length ∧ ks.length ≤ 15
    · rw [if_pos hz] at h
      intro F' H' go xs r
      have no0 : ¬ Own ρ σ p := fun o => S.ownSome o hp
      have hpd := go.ext.keep p _ upd_same no0
      have nfp : ¬ F' p := fun f => by
        rcases go.ext.new p f with q | q | q
        · obtain ⟨o, q⟩ := S.ft p q
          rw [hp] at q; cases q
        · rw [upd_same] at q; cases q
        · exact no0 q
      refine ⟨hpd, ks.zip xs, zip_kV, ?_, ?_⟩
      · rw [List.length_zip]
        exact Nat.le_trans (Nat.min_le_left _ _) hz.2
      · obtain ⟨S6, m6⟩ := SR.updK (o := .dK (mergeK [] (ks.zip xs))) go.sr nfp (fun o => no0 (go.own p o)) hpd
        refine h F' _ ⟨⟨fun a o q n => ?_, fun a o q => ?_, go.ext.sub, fun a f => ?_, fun t a f => S6.ft a f⟩, S6, go.own, fun em b o q => ?_⟩ (.ref p) ⟨p, rfl, nfp, hp, ?_⟩
        · have ne := ne_of_none q hp
          rw [upd_ne ne]
          exact go.ext.keep a o (by rw [upd_ne ne]; exact q) n
        · have ne := ne_of_none q hp
          obtain ⟨o', q'⟩ := go.ext.old a o (by rw [upd_ne ne]; exact q)
          exact ⟨o', by rw [upd_ne ne]; exact q'⟩
        · rcases go.ext.new a f with q | q | q
          · exact .inl q
          · by_cases ea : a = p
            · subst ea; rw [upd_same] at q; cases q
            · rw [upd_ne ea] at q; exact .inr (.inl q)
          · exact .inr (.inr q)
        · have ne := ne_of_none q hp
          rw [upd_ne ne]
          exact go.same em b o (by rw [upd_ne ne]; exact q)
        · exact ((DR.merge DR.nil (paired_zip hz.1 r)).mono m6).own upd_same
    · rw [if_neg hz] at h
      exact h.elim
end
end EV
set_option Elab.async false
set_option linter.all false
set_option maxRecDepth 100000
set_option maxHeartbeats 1000000
/-! isinstance; side facts of the text. -/
namespace EV
open PySem L2
section
variable {X : Cx} {W : WX} {Cl : Nat → Addr} {Γ : Env'} {a b c : E} {x y z : Expr} {pos : Pos}
variable {K : PySem.W.Frag} {F F' : Addr → Prop} {H H' : Hp}
def vty : Val → String
  | .non => "NoneType"
  | .bl _ => "bool"
  | .int _ => "int"
  | .str _ => "str"
  | .tup _ => "tuple"
  | .lst _ => "list"
  | .dic _ _ => "dict"
  | .scr _ => "list"
def tyS : Ty → String
  | .int => "int"
  | .bool => "bool"
  | .str => "str"
  | .tuple => "tuple"
  | .list => "list"
def tyN' : Ty → Str
  | .int => "int"
  | .bool => "bool"
  | .str => "str"
  | .tuple => "tuple"
  | .list => "list"
theorem boot_ty (t : Ty) : bootBuiltins (tyN' t) = some (.type (tyS t)) ∧ tyN' t ≠ "__name__" ∧ (tyN' t == ("__debug__" : Str)) = false := by
  cases t <;> refine ⟨by decide +kernel, by decide +kernel, by decide +kernel⟩
theorem kit_all (v : Val) (t : Ty) : PySem.W.kitOne K (.type (vty v)) (.type (tyS t)) = some (isTy v t) := by
  cases v <;> cases t <;> (simp only [vty, tyS, isTy]; exact kit_ty (by decide +kernel))
theorem kit_any (v : Val) : ∀ ts : List Ty, PySem.W.kitAny K (.type (vty v)) (ts.map fun t => .type (tyS t)) = some (ts.any (isTy v))
  | [] => by rw [List.map_nil, PySem.W.kitAny]; rfl
  | t :: ts => by
    rw [List.map_cons, PySem.W.kitAny, kit_all v t]
    cases h : isTy v t with
    | true => simp [h]
    | false => simp [h, kit_any v ts]
theorem BR.ty {v : Val} {p : V} (r : BR K F H v p) : TyX K H p (.type (vty v)) := by
  cases v with
  | non => rw [r.non]; exact .base .non
  | bl i => rw [r.bl]; exact .base (.bl i)
  | int i => rw [r.int]; exact .base (.int i)
  | str i => rw [r.str]; exact .base (.str i)
  | tup vs =>
    obtain ⟨a, xs, rfl, q, _⟩ := r.tup
    rcases q with (q | ⟨o, q⟩) | ⟨o, its, n, q1, q2, _⟩
    · exact .base (.tup q)
    · exact .fTuple q
    · exact .kTuple q1 q2
  | lst vs =>
    obtain ⟨a, xs, rfl, q, _⟩ := r.lst
    exact .base (.lst q)
  | dic ks vs =>
    obtain ⟨a, xs, rfl, q, _⟩ := r.dic
    rcases q with q | ⟨o, q⟩
    · exact .base (.dK q)
    · exact .fDict q
  | scr vs =>
    rcases r with ⟨a, xs, rfl, q, _⟩ | ⟨a, _, w⟩
    · rcases q with ⟨_, q⟩ | ⟨o, q⟩ | ⟨o, its, n, q1, q2, _⟩
      · exact .base (.lst q)
      · exact .base (.frz q)
      · exact .kList q1 q2
    · exact w.elim
theorem pe_ty (t : Ty) {p : Pos} (hg : Gl X (tyN' t)) (hm : X.mg (tyN' t) = none) : PE X (.Name (tyN' t) p) (tC (.ty (tyS t))) :=
  pe_bltn hg hm (boot_ty t).1 rfl (boot_ty t).2.1 (boot_ty t).2.2
theorem boot_isi : bootBuiltins "isinstance" = some (.builtin "isinstance") := by decide +kernel
theorem pe_isi' {t : Ty} {p p2 : Pos} (ha : PE X x (TBv X W Cl Γ a)) (hi : Gl X "isinstance") (hm : X.mg "isinstance" = none) (hg : Gl X (tyN' t)) (hm2 : X.mg (tyN' t) = none)
    (st : starEach [x, .Name (tyN' t) p] X.env = (false, eval x X.env) :: starEach [.Name (tyN' t) p] X.env) : PE X (.Call (.Name "isinstance" p2) [x, .Name (tyN' t) p] [] pos) (TEv X W Cl Γ (.isi a t)) := by
  refine PE.imp (pe_callB call_isi hi hm boot_isi (pa_cons ha (pa_cons (pe_ty t hg hm2) pa_nil rfl) st) (by decide +kernel) (by decide +kernel) st rfl) fun σ H Q ⟨ρ, F, S, h⟩ => ⟨ρ, F, S, ?_⟩
  refine (Res.bind1 (m := mutE a) h).imp id fun v ρ1 F1 H1 g1 h1 p rp => ?_
  refine ⟨p, .ty (tyS t), _, _, _, rfl, .ty _, rp.br.ty, kit_all v t, ?_⟩
  exact Res.pure g1.sr h1 (Gr.refl _ _) (.bl (isTy v t)) rfl
def chkTys (sc : Scope) (free : List Str) : List Ty → List Expr → Bool
  | [], [] => true
  | t :: ts, .Name n _ :: es => n == tyN' t && (sc.names.lookup n == some .globalImplicit) && free.contains n && chkTys sc free ts es
  | _, _ => false
theorem pa_tys {sc : Scope} {free : List Str} (hs : X.env.scope = sc) (hf : ∀ n ∈ free, X.mg n = none) : ∀ {ts : List Ty} {es : List Expr}, chkTys sc free ts es = true → PA X es fun _ H Q => Q (ts.map fun t => .ty (tyS t)) H
  | [], [], _ => pa_nil
  | [], _ :: _, h => by cases h
  | _ :: _, [], h => by cases h
  | t :: ts, .Name n p :: es, h => by
    simp only [chkTys, Bool.and_eq_true, beq_iff_eq, List.contains_iff_mem] at h
    obtain ⟨⟨⟨rfl, h2⟩, h3⟩, h4⟩ := h
    exact PA.imp (pa_cons (pe_ty t (show X.env.scope.names.lookup _ = _ by rw [hs]; exact h2) (hf _ h3)) (pa_tys hs hf h4) rfl) fun σ H Q q => q
theorem paired_ty : ∀ ts : List Ty, Paired ClsV (ts.map fun t => V.ty (tyS t)) (ts.map fun t => Value.type (tyS t))
  | [] => .nil
  | _ :: ts => .cons (.ty _) (paired_ty ts)
theorem pe_isis' {ts : List Ty} {es : List Expr} {k : Nat} {p p2 : Pos} (ha : PE X x (TBv X W Cl Γ a)) (hi : Gl X "isinstance") (hm : X.mg "isinstance" = none) (hes : PA X es fun _ H Q => Q (ts.map fun t => .ty (tyS t)) H)
    (st : starEach [x, .Tuple es k p] X.env = (false, eval x X.env) :: starEach [.Tuple es k p] X.env) (hl : ts.length ≤ sizeLine) : PE X (.Call (.Name "isinstance" p2) [x, .Tuple es k p] [] pos) (TEv X W Cl Γ (.isis a ts)) := by
  refine PE.imp (pe_callB call_isiT hi hm boot_isi (pa_cons ha (pa_cons (pe_tup hes) pa_nil rfl) st) (by decide +kernel) (by decide +kernel) st rfl) fun σ H Q ⟨ρ, F, S, h⟩ => ⟨ρ, F, S, ?_⟩
  refine (Res.bind1 (m := mutE a) h).imp id fun v ρ1 F1 H1 g1 h1 p rp => ?_
  refine ⟨by simpa using hl, fun tp htp => ?_⟩
  have g : Gr F1 F1 H1 (upd H1 tp (.tup (ts.map fun t => .ty (tyS t)))) := ⟨Ext.laid _ F1 htp⟩
  have br : BR X.K F1 (upd H1 tp (.tup (ts.map fun t => .ty (tyS t)))) v p := by
    rcases rp.br with r | ⟨a, e, w⟩
    · exact .inl (VR.mono (g.mono g1.sr.ft) _ r)
    · refine .inr ⟨a, e, w.mono (g.mono g1.sr.ft) ?_⟩
      rw [upd_ne]
      rintro rfl
      rcases w.kind with ⟨ys, z⟩ | ⟨ys, z⟩ <;> (rw [htp] at z; cases z)
  refine ⟨p, tp, _, _, _, _, rfl, upd_same, paired_ty ts, br.ty, kit_any v ts, ?_⟩
  exact Res.pure g1.sr h1 g (.bl (ts.any (isTy v))) rfl
/-! ### side facts -/
def plainX : Expr → Bool
  | .Starred .. => false
  | .Slice .. => false
  | .Set .. => false
  | _ => true
theorem plain_star {x : Expr} {xs : List Expr} {env : Env} (h : plainX x = true) : starEach (x :: xs) env = (false, eval x env) :: starEach xs env := by
  cases x <;> first | rfl | cases h
theorem plain_set {x : Expr} {env : Env} (h : plainX x = true) (v : Value) : foldedSetIterable x env v = pure v := by
  cases x <;> first | rfl | cases h
theorem plain_marks {x : Expr} {op : CmpOp} (h : plainX x = true) : behindInMarks op x = false := by
  cases x <;> first | rfl | cases h
theorem plain_ix {x : Expr} (h : plainX x = true) : PlainIx x := by
  cases x <;> first | (intro o i; rfl) | cases h
theorem plain_asg {x : Expr} {xs : List Expr} {env : Env} (h : plainX x = true) : (assignEach (x :: xs) env) = (false, assign x env) :: (assignEach xs env) := by
  cases x <;> first | rfl | cases h
theorem plain_last {op op' : CmpOp} {y z : Expr} (h : plainX y = true) (h2 : plainX z = true) : lastMarks [op, op'] [y, z] = false := by
  show (behindInMarks op' z) = false
  exact plain_marks h2
theorem plain_stars {xs : List Expr} {env : Env} (h : xs.all plainX = true) : ∀ p ∈ starEach xs env, p.1 = false := by
  induction xs with
  | nil => intro p m; cases m
  | cons x xs ih =>
    rw [List.all_cons, Bool.and_eq_true] at h
    rw [plain_star h.1]
    intro p m
    rcases List.mem_cons.mp m with e | m
    · rw [e]
    · exact ih h.2 p m
theorem plain_back {xs : List Expr} {env : Env} (h : xs.all plainX = true) : (backTo pos (starEach xs env)).any (·.1) = false := by
  rw [List.any_eq_false]
  intro p m
  unfold backTo at m
  obtain ⟨q, m2, e⟩ := List.mem_map.mp m
  rw [← e]
  simpa using plain_stars h q m2
end
end EV
set_option Elab.async false
set_option linter.all false
set_option maxRecDepth 100000
set_option maxHeartbeats 1000000
/-! The check that an expression of the text is an expression of the language, and that it is read so. -/
namespace EV
open PySem L2
structure CC where
  N : List Str
  sc : Scope
  /-- inside a comprehension: its own scope as it stands in the text -/
  psc : Option Scope
  fns : List Str
  cls : List Str
  gl : List Str
  free : List Str
  gcd : Bool
def CC.fnB (C : CC) (x : Str) : Bool := match C.psc with
  | none => true
  | some s => s.names.lookup x == some .cell
def CC.glB (C : CC) (x : Str) : Bool := (C.sc.names.lookup x == some .globalImplicit) && !(x == ("__debug__" : Str))
def CC.freeB (C : CC) (x : Str) : Bool := C.glB x && C.free.contains x
def CC.nameB (C : CC) (i : Nat) (x : Str) : Bool := (C.N[i]? == some x) && (match C.sc.names.lookup x with | some .local => true | some .cell => true | some .free => true | _ => false) && !(x == ("__debug__" : Str)) && !(x == ("__classdict__" : Str))
def CC.stoB (C : CC) (i : Nat) (x : Str) : Bool := (C.N[i]? == some x) && (match C.sc.names.lookup x with | some .local => true | some .cell => C.fnB x | _ => false)
def CC.blk (C : CC) (s : Scope) : CC := { C with sc := relS s C.sc, psc := some s }
def opB : Op → Operator → Bool
  | .add, .Add => true
  | .sub, .Sub => true
  | .mul, .Mult => true
  | .fdiv, .FloorDiv => true
  | .mod, .Mod => true
  | .pow, .Pow => true
  | _, _ => false
theorem opB_ok {o : Op} {p : Operator} (h : opB o p = true) : p = opS o := by cases o <;> cases p <;> first | rfl | cases h
def cmB : Cm → CmpOp → Bool
  | .eq, .Eq => true
  | .ne, .NotEq => true
  | .lt, .Lt => true
  | .le, .LtE => true
  | .gt, .Gt => true
  | .ge, .GtE => true
  | .isN, .Is => true
  | .notN, .IsNot => true
  | .in_, .In => true
  | .notin, .NotIn => true
  | _, _ => false
theorem cmB_ok {o : Cm} {p : CmpOp} (h : cmB o p = true) : p = cmS o := by cases o <;> cases p <;> first | rfl | cases h
def ifE : E → Bool
  | .ife _ _ _ => true
  | _ => false
def boolE : E → Bool
  | .and _ _ => true
  | .or _ _ => true
  | .one _ => true
  | _ => false
def itOnly : E → Bool
  | .rng1 _ => true
  | .rng2 _ _ => true
  | .rng3 _ _ _ => true
  | .enum _ => true
  | .zip _ _ => true
  | _ => false
def nopE : E → Bool
  | .nop => true
  | _ => false
def isTupX : Expr → Bool
  | .Tuple _ _ _ => true
  | _ => false
def tgOk (it : E) (tg : Expr) : Bool := match it with
  | .enum _ => isTupX tg
  | _ => true
mutual
def chkT (C : CC) : Tg → Expr → Bool
  | .nm i, x => (match x with
    | .Name n _ => C.stoB i n
    | _ => false)
  | .tp ts, x => (match x with
    | .Tuple xs _ _ => xs.all plainX && chkTs C ts xs
    | _ => false)
def chkTs (C : CC) : List Tg → List Expr → Bool
  | [], [] => true
  | t :: ts, x :: xs => chkT C t x && chkTs C ts xs
  | _, _ => false
end
def chkKs : List Key → List (Option Expr) → Bool
  | [], [] => true
  | .inl i :: ks, some (.Constant (.int j) _ _) :: xs => decide (i = j) && chkKs ks xs
  | .inr i :: ks, some (.Constant (.str j) _ _) :: xs => (i == j) && chkKs ks xs
  | _, _ => false
mutual
/-- C: what is known of the frame; m: to be gone through; x: the text -/
def chk : E → CC → Bool → Expr → Bool
  | .var i, C, m, x => (match x with
    | .Name n _ => C.nameB i n
    | _ => false)
  | .non, C, m, x => (match x with
    | .Constant .none _ _ => true
    | _ => false)
  | .bl b, C, m, x => (match x with
    | .Constant (.bool c) _ _ => b == c
    | _ => false)
  | .int i, C, m, x => (match x with
    | .Constant (.int j) _ _ => decide (i = j)
    | _ => false)
  | .str s, C, m, x => (match x with
    | .Constant (.str t) _ _ => s == t
    | _ => false)
  | .glob g, C, m, x => (match x with
    | .Name n _ => (C.gl[g]? == some n) && C.glB n
    | _ => false)
  | .bin op a b, C, m, x => (match x with
    | .BinOp xa o xb _ => opB op o && chk a C false xa && chk b C false xb && !(itOnly a || itOnly b) && !(isVar a && mutE b)
    | _ => false)
  | .neg a, C, m, x => (match x with
    | .UnaryOp .USub xa _ => chk a C false xa && !itOnly a
    | _ => false)
  | .not a, C, m, x => (match x with
    | .UnaryOp .Not xa _ => chk a C false xa && !itOnly a && !ifE a
    | _ => false)
  | .and a b, C, m, x => (match x with
    | .BoolOp .And (xa :: y :: r) pos => chk a C false xa && chk b C false (.BoolOp .And (y :: r) pos) && !itOnly a && !ifE a && boolE b
    | _ => false)
  | .or a b, C, m, x => (match x with
    | .BoolOp .Or (xa :: y :: r) pos => chk a C false xa && chk b C false (.BoolOp .Or (y :: r) pos) && !itOnly a && !ifE a && boolE b
    | _ => false)
  | .one a, C, m, x => (match x with
    | .BoolOp _ [xa] _ => chk a C false xa && !itOnly a && !ifE a
    | _ => false)
  | .ife c a b, C, m, x => (match x with
    | .IfExp xc xa xb _ => chk c C false xc && chk a C false xa && chk b C false xb && !(itOnly c || ifE c || itOnly a || itOnly b)
    | _ => false)
  | .cmp op a b, C, m, x => (match x with
    | .Compare xa [o] [xb] _ => cmB op o && chk a C false xa && chk b C false xb && !(itOnly a || itOnly b) && !(isVar a && mutE b) && plainX xb
    | _ => false)
  | .chain op op' a b c, C, m, x => (match x with
    | .Compare xa [o, o'] [xb, xc] _ => cmB op o && cmB op' o' && chk a C false xa && chk b C false xb && chk c C false xc && !(itOnly a || itOnly b || itOnly c) && !(isVar a && mutE b) && !(isVar b && mutE c) && plainX xb && plainX xc
    | _ => false)
  | .call f es, C, m, x => (match x with
    | .Call (.Name n _) xs [] _ => (C.fns[f]? == some n) && C.glB n && xs.all plainX && chks es C xs
    | _ => false)
  | .bi b es, C, m, x => (match x with
    | .Call (.Name n _) (y :: xs) [] _ => (n == biN b) && C.glB n && (match b with | .gcd => C.gcd | _ => C.free.contains n) && (y :: xs).all plainX && chks es C (y :: xs) && ordB es
    | _ => false)
  | .isi a t, C, m, x => (match x with
    | .Call (.Name n _) [xa, .Name k _] [] _ => (n == ("isinstance" : Str)) && C.freeB n && (k == tyN' t) && C.freeB k && plainX xa && chk a C false xa && !itOnly a
    | _ => false)
  | .isis a ts, C, m, x => (match x with
    | .Call (.Name n _) [xa, .Tuple es _ _] [] _ => (n == ("isinstance" : Str)) && C.freeB n && chkTys C.sc C.free ts es && decide (ts.length ≤ sizeLine) && plainX xa && chk a C false xa && !itOnly a
    | _ => false)
  | .ix a b, C, m, x => (match x with
    | .Subscript xa xb _ => chk a C false xa && chk b C false xb && !(itOnly a || itOnly b) && !(isVar a && mutE b) && plainX xb
    | _ => false)
  | .sl a lo hi, C, m, x => (match x with
    | .Subscript xa (.Slice xl xh none _) _ => chk a C false xa && (match xl with | none => nopE lo | some z => chk lo C false z && !itOnly lo && !nopE lo) && (match xh with | none => nopE hi | some z => chk hi C false z && !itOnly hi && !nopE hi) && !itOnly a && !(isVar a && (mutE lo || mutE hi))
    | _ => false)
  | .nop, C, m, x => false
  | .rev a, C, m, x => (match x with
    | .Subscript xa (.Slice none none (some (.UnaryOp .USub (.Constant (.int i) _ _) _)) _) _ => decide (i = 1) && chk a C false xa && !itOnly a
    | _ => false)
  | .tup es, C, m, x => (match x with
    | .Tuple xs _ _ => xs.all plainX && chks es C xs
    | _ => false)
  | .lst es, C, m, x => (match x with
    | .List xs _ => xs.all plainX && chks es C xs
    | _ => false)
  | .lc elt tg it c own, C, m, x => (match x with
    | .ListComp xe [⟨xt, xi, xfs, asy⟩] scope _ => decide (asy = 0) && chk it C true xi && tgOk it xt && plainX xi && blkC C.N C.sc scope (own.map fun i => (C.N.getD i "", i)) && chkT (C.blk scope) tg xt && chk elt (C.blk scope) false xe && !itOnly elt && (slotsT tg).all own.contains &&
        (match xfs with | [] => nopE c | [xc] => chk c (C.blk scope) false xc && !(itOnly c || ifE c || nopE c) | _ => false)
    | _ => false)
  | .lc2 elt tg it c tg' it' c' own own', C, m, x => false
  | .rng1 a, C, m, x => (match x with
    | .Call (.Name n _) [xa] [] _ => m && (n == ("range" : Str)) && C.freeB n && plainX xa && chk a C false xa && !itOnly a
    | _ => false)
  | .rng2 a b, C, m, x => (match x with
    | .Call (.Name n _) [xa, xb] [] _ => m && (n == ("range" : Str)) && C.freeB n && plainX xa && plainX xb && chk a C false xa && chk b C false xb && !(itOnly a || itOnly b)
    | _ => false)
  | .rng3 a b c, C, m, x => false
  | .enum a, C, m, x => (match x with
    | .Call (.Name n _) [xa] [] _ => m && (n == ("enumerate" : Str)) && C.freeB n && plainX xa && chk a C false xa && !itOnly a
    | _ => false)
  | .zip a b, C, m, x => false
  | .disp ks es, C, m, x => (match x with
    | .Dict keys values _ => chkKs ks keys && chks es C values && values.all plainX && decide (keys.length ≤ 15) && decide (ks.length = es.length)
    | _ => false)
  | .get d k v, C, m, x => (match x with
    | .Call (.Attribute (.Name n np) mm ap) [xk, xv] [] cp => (mm == ("get" : Str)) && (ap.endLine == cp.line) && plainX xk && plainX xv && chk d C false (.Name n np) && chk k C false xk && chk v C false xv && !(itOnly d || itOnly k || itOnly v) && !(isVar d && (mutE k || mutE v))
    | _ => false)
  | .lcK elt tg i c own, C, m, x => (match x with
    | .ListComp xe [⟨xt, .Name n _, xfs, asy⟩] scope _ => decide (asy = 0) && C.nameB i n && blkC C.N C.sc scope (own.map fun i => (C.N.getD i "", i)) && chkT (C.blk scope) tg xt && chk elt (C.blk scope) false xe && !itOnly elt && (slotsT tg).all own.contains &&
        (match xfs with | [] => nopE c | [xc] => chk c (C.blk scope) false xc && !(itOnly c || ifE c || nopE c) | _ => false)
    | _ => false)
  | .items d, C, m, x => false
  | .val a, C, m, x => chk a C false x && !itOnly a && !ifE a && !boolE a
def chks : List E → CC → List Expr → Bool
  | [], C, xs => (match xs with
    | [] => true
    | _ => false)
  | e :: es, C, xs => (match xs with
    | x :: xs => chk e C false x && !itOnly e && chks es C xs
    | [] => false)
/-- what is read first stays -/
def ordB : List E → Bool
  | [] => true
  | e :: es => !(isVar e && mutEs es) && ordB es
end
/-! ### what is known of a place -/
structure Glb (C : CC) (d : Nat) (prog : Program) (w : World) (K : PySem.W.Frag) (mg : Str → Option Value) (base : Heap) (Cl : Nat → Addr) (Γ : Env') : Prop where
  fns : ∀ f x, C.fns[f]? = some x → ∃ (a : Addr) (fd : FuncData) (ps : List Str), FnOk prog w K mg base (CX prog w) d a fd ps (spF K Cl (Γ.den f)) ∧ mg x = some (.ref a) ∧ PySem.W.keepIn K (.ref a) = true ∧ Binds K fd ps []
  free : ∀ x ∈ C.free, mg x = none
  gcd : C.gcd = true → mg "gcd" = some (.builtin "math.gcd")
  gl : ∀ (g : Nat) (n : Str), C.gl[g]? = some n → ∃ (v : Val) (u : Value) (y : V), Γ.gl[g]? = some (n, v) ∧ mg n = some u ∧ RelV y u ∧ ∀ F H, VR K F H v y
structure CxOk (C : CC) (d : Nat) (X : Cx) (W : WX) (Cl : Nat → Addr) (Γ : Env') : Prop where
  nd : X.N.Nodup
  n : X.N = C.N
  sc : X.env.scope = C.sc
  fn : ∀ x, X.fn x = C.fnB x
  calm : X.calm = true
  room : Room d X.A
  tk : Takes X W
  glb : Glb C d X.prog X.w X.K X.mg X.base Cl Γ
section
variable {C : CC} {d : Nat} {X : Cx} {W : WX} {Cl : Nat → Addr} {Γ : Env'}
theorem CxOk.units (c : CxOk C d X W Cl Γ) : X.A.units + 65 < cLine := by have := c.room.un; omega
theorem CxOk.gl' (c : CxOk C d X W Cl Γ) {x : Str} (h : C.glB x = true) : Gl X x ∧ (x == ("__debug__" : Str)) = false := by
  simp only [CC.glB, Bool.and_eq_true, beq_iff_eq, Bool.not_eq_true'] at h
  exact ⟨show X.env.scope.names.lookup x = _ by rw [c.sc]; exact h.1, h.2⟩
theorem CxOk.free' (c : CxOk C d X W Cl Γ) {x : Str} (h : C.freeB x = true) : Gl X x ∧ X.mg x = none := by
  simp only [CC.freeB, Bool.and_eq_true, List.contains_iff_mem] at h
  exact ⟨(c.gl' h.1).1, c.glb.free x h.2⟩
theorem CxOk.blk (c : CxOk C d X W Cl Γ) (s : Shared) (H : Hp) (scope : Scope) (A : Addr) (cl : List (Str × Addr)) (fp : List Addr) : CxOk (C.blk scope) d (X.blk s H scope (compEnvC scope cl A X.env) fp) W0 Cl Γ :=
  ⟨c.nd, c.n, by show relS scope X.env.scope = relS scope C.sc; rw [c.sc], fun _ => rfl, c.calm, c.room, fun u s' ⟨a, B, sI, pins, σ, H, cls, d, _, _, _, _, _, _, _, _, z⟩ => z, ⟨c.glb.fns, c.glb.free, c.glb.gcd, c.glb.gl⟩⟩
end
end EV
set_option Elab.async false
set_option linter.all false
set_option maxRecDepth 100000
set_option maxHeartbeats 1000000
/-! An expression that passes the check is read as the evaluator says. -/
namespace EV
open PySem L2
structure Snd (X : Cx) (W : WX) (Cl : Nat → Addr) (Γ : Env') (e : E) (m : Bool) (x : Expr) : Prop where
  pe : itOnly e = false → PE X x (TEv X W Cl Γ e)
  pt : itOnly e = false → ifE e = false → PT X x (TTv X W Cl Γ e)
  pw : boolE e = true → PW X x (TTv X W Cl Γ e)
  pi : m = true → ∀ tg, tgOk e tg = true → PI X tg x (TIt X W Cl Γ e)
def SE (d : Nat) (Cl : Nat → Addr) (Γ : Env') (e : E) : Prop := ∀ (C : CC) (m : Bool) (x : Expr) (X : Cx) (W : WX), chk e C m x = true → CxOk C d X W Cl Γ → Snd X W Cl Γ e m x
section
variable {C : CC} {d : Nat} {X : Cx} {W : WX} {Cl : Nat → Addr} {Γ : Env'} {a b c e : E} {x y z : Expr} {m : Bool} {pos : Pos}
theorem PW.pt (h : PW X x (TTv X W Cl Γ e)) : PT X x (TTv X W Cl Γ e) := ⟨fun pins s σ H Q I q => h.run _ pins s σ H Q I q⟩
theorem Snd.val (h : PE X x (TEv X W Cl Γ e)) (ht : ∀ whole, isTrue x X.env whole = (do let v ← whole; standAt x.pos; holding [v] (truthy v))) (hb : boolE e = false) : Snd X W Cl Γ e m x :=
  ⟨fun _ => h, fun _ _ => pt_tru h ht, fun k => (by rw [hb] at k; cases k), fun _ tg _ => pi_val h⟩
theorem Snd.valT (h : PE X x (TEv X W Cl Γ e)) (ht : PT X x (TTv X W Cl Γ e)) (hb : boolE e = false) : Snd X W Cl Γ e m x :=
  ⟨fun _ => h, fun _ _ => ht, fun k => (by rw [hb] at k; cases k), fun _ tg _ => pi_val h⟩
theorem SE.bor (h : SE d Cl Γ a) (hc : chk a C false x = true) (ok : CxOk C d X W Cl Γ) (hi : itOnly a = false) : PE X x (TBv X W Cl Γ a) := by
  have s := h C false x X W hc ok
  cases hv : isVar a with
  | false => exact pe_bor (s.pe hi) hv
  | true =>
    cases a with
    | var i =>
      unfold chk at hc
      cases x with
      | Name n p =>
        simp only [CC.nameB, Bool.and_eq_true, beq_iff_eq, Bool.not_eq_true'] at hc
        obtain ⟨⟨⟨h1, h2⟩, h3⟩, h4⟩ := hc
        exact pe_borV (pv i (by rw [ok.n]; exact h1) (by
          show List.lookup n X.env.scope.names = _ ∨ List.lookup n X.env.scope.names = _ ∨ List.lookup n X.env.scope.names = _
          rw [ok.sc]
          split at h2
          · rename_i q; exact .inl q
          · rename_i q; exact .inr (.inl q)
          · rename_i q; exact .inr (.inr q)
          · cases h2) h3 h4)
      | _ => cases hc
    | _ => cases hv
theorem name_ok {i : Nat} {n : Str} {p : Pos} (ok : CxOk C d X W Cl Γ) (hc : C.nameB i n = true) : PE X (.Name n p) (tVar i) := by
  simp only [CC.nameB, Bool.and_eq_true, beq_iff_eq, Bool.not_eq_true'] at hc
  obtain ⟨⟨⟨h1, h2⟩, h3⟩, h4⟩ := hc
  exact pv i (by rw [ok.n]; exact h1) (by
    show List.lookup n X.env.scope.names = _ ∨ List.lookup n X.env.scope.names = _ ∨ List.lookup n X.env.scope.names = _
    rw [ok.sc]
    split at h2
    · rename_i q; exact .inl q
    · rename_i q; exact .inr (.inl q)
    · rename_i q; exact .inr (.inr q)
    · cases h2) h3 h4
theorem snd_var {i : Nat} : SE d Cl Γ (.var i) := fun C m x X W h ok => by
  unfold chk at h
  split at h
  · exact Snd.val (pe_var' (name_ok ok h)) (fun _ => rfl) rfl
  · cases h
theorem snd_non : SE d Cl Γ .non := fun C m x X W h ok => by
  unfold chk at h
  split at h
  · exact Snd.val (pe_con' (v := .non) pe_non (fun _ => rfl) fun _ _ => rfl) (fun _ => rfl) rfl
  · cases h
theorem snd_bl {b : Bool} : SE d Cl Γ (.bl b) := fun C m x X W h ok => by
  unfold chk at h
  split at h
  · cases (beq_iff_eq.mp h)
    exact Snd.val (pe_con' (v := .bl b) pe_bl (fun _ => rfl) fun _ _ => rfl) (fun _ => rfl) rfl
  · cases h
theorem snd_int {i : Int} : SE d Cl Γ (.int i) := fun C m x X W h ok => by
  unfold chk at h
  split at h
  · cases (of_decide_eq_true h)
    exact Snd.val (pe_con' (v := .int i) pe_int (fun _ => rfl) fun _ _ => rfl) (fun _ => rfl) rfl
  · cases h
theorem snd_str {i : Str} : SE d Cl Γ (.str i) := fun C m x X W h ok => by
  unfold chk at h
  split at h
  · cases (beq_iff_eq.mp h)
    exact Snd.val (pe_con' (v := .str i) pe_str (fun _ => rfl) fun _ _ => rfl) (fun _ => rfl) rfl
  · cases h
theorem snd_glob {g : Nat} : SE d Cl Γ (.glob g) := fun C m x X W h ok => by
  unfold chk at h
  split at h
  · rename_i n p
    simp only [Bool.and_eq_true, beq_iff_eq] at h
    obtain ⟨h1, h2⟩ := h
    obtain ⟨v, u, y, e1, e2, e3, e4⟩ := ok.glb.gl g n h1
    refine Snd.val (pe_con' (v := v) (pe_glob (ok.gl' h2).1 e2 e3 (ok.gl' h2).2) (fun ρ => ?_) e4) (fun _ => rfl) rfl
    show (match Γ.gl[g]? with
      | some p => R.got ((p.2, false), ρ)
      | none => .bad) = _
    rw [e1]
  · cases h
theorem or_false {p q : Bool} (h : (!(p || q)) = true) : p = false ∧ q = false := by cases p <;> cases q <;> first | exact ⟨rfl, rfl⟩ | cases h
theorem and_imp {p q : Bool} (h : (!(p && q)) = true) : p = true → q = false := by
  intro hp
  rw [hp] at h
  simpa using h
theorem snd_bin {op : Op} (ia : SE d Cl Γ a) (ib : SE d Cl Γ b) : SE d Cl Γ (.bin op a b) := fun C m x X W h ok => by
  unfold chk at h
  split at h
  · simp only [Bool.and_eq_true] at h
    obtain ⟨⟨⟨⟨h1, h2⟩, h3⟩, h4⟩, h5⟩ := h
    rw [opB_ok h1]
    exact Snd.val (pe_bin (ia.bor h2 ok (or_false h4).1) (ib.bor h3 ok (or_false h4).2) (and_imp h5)) (fun _ => rfl) rfl
  · cases h
theorem snd_neg (ia : SE d Cl Γ a) : SE d Cl Γ (.neg a) := fun C m x X W h ok => by
  unfold chk at h
  split at h
  · simp only [Bool.and_eq_true, Bool.not_eq_true'] at h
    exact Snd.val (pe_neg ((ia _ _ _ _ _ h.1 ok).pe h.2)) (fun _ => rfl) rfl
  · cases h
theorem snd_not (ia : SE d Cl Γ a) : SE d Cl Γ (.not a) := fun C m x X W h ok => by
  unfold chk at h
  split at h
  · simp only [Bool.and_eq_true, Bool.not_eq_true'] at h
    have s := ia _ _ _ _ _ h.1.1 ok
    exact Snd.valT (pe_not' (s.pe h.1.2)) (pt_not' (s.pt h.1.2 h.2)) rfl
  · cases h
theorem snd_and (ia : SE d Cl Γ a) (ib : SE d Cl Γ b) : SE d Cl Γ (.and a b) := fun C m x X W h ok => by
  unfold chk at h
  split at h
  · simp only [Bool.and_eq_true, Bool.not_eq_true'] at h
    obtain ⟨⟨⟨⟨h1, h2⟩, h3⟩, h4⟩, h5⟩ := h
    have s := ia _ _ _ _ _ h1 ok
    have t := ib _ _ _ _ _ h2 ok
    have nb : itOnly b = false := by cases b <;> first | rfl | cases h5
    have w := pw_and' (s.pt h3 h4) (t.pw h5)
    exact ⟨fun _ => pe_and' (s.pe h3) (t.pe nb), fun _ _ => w.pt, fun _ => w, fun _ tg _ => pi_val (pe_and' (s.pe h3) (t.pe nb))⟩
  · cases h
theorem snd_or (ia : SE d Cl Γ a) (ib : SE d Cl Γ b) : SE d Cl Γ (.or a b) := fun C m x X W h ok => by
  unfold chk at h
  split at h
  · simp only [Bool.and_eq_true, Bool.not_eq_true'] at h
    obtain ⟨⟨⟨⟨h1, h2⟩, h3⟩, h4⟩, h5⟩ := h
    have s := ia _ _ _ _ _ h1 ok
    have t := ib _ _ _ _ _ h2 ok
    have nb : itOnly b = false := by cases b <;> first | rfl | cases h5
    have w := pw_or' (s.pt h3 h4) (t.pw h5)
    exact ⟨fun _ => pe_or' (s.pe h3) (t.pe nb), fun _ _ => w.pt, fun _ => w, fun _ tg _ => pi_val (pe_or' (s.pe h3) (t.pe nb))⟩
  · cases h
theorem snd_one (ia : SE d Cl Γ a) : SE d Cl Γ (.one a) := fun C m x X W h ok => by
  unfold chk at h
  split at h
  · rename_i o xa p
    simp only [Bool.and_eq_true, Bool.not_eq_true'] at h
    have s := ia _ _ _ _ _ h.1.1 ok
    have e : PE X (.BoolOp o [xa] p) (TEv X W Cl Γ (.one a)) := pe_one (s.pe h.1.2)
    have w : PW X (.BoolOp o [xa] p) (TTv X W Cl Γ (.one a)) := by
      cases o with
      | And => exact pw_and1 (s.pt h.1.2 h.2)
      | Or => exact pw_or1 (s.pt h.1.2 h.2)
    exact ⟨fun _ => e, fun _ _ => w.pt, fun _ => w, fun _ tg _ => pi_val e⟩
  · cases h
theorem snd_ife (ic : SE d Cl Γ c) (ia : SE d Cl Γ a) (ib : SE d Cl Γ b) : SE d Cl Γ (.ife c a b) := fun C m x X W h ok => by
  unfold chk at h
  split at h
  · simp only [Bool.and_eq_true, Bool.not_eq_true', Bool.or_eq_false_iff] at h
    obtain ⟨⟨⟨h1, h2⟩, h3⟩, ⟨⟨h4, h5⟩, h6⟩, h7⟩ := h
    have e := pe_ife (pos := by assumption) ((ic _ _ _ _ _ h1 ok).pt h4 h5) ((ia _ _ _ _ _ h2 ok).pe h6) ((ib _ _ _ _ _ h3 ok).pe h7)
    exact ⟨fun _ => e, fun _ k => (by cases k), fun k => (by cases k), fun _ tg _ => pi_val e⟩
  · cases h
theorem snd_cmp {op : Cm} (ia : SE d Cl Γ a) (ib : SE d Cl Γ b) : SE d Cl Γ (.cmp op a b) := fun C m x X W h ok => by
  unfold chk at h
  split at h
  · simp only [Bool.and_eq_true] at h
    obtain ⟨⟨⟨⟨⟨h1, h2⟩, h3⟩, h4⟩, h5⟩, h6⟩ := h
    rw [cmB_ok h1]
    exact Snd.valT (pe_cm ok.units (ia.bor h2 ok (or_false h4).1) (ib.bor h3 ok (or_false h4).2) (and_imp h5) (plain_marks h6)) (pt_cm ok.units (ia.bor h2 ok (or_false h4).1) (ib.bor h3 ok (or_false h4).2) (and_imp h5) (plain_marks h6)) rfl
  · cases h
theorem snd_chain {op op' : Cm} (ia : SE d Cl Γ a) (ib : SE d Cl Γ b) (ic : SE d Cl Γ c) : SE d Cl Γ (.chain op op' a b c) := fun C m x X W h ok => by
  unfold chk at h
  split at h
  · simp only [Bool.and_eq_true] at h
    obtain ⟨⟨⟨⟨⟨⟨⟨⟨⟨h1, h2⟩, h3⟩, h4⟩, h5⟩, h6⟩, h7⟩, h8⟩, h9⟩, h10⟩ := h
    rw [cmB_ok h1, cmB_ok h2]
    simp only [Bool.not_eq_true', Bool.or_eq_false_iff] at h6
    obtain ⟨⟨k1, k2⟩, k3⟩ := h6
    exact Snd.valT (pe_ch ok.units (ia.bor h3 ok k1) (ib.bor h4 ok k2) (ic.bor h5 ok k3) (and_imp h7) (and_imp h8) (plain_last h9 h10)) (pt_ch ok.units (ia.bor h3 ok k1) (ib.bor h4 ok k2) (ic.bor h5 ok k3) (and_imp h7) (and_imp h8) (plain_last h9 h10)) rfl
  · cases h
end
end EV
set_option Elab.async false
set_option linter.all false
set_option maxRecDepth 100000
set_option maxHeartbeats 1000000
/-! The other forms, and all forms together. -/
namespace EV
open PySem L2
def SEs (d : Nat) (Cl : Nat → Addr) (Γ : Env') (es : List E) : Prop := ∀ (C : CC) (xs : List Expr) (X : Cx) (W : WX), chks es C xs = true → xs.all plainX = true → CxOk C d X W Cl Γ →
  PA X xs (TVs X W Cl Γ es) ∧ (ordB es = true → PA X xs (TBs X W Cl Γ es)) ∧ ∀ sts, PA X xs (TAs X W Cl Γ sts es)
section
variable {C : CC} {d : Nat} {X : Cx} {W : WX} {Cl : Nat → Addr} {Γ : Env'} {a b c e : E} {es : List E} {x y z : Expr} {xs : List Expr} {m : Bool} {pos : Pos}
theorem SE.arg (h : SE d Cl Γ a) (hc : chk a C false x = true) (ok : CxOk C d X W Cl Γ) (hi : itOnly a = false) (st : Bool) : PE X x (TAa X W Cl Γ st a) := by
  have s := h C false x X W hc ok
  cases hv : isVar a with
  | false => exact pe_arg (s.pe hi) (.inl hv)
  | true =>
    cases st with
    | false => exact pe_arg (s.pe hi) (.inr rfl)
    | true =>
      cases a with
      | var i =>
        unfold chk at hc
        split at hc
        · exact pe_argV (name_ok ok hc)
        · cases hc
      | _ => cases hv
theorem snds_nil : SEs d Cl Γ [] := fun C xs X W h hp ok => by
  unfold chks at h
  split at h
  · exact ⟨pa_vnil, fun _ => pa_bnil, fun _ => pa_anil⟩
  · cases h
theorem snds_cons (ie : SE d Cl Γ e) (is : SEs d Cl Γ es) : SEs d Cl Γ (e :: es) := fun C xs X W h hp ok => by
  unfold chks at h
  split at h
  · simp only [Bool.and_eq_true, Bool.not_eq_true'] at h
    obtain ⟨⟨h1, h2⟩, h3⟩ := h
    simp only [List.all_cons, Bool.and_eq_true] at hp
    obtain ⟨v, b, a⟩ := is C _ X W h3 hp.2 ok
    refine ⟨pa_vcons ((ie _ _ _ _ _ h1 ok).pe h2) v (plain_star hp.1), fun ho => ?_, fun sts => pa_acons (ie.arg h1 ok h2 _) (a _) (plain_star hp.1)⟩
    unfold ordB at ho
    simp only [Bool.and_eq_true] at ho
    exact pa_bcons (ie.bor h1 ok h2) (b ho.2) (and_imp ho.1) (plain_star hp.1)
  · cases h
theorem snd_call {f : Nat} (is : SEs d Cl Γ es) : SE d Cl Γ (.call f es) := fun C m x X W h ok => by
  unfold chk at h
  split at h
  · rename_i n p xs p2
    simp only [Bool.and_eq_true, beq_iff_eq] at h
    obtain ⟨⟨⟨h1, h2⟩, h3⟩, h4⟩ := h
    obtain ⟨ad, fd, ps, F, mg, kp, bd⟩ := ok.glb.fns f n h1
    have ta := (is C xs X W h4 h3 ok).2.2 (Γ.stab f)
    refine Snd.val (PE.imp ?_ fun σ H Q ⟨ρ, F, S, h⟩ => tcall S h) (fun _ => rfl) rfl
    cases xs with
    | cons y ys =>
      simp only [List.all_cons, Bool.and_eq_true] at h3
      exact pe_callS F ok.room (ok.gl' h2).1 mg kp bd (fun σ => passAt ok.tk σ) ta (ok.gl' h2).2 (plain_star h3.1) (plain_back h3.2)
    | nil =>
      cases es with
      | cons _ _ => unfold chks at h4; cases h4
      | nil =>
        by_cases hz : ps = []
        · subst hz
          refine PE.imp (run_S0 F ok.room (ok.gl' h2).1 mg kp bd (fun σ => passAt ok.tk σ) (ok.gl' h2).2) fun σ H Q q => ?_
          obtain ⟨ρ, F, S, h⟩ := q
          exact h F H (Go.gr S _ (Gr.refl _ _)) [] rfl
        · refine PE.imp (t := fun _ _ _ => False) ⟨fun _ _ _ _ _ _ z => z.elim⟩ fun σ H Q q => ?_
          obtain ⟨ρ, F1, S, h⟩ := q
          have k := F.len _ _ _ _ (h F1 H (Go.gr S _ (Gr.refl _ _)) [] rfl)
          cases ps with
          | nil => exact hz rfl
          | cons _ _ => cases k
  · cases h
theorem snd_bi {b : BI} (is : SEs d Cl Γ es) : SE d Cl Γ (.bi b es) := fun C m x X W h ok => by
  unfold chk at h
  split at h
  · rename_i n p y ys p2
    simp only [Bool.and_eq_true, beq_iff_eq] at h
    obtain ⟨⟨⟨⟨⟨h1, h2⟩, h3⟩, h4⟩, h5⟩, h6⟩ := h
    subst h1
    have tb := (is C _ X W h5 h4 ok).2.1 h6
    simp only [List.all_cons, Bool.and_eq_true] at h4
    refine Snd.val (pe_bi ok.calm (ok.gl' h2).1 ?_ tb (plain_star h4.1) (plain_back h4.2)) (fun _ => rfl) rfl
    by_cases hb : b = .gcd
    · subst hb
      rw [if_pos rfl]
      exact ok.glb.gcd h3
    · rw [if_neg hb]
      refine ok.glb.free _ ?_
      cases b <;> first | exact absurd rfl hb | exact List.contains_iff_mem.mp h3
  · cases h
theorem snd_isi {t : Ty} (ia : SE d Cl Γ a) : SE d Cl Γ (.isi a t) := fun C m x X W h ok => by
  unfold chk at h
  split at h
  · simp only [Bool.and_eq_true, beq_iff_eq, Bool.not_eq_true'] at h
    obtain ⟨⟨⟨⟨⟨⟨h1, h2⟩, h3⟩, h4⟩, h5⟩, h6⟩, h7⟩ := h
    subst h1 h3
    exact Snd.val (pe_isi' (ia.bor h6 ok h7) (ok.free' h2).1 (ok.free' h2).2 (ok.free' h4).1 (ok.free' h4).2 (plain_star h5)) (fun _ => rfl) rfl
  · cases h
theorem snd_isis {ts : List Ty} (ia : SE d Cl Γ a) : SE d Cl Γ (.isis a ts) := fun C m x X W h ok => by
  unfold chk at h
  split at h
  · simp only [Bool.and_eq_true, beq_iff_eq, Bool.not_eq_true'] at h
    obtain ⟨⟨⟨⟨⟨⟨h1, h2⟩, h3⟩, h4⟩, h5⟩, h6⟩, h7⟩ := h
    subst h1
    exact Snd.val (pe_isis' (ia.bor h6 ok h7) (ok.free' h2).1 (ok.free' h2).2 (pa_tys ok.sc ok.glb.free h3) (plain_star h5) (of_decide_eq_true h4)) (fun _ => rfl) rfl
  · cases h
theorem snd_ix (ia : SE d Cl Γ a) (ib : SE d Cl Γ b) : SE d Cl Γ (.ix a b) := fun C m x X W h ok => by
  unfold chk at h
  split at h
  · simp only [Bool.and_eq_true] at h
    obtain ⟨⟨⟨⟨h1, h2⟩, h3⟩, h4⟩, h5⟩ := h
    exact Snd.val (pe_ix' ok.units (ia.bor h1 ok (or_false h3).1) ((ib _ _ _ _ _ h2 ok).pe (or_false h3).2) (and_imp h4) (plain_ix h5)) (fun _ => rfl) rfl
  · cases h
theorem po_ok {lo : Option Expr} (ia : SE d Cl Γ a) (h : (match lo with | none => nopE a | some z => chk a C false z && !itOnly a && !nopE a) = true) (ok : CxOk C d X W Cl Γ) : PO X lo (TPv X W Cl Γ a) := by
  cases lo with
  | none => cases a <;> first | exact po_nop | cases h
  | some z =>
    simp only [Bool.and_eq_true, Bool.not_eq_true'] at h
    exact po_val ((ia _ _ _ _ _ h.1.1 ok).pe h.1.2) (by rintro rfl; cases h.2)
theorem snd_sl (ia : SE d Cl Γ a) (ib : SE d Cl Γ b) (ic : SE d Cl Γ c) : SE d Cl Γ (.sl a b c) := fun C m x X W h ok => by
  unfold chk at h
  split at h
  · rename_i xa xl xh p2 p
    simp only [Bool.and_eq_true, Bool.not_eq_true'] at h
    obtain ⟨⟨⟨⟨h1, h2⟩, h3⟩, h4⟩, h5⟩ := h
    refine Snd.val (pe_sl' (ia.bor h1 ok h4) (po_ok ib ?_ ok) (po_ok ic ?_ ok) (and_imp (by rw [h5]; rfl))) (fun _ => rfl) rfl
    · cases xl with
      | none => exact h2
      | some z => simp only [Bool.and_eq_true, Bool.not_eq_true'] at h2 ⊢; exact h2
    · cases xh with
      | none => exact h3
      | some z => simp only [Bool.and_eq_true, Bool.not_eq_true'] at h3 ⊢; exact h3
  · cases h
theorem snd_rev (ia : SE d Cl Γ a) : SE d Cl Γ (.rev a) := fun C m x X W h ok => by
  unfold chk at h
  split at h
  · simp only [Bool.and_eq_true, Bool.not_eq_true', decide_eq_true_eq] at h
    obtain ⟨⟨h1, h2⟩, h3⟩ := h
    subst h1
    exact Snd.val (pe_rev' (ia.bor h2 ok h3)) (fun _ => rfl) rfl
  · cases h
theorem snd_tup (is : SEs d Cl Γ es) : SE d Cl Γ (.tup es) := fun C m x X W h ok => by
  unfold chk at h
  split at h
  · simp only [Bool.and_eq_true] at h
    exact Snd.val (pe_tup' (is _ _ _ _ h.2 h.1 ok).1) (fun _ => rfl) rfl
  · cases h
theorem snd_lst (is : SEs d Cl Γ es) : SE d Cl Γ (.lst es) := fun C m x X W h ok => by
  unfold chk at h
  split at h
  · simp only [Bool.and_eq_true] at h
    exact Snd.val (pe_lst' (is _ _ _ _ h.2 h.1 ok).1) (fun _ => rfl) rfl
  · cases h
/-! ### targets -/
theorem sto_ok {W : WX} {i : Nat} {n : Str} {p : Pos} (ok : CxOk C d X W Cl Γ) (h : C.stoB i n = true) : PG X (.Name n p) (gName i) := by
  simp only [CC.stoB, Bool.and_eq_true, beq_iff_eq] at h
  obtain ⟨h1, h2⟩ := h
  split at h2
  · rename_i q
    exact pg_name ok.nd (by rw [ok.n]; exact h1) (.inl (by rw [ok.sc]; exact q)) (.inr (by rw [ok.sc]; exact q))
  · rename_i q
    exact pg_name ok.nd (by rw [ok.n]; exact h1) (.inr (by rw [ok.sc]; exact q)) (.inl (by rw [ok.fn]; exact h2))
  · cases h2
theorem asg_plain {env : Env} : ∀ {xs : List Expr}, xs.all plainX = true → (assignEach xs env).length = xs.length ∧ (assignEach xs env).findIdx? (·.1) = none
  | [], _ => ⟨rfl, rfl⟩
  | x :: xs, h => by
    simp only [List.all_cons, Bool.and_eq_true] at h
    obtain ⟨a, b⟩ := asg_plain (env := env) h.2
    rw [plain_asg h.1]
    exact ⟨by simp [a], by rw [List.findIdx?_cons]; simp [b]⟩
mutual
theorem chkT_ok {W : WX} (ok : CxOk C d X W Cl Γ) : ∀ (t : Tg) {x : Expr}, chkT C t x = true → PG X x (TGv X.K t)
  | .nm i, x, h => by
    unfold chkT at h
    split at h
    · exact pg_nm (sto_ok ok h)
    · cases h
  | .tp ts, x, h => by
    unfold chkT at h
    split at h
    · simp only [Bool.and_eq_true] at h
      obtain ⟨p, l⟩ := chkTs_ok ok ts h.1 h.2
      exact pg_tp ok.calm p l (asg_plain h.1).1 (asg_plain h.1).2
    · cases h
theorem chkTs_ok {W : WX} (ok : CxOk C d X W Cl Γ) : ∀ (ts : List Tg) {xs : List Expr}, xs.all plainX = true → chkTs C ts xs = true → PGs X xs (TGvs X.K ts) ∧ xs.length = ts.length
  | [], [], _, _ => ⟨pgs_vnil, rfl⟩
  | [], _ :: _, _, h => by cases h
  | _ :: _, [], _, h => by cases h
  | t :: ts, x :: xs, hp, h => by
    unfold chkTs at h
    simp only [Bool.and_eq_true] at h
    simp only [List.all_cons, Bool.and_eq_true] at hp
    obtain ⟨p, l⟩ := chkTs_ok ok ts hp.2 h.2
    exact ⟨pgs_vcons (chkT_ok ok t h.1) p (by rw [plain_asg hp.1]; rfl), by simp [l]⟩
end
/-! ### what is gone through -/
theorem lc_parts {tg : Tg} {own : List Nat} (ie : SE d Cl Γ e) (ii : SE d Cl Γ a) (ic : SE d Cl Γ c) (h : chk (.lc e tg a c own) C m x = true) (ok : CxOk C d X W Cl Γ) :
    ∃ xe xt xi xfs scope p ownP, x = .ListComp xe [⟨xt, xi, xfs, 0⟩] scope p ∧ List.map (fun x : Str × Nat => x.2) ownP = own ∧ PI X xt xi (TIt X W Cl Γ a) ∧ BlkOk X.N X.env.scope scope ownP ∧
      (∀ (s : Shared) (H : Hp) (A : Addr) (cl : List (Str × Addr)) (fp : List Addr), PG (X.blk s H scope (compEnvC scope cl A X.env) fp) xt (TGv X.K tg)) ∧
      (∀ (s : Shared) (H : Hp) (A : Addr) (cl : List (Str × Addr)) (fp : List Addr), PTs (X.blk s H scope (compEnvC scope cl A X.env) fp) xfs (TCv X.K Cl Γ c)) ∧
      (∀ (s : Shared) (H : Hp) (A : Addr) (cl : List (Str × Addr)) (fp : List Addr), PE (X.blk s H scope (compEnvC scope cl A X.env) fp) xe (TVk X.K Cl Γ e)) ∧
      (∀ j ∈ slotsT tg, j ∈ own) ∧ ∀ v, foldedSetIterable xi X.env v = pure v := by
  unfold chk at h
  split at h
  · rename_i xe xt xi xfs asy scope p
    simp only [Bool.and_eq_true, Bool.not_eq_true', decide_eq_true_eq] at h
    obtain ⟨⟨⟨⟨⟨⟨⟨⟨⟨h1, h2⟩, h3⟩, h4⟩, h5⟩, h6⟩, h7⟩, h8⟩, h9⟩, h10⟩ := h
    subst h1
    have ho : List.map (fun x : Str × Nat => x.2) (own.map fun i => (C.N.getD i "", i)) = own := by
      rw [List.map_map]
      exact List.map_id own
    refine ⟨xe, xt, xi, xfs, scope, p, own.map fun i => (C.N.getD i "", i), rfl, ho, (ii _ _ _ _ _ h2 ok).pi rfl xt h3, blkOk_by (by rw [ok.n, ok.sc]; exact h5), fun s H A cl fp => chkT_ok (ok.blk s H scope A cl fp) tg h6, fun s H A cl fp => ?_, fun s H A cl fp => ?_, fun j hj => ?_, plain_set h4⟩
    · have ok2 := ok.blk s H scope A cl fp
      split at h10
      · have hc : c = .nop := by cases c <;> first | rfl | cases h10
        subst hc
        exact ⟨fun pins s σ H Q I q => pts_nil.run pins s σ H Q I (by
          obtain ⟨ρ, F, S, r⟩ := q
          exact r F H (Go.gr S _ (Gr.refl _ _)))⟩
      · simp only [Bool.and_eq_true, Bool.not_eq_true', Bool.or_eq_false_iff] at h10
        obtain ⟨h11, ⟨h12, h13⟩, h14⟩ := h10
        have p1 := pts_one ((ic _ _ _ _ _ h11 ok2).pt h12 h13)
        refine ⟨fun pins s σ H Q I q => p1.run pins s σ H Q I ?_⟩
        obtain ⟨ρ, F, S, r⟩ := q
        refine ⟨ρ, F, S, ?_⟩
        have hr : condR c ρ (ev Γ c ρ) = testR (ev Γ c ρ) := by cases c <;> first | rfl | cases h14
        rw [hr] at r
        exact r
      · cases h10
    · exact pe_val ((ie _ _ _ _ _ h7 (ok.blk s H scope A cl fp)).pe h8)
    · exact List.contains_iff_mem.mp (List.all_eq_true.mp h9 j hj)
  · cases h
theorem snd_lc {tg : Tg} {own : List Nat} (ie : SE d Cl Γ e) (ii : SE d Cl Γ a) (ic : SE d Cl Γ c) : SE d Cl Γ (.lc e tg a c own) := fun C m x X W h ok => by
  obtain ⟨xe', xt, xi, xfs, scope, p3, ownP, rfl, eo, hi, hb, hg, ht, he, hs, hf⟩ := lc_parts ie ii ic h ok
  subst eo
  exact Snd.val (pe_lc' ok.calm ok.nd hi hb hg ht he hs hf) (fun _ => rfl) rfl
theorem snd_lcK {tg : Tg} {i : Nat} {own : List Nat} (ie : SE d Cl Γ e) (ic : SE d Cl Γ c) : SE d Cl Γ (.lcK e tg i c own) := fun C m x X W h ok => by
  unfold chk at h
  split at h
  · rename_i xe xt n np xfs asy scope p
    simp only [Bool.and_eq_true, Bool.not_eq_true', decide_eq_true_eq] at h
    obtain ⟨⟨⟨⟨⟨⟨⟨h1, h2⟩, h5⟩, h6⟩, h7⟩, h8⟩, h9⟩, h10⟩ := h
    subst h1
    have ho : List.map (fun x : Str × Nat => x.2) (own.map fun i => (C.N.getD i "", i)) = own := by
      rw [List.map_map]
      exact List.map_id own
    have key := pe_lcK' (W := W) (Γ := Γ) (Cl := Cl) (e := e) (c := c) (t := tg) (i := i) (elt := xe) (tg := xt) (iter := .Name n np) (ifs := xfs) (scope := scope) (own := own.map fun i => (C.N.getD i "", i)) (pos := p) ok.calm ok.nd (name_ok ok h2) (blkOk_by (by rw [ok.n, ok.sc]; exact h5))
      (fun s H A cl fp => chkT_ok (ok.blk s H scope A cl fp) tg h6) (fun s H A cl fp => ?_) (fun s H A cl fp => pe_val ((ie _ _ _ _ _ h7 (ok.blk s H scope A cl fp)).pe h8)) (fun j hj => ?_) (fun _ => rfl)
    · rw [ho] at key
      exact Snd.val key (fun _ => rfl) rfl
    · have ok2 := ok.blk s H scope A cl fp
      split at h10
      · have hc : c = .nop := by cases c <;> first | rfl | cases h10
        subst hc
        exact ⟨fun pins s σ H Q I q => pts_nil.run pins s σ H Q I (by
          obtain ⟨ρ, F, S, r⟩ := q
          exact r F H (Go.gr S _ (Gr.refl _ _)))⟩
      · simp only [Bool.and_eq_true, Bool.not_eq_true', Bool.or_eq_false_iff] at h10
        obtain ⟨h11, ⟨h12, h13⟩, h14⟩ := h10
        have p1 := pts_one ((ic _ _ _ _ _ h11 ok2).pt h12 h13)
        refine ⟨fun pins s σ H Q I q => p1.run pins s σ H Q I ?_⟩
        obtain ⟨ρ, F, S, r⟩ := q
        refine ⟨ρ, F, S, ?_⟩
        have hr : condR c ρ (ev Γ c ρ) = testR (ev Γ c ρ) := by cases c <;> first | rfl | cases h14
        rw [hr] at r
        exact r
      · cases h10
    · rw [ho]
      exact List.contains_iff_mem.mp (List.all_eq_true.mp h9 j hj)
  · cases h
theorem pps_ok (ok : CxOk C d X W Cl Γ) : ∀ {ks : List Key} {es : List E} {keys : List (Option Expr)} {values : List Expr}, (∀ e ∈ es, SE d Cl Γ e) → ks.length = es.length → chkKs ks keys = true → chks es C values = true → PPs X pos keys values (trsD X W Cl Γ ks es) ∧ keys.all (·.isSome) = true ∧ keys.length = values.length
  | [], [], keys, values, _, _, hk, hv => by
    cases keys with
    | cons _ _ => cases hk
    | nil => cases values with
      | cons _ _ => unfold chks at hv; cases hv
      | nil => exact ⟨pps_nil, rfl, rfl⟩
  | [], _ :: _, _, _, _, l, _, _ => by cases l
  | _ :: _, [], _, _, _, l, _, _ => by cases l
  | k :: ks, e :: es, keys, values, hs, l, hk, hv => by
    cases values with
    | nil => unfold chks at hv; cases hv
    | cons v values =>
      unfold chks at hv
      simp only [Bool.and_eq_true, Bool.not_eq_true'] at hv
      have pv := pe_val ((hs e List.mem_cons_self _ _ _ _ _ hv.1.1 ok).pe hv.1.2)
      have key : ∃ kx keys', keys = some kx :: keys' ∧ PE X kx (tC (kV k)) ∧ chkKs ks keys' = true := by
        cases k with
        | inl i =>
          cases keys with
          | nil => cases hk
          | cons q keys => cases q with
            | none => cases hk
            | some q => cases q with
              | Constant cst kk pp => cases cst with
                | int j =>
                  simp only [chkKs, Bool.and_eq_true, decide_eq_true_eq] at hk
                  rw [hk.1]
                  exact ⟨_, _, rfl, pe_int, hk.2⟩
                | _ => cases hk
              | _ => cases hk
        | inr i =>
          cases keys with
          | nil => cases hk
          | cons q keys => cases q with
            | none => cases hk
            | some q => cases q with
              | Constant cst kk pp => cases cst with
                | str j =>
                  simp only [chkKs, Bool.and_eq_true, beq_iff_eq] at hk
                  rw [hk.1]
                  exact ⟨_, _, rfl, pe_str, hk.2⟩
                | _ => cases hk
              | _ => cases hk
      obtain ⟨kx, keys', rfl, pk, hk2⟩ := key
      obtain ⟨p1, p2, p3⟩ := pps_ok ok (ks := ks) (es := es) (fun e m => hs e (List.mem_cons_of_mem _ m)) (by simpa using l) hk2 hv.2
      exact ⟨pps_cons pk pv p1, by rw [List.all_cons, p2]; rfl, by simp [p3]⟩
theorem snd_disp {ks : List Key} (hs : ∀ e ∈ es, SE d Cl Γ e) : SE d Cl Γ (.disp ks es) := fun C m x X W h ok => by
  unfold chk at h
  split at h
  · rename_i keys values p
    simp only [Bool.and_eq_true, decide_eq_true_eq] at h
    obtain ⟨⟨⟨⟨h1, h2⟩, h3⟩, h4⟩, h5⟩ := h
    obtain ⟨p1, p2, p3⟩ := pps_ok (pos := p) ok hs h5 h1 h2
    by_cases hz : keys = []
    · subst hz
      have : values = [] := by cases values with | nil => rfl | cons _ _ => cases p3
      subst this
      cases ks with
      | cons k ks => cases k <;> cases h1
      | nil => cases es with
        | cons _ _ => cases h5
        | nil => exact Snd.val pe_disp0 (fun _ => rfl) rfl
    · exact Snd.val (pe_disp' p1 p2 p3 hz h4 h5) (fun _ => rfl) rfl
  · cases h
theorem snd_get {k : E} (ia : SE d Cl Γ a) (ik : SE d Cl Γ k) (iv : SE d Cl Γ b) : SE d Cl Γ (.get a k b) := fun C m x X W h ok => by
  unfold chk at h
  split at h
  · rename_i n np mm ap xk xv cp
    simp only [Bool.and_eq_true, Bool.not_eq_true', beq_iff_eq, Bool.or_eq_false_iff] at h
    obtain ⟨⟨⟨⟨⟨⟨⟨⟨h1, h2⟩, h3⟩, h4⟩, h5⟩, h6⟩, h7⟩, ⟨h8, h9⟩, h10⟩, h11⟩ := h
    subst h1
    refine Snd.val (pe_get' ok.units (ia.bor h5 ok h8) ((ik _ _ _ _ _ h6 ok).pe h9) ((iv _ _ _ _ _ h7 ok).pe h10) (and_imp (by rw [h11]; rfl)) ⟨rfl, ?_, beq_iff_eq.mpr h2, ?_⟩) (fun _ => rfl) rfl
    · rw [plain_star h3, plain_star h4]; rfl
    · rw [plain_star h3, plain_star h4]; rfl
  · cases h
theorem snd_val (ia : SE d Cl Γ a) : SE d Cl Γ (.val a) := fun C m x X W h ok => by
  unfold chk at h
  simp only [Bool.and_eq_true, Bool.not_eq_true'] at h
  have s := ia _ _ _ _ _ h.1.1.1 ok
  exact Snd.valT (s.pe h.1.1.2) (s.pt h.1.1.2 h.1.2) rfl
theorem snd_rng1 (ia : SE d Cl Γ a) : SE d Cl Γ (.rng1 a) := fun C m x X W h ok => by
  unfold chk at h
  split at h
  · simp only [Bool.and_eq_true, beq_iff_eq, Bool.not_eq_true'] at h
    obtain ⟨⟨⟨⟨⟨h1, h2⟩, h3⟩, h4⟩, h5⟩, h6⟩ := h
    subst h2
    exact ⟨fun k => (by cases k), fun k => (by cases k), fun k => (by cases k), fun _ tg _ => pi_rng1 (ok.free' h3).1 (ok.free' h3).2 ((ia _ _ _ _ _ h5 ok).pe h6) (plain_star h4)⟩
  · cases h
theorem snd_rng2 (ia : SE d Cl Γ a) (ib : SE d Cl Γ b) : SE d Cl Γ (.rng2 a b) := fun C m x X W h ok => by
  unfold chk at h
  split at h
  · simp only [Bool.and_eq_true, beq_iff_eq] at h
    obtain ⟨⟨⟨⟨⟨⟨⟨h1, h2⟩, h3⟩, h4⟩, h5⟩, h6⟩, h7⟩, h8⟩ := h
    subst h2
    exact ⟨fun k => (by cases k), fun k => (by cases k), fun k => (by cases k), fun _ tg _ => pi_rng2 (ok.free' h3).1 (ok.free' h3).2 ((ia _ _ _ _ _ h6 ok).pe (or_false h8).1) ((ib _ _ _ _ _ h7 ok).pe (or_false h8).2) (plain_star h4) (plain_star h5) (plain_star h4)⟩
  · cases h
theorem snd_enum (ia : SE d Cl Γ a) : SE d Cl Γ (.enum a) := fun C m x X W h ok => by
  unfold chk at h
  split at h
  · simp only [Bool.and_eq_true, beq_iff_eq, Bool.not_eq_true'] at h
    obtain ⟨⟨⟨⟨⟨h1, h2⟩, h3⟩, h4⟩, h5⟩, h6⟩ := h
    subst h2
    refine ⟨fun k => (by cases k), fun k => (by cases k), fun k => (by cases k), fun _ tg ht => ?_⟩
    cases tg with
    | Tuple elts k tpos => exact pi_enum' (ok.free' h3).1 (ok.free' h3).2 ((ia _ _ _ _ _ h5 ok).pe h6) (plain_star h4)
    | _ => cases ht
  · cases h
theorem snd_no (h : ∀ C m x, chk e C m x = false) : SE d Cl Γ e := fun C m x X W k ok => by rw [h] at k; cases k
mutual
theorem snd : ∀ e : E, SE d Cl Γ e
  | .var _ => snd_var
  | .non => snd_non
  | .bl _ => snd_bl
  | .int _ => snd_int
  | .str _ => snd_str
  | .glob _ => snd_glob
  | .bin _ a b => snd_bin (snd a) (snd b)
  | .neg a => snd_neg (snd a)
  | .not a => snd_not (snd a)
  | .and a b => snd_and (snd a) (snd b)
  | .or a b => snd_or (snd a) (snd b)
  | .one a => snd_one (snd a)
  | .ife c a b => snd_ife (snd c) (snd a) (snd b)
  | .cmp _ a b => snd_cmp (snd a) (snd b)
  | .chain _ _ a b c => snd_chain (snd a) (snd b) (snd c)
  | .call _ es => snd_call (snds es)
  | .bi _ es => snd_bi (snds es)
  | .isi a _ => snd_isi (snd a)
  | .isis a _ => snd_isis (snd a)
  | .ix a b => snd_ix (snd a) (snd b)
  | .sl a lo hi => snd_sl (snd a) (snd lo) (snd hi)
  | .nop => snd_no fun _ _ _ => rfl
  | .rev a => snd_rev (snd a)
  | .tup es => snd_tup (snds es)
  | .lst es => snd_lst (snds es)
  | .lc e _ it c _ => snd_lc (snd e) (snd it) (snd c)
  | .lc2 _ _ _ _ _ _ _ _ _ => snd_no fun _ _ _ => rfl
  | .rng1 a => snd_rng1 (snd a)
  | .rng2 a b => snd_rng2 (snd a) (snd b)
  | .rng3 _ _ _ => snd_no fun _ _ _ => rfl
  | .enum a => snd_enum (snd a)
  | .zip _ _ => snd_no fun _ _ _ => rfl
  | .disp _ es => snd_disp (sndm es)
  | .get d k v => snd_get (snd d) (snd k) (snd v)
  | .lcK e _ _ c _ => snd_lcK (snd e) (snd c)
  | .items _ => snd_no fun _ _ _ => rfl
  | .val a => snd_val (snd a)
theorem sndm : ∀ es : List E, ∀ e ∈ es, SE d Cl Γ e
  | [], _, m => nomatch m
  | e :: es, e', m => by
    rcases List.mem_cons.mp m with h | h
    · rw [h]; exact snd e
    · exact sndm es e' h
theorem snds : ∀ es : List E, SEs d Cl Γ es
  | [] => snds_nil
  | e :: es => snds_cons (snd e) (snds es)
end
end
end EV
set_option Elab.async false
set_option linter.all false
set_option maxRecDepth 100000
set_option maxHeartbeats 1000000
/-! try with several clauses, named or not. -/
namespace EV
open PySem PyProof.Rows L2
abbrev HL := List (Value × Option Nat × (Addr → Value → Option Addr → TS))
/-- where a suite's ends lead -/
def wEnds (D : Ends) : Option Nat → Ends
  | none => D
  | some i => { nx := fun σ' H' => D.nx (List.set σ' i none) H', rt := D.rt, bk := fun σ' H' => D.bk (List.set σ' i none) H', ct := fun σ' H' => D.ct (List.set σ' i none) H' }
def wStart (σ : L2.St) (a : Addr) : Option Nat → L2.St
  | none => σ
  | some i => List.set σ i (some (.ref a))
def wTries (K : PySem.W.Frag) (W : WX) (D : Ends) : HL → WX
  | [] => W
  | (c, o, ts) :: r => fun cls d σ H => ∃ b, PySem.W.exmOne K cls c = some b ∧ (b = true → ∀ a, H a = none → ts a cls d (wEnds D o) (wStart σ a o) H) ∧ (b = false → wTries K W D r cls d σ H)
inductive Hds (X : Cx) : List ExceptHandler → HL → Prop
  | nil : Hds X [] []
  | as_ {x n : Str} {c : Value} {i : Nat} {ts : Addr → Value → Option Addr → TS} {b₀ : Stmt} {suite : List Stmt} {np pos' : Pos} {hds : List ExceptHandler} {l : HL} : X.N[i]? = some n → X.env.kindOf n = some NameKind.local → Names X x c →
      (∀ (a : Addr) (oe : Obj) (cls : Value) (d : Option Addr) (pn : List (Addr × Obj)), Zc cls d oe → (∃ vs, oe.data = Data.fields vs) → PSs (X.suite a ((a, oe) :: pn)) (b₀ :: suite) (ts a cls d)) → Hds X hds l →
      Hds X (ExceptHandler.ExceptHandler (some (Expr.Name x np)) (some n) (b₀ :: suite) pos' :: hds) ((c, some i, ts) :: l)
theorem ps_tries {X : Cx} {body : List Stmt} {h₀ : ExceptHandler} {hds : List ExceptHandler} {l : HL} {pos : Pos} {tb : WX → TS} {Wout : WX} (hs : X.stack = X.env :: X.outer) (hf : X.env.frame = some X.env.locals) (hN : X.N.Nodup) (tk : Takes X Wout)
    (hb : ∀ (W : WX) (pn : List (Addr × Obj)) (xe : Value → Shared → Prop), Takes (X.tr pn xe) W → PassesOwn (model X.prog X.w) X.A X.env xe → PSs (X.tr pn xe) body (tb W)) (hh : Hds X (h₀ :: hds) l) :
    PS X (Stmt.Try body (h₀ :: hds) [] [] pos) fun D σ H => tb (wTries X.K Wout D l) D σ H := by
  refine ⟨fun pins s σ H D I h => ?_⟩
  have ok := I.ok
  have hfr : X.A.frames = some (X.env :: X.outer) := by rw [ok.frames, hs]
  refine wpAny_Try_except (wpAny_mono ((hb (wTries X.K Wout D l) (X.pn ++ pins) (fun e s₁ => wpAny (model X.prog X.w) X.A (noteFrame e X.env) (fun x_1 s₂ => wpAny (model X.prog X.w) X.A (setFlight e none) (fun x_2 s₃ => wpAny (model X.prog X.w) X.A (handleBy e X.env (h₀ :: hds)) (SP X pins D) X.xe s₃) X.xe s₂) X.xe s₁) ?_ PassesOwn.looking).run [] s σ H D (Inv.toTry I _) h) ?_ fun e s1 he => he)
  · rintro u s' ⟨a, B, sI, pins', σ', H', cls, d, rfl, J', nb, up, sky, na, os, ag, hw⟩
    have J := Inv.ofTry J' ok
    have sky' : Sky B (X.env :: X.outer) a (Zc cls d) X.env.locals s'.heap := by rw [← hs]; exact sky
    refine Sky.land Zc.steady hfr hf sky' fun h3 fl3 up3 => ?_
    have J3 := Inv.landed (s' := { heap := h3, gens := s'.gens, drawn := s'.drawn, toks := s'.toks, os := s'.os }) J nb fl3.1 (Heap.UpToSlots.trans up up3) os ag
    obtain ⟨oe3, vs3, he3, hz3, hd3⟩ := HandSPX.FlyingZ.there fl3
    have nfr : ¬ a ∈ List.filterMap (fun x => x.frame) (X.env :: X.outer) := fun hm => by
      obtain ⟨_, o', e', hnf⟩ := Heap.FunFrames.mem fl3.2.2.1 hm
      rw [he3] at e'
      cases e'
      exact hnf vs3 hd3
    have nL : a ≠ X.env.locals := fun z => nfr (List.mem_filterMap.mpr ⟨X.env, List.mem_cons_self, by rw [hf, z]⟩)
    have nF : ¬ a ∈ X.fs := fun hm => by
      obtain ⟨e, he, q⟩ := List.mem_filterMap.mp hm
      exact nfr (List.mem_filterMap.mpr ⟨e, List.mem_cons_of_mem X.env he, q⟩)
    have S3 := Inv.suite J3 he3 hd3 na nL nF
    have go : ∀ {hds : List ExceptHandler} {l : HL}, Hds X hds l → wTries X.K Wout D l cls d σ' H' → wpAny (model X.prog X.w) X.A (handleBy (.ref a) X.env hds) (SP X pins D) X.xe { heap := h3, gens := s'.gens, drawn := s'.drawn, toks := s'.toks, os := s'.os } := fun {hds l} hh => by
      induction hh with
      | nil =>
        intro hw
        obtain ⟨k1, k2, k3, oe, vs, T, oT, ts', he, hz, hd, h1, hr⟩ := id fl3
        refine wpAny_handleBy_nil (wpAny_bind (wpAny_field he hd h1 ?_))
        rw [if_neg (by simp)]
        refine wpAny_bind ?_
        rw [hf]
        refine HandSPX.setFlight_upZ fl3 fun h4 hh4 up4 => wpAny_throw (tk _ _ ⟨a, B, sI, pins, σ', H', cls, d, rfl, J, nb, Heap.UpToSlots.trans (Heap.UpToSlots.trans up up3) up4, .inr (.inr (by rw [hs]; exact hh4)), na, os, ag, hw⟩)
      | @as_ x n c i ts b₀ suite np pos' hds l hi hln hc hsu _ ih =>
        rintro ⟨b, hb1, hyes, hno⟩
        refine wpAny_handleBy_cons (codeAny_handlers_test ?_) (fun q => nomatch q)
        have LM : PySem.W.Looks (model X.prog X.w) h3 (excMatches (.ref a) c) b := PySem.W.exm_one (Inv.kIn J3) (fun A Q E s k q => wpAny_typeOf_ref (k a oe3 he3) (by rw [hz3.1]; exact q)) hb1
        have test : ∀ {Q : Value → Shared → Prop} {E : Value → Shared → Prop}, Q c { heap := h3, gens := s'.gens, drawn := s'.drawn, toks := s'.toks, os := s'.os } → wpAny (model X.prog X.w) (X.A.mark (some (.ref a))) (eval (.Name x np) X.env) Q E { heap := h3, gens := s'.gens, drawn := s'.drawn, toks := s'.toks, os := s'.os } := fun {Q E} q => by
          obtain ⟨hg, hdbg, hm | ⟨hm, hv, hnn⟩⟩ := hc
          · exact ld_glob S3 hg hm q hdbg
          · exact ld_blt S3 hg hm hv q hnn hdbg
        refine test (PySem.W.Looks.here LM ?_)
        cases b with
        | false => exact ih (hno rfl)
        | true =>
          refine codeAny_handlers_suite_as (HandSPX.lands_againZ fl3 fun h4 fl4 up4 => ?_)
          have J4 := Inv.landed (s' := { heap := h4, gens := s'.gens, drawn := s'.drawn, toks := s'.toks, os := s'.os }) J nb fl4.1 (Heap.UpToSlots.trans (Heap.UpToSlots.trans up up3) up4) os ag
          obtain ⟨oe4, vs4, he4, hz4, hd4⟩ := HandSPX.FlyingZ.there fl4
          have S4 := Inv.suite J4 he4 hd4 na nL nF
          refine store_ok (X := X.suite a ((a, oe4) :: (X.pn ++ pins))) S4 hN hi (.inl hln) (v := .ref a) rfl (fun s5 S5 => wpAny_mono ((hsu a oe4 cls d (X.pn ++ pins) hz4 ⟨vs4, hd4⟩).run [] s5 (List.set σ' i (some (.ref a))) H' _ S5 (hyes rfl a na)) (fun f s6 hsp => ?_) fun x x_1 z => False.elim z) (.inr hln)
          have end_ : ∀ {σ6 : L2.St} {H6 : Hp} {Q : Unit → Shared → Prop} {E : Value → Shared → Prop}, L2.Inv (X.suite a ((a, oe4) :: (X.pn ++ pins))) [] σ6 H6 s6 → (∀ s7, L2.Inv X pins (List.set σ6 i none) H6 s7 → Q () s7) → wpAny (model X.prog X.w) X.A (do bindName X.env n Value.none; unbindBehindTheSuite X.env n pos') Q E s6 := fun {σ6 H6 Q E} S6 hq => gone_ok (Inv.unsuite S6 ok) hN hi hln hq
          cases f with
          | next => obtain ⟨σ6, H6, S6, q6⟩ := hsp; exact end_ S6 fun s7 J7 => ⟨_, H6, J7, q6⟩
          | brk => obtain ⟨σ6, H6, S6, q6⟩ := hsp; exact end_ S6 fun s7 J7 => ⟨_, H6, J7, q6⟩
          | cont => obtain ⟨σ6, H6, S6, q6⟩ := hsp; exact end_ S6 fun s7 J7 => ⟨_, H6, J7, q6⟩
          | ret u => obtain ⟨v6, σ6, H6, S6, r6, q6⟩ := hsp; exact end_ S6 fun s7 J7 => ⟨v6, _, H6, J7, r6, q6⟩
    exact go hh hw
  · intro f s1 hsp
    cases f with
    | next => obtain ⟨σ', H', J', q⟩ := hsp; exact wpAny_execs_nil ⟨σ', H', Inv.ofTry J' ok, q⟩
    | brk => obtain ⟨σ', H', J', q⟩ := hsp; exact ⟨σ', H', Inv.ofTry J' ok, q⟩
    | cont => obtain ⟨σ', H', J', q⟩ := hsp; exact ⟨σ', H', Inv.ofTry J' ok, q⟩
    | ret u => obtain ⟨v, σ', H', J', r, q⟩ := hsp; exact ⟨v, σ', H', Inv.ofTry J' ok, r, q⟩
/-- isinstance of what is handled, with a tuple of classes -/
theorem call_isET {X : Cx} {a D : Addr} {oe : Obj} {pn : List (Addr × Obj)} (C : ExcC X.K D) (hz : Zc (Value.ref D) none oe) (hf : ∃ vs, oe.data = Data.fields vs) :
    CallR (X.suite a ((a, oe) :: pn)) (Value.builtin "isinstance") fun xs H Q => ∃ (tp : Addr) (cs : List V) (us : List Value) (b : Bool), xs = [V.ref a, V.ref tp] ∧ H tp = some (HO.tup cs) ∧ Paired ClsV cs us ∧ PySem.W.kitAny X.K (.ref D) us = some b ∧ Q (V.bl b) H := by
  intro pins s σ H xs us Q I r h
  obtain ⟨tp, cs, ks, b, rfl, hT, k, e, q⟩ := h
  cases r with
  | cons rx rr => cases rr with
    | cons rt rn => cases rn with
      | nil =>
        cases rx
        cases rt
        obtain ⟨hget, _⟩ := I.pin (a, oe) (List.mem_append.mpr (Or.inl List.mem_cons_self))
        obtain ⟨vs, hv⟩ := hf
        have J : PySem.W.InstAt s.heap a oe D none := by
          obtain ⟨oc, od, oda, osl⟩ := oe
          obtain ⟨h1, h2⟩ := hz
          cases h1
          cases h2
          cases hv
          exact { at_ := hget, cls := rfl, no := rfl, dict := trivial }
        have hok := I.hok tp (HO.tup cs) hT
        obtain ⟨left, its, rv, o, h1, h2, n, h3⟩ := hok
        have e3 := ClsV.all k rv
        subst e3
        obtain ⟨oc, od, dt, sl⟩ := o
        cases h2
        cases h3
        exact PySem.W.kia_tup (PySem.W.handS_kitx_exc C.hg C.hk C.hs C.hd C.ha C.hn C.ht C.hm) (Inv.kIn (X := X.suite a ((a, oe) :: pn)) I) J h1 e (fun z => nomatch z) fun tk => ⟨V.bl b, H, Inv.tok (X := X.suite a ((a, oe) :: pn)) I tk, rfl, q⟩
end EV
set_option Elab.async false
set_option linter.all false
set_option maxRecDepth 100000
set_option maxHeartbeats 1000000
/-! The check of statements. -/
namespace EV
open PySem L2
/-- what is known of the own exceptions -/
structure Exs (cls : List Str) (sub : Nat → Nat → Bool) (K : PySem.W.Frag) (mg : Str → Option Value) (Cl : Nat → Addr) : Prop where
  glo : ∀ (k : Nat) (n : Str), cls[k]? = some n → mg n = some (.ref (Cl k))
  exc : ∀ (k : Nat), PySem.W.excIn K (Cl k) [Value.type "ValueError", Value.type "Exception", Value.type "BaseException", Value.type "object"] "ValueError.__new__" = true ∧ PySem.W.keepIn K (.ref (Cl k)) = true ∧
    PySem.W.subIn K (.ref (Cl k)) (Value.type "BaseException") = some true ∧ PySem.W.typeIn K (.ref (Cl k)) = some (Value.type "type")
  exm : ∀ (k j : Nat), PySem.W.exmOne K (.ref (Cl k)) (.ref (Cl j)) = some (sub k j) ∧ PySem.W.kitOne K (.ref (Cl k)) (.ref (Cl j)) = some (sub k j)
  isC : ∀ (k : Nat), ExcC K (Cl k)
/-- what is known where a statement stands -/
structure SxOk (C : CC) (sub : Nat → Nat → Bool) (d : Nat) (X : Cx) (W : WX) (Cl : Nat → Addr) (Γ : Env') : Prop extends CxOk C d X W Cl Γ where
  pown : PassesOwn (model X.prog X.w) X.A X.env X.xe
  stk : X.stack = X.env :: X.outer
  frm : X.env.frame = some X.env.locals
  top : C.psc = none
  knd : C.sc.kind = ScopeKind.function
  exs : Exs C.cls sub X.K X.mg Cl
/-- the store of a comprehension's list that is swapped in -/
def CC.swN (C : CC) (n : Str) (l : Nat) : Expr → Bool
  | .ListComp _ _ scope pos => (C.sc.names.lookup n == some .local) && (l == pos.line) && !scope.names.any fun (m, k) => m == n && (k == .local || k == .cell)
  | _ => false
def noComp : Expr → Bool
  | .ListComp _ _ _ _ => false
  | .SetComp _ _ _ _ => false
  | .DictComp _ _ _ _ _ => false
  | _ => true
def noSD : Expr → Bool
  | .SetComp _ _ _ _ => false
  | .DictComp _ _ _ _ _ => false
  | _ => true
def lcE : E → Bool
  | .lc _ _ _ _ _ => true
  | _ => false
/-- the names of a tuple of targets that are swapped -/
def CC.swNames (C : CC) (ts : List Expr) : List Str :=
  let line := (Option.map (fun x => x.pos.line) ts.head?).getD 0
  List.filterMap (fun x => match x with
    | Expr.Name id pos => if (C.sc.names.lookup id == some NameKind.local && pos.line == line) = true then some id else none
    | x => none) ts
/-- a tuple of targets is stored one after another -/
def CC.noSw (C : CC) (ts : List Expr) : Expr → Bool
  | .Tuple vs _ _ => !(ts.length == 2 || ts.length == 3) || vs.length != ts.length || ((C.swNames ts).length != ts.length || (C.swNames ts).eraseDups.length != (C.swNames ts).length) || vs.all (foldedForSure 8)
  | _ => true
def isiH : HE → Bool
  | .isi _ => true
  | .isis _ => true
  | _ => false
def chkCls (C : CC) : List Nat → List Expr → Bool
  | [], [] => true
  | k :: ks, .Name y _ :: es => (C.cls[k]? == some y) && C.glB y && chkCls C ks es
  | _, _ => false
def chkH (C : CC) (i : Nat) : HE → Expr → Bool
  | .bl b, x => (match x with
    | .Constant (.bool c) _ _ => b == c
    | _ => false)
  | .str s, x => (match x with
    | .Constant (.str t) _ _ => s == t
    | _ => false)
  | .non, x => (match x with
    | .Constant .none _ _ => true
    | _ => false)
  | .isi k, x => (match x with
    | .Call (.Name f _) [.Name n _, .Name y _] [] _ => (f == ("isinstance" : Str)) && C.freeB f && C.nameB i n && (C.cls[k]? == some y) && C.glB y
    | _ => false)
  | .isis ks, x => (match x with
    | .Call (.Name f _) [.Name n _, .Tuple es _ _] [] _ => (f == ("isinstance" : Str)) && C.freeB f && C.nameB i n && chkCls C ks es && decide (ks.length ≤ sizeLine)
    | _ => false)
  | .fld, x => false
def chkHs (C : CC) (i : Nat) : List HE → List Expr → Bool
  | [], [] => true
  | h :: hs, x :: xs => chkH C i h x && plainX x && chkHs C i hs xs
  | _, _ => false
def chkHds (C : CC) (as : List Nat) : List (Nat × Nat × List HE) → List ExceptHandler → Bool
  | [], [] => true
  | (k, i, hes) :: hs, .ExceptHandler (some (.Name x _)) (some n) [.Return (some (.Tuple xs _ _)) _] _ :: r => (C.cls[k]? == some x) && C.glB x && (C.N[i]? == some n) && (C.sc.names.lookup n == some .local) && chkHs C i hes xs && decide (hes.length ≤ sizeLine) && !as.contains i && chkHds C as hs r
  | _, _ => false
mutual
def chkS : S → CC → Stmt → Bool
  | .asg t e, C, st => (match st with
    | .Assign [tg] xe _ => chk e C false xe && !itOnly e && noSD xe && chkT C t tg && (match t with
      | .nm _ => (match tg with
        | .Name n p => !(C.swN n p.line xe) || lcE e
        | _ => false)
      | .tp _ => (match tg with
        | .Tuple ts _ _ => C.noSw ts xe
        | _ => false))
    | _ => false)
  | .par i j a b, C, st => (match st with
    | .Assign [.Tuple [.Name x px, .Name y py] _ _] (.Tuple [xa, xb] _ _) _ => decide (i ≠ j) && (C.N[i]? == some x) && (C.N[j]? == some y) && (C.sc.names.lookup x == some .local) && (C.sc.names.lookup y == some .local) && (px.line == py.line) && !(x == y) &&
        !([xa, xb].all (foldedForSure 8)) && !([xa, xb].all (constantsAlone 8)) && plainX xa && plainX xb && chk a C false xa && chk b C false xb && !itOnly a && !itOnly b
    | _ => false)
  | .par3 i j l a b c, C, st => (match st with
    | .Assign [.Tuple [.Name x px, .Name y py, .Name z pz] _ _] (.Tuple [xa, xb, xc] _ _) _ => decide (i ≠ j) && decide (i ≠ l) && decide (j ≠ l) && (C.N[i]? == some x) && (C.N[j]? == some y) && (C.N[l]? == some z) && (C.sc.names.lookup x == some .local) && (C.sc.names.lookup y == some .local) && (C.sc.names.lookup z == some .local) &&
        (px.line == py.line) && (px.line == pz.line) && !(y == x) && !(z == x) && !(z == y) && !([xa, xb, xc].all (foldedForSure 8)) && !([xa, xb, xc].all (constantsAlone 8)) && plainX xa && plainX xb && plainX xc && chk a C false xa && chk b C false xb && chk c C false xc && !itOnly a && !itOnly b && !itOnly c
    | _ => false)
  | .forK t i body, C, st => (match st with
    | .For tg (.Name n _) xb [] _ => C.nameB i n && chkT C t tg && chkSs body C xb
    | _ => false)
  | .seti i k e, C, st => (match st with
    | .Assign [.Subscript (.Name n _) xk _] xe _ => C.nameB i n && plainX xk && chk k C false xk && chk e C false xe && !itOnly k && !itOnly e
    | _ => false)
  | .app i e, C, st => (match st with
    | .Expr (.Call (.Attribute (.Name n _) m ap) [xe] [] cp) _ => (m == ("append" : Str)) && (ap.endLine == cp.line) && C.nameB i n && plainX xe && chk e C false xe && !itOnly e
    | _ => false)
  | .ifs c a b, C, st => (match st with
    | .If xc xa xb _ => chk c C false xc && !itOnly c && !ifE c && chkSs a C xa && chkSs b C xb
    | _ => false)
  | .for_ t it body, C, st => (match st with
    | .For tg xi xb [] _ => chk it C true xi && tgOk it tg && plainX xi && chkT C t tg && chkSs body C xb
    | _ => false)
  | .whl c body, C, st => (match st with
    | .While xc xb [] _ => chk c C false xc && !itOnly c && !ifE c && chkSs body C xb
    | _ => false)
  | .ret e, C, st => (match st with
    | .Return (some xe) _ => chk e C false xe && !itOnly e
    | _ => false)
  | .retn, C, st => (match st with
    | .Return none _ => true
    | _ => false)
  | .raise c, C, st => (match st with
    | .Raise (some (.Call (.Name n _) [.Constant (.str _) _ _] [] _)) none _ => (C.cls[c]? == some n) && C.glB n
    | _ => false)
  | .raiseP c e, C, st => false
  | .brk, C, st => (match st with
    | .Break _ => true
    | _ => false)
  | .cont, C, st => (match st with
    | .Continue _ => true
    | _ => false)
  | .pass, C, st => (match st with
    | .Pass _ => true
    | _ => false)
  | .expr e, C, st => (match st with
    | .Expr xe _ => chk e C false xe && !itOnly e && noComp xe
    | _ => false)
  | .tryRet body hs, C, st => (match st with
    | .Try xb (h0 :: hx) [] [] _ => chkSs body C xb && chkHds C (asgSs body) hs (h0 :: hx)
    | _ => false)
def chkSs : List S → CC → List Stmt → Bool
  | [], C, sts => (match sts with
    | [] => true
    | _ => false)
  | s :: ss, C, sts => (match sts with
    | st :: sts => chkS s C st && chkSs ss C sts
    | [] => false)
end

def SS (sub : Nat → Nat → Bool) (d : Nat) (Cl : Nat → Addr) (Γ : Env') (s : S) : Prop := ∀ (C : CC) (st : Stmt) (X : Cx) (W : WX), chkS s C st = true → SxOk C sub d X W Cl Γ → PS X st (TSt X W Cl Γ sub s)
def SSs (sub : Nat → Nat → Bool) (d : Nat) (Cl : Nat → Addr) (Γ : Env') (ss : List S) : Prop := ∀ (C : CC) (sts : List Stmt) (X : Cx) (W : WX), chkSs ss C sts = true → SxOk C sub d X W Cl Γ → PSs X sts (TSts X W Cl Γ sub ss)
section
variable {C : CC} {sub : Nat → Nat → Bool} {d : Nat} {X : Cx} {W : WX} {Cl : Nat → Addr} {Γ : Env'} {a b c e : E} {es : List E} {x y z : Expr} {xs : List Expr} {m : Bool} {pos : Pos}
theorem SxOk.bk (ok : SxOk C sub d X W Cl Γ) : X.env.blockKind = ScopeKind.function := by
  unfold Env.blockKind
  rw [ok.sc, ok.knd]
  rfl
theorem sw_noComp {t : Option Expr} {l : Nat} {env : Env} (h : noComp x = true) : swapsWith x t l env = pure false := by
  cases x <;> first | rfl | cases h
theorem sw_other {t : Expr} {l : Nat} {env : Env} (ht : ∀ n p, t ≠ .Name n p) : swapsWith x (some t) l env = pure false := by
  cases t <;> first | exact absurd rfl (ht _ _) | (cases x <;> rfl)
theorem sw_name (ok : SxOk C sub d X W Cl Γ) {n : Str} {p : Pos} {l : Nat} (h : noSD x = true) : swapsWith x (some (.Name n p)) l X.env = pure (C.swN n p.line x) := by
  cases x with
  | ListComp elt gs scope pos =>
    show pure (X.env.blockKind == ScopeKind.function && X.env.kindOf n == some NameKind.local && p.line == pos.line && _) = _
    rw [ok.bk]
    unfold Env.kindOf CC.swN
    rw [ok.sc]
    rfl
  | SetComp => cases h
  | DictComp => cases h
  | _ => rfl
theorem sw_none (ok : SxOk C sub d X W Cl Γ) {ts : List Expr} {k : Nat} {p : Pos} (h : C.noSw ts x = true) : swappedStores [.Tuple ts k p] x X.env = pure none := by
  cases x with
  | Tuple vs k2 p2 =>
    have h : (!(ts.length == 2 || ts.length == 3) || vs.length != ts.length || ((C.swNames ts).length != ts.length || (C.swNames ts).eraseDups.length != (C.swNames ts).length) || vs.all (foldedForSure 8)) = true := h
    have hk : X.env.kindOf = fun n => C.sc.names.lookup n := by
      funext n
      unfold Env.kindOf
      rw [ok.sc]
    rw [swappedStores.eq_def]
    simp only []
    rw [ok.bk, hk]
    by_cases h1 : (!(ts.length == 2 || ts.length == 3) || vs.length != ts.length || ScopeKind.function != ScopeKind.function) = true
    · rw [if_pos h1]
    · rw [if_neg h1]
      split
      · rfl
      · change (if ((C.swNames ts).length != ts.length || (C.swNames ts).eraseDups.length != (C.swNames ts).length) = true then pure none else if vs.all (foldedForSure 8) = true then pure none else _) = pure none
        by_cases h2 : ((C.swNames ts).length != ts.length || (C.swNames ts).eraseDups.length != (C.swNames ts).length) = true
        · rw [if_pos h2]
        · rw [if_neg h2]
          have h3 : (!(ts.length == 2 || ts.length == 3) || vs.length != ts.length) = false := by
            cases q : (!(ts.length == 2 || ts.length == 3) || vs.length != ts.length) with
            | false => rfl
            | true => rw [q] at h1; exact absurd rfl h1
          rw [h3, Bool.eq_false_iff.mpr h2] at h
          rw [if_pos (by simpa using h)]
  | _ => rfl
theorem ss_asg {t : Tg} (ie : SE d Cl Γ e) : SS sub d Cl Γ (.asg t e) := fun C st X W h ok => by
  unfold chkS at h
  split at h
  · rename_i tg xe p
    simp only [Bool.and_eq_true, Bool.not_eq_true'] at h
    obtain ⟨⟨⟨⟨h1, h2⟩, h3⟩, h4⟩, h5⟩ := h
    have s := (ie _ _ _ _ _ h1 ok.toCxOk).pe h2
    have g := chkT_ok ok.toCxOk t h4
    cases t with
    | nm i =>
      cases tg with
      | Name n p2 =>
        have h5 : (!(C.swN n p2.line xe) || lcE e) = true := h5
        unfold chkT at h4
        have h4 : C.stoB i n = true := h4
        have g2 := sto_ok (p := p2) ok.toCxOk h4
        apply ps_asgN
        have sw := sw_name (n := n) (p := p2) (l := p.line) ok h3
        cases q : C.swN n p2.line xe with
        | false =>
          rw [q] at sw
          exact ps_asg s g2 sw (by cases xe <;> rfl) rfl
        | true =>
          rw [q] at sw h5
          cases e with
          | lc e2 tg2 it2 c2 own =>
            obtain ⟨xe', xt, xi, xfs, scope, p3, ownP, rfl, eo, hi, hb, hg, ht, he, hs, hf⟩ := lc_parts (snd e2) (snd it2) (snd c2) h1 ok.toCxOk
            simp only [CC.stoB, Bool.and_eq_true, beq_iff_eq] at h4
            simp only [CC.swN, Bool.and_eq_true, beq_iff_eq] at q
            refine PS.imp (ps_setLc (i := i) ok.calm ok.nd (by rw [ok.n]; exact h4.1) (by rw [ok.sc]; exact q.1.1) sw hi hb hg ht he hf) fun D σ H h => ?_
            rw [eo]
            exact lc_imp hs h
          | _ => cases h5
      | _ => cases h5
    | tp ts =>
      cases tg with
      | Tuple es k p2 =>
        exact ps_asgT (ps_asg (pe_val s) g (show swapsWith xe (some (.Tuple es k p2)) p.line X.env = pure false from sw_other fun _ _ z => nomatch z) (sw_none ok h5) (by rw [plain_asg rfl]; rfl))
      | _ => cases h5
  · cases h
theorem ss_par {i j : Nat} (ia : SE d Cl Γ a) (ib : SE d Cl Γ b) : SS sub d Cl Γ (.par i j a b) := fun C st X W h ok => by
  unfold chkS at h
  split at h
  · rename_i x px y py kt pt xa xb k2 pt2 p
    simp only [Bool.and_eq_true, Bool.not_eq_true', beq_iff_eq, decide_eq_true_eq] at h
    obtain ⟨⟨⟨⟨⟨⟨⟨⟨⟨⟨⟨⟨⟨⟨h1, h2⟩, h3⟩, h4⟩, h5⟩, h6⟩, h7⟩, h8⟩, h9⟩, h10⟩, h11⟩, h12⟩, h13⟩, h14⟩, h15⟩ := h
    have hk : X.env.kindOf = fun n => C.sc.names.lookup n := by
      funext n
      unfold Env.kindOf
      rw [ok.sc]
    have sw : swappedStores [.Tuple [.Name x px, .Name y py] kt pt] (.Tuple [xa, xb] k2 pt2) X.env = pure (some [x, y]) := by
      rw [swappedStores.eq_def]
      simp only []
      rw [ok.bk, hk]
      rw [if_neg (by simp)]
      have hst : ∀ z : Expr, plainX z = true → (match z with | .Starred value pos => true | _ => false) = false := fun z hz => by cases z <;> first | rfl | cases hz
      have nm : (List.filterMap (fun x => match x with
        | Expr.Name id pos => if (C.sc.names.lookup id == some NameKind.local && pos.line == px.line) = true then some id else none
        | x => none) [Expr.Name x px, Expr.Name y py]) = [x, y] := by
        simp [h4, h5, h6]
      have nd : ([x, y] : List Str).eraseDups.length = 2 := by
        have hxy : (y == x) = false := by
          cases q : (y == x) with
          | false => rfl
          | true => rw [beq_iff_eq] at q; rw [q] at h7; simp at h7
        simp [List.eraseDups_cons, List.filter, hxy]
      rw [if_neg (by
        change ¬ ([xa, xb].any fun z => match z with | .Starred value pos => true | _ => false) = true
        simp only [List.any_cons, List.any_nil, hst xa h10, hst xb h11]
        decide)]
      change (if ((List.filterMap (fun x => match x with
        | Expr.Name id pos => if (C.sc.names.lookup id == some NameKind.local && pos.line == px.line) = true then some id else none
        | x => none) [Expr.Name x px, Expr.Name y py]).length != 2 || (List.filterMap (fun x => match x with
        | Expr.Name id pos => if (C.sc.names.lookup id == some NameKind.local && pos.line == px.line) = true then some id else none
        | x => none) [Expr.Name x px, Expr.Name y py]).eraseDups.length != (List.filterMap (fun x => match x with
        | Expr.Name id pos => if (C.sc.names.lookup id == some NameKind.local && pos.line == px.line) = true then some id else none
        | x => none) [Expr.Name x px, Expr.Name y py]).length) = true then pure none else if [xa, xb].all (foldedForSure 8) = true then pure none else if [xa, xb].all (constantsAlone 8) = true then _ else pure (some (List.filterMap (fun x => match x with
        | Expr.Name id pos => if (C.sc.names.lookup id == some NameKind.local && pos.line == px.line) = true then some id else none
        | x => none) [Expr.Name x px, Expr.Name y py]))) = _
      rw [nm, nd, if_neg (by simp), if_neg (by simp [h8]), if_neg (by simp [h9])]
    have pa := (ia _ _ _ _ _ h12 ok.toCxOk).pe h14
    have pb := (ib _ _ _ _ _ h13 ok.toCxOk).pe h15
    exact ps_par' h1 (ps_par ok.calm ok.nd (by rw [ok.n]; exact h2) (by rw [ok.n]; exact h3) h1 (by rw [ok.sc]; exact h4) (by rw [ok.sc]; exact h5) (pa_two pa pb (plain_star h10) (plain_star h11)) sw
      (show swapsWith (.Tuple [xa, xb] k2 pt2) (some (.Tuple [.Name x px, .Name y py] kt pt)) p.line X.env = pure false from rfl))
  · cases h
theorem ss_par3 {i j l : Nat} (ia : SE d Cl Γ a) (ib : SE d Cl Γ b) (ic : SE d Cl Γ c) : SS sub d Cl Γ (.par3 i j l a b c) := fun C st X W h ok => by
  unfold chkS at h
  split at h
  · rename_i x px y py z pz kt pt xa xb xc k2 pt2 p
    simp only [Bool.and_eq_true, Bool.not_eq_true', beq_iff_eq, decide_eq_true_eq] at h
    obtain ⟨⟨⟨⟨⟨⟨⟨⟨⟨⟨⟨⟨⟨⟨⟨⟨⟨⟨⟨⟨⟨⟨⟨⟨hij, hil⟩, hjl⟩, n1⟩, n2⟩, n3⟩, l1⟩, l2⟩, l3⟩, p1⟩, p2⟩, d1⟩, d2⟩, d3⟩, f1⟩, f2⟩, s1⟩, s2⟩, s3⟩, c1⟩, c2⟩, c3⟩, o1⟩, o2⟩, o3⟩ := h
    have hk : X.env.kindOf = fun n => C.sc.names.lookup n := by
      funext n
      unfold Env.kindOf
      rw [ok.sc]
    have sw : swappedStores [.Tuple [.Name x px, .Name y py, .Name z pz] kt pt] (.Tuple [xa, xb, xc] k2 pt2) X.env = pure (some [x, y, z]) := by
      rw [swappedStores.eq_def]
      simp only []
      rw [ok.bk, hk]
      rw [if_neg (by simp)]
      have hst : ∀ z : Expr, plainX z = true → (match z with | .Starred value pos => true | _ => false) = false := fun z hz => by cases z <;> first | rfl | cases hz
      have nm : C.swNames [Expr.Name x px, Expr.Name y py, Expr.Name z pz] = [x, y, z] := by
        simp [CC.swNames, l1, l2, l3, ← p1, ← p2, Expr.pos]
      have nd : ([x, y, z] : List Str).eraseDups.length = 3 := by
        simp [List.eraseDups_cons, List.filter, d1, d2, d3]
      rw [if_neg (by
        change ¬ ([xa, xb, xc].any fun z => match z with | .Starred value pos => true | _ => false) = true
        simp only [List.any_cons, List.any_nil, hst xa s1, hst xb s2, hst xc s3]
        decide)]
      change (if ((C.swNames [Expr.Name x px, Expr.Name y py, Expr.Name z pz]).length != 3 || (C.swNames [Expr.Name x px, Expr.Name y py, Expr.Name z pz]).eraseDups.length != (C.swNames [Expr.Name x px, Expr.Name y py, Expr.Name z pz]).length) = true then pure none else if [xa, xb, xc].all (foldedForSure 8) = true then pure none else if [xa, xb, xc].all (constantsAlone 8) = true then _ else pure (some (C.swNames [Expr.Name x px, Expr.Name y py, Expr.Name z pz]))) = _
      rw [nm, nd, if_neg (by simp), if_neg (by simp [f1]), if_neg (by simp [f2])]
    have pa := (ia _ _ _ _ _ c1 ok.toCxOk).pe o1
    have pb := (ib _ _ _ _ _ c2 ok.toCxOk).pe o2
    have pc := (ic _ _ _ _ _ c3 ok.toCxOk).pe o3
    exact ps_par3' (ps_par3 ok.calm ok.nd (by rw [ok.n]; exact n1) (by rw [ok.n]; exact n2) (by rw [ok.n]; exact n3) hij hil hjl (by rw [ok.sc]; exact l1) (by rw [ok.sc]; exact l2) (by rw [ok.sc]; exact l3) (pa_cons pa (pa_cons pb (pa_cons pc pa_nil (plain_star s3)) (plain_star s2)) (plain_star s1)) sw
      (show swapsWith (.Tuple [xa, xb, xc] k2 pt2) (some (.Tuple [.Name x px, .Name y py, .Name z pz] kt pt)) p.line X.env = pure false from rfl))
  · cases h
theorem ss_forK {t : Tg} {i : Nat} {p : List S} (ip : SSs sub d Cl Γ p) : SS sub d Cl Γ (.forK t i p) := fun C st X W h ok => by
  unfold chkS at h
  split at h
  · simp only [Bool.and_eq_true] at h
    obtain ⟨⟨h1, h2⟩, h3⟩ := h
    exact ps_forK' ok.pown ok.calm (name_ok ok.toCxOk h1) (chkT_ok ok.toCxOk t h2) (ip _ _ _ _ h3 ok) (fun _ => rfl)
  · cases h
theorem ss_seti {i : Nat} {k : E} (ik : SE d Cl Γ k) (ie : SE d Cl Γ e) : SS sub d Cl Γ (.seti i k e) := fun C st X W h ok => by
  unfold chkS at h
  split at h
  · rename_i n p1 xk p2 xe p
    simp only [Bool.and_eq_true, Bool.not_eq_true'] at h
    obtain ⟨⟨⟨⟨⟨h1, h2⟩, h3⟩, h4⟩, h5⟩, h6⟩ := h
    have pe := pe_val ((ie _ _ _ _ _ h4 ok.toCxOk).pe h6)
    have pk := pe_val ((ik _ _ _ _ _ h3 ok.toCxOk).pe h5)
    have sw : swapsWith xe (some (.Subscript (.Name n p1) xk p2)) p.line X.env = pure false := sw_other fun _ _ z => nomatch z
    refine ps_seti' (ps_asg pe (pg_sub (name_ok ok.toCxOk h1) pk set_list ?_) sw ?_ rfl) (ps_dput (by have := ok.units; omega) (name_ok ok.toCxOk h1) pk pe sw)
    · intro v
      cases xk <;> first | rfl | cases h2
    · cases xe <;> rfl
  · cases h
theorem ss_app {i : Nat} (ie : SE d Cl Γ e) : SS sub d Cl Γ (.app i e) := fun C st X W h ok => by
  unfold chkS at h
  split at h
  · rename_i n p1 mm ap xe cp p
    simp only [Bool.and_eq_true, Bool.not_eq_true', beq_iff_eq] at h
    obtain ⟨⟨⟨⟨⟨h1, h2⟩, h3⟩, h4⟩, h5⟩, h6⟩ := h
    subst h1
    refine ps_app' (ps_expr (pe_bm PySem.F.plainAttrs_list PySem.F.slot_list_append PySem.F.type_list_append mt_append (name_ok ok.toCxOk h3) (pa_cons (pe_val ((ie _ _ _ _ _ h5 ok.toCxOk).pe h6)) pa_nil (plain_star h4)) ?_ ?_ (beq_iff_eq.mpr h2) (plain_star h4) rfl) rfl)
    · rfl
    · rw [plain_star h4]; rfl
  · cases h
theorem ss_ifs {p q : List S} (ic : SE d Cl Γ c) (ip : SSs sub d Cl Γ p) (iq : SSs sub d Cl Γ q) : SS sub d Cl Γ (.ifs c p q) := fun C st X W h ok => by
  unfold chkS at h
  split at h
  · simp only [Bool.and_eq_true, Bool.not_eq_true'] at h
    obtain ⟨⟨⟨⟨h1, h2⟩, h3⟩, h4⟩, h5⟩ := h
    exact ps_ifs ((ic _ _ _ _ _ h1 ok.toCxOk).pt h2 h3) (ip _ _ _ _ h4 ok) (iq _ _ _ _ h5 ok)
  · cases h
theorem ss_for {t : Tg} {p : List S} (ia : SE d Cl Γ a) (ip : SSs sub d Cl Γ p) : SS sub d Cl Γ (.for_ t a p) := fun C st X W h ok => by
  unfold chkS at h
  split at h
  · simp only [Bool.and_eq_true] at h
    obtain ⟨⟨⟨⟨h1, h2⟩, h3⟩, h4⟩, h5⟩ := h
    exact ps_for' ok.pown ok.calm ((ia _ _ _ _ _ h1 ok.toCxOk).pi rfl _ h2) (chkT_ok ok.toCxOk t h4) (ip _ _ _ _ h5 ok) (plain_set h3)
  · cases h
theorem ss_whl {p : List S} (ic : SE d Cl Γ c) (ip : SSs sub d Cl Γ p) : SS sub d Cl Γ (.whl c p) := fun C st X W h ok => by
  unfold chkS at h
  split at h
  · simp only [Bool.and_eq_true, Bool.not_eq_true'] at h
    obtain ⟨⟨⟨h1, h2⟩, h3⟩, h4⟩ := h
    exact ps_whl' ok.pown ((ic _ _ _ _ _ h1 ok.toCxOk).pt h2 h3) (ip _ _ _ _ h4 ok)
  · cases h
theorem ss_ret (ie : SE d Cl Γ e) : SS sub d Cl Γ (.ret e) := fun C st X W h ok => by
  unfold chkS at h
  split at h
  · simp only [Bool.and_eq_true, Bool.not_eq_true'] at h
    exact ps_ret' ((ie _ _ _ _ _ h.1 ok.toCxOk).pe h.2)
  · cases h
theorem ss_retn : SS sub d Cl Γ .retn := fun C st X W h ok => by
  unfold chkS at h
  split at h
  · exact ps_retn'
  · cases h
theorem ss_raise {k : Nat} : SS sub d Cl Γ (.raise k) := fun C st X W h ok => by
  unfold chkS at h
  split at h
  · simp only [Bool.and_eq_true, beq_iff_eq] at h
    have q := ok.exs.exc k
    exact ps_raise' (ps_raise ok.calm ok.tk (pmk_own PySem.F.excBase_ValueError q.1 (ok.exs.glo _ _ h.1) q.2.1 (raises_own q.2.2.1 q.2.2.2) (ok.gl' h.2).1 (ok.gl' h.2).2))
  · cases h
theorem ss_brk : SS sub d Cl Γ .brk := fun C st X W h ok => by
  unfold chkS at h
  split at h
  · exact ps_brk'
  · cases h
theorem ss_cont : SS sub d Cl Γ .cont := fun C st X W h ok => by
  unfold chkS at h
  split at h
  · exact ps_cont'
  · cases h
theorem ss_pass : SS sub d Cl Γ .pass := fun C st X W h ok => by
  unfold chkS at h
  split at h
  · exact ps_pass'
  · cases h
theorem ss_expr (ie : SE d Cl Γ e) : SS sub d Cl Γ (.expr e) := fun C st X W h ok => by
  unfold chkS at h
  split at h
  · simp only [Bool.and_eq_true, Bool.not_eq_true'] at h
    exact ps_expr' ((ie _ _ _ _ _ h.1.1 ok.toCxOk).pe h.1.2) (sw_noComp h.2)
  · cases h
end
end EV
set_option Elab.async false
set_option linter.all false
set_option maxRecDepth 100000
set_option maxHeartbeats 1000000
/-! try, and all statements together. -/
namespace EV
open PySem L2
section
variable {C : CC} {sub : Nat → Nat → Bool} {d : Nat} {X : Cx} {W : WX} {Cl : Nat → Addr} {Γ : Env'} {a b c e : E} {es : List E} {x y z : Expr} {xs : List Expr} {m : Bool} {pos : Pos}
/-- what an except suite's tuple holds -/
def heR (sub : Nat → Nat → Bool) (c : Nat) : HE → V
  | .bl b => .bl b
  | .str s => .str s
  | .non => .non
  | .isi d => .bl (sub c d)
  | .isis ds => .bl (ds.any (sub c))
  | .fld => .non
theorem kitE {K : PySem.W.Frag} {mg : Str → Option Value} {cls : List Str} (q : Exs cls sub K mg Cl) (c k : Nat) : PySem.W.kitOne K (.ref (Cl c)) (.ref (Cl k)) = some (sub c k) := (q.exm c k).2
theorem kit_cls {K : PySem.W.Frag} {mg : Str → Option Value} {cls : List Str} (q : Exs cls sub K mg Cl) (c : Nat) : ∀ ks : List Nat, PySem.W.kitAny K (.ref (Cl c)) (ks.map fun k => .ref (Cl k)) = some (ks.any (sub c))
  | [] => by rw [List.map_nil, PySem.W.kitAny]; rfl
  | k :: ks => by
    rw [List.map_cons, PySem.W.kitAny, kitE q c k]
    cases h : sub c k with
    | true => simp [h]
    | false => simp [h, kit_cls q c ks]
theorem paired_cls : ∀ ks : List Nat, Paired ClsV (ks.map fun k => V.ref (Cl k)) (ks.map fun k => Value.ref (Cl k))
  | [] => .nil
  | _ :: ks => .cons (.own _) (paired_cls ks)
theorem pa_cls {A : Addr} {q : List (Addr × Obj)} (ok : SxOk C sub d X W Cl Γ) : ∀ {ks : List Nat} {es : List Expr}, chkCls C ks es = true → PA (X.suite A q) es fun _ H Q => Q (ks.map fun k => .ref (Cl k)) H
  | [], [], _ => pa_nil
  | [], _ :: _, h => by cases h
  | _ :: _, [], h => by cases h
  | k :: ks, .Name y p :: es, h => by
    simp only [chkCls, Bool.and_eq_true, beq_iff_eq] at h
    have pn2 : PE (X.suite A q) (.Name y p) (tC (.ref (Cl k))) := pe_glob (show Gl X y from (ok.gl' h.1.2).1) (ok.exs.glo _ _ h.1.1) (by exact rfl) (ok.gl' h.1.2).2
    exact PA.imp (pa_cons pn2 (pa_cls ok h.2) rfl) fun σ H Q q => q
theorem pe_he (ok : SxOk C sub d X W Cl Γ) {i c : Nat} {A : Addr} {oe : Obj} {dd : Option Addr} {pn : List (Addr × Obj)} (hz : Zc (.ref (Cl c)) dd oe) (hf : ∃ vs, oe.data = .fields vs) {h : HE} {x : Expr} (hc : chkH C i h x = true) (hd : isiH h = true → dd = none) :
    PE (X.suite A ((A, oe) :: pn)) x fun σ H Q => σ[i]? = some (some (.ref A)) ∧ ∀ H', SameH H H' → Q (heR sub c h) H' := by
  cases h with
  | bl b =>
    unfold chkH at hc
    dsimp only at hc
    split at hc
    · cases (beq_iff_eq.mp hc)
      exact PE.imp pe_bl fun σ H Q q => q.2 H fun _ _ z => z
    · cases hc
  | str b =>
    unfold chkH at hc
    dsimp only at hc
    split at hc
    · cases (beq_iff_eq.mp hc)
      exact PE.imp pe_str fun σ H Q q => q.2 H fun _ _ z => z
    · cases hc
  | non =>
    unfold chkH at hc
    dsimp only at hc
    split at hc
    · exact PE.imp pe_non fun σ H Q q => q.2 H fun _ _ z => z
    · cases hc
  | isi k =>
    unfold chkH at hc
    dsimp only at hc
    split at hc
    · rename_i f p n p2 y p3 p4
      simp only [Bool.and_eq_true, beq_iff_eq] at hc
      obtain ⟨⟨⟨⟨h1, h2⟩, h3⟩, h4⟩, h5⟩ := hc
      subst h1
      cases (hd rfl)
      simp only [CC.nameB, Bool.and_eq_true, beq_iff_eq, Bool.not_eq_true'] at h3
      obtain ⟨⟨⟨k1, k2⟩, k3⟩, k4⟩ := h3
      have pn1 : PE (X.suite A ((A, oe) :: pn)) (.Name n p2) (tVar i) := pv i (show X.N[i]? = some n by rw [ok.n]; exact k1) (by
        show List.lookup n X.env.scope.names = _ ∨ List.lookup n X.env.scope.names = _ ∨ List.lookup n X.env.scope.names = _
        rw [ok.sc]
        split at k2
        · rename_i q; exact .inl q
        · rename_i q; exact .inr (.inl q)
        · rename_i q; exact .inr (.inr q)
        · cases k2) k3 k4
      have pn2 : PE (X.suite A ((A, oe) :: pn)) (.Name y p3) (tC (.ref (Cl k))) := pe_glob (show Gl X y from (ok.gl' h5).1) (ok.exs.glo _ _ h4) (by exact rfl) (ok.gl' h5).2
      refine PE.imp (pe_callB (call_isE (ok.exs.isC c) hz hf) (show Gl X _ from (ok.free' h2).1) (ok.free' h2).2 boot_isi (pa_cons pn1 (pa_cons pn2 pa_nil rfl) rfl) (by decide +kernel) (by decide +kernel) rfl rfl) fun σ H Q q => ?_
      refine ⟨.ref A, q.1, .ref (Cl k), .ref (Cl k), sub c k, rfl, fun u r => ?_, kitE ok.exs c k, q.2 H fun _ _ z => z⟩
      cases u <;> first | (cases r; rfl) | exact r.elim | cases r
    · cases hc
  | isis ks =>
    unfold chkH at hc
    dsimp only at hc
    split at hc
    · rename_i f p n p2 es kk p3 p4
      simp only [Bool.and_eq_true, beq_iff_eq, decide_eq_true_eq] at hc
      obtain ⟨⟨⟨⟨h1, h2⟩, h3⟩, h4⟩, h5⟩ := hc
      subst h1
      cases (hd rfl)
      simp only [CC.nameB, Bool.and_eq_true, beq_iff_eq, Bool.not_eq_true'] at h3
      obtain ⟨⟨⟨k1, k2⟩, k3⟩, k4⟩ := h3
      have pn1 : PE (X.suite A ((A, oe) :: pn)) (.Name n p2) (tVar i) := pv i (show X.N[i]? = some n by rw [ok.n]; exact k1) (by
        show List.lookup n X.env.scope.names = _ ∨ List.lookup n X.env.scope.names = _ ∨ List.lookup n X.env.scope.names = _
        rw [ok.sc]
        split at k2
        · rename_i q; exact .inl q
        · rename_i q; exact .inr (.inl q)
        · rename_i q; exact .inr (.inr q)
        · cases k2) k3 k4
      refine PE.imp (pe_callB (call_isET (ok.exs.isC c) hz hf) (show Gl X _ from (ok.free' h2).1) (ok.free' h2).2 boot_isi (pa_cons pn1 (pa_cons (pe_tup (pa_cls ok h4)) pa_nil rfl) rfl) (by decide +kernel) (by decide +kernel) rfl rfl) fun σ H Q q => ?_
      refine ⟨.ref A, q.1, by simpa using h5, fun tp htp => ⟨tp, _, _, _, rfl, upd_same, paired_cls ks, kit_cls ok.exs c ks, q.2 _ fun b o e => by rw [upd_ne (ne_of_none e htp)]; exact e⟩⟩
    · cases hc
  | fld => unfold chkH at hc; cases hc
theorem pa_hes (ok : SxOk C sub d X W Cl Γ) {i c : Nat} {A : Addr} {oe : Obj} {dd : Option Addr} {pn : List (Addr × Obj)} (hz : Zc (.ref (Cl c)) dd oe) (hf : ∃ vs, oe.data = .fields vs) : ∀ {hs : List HE} {xs : List Expr}, chkHs C i hs xs = true → (hs.any isiH = true → dd = none) →
    PA (X.suite A ((A, oe) :: pn)) xs fun σ H Q => σ[i]? = some (some (.ref A)) ∧ ∀ H', SameH H H' → Q (hs.map (heR sub c)) H'
  | [], [], _, _ => PA.imp pa_nil fun σ H Q q => q.2 H fun _ _ z => z
  | [], _ :: _, h, _ => by cases h
  | _ :: _, [], h, _ => by cases h
  | h :: hs, x :: xs, hc, hd => by
    unfold chkHs at hc
    simp only [Bool.and_eq_true] at hc
    refine PA.imp (pa_cons (pe_he ok hz hf hc.1.1 fun k => hd (by rw [List.any_cons, k]; rfl)) (pa_hes ok hz hf hc.2 fun k => hd (by rw [List.any_cons, k, Bool.or_true])) (plain_star hc.1.2)) fun σ H Q q => ?_
    exact ⟨q.1, fun H1 s1 => ⟨q.1, fun H2 s2 => q.2 H2 fun b o e => s2 b o (s1 b o e)⟩⟩
theorem he_vr {K : PySem.W.Frag} {F : Addr → Prop} {H : Hp} {c i : Nat} {p : Option Val} {C : CC} : ∀ {hs : List HE} {vs : List Val} {xs : List Expr}, chkHs C i hs xs = true → hesV sub c p hs = some vs → VRs K F H vs (hs.map (heR sub c)) ∧ (hs.any isiH = true → p = none)
  | [], vs, _, _, e => by cases e; exact ⟨rfl, fun k => by cases k⟩
  | h :: hs, vs, [], hc, e => by cases hc
  | h :: hs, vs, x :: xs, hc, e => by
    unfold chkHs at hc
    simp only [Bool.and_eq_true] at hc
    unfold hesV at e
    cases e1 : heV sub c p h with
    | none => rw [e1] at e; cases e
    | some v =>
      rw [e1] at e
      cases e2 : hesV sub c p hs with
      | none => rw [e2] at e; cases e
      | some ws =>
        rw [e2] at e
        cases e
        obtain ⟨r, q⟩ := he_vr (K := K) (F := F) (H := H) hc.2 e2
        cases h with
        | bl b => cases e1; exact ⟨⟨_, _, rfl, rfl, r⟩, q⟩
        | str b => cases e1; exact ⟨⟨_, _, rfl, rfl, r⟩, q⟩
        | non => cases e1; exact ⟨⟨_, _, rfl, rfl, r⟩, q⟩
        | isi k =>
          cases p with
          | none => cases e1; exact ⟨⟨_, _, rfl, rfl, r⟩, fun _ => rfl⟩
          | some _ => cases e1
        | isis k =>
          cases p with
          | none => cases e1; exact ⟨⟨_, _, rfl, rfl, r⟩, fun _ => rfl⟩
          | some _ => cases e1
        | fld => have z := hc.1.1; unfold chkH at z; cases z
theorem gr_same {F : Addr → Prop} {H H' : Hp} (h : SameH H H') : Gr F F H H' := ⟨⟨fun a o q _ => h a o q, fun a o q => ⟨o, h a o q⟩, fun _ f => f, fun _ f => .inl f, fun t a f => let ⟨o, q⟩ := t a f; ⟨o, h a o q⟩⟩⟩
/-- what a suite does -/
def tsOf (sub : Nat → Nat → Bool) (Cl : Nat → Addr) (i : Nat) (hes : List HE) : Addr → Value → Option Addr → TS := fun a cls dd D σ H => ∃ c, cls = .ref (Cl c) ∧ (hes.any isiH = true → dd = none) ∧ σ[i]? = some (some (.ref a)) ∧ hes.length ≤ sizeLine ∧ ∀ H1, SameH H H1 → ∀ p, H1 p = none → D.rt (.ref p) (upd H1 p (.tup (hes.map (heR sub c))))
def hlOf (sub : Nat → Nat → Bool) (Cl : Nat → Addr) (hs : List (Nat × Nat × List HE)) : HL := hs.map fun h => (.ref (Cl h.1), some h.2.1, tsOf sub Cl h.2.1 h.2.2)
theorem hds_ok (ok : SxOk C sub d X W Cl Γ) {as : List Nat} : ∀ {hs : List (Nat × Nat × List HE)} {hx : List ExceptHandler}, chkHds C as hs hx = true → Hds X hx (hlOf sub Cl hs)
  | [], [], _ => .nil
  | [], _ :: _, h => by cases h
  | (k, i, hes) :: hs, hx, h => by
    unfold chkHds at h
    split at h
    · cases ‹(_ :: _ : List (Nat × Nat × List HE)) = []›
    · rename_i k' i' hes' hs' x p1 n xs p2 p3 p4 p5 r e
      cases e
      simp only [Bool.and_eq_true, beq_iff_eq, decide_eq_true_eq, Bool.not_eq_true'] at h
      obtain ⟨⟨⟨⟨⟨⟨⟨g1, g2⟩, g3⟩, g4⟩, g5⟩, g6⟩, g7⟩, g8⟩ := h
      refine .as_ (by rw [ok.n]; exact g3) (show X.env.scope.names.lookup n = _ by rw [ok.sc]; exact g4) ⟨(ok.gl' g2).1, (ok.gl' g2).2, .inl (ok.exs.glo _ _ g1)⟩ (fun a oe cls dd pn hz hf => ⟨fun pins s σ H D I q => ?_⟩) (hds_ok ok g8)
      obtain ⟨c, rfl, q1, q2, q3, q4⟩ := q
      exact (pss_one (ps_ret (pe_tup (pa_hes ok hz hf g5 q1)))).run pins s σ H D I ⟨q2, fun H1 s1 => ⟨by simpa using q3, q4 H1 s1⟩⟩
    · cases h
theorem hds_imp (ok : SxOk C sub d X W Cl Γ) {as : List Nat} {D : Ends} {ρ : Ro} {σ σ' : St} {F F' : Addr → Prop} {H H' : Hp} {c : Nat} {p : Option Val} {dd : Option Addr} (S : SR X.K F H ρ σ) (ex : Ext (Own ρ σ) F F' H H') (ag : ∀ j, j ∉ as → σ'[j]? = σ[j]?) (xr : XR X.K p dd F' H') :
    ∀ {hs : List (Nat × Nat × List HE)} {hx : List ExceptHandler}, chkHds C as hs hx = true → (hs.all fun h => decide (h.2.1 < ρ.length)) = true → ResS X.K W Cl as σ ρ F H (match catchL sub c p hs with
      | some (some vs) => .rt (.tup vs, false) (ρ.map fun _ => .no)
      | some none => .bad
      | none => .ex c p) D → wTries X.K W D (hlOf sub Cl hs) (.ref (Cl c)) dd σ' H'
  | [], _, _, _, h => h dd σ' F' H' ex ag xr
  | (k, i, hes) :: hs, hx, hc, hl, h => by
    unfold chkHds at hc
    split at hc
    · cases ‹(_ :: _ : List (Nat × Nat × List HE)) = []›
    · rename_i k' i' hes' hs' x p1 n xs p2 p3 p4 p5 r e
      cases e
      simp only [Bool.and_eq_true, beq_iff_eq, decide_eq_true_eq, Bool.not_eq_true'] at hc
      obtain ⟨⟨⟨⟨⟨⟨⟨g1, g2⟩, g3⟩, g4⟩, g5⟩, g6⟩, g7⟩, g8⟩ := hc
      simp only [List.all_cons, Bool.and_eq_true, decide_eq_true_eq] at hl
      have hil : i < ρ.length := hl.1
      have h : ResS X.K W Cl as σ ρ F H (match (if sub c k then some (hesV sub c p hes) else catchL sub c p hs) with
        | some (some vs) => .rt (.tup vs, false) (ρ.map fun _ => .no)
        | some none => .bad
        | none => .ex c p) D := h
      refine ⟨sub c k, (ok.exs.exm c k).1, fun hb a ha => ?_, fun hb => ?_⟩
      · rw [if_pos hb] at h
        cases e2 : hesV sub c p hes with
        | none => rw [e2] at h; exact h.elim
        | some vs =>
          rw [e2] at h
          refine ⟨c, rfl, fun hi => ?_, ?_, g6, fun H1 s1 q hq => ?_⟩
          · have := (he_vr (K := X.K) (F := F) (H := H) g5 e2).2 hi
            subst this
            exact xr
          · show (List.set σ' i (some (V.ref a)))[i]? = _
            rw [List.getElem?_set_self]
            have : σ'[i]? = σ[i]? := ag i fun hm => by
              rw [List.contains_iff_mem.mpr hm] at g7
              cases g7
            have hi : i < σ.length := by rw [← S.len]; exact hil
            rw [List.getElem?_eq_getElem hi] at this
            exact (List.getElem?_eq_some_iff.mp this).1
          · have ex1 : Ext (Own ρ σ) F F' H H1 := ex.trans (gr_same s1).ext fun a z => z.elim
            refine h σ (.ref q) F' (upd H1 q (.tup (hes.map (heR sub c)))) ?_ ?_
            · have no : ∀ {j : Nat} {v : Val}, (ρ.map fun _ => Sl.no)[j]? ≠ some (Sl.ow v) := fun {j v} z => by
                rw [List.getElem?_map] at z
                cases q : ρ[j]? with
                | none => rw [q] at z; cases z
                | some _ => rw [q] at z; cases z
              have tr : ∀ a, F' a → ∃ o, upd H1 q (.tup (hes.map (heR sub c))) a = some o := (Ext.laid (fun _ => False) F' hq).tr (ex1.tr S.ft)
              refine ⟨ex1.trans (Ext.laid (fun _ => False) F' hq) fun a z => z.elim, ⟨by rw [List.length_map]; exact S.len, fun j s o e1 e2 => ?_, fun j1 j2 v w a z => absurd z no, tr⟩, fun a ⟨j, v, z, _⟩ => absurd z no, fun _ _ => rfl⟩
              rw [List.getElem?_map] at e1
              cases q : ρ[j]? with
              | none => rw [q] at e1; cases e1
              | some _ => rw [q] at e1; cases e1; trivial
            · exact ⟨q, _, rfl, .inl (.inl upd_same), (he_vr g5 e2).1⟩
      · rw [if_neg (by rw [hb]; decide)] at h
        exact hds_imp ok S ex ag xr g8 hl.2 h
    · cases hc
theorem ss_try {body : List S} {hs : List (Nat × Nat × List HE)} (ib : SSs sub d Cl Γ body) : SS sub d Cl Γ (.tryRet body hs) := fun C st X W h ok => by
  unfold chkS at h
  split at h
  · rename_i xb h0 hx pp
    simp only [Bool.and_eq_true] at h
    obtain ⟨h1, h2⟩ := h
    refine PS.imp (ps_tries (tb := fun W' => TSts X W' Cl Γ sub body) ok.stk ok.frm ok.nd ok.tk
      (fun W' pn xe tk po => ib C xb (X.tr pn xe) W' h1 ⟨⟨ok.nd, ok.n, ok.sc, ok.fn, ok.calm, ok.room, tk, ok.glb⟩, po, ok.stk, ok.frm, ok.top, ok.knd, ok.exs⟩) (hds_ok ok h2)) fun D σ H h => ?_
    obtain ⟨ρ, F, S, h⟩ := h
    refine ⟨ρ, F, S, ?_⟩
    have h : ResS X.K W Cl (asgSs body) σ ρ F H (if hs.all (fun h => decide (h.2.1 < ρ.length)) then (match evSs Γ sub body ρ with
      | .ex c p => (match catchL sub c p hs with
        | some (some vs) => .rt (.tup vs, false) (ρ.map fun _ => .no)
        | some none => .bad
        | none => .ex c p)
      | o => o) else .bad) D := h
    by_cases hl : hs.all (fun h => decide (h.2.1 < ρ.length)) = true
    · rw [if_pos hl] at h
      cases e : evSs Γ sub body ρ with
      | nx ρ' => rw [e] at h; exact h
      | rt z ρ' => rw [e] at h; exact h
      | bk ρ' => rw [e] at h; exact h
      | ct ρ' => rw [e] at h; exact h
      | bad => rw [e] at h; exact h
      | ex c p =>
        rw [e] at h
        exact fun dd σ' F' H' ex ag xr => hds_imp ok S ex ag xr h2 hl h
    · rw [if_neg hl] at h
      exact h.elim
  · cases h
theorem ss_no {s : S} (h : ∀ C st, chkS s C st = false) : SS sub d Cl Γ s := fun C st X W k ok => by rw [h] at k; cases k
theorem sss_nil : SSs sub d Cl Γ [] := fun C sts X W h ok => by
  unfold chkSs at h
  split at h
  · exact pss_nil'
  · cases h
theorem sss_cons {s : S} {ss : List S} (i1 : SS sub d Cl Γ s) (i2 : SSs sub d Cl Γ ss) : SSs sub d Cl Γ (s :: ss) := fun C sts X W h ok => by
  unfold chkSs at h
  split at h
  · simp only [Bool.and_eq_true] at h
    exact pss_cons' (i1 _ _ _ _ h.1 ok) (i2 _ _ _ _ h.2 ok)
  · cases h
mutual
theorem sstm : ∀ s : S, SS sub d Cl Γ s
  | .asg t e => ss_asg (snd e)
  | .par _ _ a b => ss_par (snd a) (snd b)
  | .seti _ k e => ss_seti (snd k) (snd e)
  | .par3 _ _ _ a b c => ss_par3 (snd a) (snd b) (snd c)
  | .forK _ _ body => ss_forK (sstms body)
  | .app _ e => ss_app (snd e)
  | .ifs c a b => ss_ifs (snd c) (sstms a) (sstms b)
  | .for_ _ it body => ss_for (snd it) (sstms body)
  | .whl c body => ss_whl (snd c) (sstms body)
  | .ret e => ss_ret (snd e)
  | .retn => ss_retn
  | .raise _ => ss_raise
  | .raiseP _ _ => ss_no fun _ _ => rfl
  | .brk => ss_brk
  | .cont => ss_cont
  | .pass => ss_pass
  | .expr e => ss_expr (snd e)
  | .tryRet body _ => ss_try (sstms body)
theorem sstms : ∀ ss : List S, SSs sub d Cl Γ ss
  | [] => sss_nil
  | s :: ss => sss_cons (sstm s) (sstms ss)
end
end
end EV
set_option Elab.async false
set_option linter.all false
set_option maxRecDepth 100000
set_option maxHeartbeats 1000000
/-! A def keeps the promise that the evaluator makes. -/
namespace EV
open PySem PyProof.Rows L2
theorem outsL_len : ∀ {bs : List Bool} {as : List Sl} {ρ : Ro}, bs.length = as.length → (outsL bs as ρ).length = as.length
  | [], [], _, _ => rfl
  | _ :: bs, _ :: as, ρ, h => by
    show (outsL bs as ρ.tail).length + 1 = as.length + 1
    rw [outsL_len (by simpa using h)]
  | [], _ :: _, _, h => by cases h
  | _ :: _, [], _, h => by cases h
theorem outsL_get : ∀ {bs : List Bool} {as : List Sl} {ρ : Ro} {j : Nat} {s : Sl}, (outsL bs as ρ)[j]? = some s → s = .no ∨ (bs[j]? = some true ∧ (∃ v, as[j]? = some (.ow v)) ∧ ρ[j]? = some s)
  | [], _, _, _, _, h => by cases h
  | _ :: _, [], _, _, _, h => by cases h
  | b :: bs, a :: as, ρ, 0, s, h => by
    cases b with
    | false => cases h; exact .inl rfl
    | true =>
      cases a with
      | no => cases h; exact .inl rfl
      | fz _ => cases h; exact .inl rfl
      | ow v =>
        cases ρ with
        | nil => cases h; exact .inl rfl
        | cons x xs => cases h; exact .inr ⟨rfl, ⟨_, rfl⟩, rfl⟩
  | b :: bs, a :: as, ρ, j + 1, s, h => by
    have h : (outsL bs as ρ.tail)[j]? = some s := h
    rcases outsL_get h with h | ⟨h1, ⟨v, h2⟩, h3⟩
    · exact .inl h
    · refine .inr ⟨h1, ⟨v, h2⟩, ?_⟩
      cases ρ with
      | nil => cases h3
      | cons x xs => exact h3
def scB (N ps : List Str) (sc : Scope) : Bool :=
  decide (sc.kind = ScopeKind.function) && !sc.isCoroutine && !sc.isGenerator && decide N.Nodup && decide (List.take ps.length N = ps) && (ps.all fun x => (sc.names.lookup x == some .local) || (sc.names.lookup x == some .cell)) && sc.names.all fun y => !(y.2 == NameKind.free)
theorem scB_ok {N ps : List Str} {sc : Scope} (h : scB N ps sc = true) : FnScope N ps sc := by
  unfold scB at h
  simp only [Bool.and_eq_true, decide_eq_true_eq, Bool.not_eq_true', List.all_eq_true, Bool.or_eq_true, beq_iff_eq, beq_eq_false_iff_ne] at h
  obtain ⟨⟨⟨⟨⟨⟨h1, h2⟩, h3⟩, h4⟩, h5⟩, h6⟩, h7⟩ := h
  exact ⟨h1, h2, h3, h4, h5, h6, h7⟩
/-- the def's text is the language's function -/
def chkF (C : CC) (ps : List Str) (g : Fn) (st : Stmt) : Bool :=
  scB C.N ps (defScope st) && decide (C.N.length = g.ns) && decide (ps.length = g.np) && decide (g.np ≤ g.ns) && chkSs g.body { C with sc := defScope st, psc := none } (defBody st)
section
variable {C : CC} {prog : Program} {w : World} {K : PySem.W.Frag} {mg : Str → Option Value} {base : Heap} {Cl : Nat → Addr} {P : Prg}
theorem start_get {N : List Str} {vs : List V} {j : Nat} (h : j < vs.length) : (L2.start N vs)[j]? = (vs.map some)[j]? := by
  unfold L2.start
  rw [List.getElem?_append_left (by simpa using h)]
theorem fn_ok {d f : Nat} {x : Str} {st : Stmt} {ps : List Str} {g : Fn} {a : Addr} {fd : FuncData} (F : FunD K x x (defArgs st) (defBody st) (defScope st) [] [] a fd) (hc : chkF C ps g st = true) (hg : P.fns[f]? = some g)
    (G : Glb C d prog w K mg base Cl ⟨P.den d, P.stab, P.gl⟩) (Ex : Exs C.cls P.sub K mg Cl) : FnOk prog w K mg base (CX prog w) (d + 1) a fd ps (spF K Cl (P.den (d + 1) f)) := by
  unfold chkF at hc
  simp only [Bool.and_eq_true, decide_eq_true_eq] at hc
  obtain ⟨⟨⟨⟨h1, h2⟩, h3⟩, h4⟩, h5⟩ := hc
  have sc := scB_ok h1
  have hden : ∀ args, P.den (d + 1) f args = runFn ⟨P.den d, P.stab, P.gl⟩ P.sub g args := fun args => by
    show (match P.fns[f]? with | some g => runFn ⟨P.den d, P.stab, P.gl⟩ P.sub g args | none => .bad) = _
    rw [hg]
  have hbad : ∀ args : List Sl, args.length ≠ g.np → P.den (d + 1) f args = .bad := fun args hl => by
    rw [hden]
    unfold runFn
    rw [if_neg hl]
  refine F.ok sc (fun vs H Q E h => by rw [h3]; exact spF.len hbad vs H Q E h) (fun cdv A outer s H vs Q E hr h => ?_)
  let X := cxOf (CX prog w) prog w K mg base C.N x (defScope st) a cdv A outer s H E
  have tk : Takes X fun cls d _ H => E cls d H := takes_of rfl rfl rfl rfl
  have ok : SxOk { C with sc := defScope st, psc := none } P.sub d X (WE0 E) Cl ⟨P.den d, P.stab, P.gl⟩ :=
    ⟨⟨sc.nd, rfl, rfl, fun _ => rfl, rfl, hr, tk, ⟨G.fns, G.free, G.gcd, G.gl⟩⟩, passes_of rfl, rfl, rfl, rfl, sc.kind, Ex⟩
  refine ⟨_, sstms g.body _ _ X (WE0 E) h5 ok, ?_⟩
  obtain ⟨args, F0, S, r⟩ := h
  by_cases hl : args.length = g.np
  · have lv : vs.length = args.length := by rw [S.len, List.length_map]
    have S0 : SR K F0 H (args ++ List.replicate (g.ns - g.np) Sl.no) (L2.start C.N vs) := by
      have hn : ∀ (j : Nat) (s : Sl), (args ++ List.replicate (g.ns - g.np) Sl.no)[j]? = some s → (j < args.length ∧ args[j]? = some s) ∨ s = .no := fun j s e => by
        by_cases hj : j < args.length
        · rw [List.getElem?_append_left hj] at e
          exact .inl ⟨hj, e⟩
        · rw [List.getElem?_append_right (by omega), List.getElem?_replicate] at e
          split at e
          · cases e; exact .inr rfl
          · cases e
      refine ⟨?_, fun j s o e1 e2 => ?_, fun j1 j2 v1 v2 ad e1 e2 e3 e4 => ?_, S.ft⟩
      · unfold L2.start
        simp only [List.length_append, List.length_map, List.length_replicate]
        omega
      · rcases hn j s e1 with ⟨hj, e⟩ | e
        · rw [start_get (by omega)] at e2
          exact S.slot j s o e e2
        · subst e; trivial
      · rcases hn j1 _ e1 with ⟨hj, k1⟩ | e
        · rcases hn j2 _ e2 with ⟨hj2, k2⟩ | e
          · rw [start_get (by omega)] at e3 e4
            exact S.dist j1 j2 v1 v2 ad k1 k2 e3 e4
          · cases e
        · cases e
    have own0 : ∀ ad, Own (args ++ List.replicate (g.ns - g.np) Sl.no) (L2.start C.N vs) ad → Own args (vs.map some) ad := fun ad ⟨j, v, e1, e2⟩ => by
      by_cases hj : j < args.length
      · rw [List.getElem?_append_left hj] at e1
        rw [start_get (by omega)] at e2
        exact ⟨j, v, e1, e2⟩
      · rw [List.getElem?_append_right (by omega), List.getElem?_replicate] at e1
        split at e1 <;> cases e1
    have key : ∀ {ρ' : Ro} {σ' : L2.St} {F' : Addr → Prop} {H' : Hp}, GoS K (asgSs g.body) (args ++ List.replicate (g.ns - g.np) Sl.no) ρ' (L2.start C.N vs) σ' F0 F' H H' → Go K true args (outsL g.stab args ρ') (vs.map some) F0 F' H H' := fun {ρ' σ' F' H'} go => by
      have ls : g.stab.length = args.length := by unfold Fn.stab; rw [List.length_map, List.length_range, hl]
      have gt : ∀ (j : Nat) (s : Sl) (o : Option V), (outsL g.stab args ρ')[j]? = some s → (vs.map some)[j]? = some o → s = .no ∨ ((∃ v, args[j]? = some (.ow v)) ∧ ρ'[j]? = some s ∧ σ'[j]? = some o) := fun j s o e1 e2 => by
        rcases outsL_get e1 with h | ⟨k1, k2, k3⟩
        · exact .inl h
        · refine .inr ⟨k2, k3, ?_⟩
          have hj : j < vs.length := by
            have := (List.getElem?_eq_some_iff.mp e2).1
            simpa using this
          rw [go.agr j ?_, start_get hj]
          · exact e2
          · unfold Fn.stab at k1
            rw [List.getElem?_map] at k1
            cases q : (List.range g.np)[j]? with
            | none => rw [q] at k1; cases k1
            | some i =>
              rw [q] at k1
              have hi : i = j := by
                have := List.getElem?_eq_some_iff.mp q
                obtain ⟨z, e⟩ := this
                simpa using e.symm
              subst hi
              intro hm
              have k1 : some (!(asgSs g.body).contains i) = some true := k1
              rw [List.contains_iff_mem.mpr hm] at k1
              cases k1
      refine ⟨go.ext.wide own0, ⟨by rw [outsL_len ls, List.length_map, lv], fun j s o e1 e2 => ?_, fun j1 j2 v1 v2 ad e1 e2 e3 e4 => ?_, go.sr.ft⟩, fun ad ⟨j, v, e1, e2⟩ => ?_, fun e => by cases e⟩
      · rcases gt j s o e1 e2 with h | ⟨_, k1, k2⟩
        · subst h; trivial
        · exact go.sr.slot j s o k1 k2
      · rcases gt j1 _ _ e1 e3 with h | ⟨_, k1, k2⟩
        · cases h
        · rcases gt j2 _ _ e2 e4 with h | ⟨_, k3, k4⟩
          · cases h
          · exact go.sr.dist j1 j2 v1 v2 ad k1 k3 k2 k4
      · rcases gt j _ _ e1 e2 with h | ⟨⟨v2, k0⟩, _, _⟩
        · cases h
        · exact ⟨j, v2, k0, e2⟩
    refine ⟨args ++ List.replicate (g.ns - g.np) Sl.no, F0, S0, ?_⟩
    rw [hden] at r
    unfold runFn at r
    rw [if_pos hl] at r
    cases e : evSs ⟨P.den d, P.stab, P.gl⟩ P.sub g.body (args ++ List.replicate (g.ns - g.np) Sl.no) with
    | nx ρ' =>
      rw [e] at r
      exact fun σ' F' H' go => r F' H' (key go) .non rfl
    | rt z ρ' =>
      rw [e] at r
      exact fun σ' v F' H' go rx => r F' H' (key go) v rx
    | ex c p =>
      rw [e] at r
      exact fun dd σ' F' H' ex _ xr => r dd F' H' (ex.wide own0) xr
    | bk ρ' => rw [e] at r; exact r.elim
    | ct ρ' => rw [e] at r; exact r.elim
    | bad => rw [e] at r; exact r.elim
  · rw [hbad args hl] at r
    exact r.elim
theorem fn_ok0 {f : Nat} {ps : List Str} {a : Addr} {fd : FuncData} : FnOk prog w K mg base (CX prog w) 0 a fd ps (spF K Cl (P.den 0 f)) :=
  ⟨fun vs H Q E ⟨_, _, _, r⟩ => r.elim, fun _ _ _ _ _ _ _ _ _ _ _ _ _ ⟨_, _, _, r⟩ => r.elim⟩
end
end EV
set_option Elab.async false
set_option linter.all false
set_option maxRecDepth 100000
set_option maxHeartbeats 1000000
/-! A program of the language, and the head's facts about it. -/
namespace EV
open PySem PyProof.Rows L2
/-- a def of the program -/
structure PF where
  x : Str
  st : Stmt
  N : List Str
  ps : List Str
  g : Fn
/-- what is looked at in the head -/
structure PD where
  fs : List PF
  cls : List Str
  /-- of class k: is it a class j -/
  tab : List (List Bool)
  cns : List (Str × Int)
  free : List Str
  gcd : Bool
def PD.nrm (D : PD) (k : Nat) : Nat := if k < D.cls.length then k else 0
def PD.sub (D : PD) (k j : Nat) : Bool := (D.tab.getD (D.nrm k) []).getD (D.nrm j) false
def PD.prg (D : PD) : Prg := ⟨D.fs.map (·.g), D.cns.map fun p => (p.1, Val.int p.2), D.sub⟩
def PD.cc (D : PD) (N : List Str) : CC := ⟨N, ⟨.function, [], false, false, []⟩, none, D.fs.map (·.x), D.cls, D.cns.map (·.1), D.free, D.gcd⟩
def PD.fn (D : PD) : List He.DefD := D.fs.map fun p => ⟨(p.x, none), p.x, p.x, defArgs p.st, defBody p.st, defScope p.st, [], []⟩
def PD.prs (D : PD) : List (Nat × Nat) := (List.range D.cls.length).flatMap fun k => (List.range D.cls.length).map fun j => (k, j)
def PD.fa (D : PD) : List He.Fa := (D.fs.map fun p => .glo p.x) ++ (D.cls.map .glo ++ (D.cls.map .exc ++ (D.free.map .free ++ ((D.cns.map fun p => .int p.1 p.2) ++ D.prs.map fun p => .exm (D.cls.getD p.1 "") (D.cls.getD p.2 "") (D.sub p.1 p.2)))))
def excB (K : PySem.W.Frag) (D : Addr) : Bool :=
  He.eqO (PySem.W.findIn K (.ref D) "__getattribute__") (some (some (.builtin "BaseException.__getattribute__"))) && He.eqO (PySem.W.findIn K (.ref D) "__getattr__") (some none) && decide (PySem.W.subIn K (.ref D) (.type "BaseException") = some true) && PySem.W.hasDictIn K D &&
    He.eqO (PySem.W.findIn K (.ref D) "__class__") (some (some (.builtin "object.__class__"))) && He.eqO (PySem.W.specialIn K (.builtin "object.__class__") "__get__") (some (some (.builtin "getset_descriptor.__get__"))) && decide (PySem.W.takesIn K (.builtin "object.__class__") = some true) && decide (PySem.W.mroIn K D (.type "object") = some true)
def PD.t (D : PD) (K : PySem.W.Frag) : Bool :=
  (D.cls.all fun x => excB K (He.ga K x)) && (D.prs.all fun p => decide (PySem.W.kitOne K (.ref (He.ga K (D.cls.getD p.1 ""))) (.ref (He.ga K (D.cls.getD p.2 ""))) = some (D.sub p.1 p.2))) &&
    (!D.gcd || He.eqO (PySem.W.nsIn K mainGlobals "gcd") (some (some (.builtin "math.gcd"))))
/-- a hook that looks at more -/
def hookT (n : Nat) (fa : List He.Fa) (fn : List He.DefD) (t : PySem.W.Frag → Bool) : PySem.W.Hook where
  α := He.AlD × Bool
  obs s := (He.obsD fa fn (He.frG s.heap.get? (He.asD s.heap.get? n)), t (He.frG s.heap.get? (He.asD s.heap.get? n)))
  val _ := (He.valD fn, true)
  says _ h := ∃ K : PySem.W.Frag, K.In h ∧ He.SaysD fa fn K ∧ t K = true
  of w s e := ⟨_, He.frG_in, congrArg Prod.fst e, congrArg Prod.snd e⟩
  keeps w h h' := fun ⟨K, i, q⟩ k => ⟨K, fun a o e => k a o (i a o e), q⟩
def obT (n : Nat) (fa : List He.Fa) (fn : List He.DefD) (t : PySem.W.Frag → Bool) (s : PySem.W.SharedT) : He.AlD × Bool :=
  (He.obsD fa fn (He.frG (HandSHeadRun.getT s) (He.asD (HandSHeadRun.getT s) n)), t (He.frG (HandSHeadRun.getT s) (He.asD (HandSHeadRun.getT s) n)))
theorem obT_eq {n : Nat} {fa : List He.Fa} {fn : List He.DefD} {t : PySem.W.Frag → Bool} (s : PySem.W.SharedT) : obT n fa fn t s = (hookT n fa fn t).obs s.abs := by
  have e : HandSHeadRun.getT s = s.abs.heap.get? := funext fun a => HandSHeadRun.getT_eq s a
  show (He.obsD fa fn (He.frG (HandSHeadRun.getT s) (He.asD (HandSHeadRun.getT s) n)), t (He.frG (HandSHeadRun.getT s) (He.asD (HandSHeadRun.getT s) n))) = (He.obsD fa fn (He.frG s.abs.heap.get? (He.asD s.abs.heap.get? n)), t (He.frG s.abs.heap.get? (He.asD s.abs.heap.get? n)))
  rw [e]
def PD.Cl (D : PD) (K : PySem.W.Frag) (k : Nat) : Addr := He.ga K (D.cls.getD (D.nrm k) "")
def PF.Bind (p : PF) : Prop := ∀ (kV doc pm : Value) (an : Option Addr) (cdv ct : Value) (us : List Value), us.length = p.ps.length → bindArgs (PySem.W.fnOf p.x p.x (defArgs p.st) (defBody p.st) (defScope p.st) .none kV doc pm an cdv ct) { pos := us } = pure (p.ps.zip us)
section
variable {D : PD} {prog : Program} {w : World} {K : PySem.W.Frag} {mg : Str → Option Value} {base h : Heap}
theorem says_mem {fa : List He.Fa} {fn : List He.DefD} (c : He.SaysD fa fn K) {f : He.Fa} (m : f ∈ fa) : He.Fa.ok K f = true := by
  obtain ⟨i, e⟩ := List.getElem?_of_mem m
  exact c.fact i e
theorem nrm_lt (hp : 0 < D.cls.length) (k : Nat) : D.nrm k < D.cls.length := by
  unfold PD.nrm
  split <;> assumption
theorem nrm_at {k : Nat} {n : Str} (e : D.cls[k]? = some n) : D.nrm k = k ∧ D.cls.getD k "" = n := by
  have hk := (List.getElem?_eq_some_iff.mp e).1
  exact ⟨by unfold PD.nrm; rw [if_pos hk], by rw [List.getD_eq_getElem?_getD, e]; rfl⟩
theorem getD_mem {k : Nat} (hk : k < D.cls.length) : D.cls.getD k "" ∈ D.cls := by
  rw [List.getD_eq_getElem?_getD, List.getElem?_eq_getElem hk]
  exact List.getElem_mem hk
theorem prs_mem {k j : Nat} (hk : k < D.cls.length) (hj : j < D.cls.length) : (k, j) ∈ D.prs :=
  List.mem_flatMap.mpr ⟨k, List.mem_range.mpr hk, List.mem_map.mpr ⟨j, List.mem_range.mpr hj, rfl⟩⟩
theorem excB_ok {a : Addr} (e : excB K a = true) : ExcC K a := by
  unfold excB at e
  simp only [Bool.and_eq_true, decide_eq_true_eq] at e
  obtain ⟨⟨⟨⟨⟨⟨⟨h1, h2⟩, h3⟩, h4⟩, h5⟩, h6⟩, h7⟩, h8⟩ := e
  exact ⟨He.eqO_ok h1, He.eqO_ok h2, h3, h4, He.eqO_ok h5, He.eqO_ok h6, h7, h8⟩
theorem PD.exs (X : K.In h) (G : h.Ns mainGlobals mg) (c : He.SaysD D.fa D.fn K) (ht : D.t K = true) (hp : 0 < D.cls.length) : Exs D.cls D.sub K mg (D.Cl K) := by
  unfold PD.t at ht
  simp only [Bool.and_eq_true, List.all_eq_true, decide_eq_true_eq] at ht
  obtain ⟨⟨t1, t2⟩, _⟩ := ht
  have clsM : ∀ {f : He.Fa}, f ∈ D.cls.map He.Fa.glo → f ∈ D.fa := fun m => List.mem_append_right _ (List.mem_append_left _ m)
  have excM : ∀ {f : He.Fa}, f ∈ D.cls.map He.Fa.exc → f ∈ D.fa := fun m => List.mem_append_right _ (List.mem_append_right _ (List.mem_append_left _ m))
  have exmM : ∀ {f : He.Fa}, f ∈ (D.prs.map fun p => He.Fa.exm (D.cls.getD p.1 "") (D.cls.getD p.2 "") (D.sub p.1 p.2)) → f ∈ D.fa := fun m => List.mem_append_right _ (List.mem_append_right _ (List.mem_append_right _ (List.mem_append_right _ (List.mem_append_right _ m))))
  have sn : ∀ k j, D.sub (D.nrm k) (D.nrm j) = D.sub k j := fun k j => by
    have nn : ∀ i, D.nrm (D.nrm i) = D.nrm i := fun i => by
      have := nrm_lt hp i
      show (if D.nrm i < D.cls.length then D.nrm i else 0) = _
      rw [if_pos this]
    unfold PD.sub
    rw [nn, nn]
  refine ⟨fun k n e => ?_, fun k => ?_, fun k j => ⟨?_, ?_⟩, fun k => ?_⟩
  · obtain ⟨e1, e2⟩ := nrm_at e
    unfold PD.Cl
    rw [e1, e2]
    exact He.glo_ok X G (says_mem c (clsM (List.mem_map.mpr ⟨n, List.mem_of_getElem? e, rfl⟩)))
  · exact He.exc_ok (says_mem c (excM (List.mem_map.mpr ⟨_, getD_mem (nrm_lt hp k), rfl⟩)))
  · have m := says_mem c (exmM (List.mem_map.mpr ⟨(D.nrm k, D.nrm j), prs_mem (nrm_lt hp k) (nrm_lt hp j), rfl⟩))
    have := He.exm_ok m
    rw [sn] at this
    exact this
  · have := t2 _ (prs_mem (nrm_lt hp k) (nrm_lt hp j))
    rw [sn] at this
    exact this
  · exact excB_ok (t1 _ (getD_mem (nrm_lt hp k)))
theorem PD.fnOf (D : PD) (X : K.In h) (G : h.Ns mainGlobals mg) (c : He.SaysD D.fa D.fn K) (hb : ∀ p ∈ D.fs, p.Bind) (f : Nat) (x : Str) (e : (D.fs.map (·.x))[f]? = some x) : ∃ (p : PF) (fd : FuncData), p.x = x ∧ D.fs[f]? = some p ∧ FunD K p.x p.x (defArgs p.st) (defBody p.st) (defScope p.st) [] [] (He.ga K p.x) fd ∧ mg p.x = some (.ref (He.ga K p.x)) ∧ Binds K fd p.ps [] := by
    rw [List.getElem?_map] at e
    cases q : D.fs[f]? with
    | none => rw [q] at e; cases e
    | some p =>
      rw [q] at e
      cases e
      have e2 : D.fn[f]? = some ⟨(p.x, none), p.x, p.x, defArgs p.st, defBody p.st, defScope p.st, [], []⟩ := by
        unfold PD.fn
        rw [List.getElem?_map, q]
        rfl
      obtain ⟨fd, F⟩ := c.def_ f e2
      have pm := List.mem_of_getElem? q
      exact ⟨p, fd, rfl, rfl, F, He.glo_ok X G (says_mem c (List.mem_append_left _ (List.mem_map.mpr ⟨p, pm, rfl⟩))), FunD.bindsN (kws := []) F (hb p pm)⟩
theorem PD.glb (X : K.In h) (G : h.Ns mainGlobals mg) (c : He.SaysD D.fa D.fn K) (ht : D.t K = true) (hp : 0 < D.cls.length) (hk : ∀ p ∈ D.fs, chkF (D.cc p.N) p.ps p.g p.st = true) (hb : ∀ p ∈ D.fs, p.Bind) : ∀ (d : Nat) (N : List Str), Glb (D.cc N) d prog w K mg base (D.Cl K) ⟨D.prg.den d, D.prg.stab, D.prg.gl⟩ := by
  have sG := ht
  unfold PD.t at sG
  simp only [Bool.and_eq_true] at sG
  have freeM : ∀ {f : He.Fa}, f ∈ D.free.map He.Fa.free → f ∈ D.fa := fun m => List.mem_append_right _ (List.mem_append_right _ (List.mem_append_right _ (List.mem_append_left _ m)))
  have intM : ∀ {f : He.Fa}, f ∈ (D.cns.map fun p => He.Fa.int p.1 p.2) → f ∈ D.fa := fun m => List.mem_append_right _ (List.mem_append_right _ (List.mem_append_right _ (List.mem_append_right _ (List.mem_append_left _ m))))
  have rest : ∀ (d : Nat) (N : List Str), (∀ f x, (D.fs.map (·.x))[f]? = some x → ∃ (a : Addr) (fd : FuncData) (ps : List Str), FnOk prog w K mg base (CX prog w) d a fd ps (spF K (D.Cl K) (D.prg.den d f)) ∧ mg x = some (.ref a) ∧ PySem.W.keepIn K (.ref a) = true ∧ Binds K fd ps []) → Glb (D.cc N) d prog w K mg base (D.Cl K) ⟨D.prg.den d, D.prg.stab, D.prg.gl⟩ := fun d N hf => by
    refine ⟨hf, fun x m => He.free_ok X G (says_mem c (freeM (List.mem_map.mpr ⟨x, m, rfl⟩))), fun hg => ?_, fun g n e => ?_⟩
    · have : He.eqO (PySem.W.nsIn K mainGlobals "gcd") (some (some (.builtin "math.gcd"))) = true := by
        have q := sG.2
        rw [show D.gcd = true from hg] at q
        simpa using q
      exact PySem.W.mg_of X G (He.eqO_ok this)
    · have e : (D.cns.map (·.1))[g]? = some n := e
      rw [List.getElem?_map] at e
      cases q : D.cns[g]? with
      | none => rw [q] at e; cases e
      | some p =>
        rw [q] at e
        cases e
        obtain ⟨t, mt⟩ := He.int_ok X G (says_mem c (intM (List.mem_map.mpr ⟨p, List.mem_of_getElem? q, rfl⟩)))
        refine ⟨.int p.2, .int p.2 t, .int p.2, ?_, mt, ?_, fun _ _ => rfl⟩
        · show (D.cns.map fun p => (p.1, Val.int p.2))[g]? = _
          rw [List.getElem?_map, q]
          rfl
        · exact ⟨t, rfl⟩
  have fnOf := fun f x e => D.fnOf X G c hb f x e
  intro d
  induction d with
  | zero =>
    refine fun N => rest 0 N fun f x e => ?_
    obtain ⟨p, fd, rfl, _, F, mg, bd⟩ := fnOf f x e
    exact ⟨_, fd, p.ps, fn_ok0, mg, F.kp, bd⟩
  | succ d ih =>
    refine fun N => rest (d + 1) N fun f x e => ?_
    obtain ⟨p, fd, rfl, q, F, mg, bd⟩ := fnOf f x e
    have pm := List.mem_of_getElem? q
    refine ⟨_, fd, p.ps, fn_ok (C := D.cc p.N) (P := D.prg) F (hk p pm) ?_ (ih p.N) (D.exs X G c ht hp), mg, F.kp, bd⟩
    show (D.fs.map (·.g))[f]? = _
    rw [List.getElem?_map, q]
    rfl
/-- the law's own promise, and how it follows from what the evaluator gives -/
theorem law_in {f d : Nat} (hv : ∀ ns : List Int, ns.length ≤ 63 → ∃ o, D.prg.den d f [.fz (.scr (ns.map .int))] = .got ((.bl true, false), o)) (H : Hp) (a : Addr) (ns : List Int) (hn : ns.length ≤ 63) (hl : Only H) (hs : SqL K H a (ns.map V.int)) :
    spF K (D.Cl K) (D.prg.den d f) [V.ref a] H (fun v _ => v = .bl true) fun _ _ _ => False := by
  obtain ⟨o, e⟩ := hv ns hn
  have vrs : ∀ (F : Addr → Prop) (ns : List Int), VRs K F H (ns.map Val.int) (ns.map V.int) := fun F ns => by
    induction ns with
    | nil => rfl
    | cons n ns ih => exact ⟨_, _, rfl, rfl, ih⟩
  have fin : ∀ F : Addr → Prop, (∀ b, F b → ∃ o, H b = some o) → ScL K F H a (ns.map V.int) → spF K (D.Cl K) (D.prg.den d f) [V.ref a] H (fun v _ => v = .bl true) fun _ _ _ => False := fun F ft sl => by
    refine ⟨[.fz (.scr (ns.map .int))], F, ⟨rfl, fun i s o e1 e2 => ?_, fun i j v w b e1 => ?_, ft⟩, ?_⟩
    · cases i with
      | zero =>
        cases e1
        cases e2
        exact ⟨_, rfl, a, _, rfl, sl, vrs F ns⟩
      | succ i => cases e1
    · cases i with
      | zero => cases e1
      | succ i => cases e1
    · rw [e]
      exact fun F' H' _ x r => r
  rcases hs with (h | ⟨o, h⟩) | ⟨o, its, n, h1, h2, h3, h4, h5, h6⟩
  · exact fin (fun b => b = a) (fun b e => by subst e; exact ⟨_, h⟩) (.inl ⟨rfl, h⟩)
  · exact fin (fun _ => False) (fun _ z => z.elim) (.inr (.inl ⟨o, h⟩))
  · exact fin (fun _ => False) (fun _ z => z.elim) (.inr (.inr ⟨o, its, n, h1, h2, h3, h4, h5, h6⟩))
/-- what promises that nothing is raised keeps it where nothing is let through -/
theorem calm_ok {k : Nat} {f : Addr} {fd : FuncData} {ps : List Str} {sp : Sp} (F : FnOk prog w K mg base (CX prog w) k f fd ps sp) : FnOk prog w K mg base CX0 k f fd ps fun vs H Q _ => sp vs H Q fun _ _ _ => False := by
  refine ⟨fun vs H Q E h => F.len vs H Q _ h, fun A outer s H args us vs Q E r e b v hs => ?_⟩
  have z := F.run A outer s H args us vs Q _ r e b v hs
  have eq : CR (CX prog w) outer prog w H s Q (fun _ _ _ => False) = CR CX0 outer prog w H s Q E := by
    funext r s'
    cases r with
    | error e => exact propext ⟨fun ⟨_, _, _, _, _, _, _, _, _, _, _, _, z⟩ => z, fun z => z.elim⟩
    | ok f => cases f <;> rfl
  rw [eq] at z
  exact z
end
theorem law_walk {l : PySem.W.OpenLaw} {q : Program} {loose : List Str} {XP : (Str → Option Value) → Heap → Prop} {d : DefRec} {D : PD} {n f dd : Nat} {p : PF} (hn : l.most = some 63) (hdf : d.params.defaults = []) (hr : Room (dd + 1) callerA) (hp : 0 < D.cls.length)
    (hk : ∀ p ∈ D.fs, chkF (D.cc p.N) p.ps p.g p.st = true) (hb : ∀ p ∈ D.fs, p.Bind) (hf : D.fs[f]? = some p) (hx : p.ps = [("script" : Str)]) (hname : d.name = p.x)
    (hv : ∀ ns : List Int, ns.length ≤ 63 → ∃ o, D.prg.den (dd + 1) f [.fz (.scr (ns.map .int))] = .got ((.bl true, false), o)) :
    PySem.W.WalkO q loose XP (hookT n D.fa D.fn D.t).says l.row.toRowW d [] fun f vs => call f vs := by
  refine L2.walk_ofE (l := l) (n := 63) (k := dd + 1) (x := "script") (CX := L2.CX0) hn (by decide) hdf hr ?_ (fun _ _ _ _ z => z)
  intro w mg fa h Y G hmg
  obtain ⟨K, X, c, ht⟩ := Y
  have e : (D.fs.map (·.x))[f]? = some p.x := by rw [List.getElem?_map, hf]; rfl
  obtain ⟨p', fd, ex, q', F, mp, bd⟩ := D.fnOf X G c hb f p.x e
  rw [hf] at q'
  cases q'
  rw [hname, mp] at hmg
  cases hmg
  refine ⟨K, fd, fun vs H Q _ => spF K (D.Cl K) (D.prg.den (dd + 1) f) vs H Q fun _ _ _ => False, X, fun s v => ?_, fun H a ns hl on hs => law_in hv H a ns hl on hs, fun base hb1 hb2 => ?_⟩
  · have := FunD.bindsA (kws := []) F (hb p (List.mem_of_getElem? hf)) s [v] (by rw [hx]; rfl)
    rw [hx] at this
    exact this
  · have ok := fn_ok (base := base) (C := D.cc p.N) (P := D.prg) (d := dd) F (hk p (List.mem_of_getElem? hf)) (show (D.fs.map (·.g))[f]? = some p.g by rw [List.getElem?_map, hf]; rfl) (D.glb (prog := l.prog) (w := w) (base := base) X G c ht hp hk hb dd p.N) (D.exs X G c ht hp)
    rw [hx] at ok
    exact calm_ok ok
end EV
set_option Elab.async false
set_option linter.all false
set_option maxRecDepth 100000
set_option maxHeartbeats 1000000
/-! What a run gives, from its end backwards. -/
namespace EV
open PySem L2
abbrev XP := Nat → Option Val → Prop
def Rw {α : Type} (r : R α) (Q : α → Prop) (X : XP) : Prop := match r with
  | .got a => Q a
  | .ex c p => X c p
  | .bad => False
structure En where
  nx : Ro → Prop
  rt : Val × Bool → Ro → Prop
  bk : Ro → Prop := fun _ => False
  ct : Ro → Prop := fun _ => False
  ex : XP
def Ow (o : O) (k : En) : Prop := match o with
  | .nx ρ => k.nx ρ
  | .rt z ρ => k.rt z ρ
  | .bk ρ => k.bk ρ
  | .ct ρ => k.ct ρ
  | .ex c p => k.ex c p
  | .bad => False
def Ov {α : Type} (o : Option α) (Q : α → Prop) : Prop := match o with
  | some a => Q a
  | none => False
/-- a test, its ends untouched -/
def Ob (b : Bool) (p q : Prop) : Prop := if b = true then p else q
section
variable {α β : Type} {Q : α → Prop} {X : XP} {Γ : Env'} {sub : Nat → Nat → Bool} {ρ : Ro} {k : En}
theorem Ob_true {p q : Prop} : Ob true p q = p := if_pos rfl
theorem Ob_false {p q : Prop} : Ob false p q = q := if_neg (by decide)
theorem Ob_congr {b b' : Bool} {p q : Prop} (h : b = b') : Ob b p q = Ob b' p q := by rw [h]
theorem Rw_congr {r r' : R α} (h : r = r') : Rw r Q X = Rw r' Q X := by rw [h]
theorem Ow_congr {o o' : O} (h : o = o') : Ow o k = Ow o' k := by rw [h]
theorem Ov_congr {o o' : Option α} (h : o = o') : Ov o Q = Ov o' Q := by rw [h]
theorem Ob_split {b : Bool} {p q : Prop} (h1 : b = true → p) (h2 : b = false → q) : Ob b p q := by cases b <;> simp [Ob, h1, h2]
theorem Rw_got {a : α} : Rw (.got a) Q X = Q a := (rfl)
theorem Ov_some {a : α} : Ov (some a) Q = Q a := (rfl)
theorem Ov_ite {c : Prop} [Decidable c] {o : Option α} : Ov (if c then o else none) Q = (c ∧ Ov o Q) := by
  by_cases h : c <;> simp [h, Ov]
theorem Rw_bind {r : R β} {f : β → R α} : Rw (r.bind f) Q X = Rw r (fun a => Rw (f a) Q X) X := by cases r <;> rfl
theorem Rw_of {o : Option α} : Rw (R.of o) Q X = Ov o Q := by cases o <;> rfl
theorem Rw_mono {r : R α} {Q' : α → Prop} {X' : XP} (h : Rw r Q X) (q : ∀ a, Q a → Q' a) (x : ∀ c p, X c p → X' c p) : Rw r Q' X' := by
  cases r with
  | got a => exact q a h
  | ex c p => exact x c p h
  | bad => exact h
theorem Rw_iff {r : R α} : Rw r Q (fun _ _ => False) ↔ ∃ a, r = .got a ∧ Q a := by
  constructor
  · intro h
    cases r with
    | got a => exact ⟨a, rfl, h⟩
    | ex c p => exact h.elim
    | bad => exact h.elim
  · rintro ⟨a, rfl, h⟩
    exact h
theorem Ow_toO {r : R α} {f : α → O} : Ow (r.toO f) k = Rw r (fun a => Ow (f a) k) k.ex := by cases r <;> rfl
theorem Ow_then {o : O} {f : Ro → O} : Ow (o.andThen f) k = Ow o { k with nx := fun ρ => Ow (f ρ) k } := by cases o <;> rfl
/-! ### expressions -/
variable {Qv : (Val × Bool) × Ro → Prop} {Qb : Val × Ro → Prop}
theorem w_bvar {i : Nat} {r : RV} : Rw (borrow (.var i) ρ r) Qb X = Rw (rdB ρ i) Qb X := (rfl)
theorem w_bnv {e : E} (h : isVar e = false) : Rw (borrow e ρ (ev Γ e ρ)) Qb X = Rw (ev Γ e ρ) (fun z => Qb (z.1.1, z.2)) X := by
  have e1 : borrow e ρ (ev Γ e ρ) = (ev Γ e ρ).bind fun z => .got (z.1.1, z.2) := by cases e <;> first | rfl | cases h
  rw [e1, Rw_bind]
  rfl
theorem w_var {i : Nat} : Rw (ev Γ (.var i) ρ) Qv X = Rw (rdV ρ i) Qv X := (rfl)
theorem w_non : Rw (ev Γ .non ρ) Qv X = Qv ((.non, false), ρ) := (rfl)
theorem w_bl {b : Bool} : Rw (ev Γ (.bl b) ρ) Qv X = Qv ((.bl b, false), ρ) := (rfl)
theorem w_int {i : Int} : Rw (ev Γ (.int i) ρ) Qv X = Qv ((.int i, false), ρ) := (rfl)
theorem w_str {s : Str} : Rw (ev Γ (.str s) ρ) Qv X = Qv ((.str s, false), ρ) := (rfl)
theorem w_val {a : E} : Rw (ev Γ (.val a) ρ) Qv X = Rw (ev Γ a ρ) Qv X := (rfl)
theorem w_one {a : E} : Rw (ev Γ (.one a) ρ) Qv X = Rw (ev Γ a ρ) Qv X := (rfl)
theorem w_bin {op : Op} {a b : E} : Rw (ev Γ (.bin op a b) ρ) Qv X = Rw (borrow a ρ (ev Γ a ρ)) (fun x => Rw (borrow b x.2 (ev Γ b x.2)) (fun y => Ov (binV op x.1 y.1) fun v => Qv (v, y.2)) X) X := by
  show Rw (R.bind _ _) _ _ = _
  simp only [Rw_bind, Rw_of, Rw_got]
def negV : Val → Option Val
  | .int i => some (.int (-i))
  | _ => none
theorem w_neg {a : E} : Rw (ev Γ (.neg a) ρ) Qv X = Rw (ev Γ a ρ) (fun x => Ov (negV x.1.1) fun v => Qv ((v, false), x.2)) X := by
  show Rw (R.bind _ _) _ _ = _
  rw [Rw_bind]
  congr 1
  funext x
  obtain ⟨⟨v, f⟩, ρ⟩ := x
  cases v <;> rfl
theorem w_test {r : RV} {Qt : Bool × Ro → Prop} : Rw (testR r) Qt X = Rw r (fun z => Ov (truth z.1.1) fun b => Qt (b, z.2)) X := by
  show Rw (R.bind _ _) _ _ = _
  rw [Rw_bind]
  congr 1
  funext x
  cases truth x.1.1 <;> rfl
theorem w_not {a : E} : Rw (ev Γ (.not a) ρ) Qv X = Rw (ev Γ a ρ) (fun z => Ov (truth z.1.1) fun b => Qv ((.bl (!b), false), z.2)) X := by
  show Rw (R.bind _ _) _ _ = _
  rw [Rw_bind, w_test]
  rfl
theorem w_and {a b : E} : Rw (ev Γ (.and a b) ρ) Qv X = Rw (ev Γ a ρ) (fun z => Ov (truth z.1.1) fun t => Ob t (Rw (ev Γ b z.2) Qv X) (Qv z)) X := by
  show Rw (R.bind _ _) _ _ = _
  rw [Rw_bind]
  congr 1
  funext x
  cases truth x.1.1 with
  | none => rfl
  | some t => cases t <;> simp [Ov, Rw, Ob]
theorem w_or {a b : E} : Rw (ev Γ (.or a b) ρ) Qv X = Rw (ev Γ a ρ) (fun z => Ov (truth z.1.1) fun t => Ob t (Qv z) (Rw (ev Γ b z.2) Qv X)) X := by
  show Rw (R.bind _ _) _ _ = _
  rw [Rw_bind]
  congr 1
  funext x
  cases truth x.1.1 with
  | none => rfl
  | some t => cases t <;> simp [Ov, Rw, Ob]
theorem w_ife {c a b : E} : Rw (ev Γ (.ife c a b) ρ) Qv X = Rw (ev Γ c ρ) (fun z => Ov (truth z.1.1) fun t => Ob t (Rw (ev Γ a z.2) Qv X) (Rw (ev Γ b z.2) Qv X)) X := by
  show Rw (R.bind _ _) _ _ = _
  rw [Rw_bind, w_test]
  congr 1
  funext x
  cases truth x.1.1 with
  | none => rfl
  | some t => cases t <;> simp [Ov, Ob]
theorem w_cmp {op : Cm} {a b : E} : Rw (ev Γ (.cmp op a b) ρ) Qv X = Rw (borrow a ρ (ev Γ a ρ)) (fun x => Rw (borrow b x.2 (ev Γ b x.2)) (fun y => Ov (cmpW op x.1 y.1) fun v => Qv ((.bl v, false), y.2)) X) X := by
  show Rw (R.bind _ _) _ _ = _
  simp only [Rw_bind, Rw_of, Rw_got]
theorem w_chain {op op' : Cm} {a b c : E} : Rw (ev Γ (.chain op op' a b c) ρ) Qv X = Rw (borrow a ρ (ev Γ a ρ)) (fun x => Rw (borrow b x.2 (ev Γ b x.2)) (fun y => Ov (cmpV op x.1 y.1) fun v => Ob v (Rw (borrow c y.2 (ev Γ c y.2)) (fun z => Ov (cmpV op' y.1 z.1) fun w => Qv ((.bl w, false), z.2)) X) (Qv ((.bl false, false), y.2))) X) X := by
  show Rw (R.bind _ _) _ _ = _
  simp only [Rw_bind, Rw_of, Rw_got]
  congr 1
  funext x
  congr 1
  funext y
  congr 1
  funext v
  cases v with
  | true =>
    show Rw (R.bind _ _) _ _ = _
    simp only [Rw_bind, Rw_of, Rw_got, Ob_true]
  | false => simp [Rw, Ob]
theorem w_call {f : Nat} {es : List E} : Rw (ev Γ (.call f es) ρ) Qv X = Rw (evAs Γ (Γ.stab f) es ρ) (fun z => Rw (Γ.den f (z.1.map (·.1))) (fun y => Qv (y.1, giveR (z.1.map (·.2)) y.2 z.2)) X) X := by
  show Rw (R.bind _ _) _ _ = _
  simp only [Rw_bind, Rw_got]
theorem w_bi {b : BI} {es : List E} : Rw (ev Γ (.bi b es) ρ) Qv X = Rw (evBs Γ es ρ) (fun z => Ov (biV b z.1) fun v => Qv (v, z.2)) X := by
  show Rw (R.bind _ _) _ _ = _
  simp only [Rw_bind, Rw_of, Rw_got]
theorem w_isi {a : E} {t : Ty} : Rw (ev Γ (.isi a t) ρ) Qv X = Rw (borrow a ρ (ev Γ a ρ)) (fun x => Qv ((.bl (isTy x.1 t), false), x.2)) X := by
  show Rw (R.bind _ _) _ _ = _
  simp only [Rw_bind, Rw_got]
theorem w_isis {a : E} {ts : List Ty} : Rw (ev Γ (.isis a ts) ρ) Qv X = Rw (borrow a ρ (ev Γ a ρ)) (fun x => Qv ((.bl (ts.any (isTy x.1)), false), x.2)) X := by
  show Rw (R.bind _ _) _ _ = _
  simp only [Rw_bind, Rw_got]
theorem w_ix {a b : E} : Rw (ev Γ (.ix a b) ρ) Qv X = Rw (borrow a ρ (ev Γ a ρ)) (fun x => Rw (ev Γ b x.2) (fun y => Ov (ixW x.1 y.1.1) fun v => Qv ((v, false), y.2)) X) X := by
  show Rw (R.bind _ _) _ _ = _
  simp only [Rw_bind, Rw_of, Rw_got]
theorem w_sl {a lo hi : E} : Rw (ev Γ (.sl a lo hi) ρ) Qv X = Rw (borrow a ρ (ev Γ a ρ)) (fun x => Rw (partR lo x.2 (ev Γ lo x.2)) (fun l => Rw (partR hi l.2 (ev Γ hi l.2)) (fun h => Ov (slV x.1 l.1 h.1) fun v => Qv (v, h.2)) X) X) X := by
  show Rw (R.bind _ _) _ _ = _
  simp only [Rw_bind, Rw_of, Rw_got]
theorem w_rev {a : E} : Rw (ev Γ (.rev a) ρ) Qv X = Rw (borrow a ρ (ev Γ a ρ)) (fun x => Ov (revV x.1) fun v => Qv (v, x.2)) X := by
  show Rw (R.bind _ _) _ _ = _
  simp only [Rw_bind, Rw_of, Rw_got]
theorem w_tup {es : List E} : Rw (ev Γ (.tup es) ρ) Qv X = Rw (evs Γ es ρ) (fun z => z.1.length ≤ sizeLine ∧ Qv ((.tup z.1, false), z.2)) X := by
  show Rw (R.bind _ _) _ _ = _
  rw [Rw_bind]
  congr 1
  funext z
  by_cases h : z.1.length ≤ sizeLine <;> simp [h, Rw]
theorem w_lst {es : List E} : Rw (ev Γ (.lst es) ρ) Qv X = Rw (evs Γ es ρ) (fun z => z.1.length ≤ sizeLine ∧ Qv ((.lst z.1, true), z.2)) X := by
  show Rw (R.bind _ _) _ _ = _
  rw [Rw_bind]
  congr 1
  funext z
  by_cases h : z.1.length ≤ sizeLine <;> simp [h, Rw]
variable {Ql : List Val × Ro → Prop}
theorem w_snil : Rw (evs Γ [] ρ) Ql X = Ql ([], ρ) := (rfl)
theorem w_scons {e : E} {es : List E} : Rw (evs Γ (e :: es) ρ) Ql X = Rw (ev Γ e ρ) (fun x => Rw (evs Γ es x.2) (fun y => Ql (x.1.1 :: y.1, y.2)) X) X := by
  show Rw (R.bind _ _) _ _ = _
  simp only [Rw_bind, Rw_got]
theorem w_bnil : Rw (evBs Γ [] ρ) Ql X = Ql ([], ρ) := (rfl)
theorem w_bcons {e : E} {es : List E} : Rw (evBs Γ (e :: es) ρ) Ql X = Rw (borrow e ρ (ev Γ e ρ)) (fun x => Rw (evBs Γ es x.2) (fun y => Ql (x.1 :: y.1, y.2)) X) X := by
  show Rw (R.bind _ _) _ _ = _
  simp only [Rw_bind, Rw_got]
variable {Qa : List (Sl × Option Nat) × Ro → Prop} {Qp : (Sl × Option Nat) × Ro → Prop}
theorem w_anil {sts : List Bool} : Rw (evAs Γ sts [] ρ) Qa X = Qa ([], ρ) := (rfl)
theorem w_aconsN {e : E} {es : List E} {st : Bool} {sts : List Bool} (h : isVar e = false) : Rw (evAs Γ (st :: sts) (e :: es) ρ) Qa X = Rw (ev Γ e ρ) (fun x => Rw (evAs Γ sts es x.2) (fun y => Qa ((.fz x.1.1, none) :: y.1, y.2)) X) X := by
  have e1 : lateA st e ρ = none := by cases st <;> cases e <;> first | rfl | cases h
  have e2 : passA st e ρ (ev Γ e ρ) = (ev Γ e ρ).bind fun z => .got ((.fz z.1.1, none), z.2) := by cases st <;> cases e <;> first | rfl | cases h
  show Rw (match lateA st e ρ with
    | some i => (evAs Γ sts es ρ).bind (takeA i)
    | none => (passA st e ρ (ev Γ e ρ)).bind fun x => (evAs Γ sts es x.2).bind fun y => .got (x.1 :: y.1, y.2)) _ _ = _
  rw [e1, e2]
  simp only [Rw_bind, Rw_got]
theorem w_aconsF {i : Nat} {es : List E} {sts : List Bool} : Rw (evAs Γ (false :: sts) (.var i :: es) ρ) Qa X = Rw (rdV ρ i) (fun x => Rw (evAs Γ sts es x.2) (fun y => Qa ((.fz x.1.1, none) :: y.1, y.2)) X) X := by
  show Rw (R.bind (R.bind (rdV ρ i) _) _) _ _ = _
  simp only [Rw_bind, Rw_got]
  rfl
theorem w_aconsT {i : Nat} {es : List E} {sts : List Bool} : Rw (evAs Γ (true :: sts) (.var i :: es) ρ) Qa X = match ρ[i]? with
    | some (.fz v) => Rw (evAs Γ sts es ρ) (fun y => Qa ((.fz v, none) :: y.1, y.2)) X
    | some (.ow _) => Rw (evAs Γ sts es ρ) (fun y => match y.2[i]? with
      | some (.ow v) => Qa ((.ow v, some i) :: y.1, y.2.set i .no)
      | some (.fz v) => Qa ((.fz v, none) :: y.1, y.2)
      | _ => False) X
    | _ => False := by
  show Rw (match lateA true (.var i) ρ with
    | some i => (evAs Γ sts es ρ).bind (takeA i)
    | none => (passA true (.var i) ρ (ev Γ (.var i) ρ)).bind fun x => (evAs Γ sts es x.2).bind fun y => .got (x.1 :: y.1, y.2)) _ _ = _
  have hl : lateA true (.var i) ρ = (match ρ[i]? with
    | some (.ow _) => some i
    | _ => none) := rfl
  have hp : passA true (.var i) ρ (ev Γ (.var i) ρ) = (match ρ[i]? with
    | some (.fz v) => .got ((.fz v, none), ρ)
    | some (.ow v) => .got ((.ow v, some i), ρ.set i .no)
    | _ => .bad) := rfl
  rw [hl, hp]
  cases hs : ρ[i]? with
  | none => rfl
  | some s =>
    cases s with
    | no => rfl
    | fz v =>
      show Rw (R.bind _ _) _ _ = _
      simp only [Rw_bind, Rw_got]
    | ow v =>
      show Rw (R.bind _ _) _ _ = _
      rw [Rw_bind]
      show Rw _ _ _ = Rw _ _ _
      congr 1
      funext y
      unfold takeA
      cases y.2[i]? with
      | none => rfl
      | some s => cases s <;> rfl
theorem w_prnop {r : RV} {Qo : Option Int × Ro → Prop} : Rw (partR .nop ρ r) Qo X = Qo (none, ρ) := (rfl)
theorem w_pr {e : E} {Qo : Option Int × Ro → Prop} (h : nopE e = false) : Rw (partR e ρ (ev Γ e ρ)) Qo X = Rw (ev Γ e ρ) (fun y => Ov (partV y.1.1) fun i => Qo (some i, y.2)) X := by
  have e1 : partR e ρ (ev Γ e ρ) = (ev Γ e ρ).bind fun y => (R.of (partV y.1.1)).bind fun i => .got (some i, y.2) := by cases e <;> first | rfl | cases h
  rw [e1]
  simp only [Rw_bind, Rw_of, Rw_got]
theorem iv_non : isVar (.non) = false := rfl
theorem iv_bl : ∀ x0, isVar (.bl x0) = false := fun _ => rfl
theorem iv_int : ∀ x0, isVar (.int x0) = false := fun _ => rfl
theorem np_int : ∀ x0, nopE (.int x0) = false := fun _ => rfl
theorem iv_str : ∀ x0, isVar (.str x0) = false := fun _ => rfl
theorem iv_glob : ∀ x0, isVar (.glob x0) = false := fun _ => rfl
theorem iv_bin : ∀ x0 x1 x2, isVar (.bin x0 x1 x2) = false := fun _ _ _ => rfl
theorem np_bin : ∀ x0 x1 x2, nopE (.bin x0 x1 x2) = false := fun _ _ _ => rfl
theorem iv_neg : ∀ x0, isVar (.neg x0) = false := fun _ => rfl
theorem np_neg : ∀ x0, nopE (.neg x0) = false := fun _ => rfl
theorem iv_not : ∀ x0, isVar (.not x0) = false := fun _ => rfl
theorem iv_and : ∀ x0 x1, isVar (.and x0 x1) = false := fun _ _ => rfl
theorem iv_or : ∀ x0 x1, isVar (.or x0 x1) = false := fun _ _ => rfl
theorem iv_one : ∀ x0, isVar (.one x0) = false := fun _ => rfl
theorem iv_ife : ∀ x0 x1 x2, isVar (.ife x0 x1 x2) = false := fun _ _ _ => rfl
theorem np_ife : ∀ x0 x1 x2, nopE (.ife x0 x1 x2) = false := fun _ _ _ => rfl
theorem iv_cmp : ∀ x0 x1 x2, isVar (.cmp x0 x1 x2) = false := fun _ _ _ => rfl
theorem iv_chain : ∀ x0 x1 x2 x3 x4, isVar (.chain x0 x1 x2 x3 x4) = false := fun _ _ _ _ _ => rfl
theorem iv_call : ∀ x0 x1, isVar (.call x0 x1) = false := fun _ _ => rfl
theorem np_call : ∀ x0 x1, nopE (.call x0 x1) = false := fun _ _ => rfl
theorem iv_bi : ∀ x0 x1, isVar (.bi x0 x1) = false := fun _ _ => rfl
theorem np_bi : ∀ x0 x1, nopE (.bi x0 x1) = false := fun _ _ => rfl
theorem iv_isi : ∀ x0 x1, isVar (.isi x0 x1) = false := fun _ _ => rfl
theorem iv_isis : ∀ x0 x1, isVar (.isis x0 x1) = false := fun _ _ => rfl
theorem iv_ix : ∀ x0 x1, isVar (.ix x0 x1) = false := fun _ _ => rfl
theorem np_ix : ∀ x0 x1, nopE (.ix x0 x1) = false := fun _ _ => rfl
theorem iv_sl : ∀ x0 x1 x2, isVar (.sl x0 x1 x2) = false := fun _ _ _ => rfl
theorem iv_rev : ∀ x0, isVar (.rev x0) = false := fun _ => rfl
theorem iv_tup : ∀ x0, isVar (.tup x0) = false := fun _ => rfl
theorem iv_lst : ∀ x0, isVar (.lst x0) = false := fun _ => rfl
theorem iv_lc : ∀ x0 x1 x2 x3 x4, isVar (.lc x0 x1 x2 x3 x4) = false := fun _ _ _ _ _ => rfl
theorem iv_disp : ∀ x0 x1, isVar (.disp x0 x1) = false := fun _ _ => rfl
theorem iv_get : ∀ x0 x1 x2, isVar (.get x0 x1 x2) = false := fun _ _ _ => rfl
theorem iv_lcK : ∀ x0 x1 x2 x3 x4, isVar (.lcK x0 x1 x2 x3 x4) = false := fun _ _ _ _ _ => rfl
theorem iv_val : ∀ x0, isVar (.val x0) = false := fun _ => rfl
theorem np_var : ∀ i, nopE (.var i) = false := fun _ => rfl
/-! ### statements -/
theorem w_nil : Ow (evSs Γ sub [] ρ) k = k.nx ρ := (rfl)
theorem w_cons {s : S} {ss : List S} : Ow (evSs Γ sub (s :: ss) ρ) k = Ow (evS Γ sub s ρ) { k with nx := fun ρ' => Ow (evSs Γ sub ss ρ') k } := by
  show Ow (O.andThen _ _) _ = _
  rw [Ow_then]
theorem w_put {i : Nat} {z : Val × Bool} : Ow (putS i z ρ) k = (i < ρ.length ∧ k.nx (ρ.set i (mkS z))) := by
  unfold putS
  by_cases h : i < ρ.length <;> simp [h, Ow]
theorem w_asgN {i : Nat} {e : E} : Ow (evS Γ sub (.asg (.nm i) e) ρ) k = Rw (ev Γ e ρ) (fun z => Ow (putS i z.1 z.2) k) k.ex := by
  show Ow (R.toO _ _) _ = _
  rw [Ow_toO]
  rfl
theorem w_asgT {ts : List Tg} {e : E} : Ow (evS Γ sub (.asg (.tp ts) e) ρ) k = Rw (ev Γ e ρ) (fun z => Ov (bindT (.tp ts) z.1.1 z.2) k.nx) k.ex := by
  show Ow (R.toO _ _) _ = _
  rw [Ow_toO]
  congr 1
  funext z
  show Ow (match bindT (.tp ts) z.1.1 z.2 with
    | some ρ' => .nx ρ'
    | none => .bad) k = _
  cases bindT (.tp ts) z.1.1 z.2 <;> rfl
theorem w_par {i j : Nat} {a b : E} : Ow (evS Γ sub (.par i j a b) ρ) k = Rw (ev Γ a ρ) (fun x => Rw (ev Γ b x.2) (fun y => Ow (putS i x.1 y.2) { k with nx := fun ρ => Ow (putS j y.1 ρ) k }) k.ex) k.ex := by
  show Ow (R.toO _ _) _ = _
  simp only [Ow_toO, Ow_then]
theorem w_ifs {c : E} {a b : List S} : Ow (evS Γ sub (.ifs c a b) ρ) k = Rw (ev Γ c ρ) (fun z => Ov (truth z.1.1) fun t => Ob t (Ow (evSs Γ sub a z.2) k) (Ow (evSs Γ sub b z.2) k)) k.ex := by
  show Ow (R.toO _ _) _ = _
  rw [Ow_toO, w_test]
  congr 1
  funext z
  cases truth z.1.1 with
  | none => rfl
  | some t => cases t <;> simp [Ov, Ob]
theorem w_ret {e : E} : Ow (evS Γ sub (.ret e) ρ) k = Rw (ev Γ e ρ) (fun z => k.rt z.1 z.2) k.ex := by
  show Ow (R.toO _ _) _ = _
  rw [Ow_toO]
  rfl
theorem w_retn : Ow (evS Γ sub .retn ρ) k = k.rt (.non, false) ρ := (rfl)
theorem w_raise {c : Nat} : Ow (evS Γ sub (.raise c) ρ) k = k.ex c none := (rfl)
theorem w_brk : Ow (evS Γ sub .brk ρ) k = k.bk ρ := (rfl)
theorem w_cont : Ow (evS Γ sub .cont ρ) k = k.ct ρ := (rfl)
theorem w_expr {e : E} : Ow (evS Γ sub (.expr e) ρ) k = Rw (ev Γ e ρ) (fun z => k.nx z.2) k.ex := by
  show Ow (R.toO _ _) _ = _
  rw [Ow_toO]
  rfl
/-- the slot's own list or dict -/
def owOf : Option Sl → Option Val
  | some (.ow v) => some v
  | _ => none
theorem w_seti {i : Nat} {kk e : E} : Ow (evS Γ sub (.seti i kk e) ρ) k = Rw (ev Γ e ρ) (fun x => Ov (owOf x.2[i]?) fun _ => Rw (ev Γ kk x.2) (fun y => Ov (owOf y.2[i]?) fun l => Ov (setV l y.1.1 x.1.1) fun u => k.nx (y.2.set i (.ow u))) k.ex) k.ex := by
  show Ow (R.toO _ _) _ = _
  rw [Ow_toO]
  congr 1
  funext x
  cases h : x.2[i]? with
  | none => rfl
  | some s =>
    cases s with
    | no => rfl
    | fz _ => rfl
    | ow v =>
      show Ow (R.toO _ _) _ = _
      rw [Ow_toO]
      show Rw _ _ _ = Rw _ _ _
      congr 1
      funext y
      cases h2 : y.2[i]? with
      | none => rfl
      | some s =>
        cases s with
        | no => rfl
        | fz _ => rfl
        | ow l =>
          show Ow (match setV l y.1.1 x.1.1 with
            | some u => .nx (y.2.set i (.ow u))
            | none => .bad) k = Ov (setV l y.1.1 x.1.1) fun u => k.nx (y.2.set i (.ow u))
          cases setV l y.1.1 x.1.1 <;> rfl
theorem w_app {i : Nat} {e : E} {xs : List Val} (h : ρ[i]? = some (.ow (.lst xs))) : Ow (evS Γ sub (.app i e) ρ) k = Rw (ev Γ e ρ) (fun x => Ov (owOf x.2[i]?) fun l => Ov (appV l x.1.1) fun u => k.nx (x.2.set i (.ow u))) k.ex := by
  have e1 : evS Γ sub (.app i e) ρ = (match ρ[i]? with
    | some (.ow (.lst _)) => (ev Γ e ρ).toO fun x => (match x.2[i]? with
      | some (.ow l) => (match appV l x.1.1 with
        | some u => .nx (x.2.set i (.ow u))
        | none => .bad)
      | _ => .bad)
    | _ => .bad) := rfl
  rw [e1, h]
  show Ow (R.toO _ _) _ = _
  rw [Ow_toO]
  congr 1
  funext x
  cases h2 : x.2[i]? with
  | none => rfl
  | some s =>
    cases s with
    | no => rfl
    | fz _ => rfl
    | ow l =>
      show Ow (match appV l x.1.1 with
        | some u => .nx (x.2.set i (.ow u))
        | none => .bad) k = Ov (appV l x.1.1) fun u => k.nx (x.2.set i (.ow u))
      cases appV l x.1.1 <;> rfl
end
/-! ### places -/
theorem at0 {α : Type} {a : α} {r : List α} : atI (a :: r) (0 : Int) = some a := by
  unfold L2.atI ixN
  rw [if_pos (by decide), if_pos (by simp only [List.length_cons]; omega)]
  rfl
theorem at1 {α : Type} {a b : α} {r : List α} : atI (a :: b :: r) (1 : Int) = some b := by
  unfold L2.atI ixN
  rw [if_pos (by decide), if_pos (by simp only [List.length_cons]; omega)]
  rfl
theorem at2 {α : Type} {a b c : α} {r : List α} : atI (a :: b :: c :: r) (2 : Int) = some c := by
  unfold L2.atI ixN
  rw [if_pos (by decide), if_pos (by simp only [List.length_cons]; omega)]
  rfl
theorem at3 {α : Type} {a b c d : α} {r : List α} : atI (a :: b :: c :: d :: r) (3 : Int) = some d := by
  unfold L2.atI ixN
  rw [if_pos (by decide), if_pos (by simp only [List.length_cons]; omega)]
  rfl
theorem ix0 {n : Nat} : ixN (n + 1) (0 : Int) = some 0 := by
  unfold ixN
  rw [if_pos (by decide), if_pos (by omega)]
  rfl
theorem ix1 {n : Nat} : ixN (n + 1 + 1) (1 : Int) = some 1 := by
  unfold ixN
  rw [if_pos (by decide), if_pos (by omega)]
  rfl
theorem ix2 {n : Nat} : ixN (n + 1 + 1 + 1) (2 : Int) = some 2 := by
  unfold ixN
  rw [if_pos (by decide), if_pos (by omega)]
  rfl
theorem ix3 {n : Nat} : ixN (n + 1 + 1 + 1 + 1) (3 : Int) = some 3 := by
  unfold ixN
  rw [if_pos (by decide), if_pos (by omega)]
  rfl
theorem at_nat {cells : List Int} {i : Int} (h0 : 0 ≤ i) (h : i < cells.length) : ∃ c ∈ cells, atI (cells.map Val.int) i = some (.int c) := by
  have hl : i.toNat < cells.length := by omega
  refine ⟨cells[i.toNat], List.getElem_mem hl, ?_⟩
  unfold L2.atI ixN
  rw [if_pos h0, List.length_map, if_pos h]
  show (cells.map Val.int)[i.toNat]? = _
  rw [List.getElem?_map, List.getElem?_eq_getElem hl]
  rfl
/-- a def's run, from its end backwards -/
theorem w_run {Γ : Env'} {sub : Nat → Nat → Bool} {g : EV.Fn} {args : List Sl} {Q : (Val × Bool) × List Sl → Prop} {X : XP} (hl : args.length = g.np) : Rw (runFn Γ sub g args) Q X = Ow (evSs Γ sub g.body (args ++ List.replicate (g.ns - g.np) .no)) { nx := fun ρ => Q ((.non, false), outsL g.stab args ρ), rt := fun z ρ => Q (z, outsL g.stab args ρ), ex := X } := by
  unfold runFn
  rw [if_pos hl]
  cases evSs Γ sub g.body (args ++ List.replicate (g.ns - g.np) .no) <;> rfl
theorem den_succ {P : Prg} {f : Nat} {g : EV.Fn} {d : Nat} {args : List Sl} (h : P.fns[f]? = some g) : P.den (d + 1) f args = runFn ⟨P.den d, P.stab, P.gl⟩ P.sub g args := by
  show (match P.fns[f]? with | some g => runFn ⟨P.den d, P.stab, P.gl⟩ P.sub g args | none => .bad) = _
  rw [h]
/-! ### values -/
theorem vf_add {i j : Int} : binV .add (.int i) (.int j) = some (.int (i + j), false) := rfl
theorem vf_sub {i j : Int} : binV .sub (.int i) (.int j) = some (.int (i - j), false) := rfl
theorem vf_mul {i j : Int} : binV .mul (.int i) (.int j) = if mulOk i j then some (.int (i * j), false) else none := rfl
theorem vf_fdiv {i j : Int} : binV .fdiv (.int i) (.int j) = if divOk j then some (.int (i.fdiv j), false) else none := rfl
theorem vf_mod {i j : Int} : binV .mod (.int i) (.int j) = if j = 0 then none else some (.int (i.fmod j), false) := rfl
theorem vf_pow {i j : Int} : binV .pow (.int i) (.int j) = if powOk i j then some (.int (i ^ j.toNat), false) else none := rfl
theorem vf_addT {xs ys : List Val} : binV .add (.tup xs) (.tup ys) = if xs.length + ys.length ≤ sizeLine then some (.tup (xs ++ ys), false) else none := rfl
theorem vf_addL {xs ys : List Val} : binV .add (.lst xs) (.lst ys) = if xs.length + ys.length ≤ sizeLine then some (.lst (xs ++ ys), true) else none := rfl
theorem vf_lt {i j : Int} : cmpW .lt (.int i) (.int j) = some (decide (i < j)) := rfl
theorem vf_le {i j : Int} : cmpW .le (.int i) (.int j) = some (decide (i ≤ j)) := rfl
theorem vf_gt {i j : Int} : cmpW .gt (.int i) (.int j) = some (decide (j < i)) := rfl
theorem vf_ge {i j : Int} : cmpW .ge (.int i) (.int j) = some (decide (j ≤ i)) := rfl
theorem vf_lt2 {i j : Int} : cmpV .lt (.int i) (.int j) = some (decide (i < j)) := rfl
theorem vf_le2 {i j : Int} : cmpV .le (.int i) (.int j) = some (decide (i ≤ j)) := rfl
theorem vf_gt2 {i j : Int} : cmpV .gt (.int i) (.int j) = some (decide (j < i)) := rfl
theorem vf_ge2 {i j : Int} : cmpV .ge (.int i) (.int j) = some (decide (j ≤ i)) := rfl
theorem vf_isN {v : Val} : cmpW .isN v .non = some v.isNon := by cases v <;> rfl
theorem vf_notN {v : Val} : cmpW .notN v .non = some (!v.isNon) := by cases v <;> rfl
theorem vf_nn_int {i : Int} : Val.isNon (.int i) = false := rfl
theorem vf_nn_bl {b : Bool} : Val.isNon (.bl b) = false := rfl
theorem vf_nn_tup {xs : List Val} : Val.isNon (.tup xs) = false := rfl
theorem vf_nn_lst {xs : List Val} : Val.isNon (.lst xs) = false := rfl
theorem vf_nn_str {s : Str} : Val.isNon (.str s) = false := rfl
theorem vf_nn_non  : Val.isNon .non = true := rfl
theorem vf_tr_bl {b : Bool} : truth (.bl b) = some b := rfl
theorem vf_tr_int {i : Int} : truth (.int i) = some (i != 0) := rfl
theorem vf_tr_non  : truth .non = some false := rfl
theorem vf_tr_tup {xs : List Val} : truth (.tup xs) = some (!xs.isEmpty) := rfl
theorem vf_tr_lst {xs : List Val} : truth (.lst xs) = some (!xs.isEmpty) := rfl
theorem vf_lenT {xs : List Val} : biV .len [.tup xs] = some (.int (xs.length : Int), false) := rfl
theorem vf_lenL {xs : List Val} : biV .len [.lst xs] = some (.int (xs.length : Int), false) := rfl
theorem vf_abs {i : Int} : biV .abs [.int i] = some (.int (if i < 0 then -i else i), false) := rfl
theorem vf_int {i : Int} : biV .int [.int i] = some (.int i, false) := rfl
theorem vf_tupL {xs : List Val} : biV .tuple [.lst xs] = some (.tup xs, false) := rfl
theorem vf_tupT {xs : List Val} : biV .tuple [.tup xs] = some (.tup xs, false) := rfl
theorem vf_lstL {xs : List Val} : biV .list [.lst xs] = some (.lst xs, true) := rfl
theorem vf_lstT {xs : List Val} : biV .list [.tup xs] = some (.lst xs, true) := rfl
theorem vf_gcd {i j : Int} : biV .gcd [.int i, .int j] = some (.int ((Nat.gcd i.natAbs j.natAbs : Nat) : Int), false) := rfl
theorem vf_ixL {xs : List Val} {i : Int} : ixW (.lst xs) (.int i) = atI xs i := rfl
theorem vf_ixT {xs : List Val} {i : Int} : ixW (.tup xs) (.int i) = atI xs i := rfl
theorem vf_ixS {xs : List Val} {i : Int} : ixW (.scr xs) (.int i) = none := rfl
theorem vf_setL {xs : List Val} {i : Int} {v : Val} : setV (.lst xs) (.int i) v = match ixN xs.length i with
    | some j => some (.lst (xs.set j v))
    | none => none := rfl
theorem vf_appL {xs : List Val} {v : Val} : appV (.lst xs) v = if xs.length < sizeLine then some (.lst (xs ++ [v])) else none := rfl
theorem vf_neg {i : Int} : negV (.int i) = some (.int (-i)) := rfl
theorem vf_ow {v : Val} : owOf (some (.ow v)) = some v := rfl
theorem vf_mkT {v : Val} : mkS (v, true) = .ow v := rfl
theorem vf_mkF {v : Val} : mkS (v, false) = .fz v := rfl
theorem vf_part {i : Int} : partV (.int i) = some i := rfl
theorem vf_revL {xs : List Val} : revV (.lst xs) = some (.lst xs.reverse, true) := rfl
theorem vf_revT {xs : List Val} : revV (.tup xs) = some (.tup xs.reverse, false) := rfl
theorem vf_is_int_int {i : Int} : isTy (.int i) .int = true := rfl
theorem vf_is_bl_int {b : Bool} : isTy (.bl b) .int = true := rfl
theorem vf_is_str_int {s : Str} : isTy (.str s) .int = false := rfl
theorem vf_is_tup_int {xs : List Val} : isTy (.tup xs) .int = false := rfl
theorem vf_is_lst_int {xs : List Val} : isTy (.lst xs) .int = false := rfl
theorem vf_is_scr_int {xs : List Val} : isTy (.scr xs) .int = false := rfl
theorem vf_is_non_int  : isTy .non .int = false := rfl
theorem vf_is_int_bool {i : Int} : isTy (.int i) .bool = false := rfl
theorem vf_is_bl_bool {b : Bool} : isTy (.bl b) .bool = true := rfl
theorem vf_is_str_bool {s : Str} : isTy (.str s) .bool = false := rfl
theorem vf_is_tup_bool {xs : List Val} : isTy (.tup xs) .bool = false := rfl
theorem vf_is_lst_bool {xs : List Val} : isTy (.lst xs) .bool = false := rfl
theorem vf_is_scr_bool {xs : List Val} : isTy (.scr xs) .bool = false := rfl
theorem vf_is_non_bool  : isTy .non .bool = false := rfl
theorem vf_is_int_str {i : Int} : isTy (.int i) .str = false := rfl
theorem vf_is_bl_str {b : Bool} : isTy (.bl b) .str = false := rfl
theorem vf_is_str_str {s : Str} : isTy (.str s) .str = true := rfl
theorem vf_is_tup_str {xs : List Val} : isTy (.tup xs) .str = false := rfl
theorem vf_is_lst_str {xs : List Val} : isTy (.lst xs) .str = false := rfl
theorem vf_is_scr_str {xs : List Val} : isTy (.scr xs) .str = false := rfl
theorem vf_is_non_str  : isTy .non .str = false := rfl
theorem vf_is_int_tuple {i : Int} : isTy (.int i) .tuple = false := rfl
theorem vf_is_bl_tuple {b : Bool} : isTy (.bl b) .tuple = false := rfl
theorem vf_is_str_tuple {s : Str} : isTy (.str s) .tuple = false := rfl
theorem vf_is_tup_tuple {xs : List Val} : isTy (.tup xs) .tuple = true := rfl
theorem vf_is_lst_tuple {xs : List Val} : isTy (.lst xs) .tuple = false := rfl
theorem vf_is_scr_tuple {xs : List Val} : isTy (.scr xs) .tuple = false := rfl
theorem vf_is_non_tuple  : isTy .non .tuple = false := rfl
theorem vf_is_int_list {i : Int} : isTy (.int i) .list = false := rfl
theorem vf_is_bl_list {b : Bool} : isTy (.bl b) .list = false := rfl
theorem vf_is_str_list {s : Str} : isTy (.str s) .list = false := rfl
theorem vf_is_tup_list {xs : List Val} : isTy (.tup xs) .list = false := rfl
theorem vf_is_lst_list {xs : List Val} : isTy (.lst xs) .list = true := rfl
theorem vf_is_scr_list {xs : List Val} : isTy (.scr xs) .list = true := rfl
theorem vf_is_non_list  : isTy .non .list = false := rfl
theorem vf_eqI {i j : Int} : cmpW .eq (.int i) (.int j) = some (decide (i = j)) := by
  show EV.eqV (.int i) (.int j) = _
  unfold EV.eqV dataV
  simp only [toD]
  rw [if_pos (by rfl), if_pos (by rfl)]
  simp only [PyData.eqv]
  rfl
theorem vf_neI {i j : Int} : cmpW .ne (.int i) (.int j) = some (!decide (i = j)) := by
  have := vf_eqI (i := i) (j := j)
  show (EV.eqV (.int i) (.int j)).map (fun z => !z) = _
  have e : EV.eqV (.int i) (.int j) = some (decide (i = j)) := this
  rw [e]
  rfl
theorem vf_eqB {i j : Bool} : cmpW .eq (.bl i) (.bl j) = some (i == j) := by
  cases i <;> cases j <;> rfl
theorem mulOkL {a b : Int} (h1 : -(2 ^ 64) < a) (h2 : a < 2 ^ 64) : mulOk a b = true := by
  unfold mulOk
  rw [decide_eq_true (show -(2 ^ 64) < a ∧ a < 2 ^ 64 from ⟨h1, h2⟩)]
  rfl
theorem divOkI {a : Int} (h : a ≠ 0) (h2 : a.natAbs < 1073741824) : divOk a = true := decide_eq_true ⟨h, h2⟩
theorem np_cmp : ∀ x0 x1 x2, nopE (.cmp x0 x1 x2) = false := fun _ _ _ => rfl
theorem np_chain : ∀ x0 x1 x2 x3 x4, nopE (.chain x0 x1 x2 x3 x4) = false := fun _ _ _ _ _ => rfl
theorem np_not : ∀ x0, nopE (.not x0) = false := fun _ => rfl
theorem np_and : ∀ x0 x1, nopE (.and x0 x1) = false := fun _ _ => rfl
theorem np_or : ∀ x0 x1, nopE (.or x0 x1) = false := fun _ _ => rfl
theorem np_isi : ∀ x0 x1, nopE (.isi x0 x1) = false := fun _ _ => rfl
theorem np_isis : ∀ x0 x1, nopE (.isis x0 x1) = false := fun _ _ => rfl
theorem np_one : ∀ x0, nopE (.one x0) = false := fun _ => rfl
/-! ### loops -/
section
variable {α β : Type} {Q : α → Prop} {X : XP} {Γ : Env'} {sub : Nat → Nat → Bool} {ρ : Ro} {k : En} {Qv : (Val × Bool) × Ro → Prop} {Ql : List Val × Ro → Prop}
theorem Rw_hush {r : R α} : Rw r.hush Q X = Rw r Q fun _ _ => False := by cases r <;> rfl
theorem w_turn {tg : Tg} {own : List Nat} {x : Val} {c : Ro → R (Bool × Ro)} {e : Ro → RV} : Rw (turnR Γ tg own x ρ c e) Ql X = Ov (bindT tg x (wipeR ρ own)) fun ρ1 => Rw (c ρ1) (fun t => Ob t.1 (Rw (e t.2) (fun y => Ql ([y.1.1], backR ρ y.2 own)) fun _ _ => False) (Ql ([], backR ρ t.2 own))) fun _ _ => False := by
  unfold turnR
  rw [Rw_bind, Rw_of]
  congr 1
  funext ρ1
  rw [Rw_hush, Rw_bind]
  congr 1
  funext t
  obtain ⟨b, ρ2⟩ := t
  cases b with
  | true =>
    show Rw (R.bind _ _) _ _ = _
    rw [Rw_bind, Ob_true]
    rfl
  | false => rw [Ob_false]; rfl
theorem w_cnop {r : RV} {Qt : Bool × Ro → Prop} : Rw (condR .nop ρ r) Qt X = Qt (true, ρ) := (rfl)
theorem w_cond {e : E} {Qt : Bool × Ro → Prop} (h : nopE e = false) : Rw (condR e ρ (ev Γ e ρ)) Qt X = Rw (ev Γ e ρ) (fun z => Ov (truth z.1.1) fun b => Qt (b, z.2)) X := by
  have e1 : condR e ρ (ev Γ e ρ) = testR (ev Γ e ρ) := by cases e <;> first | rfl | cases h
  rw [e1, w_test]
/-- a comprehension's loop -/
def lcF (Γ : Env') (elt : E) (tg : Tg) (c : E) (own : List Nat) : Val → Ro → R (List Val × Ro) := fun x ρ => turnR Γ tg own x ρ (fun ρ1 => condR c ρ1 (ev Γ c ρ1)) (fun ρ1 => ev Γ elt ρ1)
theorem w_lc {elt it c : E} {tg : Tg} {own : List Nat} : Rw (ev Γ (.lc elt tg it c own) ρ) Qv X = Rw (ev Γ it ρ) (fun z => Ov (itemsV z.1.1) fun items => items.length ≤ sizeLine ∧ Rw (loopL (lcF Γ elt tg c own) items z.2) (fun y => Qv ((.lst y.1, true), y.2)) X) X := by
  show Rw (R.bind _ _) _ _ = _
  rw [Rw_bind]
  congr 1
  funext z
  rw [Rw_bind, Rw_of]
  congr 1
  funext items
  by_cases h : sizeLine < items.length
  · have h2 : ¬ items.length ≤ sizeLine := by omega
    simp [h, h2, Rw]
  · have h2 : items.length ≤ sizeLine := by omega
    rw [if_neg h, Rw_bind]
    simp [h2]
    rfl
theorem w_lcK {elt c : E} {tg : Tg} {i : Nat} {own : List Nat} : Rw (ev Γ (.lcK elt tg i c own) ρ) Qv X = Rw (keysR ρ i) (fun z => z.1.length ≤ sizeLine ∧ Rw (loopL (lcF Γ elt tg c own) z.1 z.2) (fun y => Qv ((.lst y.1, true), y.2)) fun _ _ => False) X := by
  show Rw (R.bind _ _) _ _ = _
  rw [Rw_bind]
  congr 1
  funext z
  by_cases h : sizeLine < z.1.length
  · have h2 : ¬ z.1.length ≤ sizeLine := by omega
    simp [h, h2, Rw]
  · have h2 : z.1.length ≤ sizeLine := by omega
    rw [if_neg h, Rw_bind, Rw_hush]
    simp [h2]
    rfl
theorem loop_inv {f : Val → Ro → R (List Val × Ro)} {I : Nat → List Val → Ro → Prop} : ∀ {items : List Val} {n : Nat} {acc : List Val} {ρ : Ro} {Qm : List Val × Ro → Prop}, I n acc ρ → (∀ (j : Nat) (x : Val) (acc : List Val) (ρ : Ro), items[j]? = some x → I (n + j) acc ρ → Rw (f x ρ) (fun z => I (n + j + 1) (acc ++ z.1) z.2) X) → (∀ acc' ρ', I (n + items.length) (acc ++ acc') ρ' → Qm (acc', ρ')) → Rw (loopL f items ρ) Qm X
  | [], n, acc, ρ, Qm, h, _, q => q [] ρ (by rw [List.append_nil]; exact h)
  | x :: xs, n, acc, ρ, Qm, h, st, q => by
    show Rw (R.bind _ _) _ _
    rw [Rw_bind]
    refine Rw_mono (st 0 x acc ρ rfl h) ?_ fun _ _ z => z
    intro z hz
    rw [Rw_bind]
    show Rw (loopL f xs z.2) (fun a => Qm (z.1 ++ a.1, a.2)) X
    refine loop_inv (I := I) (n := n + 1) (acc := acc ++ z.1) hz (fun j x acc ρ e i => ?_) fun acc' ρ' i => ?_
    · have := st (j + 1) x acc ρ e (by rw [show n + (j + 1) = n + 1 + j by omega]; exact i)
      rw [show n + (j + 1) + 1 = n + 1 + j + 1 by omega] at this
      exact this
    · refine q (z.1 ++ acc') ρ' ?_
      rw [← List.append_assoc, show n + (x :: xs).length = n + 1 + xs.length by simp; omega]
      exact i
/-- every item gives one, and nothing is changed -/
theorem loop_map {f : Val → Ro → R (List Val × Ro)} {g : Val → Val} {items : List Val} (h : ∀ x ∈ items, Rw (f x ρ) (fun z => z = ([g x], ρ)) X) (q : Ql (items.map g, ρ)) : Rw (loopL f items ρ) Ql X := by
  refine loop_inv (I := fun n acc ρ' => acc = (items.take n).map g ∧ ρ' = ρ) (n := 0) (acc := []) ⟨rfl, rfl⟩ (fun j x acc ρ' e ⟨e1, e2⟩ => ?_) fun acc' ρ' ⟨e1, e2⟩ => ?_
  · subst e2
    refine Rw_mono (h x (List.mem_of_getElem? e)) ?_ fun _ _ z => z
    rintro z rfl
    refine ⟨?_, rfl⟩
    rw [e1, Nat.zero_add, List.take_succ, e]
    simp
  · subst e2
    rw [List.nil_append, Nat.zero_add, List.take_length] at e1
    rw [e1]
    exact q
theorem w_items {it : E} : Rw (evItems Γ it ρ) Ql X = Rw (ev Γ it ρ) (fun z => Ov (itemsV z.1.1) fun xs => Ql (xs, z.2)) X := by
  unfold evItems
  simp only [Rw_bind, Rw_of, Rw_got]
def forF (Γ : Env') (sub : Nat → Nat → Bool) (t : Tg) (body : List S) : Val → Ro → O := fun x ρ => match bindT t x ρ with
  | some ρ' => evSs Γ sub body ρ'
  | none => .bad
theorem w_forF {t : Tg} {body : List S} {x : Val} : Ow (forF Γ sub t body x ρ) k = Ov (bindT t x ρ) fun ρ' => Ow (evSs Γ sub body ρ') k := by
  unfold forF
  cases bindT t x ρ <;> rfl
theorem w_for {t : Tg} {it : E} {body : List S} : Ow (evS Γ sub (.for_ t it body) ρ) k = Rw (ev Γ it ρ) (fun z => Ov (itemsV z.1.1) fun xs => Ow (forL (forF Γ sub t body) xs z.2) k) k.ex := by
  show Ow (R.toO _ _) _ = _
  rw [Ow_toO, w_items]
  rfl
theorem Ow_hush {o : O} : Ow o.hush k = Ow o { k with ex := fun _ _ => False } := by cases o <;> rfl
theorem w_forK {t : Tg} {i : Nat} {body : List S} : Ow (evS Γ sub (.forK t i body) ρ) k = Rw (keysR ρ i) (fun z => Ow (forL (forF Γ sub t body) z.1 z.2) { k with ex := fun _ _ => False }) fun _ _ => False := by
  show Ow (O.hush (R.toO _ _)) _ = _
  rw [Ow_hush, Ow_toO]
  rfl
theorem for_inv {g : Val → Ro → O} {I : Nat → Ro → Prop} : ∀ {items : List Val} {n : Nat} {ρ : Ro}, I n ρ → (∀ (j : Nat) (x : Val) (ρ : Ro), items[j]? = some x → I (n + j) ρ → Ow (g x ρ) { k with nx := I (n + j + 1), ct := I (n + j + 1), bk := k.nx }) → (∀ ρ', I (n + items.length) ρ' → k.nx ρ') → Ow (forL g items ρ) k
  | [], n, ρ, h, _, q => q ρ h
  | x :: xs, n, ρ, h, st, q => by
    have h1 := st 0 x ρ rfl h
    have rest : ∀ ρ', I (n + 1) ρ' → Ow (forL g xs ρ') k := fun ρ' h' => for_inv (I := I) (n := n + 1) h' (fun j x ρ e i => by
      have := st (j + 1) x ρ e (by rw [show n + (j + 1) = n + 1 + j by omega]; exact i)
      rw [show n + (j + 1) + 1 = n + 1 + j + 1 by omega] at this
      exact this) fun ρ' i => q ρ' (by rw [show n + (x :: xs).length = n + 1 + xs.length by simp; omega]; exact i)
    show Ow (match g x ρ with
      | .nx ρ' => forL g xs ρ'
      | .ct ρ' => forL g xs ρ'
      | .bk ρ' => .nx ρ'
      | o => o) k
    cases e : g x ρ with
    | nx ρ' => rw [e] at h1; exact rest ρ' h1
    | ct ρ' => rw [e] at h1; exact rest ρ' h1
    | bk ρ' => rw [e] at h1; exact h1
    | rt z ρ' => rw [e] at h1; exact h1
    | ex c p => rw [e] at h1; exact h1
    | bad => rw [e] at h1; exact h1
theorem w_rng1 {a : E} : Rw (ev Γ (.rng1 a) ρ) Qv X = Rw (ev Γ a ρ) (fun x => Ov (match x.1.1 with | .int n => (if rngOk n then some (Val.lst (rngL 0 n.toNat)) else none) | _ => none) fun v => Qv ((v, false), x.2)) X := by
  show Rw (R.bind _ _) _ _ = _
  rw [Rw_bind]
  congr 1
  funext x
  obtain ⟨⟨v, f⟩, ρ⟩ := x
  cases v with
  | int n => by_cases h : rngOk n = true <;> simp [h, Rw, Ov]
  | _ => rfl
end
end EV
set_option Elab.async false
set_option linter.all false
set_option maxRecDepth 100000
set_option maxHeartbeats 0
namespace HD
open PySem PySem.Spec PyProof.Rows L2
def top (i : Nat) : Stmt := PySem.Challenge.pw_knotproved_k71_whole_directed_two_bridge.main.body.getD i (.Pass ⟨0, 0, 0, 0⟩)
def g__law_pool : EV.Fn := ⟨1, 2, [.ret (.lst [.lc (.ife (.cmp .ge (.var 1) (.int 0)) (.bin .mul (.int 2) (.var 1)) (.bin .sub (.bin .mul (.neg (.int 2)) (.var 1)) (.int 1))) (.nm 1) (.var 0) .nop [1], .int 0, .int 0, .int 17])]⟩
def g__law_take : EV.Fn := ⟨2, 5, [.ifs (.cmp .gt (.ix (.var 0) (.int 2)) (.int 0)) [.asg (.nm 4) (.bin .mod (.bi .int [.ix (.var 0) (.int 2)]) (.var 1)), .seti 0 (.int 2) (.bin .fdiv (.ix (.var 0) (.int 2)) (.var 1)), .ret (.var 4)] [], .asg (.nm 2) (.int 0), .ifs (.cmp .lt (.ix (.var 0) (.int 1)) (.bi .len [.ix (.var 0) (.int 0)])) [.asg (.nm 2) (.ix (.ix (.var 0) (.int 0)) (.ix (.var 0) (.int 1)))] [], .seti 0 (.int 1) (.bin .add (.ix (.var 0) (.int 1)) (.int 1)), .ifs (.cmp .ge (.var 2) (.bin .pow (.int 10) (.int 18))) [.seti 0 (.int 2) (.bin .fdiv (.var 2) (.int 2)), .ret (.call 1 [.var 0, .var 1])] [], .seti 0 (.int 3) (.bin .mod (.bi .int [.bin .add (.bin .add (.bin .mul (.ix (.var 0) (.int 3)) (.int 48271)) (.bin .mul (.var 2) (.int 69621))) (.bin .mul (.ix (.var 0) (.int 1)) (.int 613))]) (.int 2147483647)), .asg (.nm 3) (.bin .mod (.bi .int [.bin .add (.bin .add (.bin .mul (.ix (.var 0) (.int 3)) (.ix (.var 0) (.int 3))) (.bin .mul (.ix (.var 0) (.int 3)) (.int 7919))) (.int 104729)]) (.int 1000000007)), .ret (.bin .mod (.bi .int [.bin .fdiv (.var 3) (.int 3)]) (.var 1))]⟩
def g__law_pick : EV.Fn := ⟨2, 2, [.ret (.ix (.val (.var 1)) (.call 1 [.var 0, .bi .len [.var 1]]))]⟩
def g__law_is_integer : EV.Fn := ⟨1, 1, [.ret (.and (.isi (.var 0) .int) (.one (.not (.isi (.var 0) .bool))))]⟩
def g__law_same : EV.Fn := ⟨2, 3, [.ifs (.isi (.var 1) .tuple) [.ifs (.or (.not (.isi (.var 0) .tuple)) (.one (.cmp .ne (.bi .len [.var 0]) (.bi .len [.var 1])))) [.ret (.bl false)] [], .ret (.bi .all [.lc (.call 4 [.ix (.var 0) (.var 2), .ix (.var 1) (.var 2)]) (.nm 2) (.rng1 (.bi .len [.var 1])) .nop [2]])] [], .ifs (.isi (.var 1) .list) [.ifs (.or (.not (.isi (.var 0) .list)) (.one (.cmp .ne (.bi .len [.var 0]) (.bi .len [.var 1])))) [.ret (.bl false)] [], .ret (.bi .all [.lc (.call 4 [.ix (.var 0) (.var 2), .ix (.var 1) (.var 2)]) (.nm 2) (.rng1 (.bi .len [.var 1])) .nop [2]])] [], .ifs (.cmp .isN (.var 1) .non) [.ret (.cmp .isN (.var 0) .non)] [], .ifs (.isi (.var 1) .bool) [.ret (.and (.isi (.var 0) .bool) (.one (.cmp .eq (.var 0) (.var 1))))] [], .ifs (.isi (.var 1) .str) [.ret (.and (.isi (.var 0) .str) (.one (.cmp .eq (.var 0) (.var 1))))] [], .ret (.and (.call 3 [.var 0]) (.one (.cmp .eq (.var 0) (.var 1))))]⟩
def g_is_whole : EV.Fn := ⟨1, 1, [.ret (.and (.isi (.var 0) .int) (.one (.not (.isi (.var 0) .bool))))]⟩
def g_check_signed : EV.Fn := ⟨2, 2, [.ifs (.or (.not (.call 5 [.var 0])) (.or (.not (.call 5 [.var 1])) (.or (.not (.chain .le .le (.int 1) (.var 0) (.glob 0))) (.one (.cmp .ge (.bi .abs [.var 1]) (.var 0)))))) [.raise 0] [], .ifs (.or (.cmp .ne (.bi .gcd [.var 0, .var 1]) (.int 1)) (.one (.cmp .eq (.bin .mod (.bin .add (.var 0) (.var 1)) (.int 2)) (.int 0)))) [.raise 0] []]⟩
def g_same_directed : EV.Fn := ⟨4, 4, [.expr (.call 6 [.var 0, .var 1]), .expr (.call 6 [.var 2, .var 3]), .ifs (.cmp .ne (.var 0) (.var 2)) [.ret (.bl false)] [], .ifs (.cmp .eq (.bin .mod (.var 0) (.int 2)) (.int 1)) [.ret (.or (.cmp .eq (.bin .mod (.bin .sub (.var 1) (.var 3)) (.var 0)) (.int 0)) (.one (.cmp .eq (.bin .mod (.bin .sub (.bin .mul (.var 1) (.var 3)) (.int 1)) (.var 0)) (.int 0))))] [], .ret (.or (.cmp .eq (.var 1) (.var 3)) (.one (.cmp .eq (.bin .mod (.bin .sub (.bin .mul (.var 1) (.var 3)) (.int 1)) (.bin .mul (.int 2) (.var 0))) (.int 0))))]⟩
def g__law_due : EV.Fn := ⟨2, 5, [.asg (.tp [(.nm 3), (.nm 4)]) (.var 0), .ifs (.cmp .ne (.var 3) (.ix (.var 1) (.int 0))) [.ret (.bl false)] [], .asg (.nm 2) (.ife (.cmp .eq (.bin .mod (.var 3) (.int 2)) (.int 1)) (.var 3) (.bin .mul (.int 2) (.var 3))), .ret (.or (.cmp .eq (.bin .mod (.bi .int [.bin .sub (.var 4) (.ix (.var 1) (.int 1))]) (.var 2)) (.int 0)) (.one (.cmp .eq (.bin .mod (.bi .int [.bin .sub (.bin .mul (.var 4) (.ix (.var 1) (.int 1))) (.int 1)]) (.var 2)) (.int 0))))]⟩
def g__law_even : EV.Fn := ⟨2, 7, [.asg (.nm 2) (.lst []), .for_ (.nm 3) (.rng1 (.int 300)) [.ifs (.cmp .eq (.var 1) (.int 0)) [.brk] [], .par 5 6 .non (.bi .int [.bin .fdiv (.var 0) (.var 1)]), .for_ (.nm 4) (.tup [.var 6, .bin .add (.var 6) (.int 1)]) [.ifs (.and (.cmp .eq (.bin .mod (.var 4) (.int 2)) (.int 0)) (.one (.or (.cmp .isN (.var 5) .non) (.one (.cmp .lt (.bi .abs [.bin .sub (.var 0) (.bin .mul (.var 4) (.var 1))]) (.bi .abs [.bin .sub (.var 0) (.bin .mul (.var 5) (.var 1))])))))) [.asg (.nm 5) (.var 4)] []], .app 2 (.var 5), .par 0 1 (.var 1) (.bin .sub (.var 0) (.bin .mul (.var 5) (.var 1)))], .ret (.bi .tuple [.var 2])]⟩
def g__law_told : EV.Fn := ⟨1, 3, [.asg (.nm 1) (.bi .sorted [.lcK (.var 2) (.nm 2) 0 (.cmp .ne (.ix (.var 0) (.var 2)) (.int 0)) [2]]), .ifs (.not (.var 1)) [.ret (.tup [.int 0, .tup []])] [], .ret (.tup [.ix (.var 1) (.int 0), .bi .tuple [.lc (.get (.var 0) (.var 2) (.int 0)) (.nm 2) (.rng2 (.ix (.var 1) (.int 0)) (.bin .add (.ix (.var 1) (.neg (.int 1))) (.int 1))) .nop [2]]])]⟩
def g__law_put : EV.Fn := ⟨3, 3, [.seti 0 (.var 1) (.bin .add (.get (.var 0) (.var 1) (.int 0)) (.var 2))]⟩
def g__law_sum_of : EV.Fn := ⟨2, 4, [.asg (.nm 2) (.bi .dict [.lcK (.tup [.var 3, .ix (.var 0) (.var 3)]) (.nm 3) 0 .nop [3]]), .forK (.nm 3) 1 [.expr (.call 11 [.var 2, .var 3, .ix (.var 1) (.var 3)])], .ret (.bi .dict [.lcK (.tup [.var 3, .ix (.var 2) (.var 3)]) (.nm 3) 2 (.cmp .ne (.ix (.var 2) (.var 3)) (.int 0)) [3]])]⟩
def g__law_product : EV.Fn := ⟨2, 5, [.asg (.nm 2) (.disp [] []), .forK (.nm 3) 0 [.forK (.nm 4) 1 [.expr (.call 11 [.var 2, .bin .add (.var 3) (.var 4), .bin .mul (.ix (.var 0) (.var 3)) (.ix (.var 1) (.var 4))])]], .ret (.var 2)]⟩
def g__law_by_row : EV.Fn := ⟨1, 5, [.par 2 3 (.disp [] []) (.disp [.inl 0] [.int 1]), .for_ (.nm 1) (.rng1 (.bi .len [.var 0])) [.asg (.nm 4) (.bin .mul (.bi .int [.bin .fdiv (.ix (.var 0) (.var 1)) (.int 2)]) (.ife (.cmp .eq (.bin .mod (.var 1) (.int 2)) (.int 0)) (.neg (.int 1)) (.int 1))), .par 2 3 (.var 3) (.call 12 [.var 2, .call 13 [.var 3, .disp [.inl 1] [.var 4]]])], .ret (.var 3)]⟩
def g__law_so : EV.Fn := ⟨2, 5, [.asg (.nm 2) (.call 8 [.var 0, .var 1]), .ifs (.not (.call 4 [.call 7 [.ix (.var 0) (.int 0), .ix (.var 0) (.int 1), .ix (.var 1) (.int 0), .ix (.var 1) (.int 1)], .var 2])) [.ret (.bl false)] [], .ifs (.and (.var 2) (.one (.cmp .lt (.ix (.var 0) (.int 0)) (.int 300)))) [.par 3 4 (.call 9 [.ix (.var 0) (.int 0), .ix (.var 0) (.int 1)]) (.call 9 [.ix (.var 1) (.int 0), .ix (.var 1) (.int 1)]), .ifs (.and (.cmp .lt (.bi .len [.var 3]) (.int 40)) (.one (.cmp .lt (.bi .len [.var 4]) (.int 40)))) [.ret (.cmp .eq (.call 10 [.call 14 [.var 3]]) (.call 10 [.call 14 [.var 4]]))] []] [], .ret (.bl true)]⟩
def g__law_always : EV.Fn := ⟨0, 4, [.asg (.nm 0) (.lst [.tup [.tup [.int 8, .int 3], .tup [.int 8, .neg (.int 5)]], .tup [.tup [.int 8, .int 3], .tup [.int 8, .int 5]], .tup [.tup [.int 2, .int 1], .tup [.int 2, .neg (.int 1)]], .tup [.tup [.int 4, .int 1], .tup [.int 4, .neg (.int 3)]], .tup [.tup [.int 4, .int 1], .tup [.int 4, .int 1]], .tup [.tup [.int 5, .int 2], .tup [.int 5, .neg (.int 2)]], .tup [.tup [.int 5, .int 2], .tup [.int 5, .neg (.int 4)]], .tup [.tup [.int 7, .int 2], .tup [.int 7, .int 4]], .tup [.tup [.int 7, .int 2], .tup [.int 9, .int 2]], .tup [.tup [.int 1, .int 0], .tup [.int 1, .int 0]], .tup [.tup [.int 12, .int 5], .tup [.int 12, .int 5]], .tup [.tup [.int 12, .int 5], .tup [.int 12, .neg (.int 7)]], .tup [.tup [.int 16, .int 3], .tup [.int 16, .int 11]], .tup [.tup [.int 16, .int 3], .tup [.int 16, .neg (.int 5)]]]), .asg (.nm 1) (.lst [.bl true, .bl false, .bl false, .bl false, .bl true, .bl true, .bl false, .bl true, .bl false, .bl true, .bl true, .bl false, .bl true, .bl false]), .ret (.and (.call 4 [.lc (.call 7 [.ix (.var 2) (.int 0), .ix (.var 2) (.int 1), .ix (.var 3) (.int 0), .ix (.var 3) (.int 1)]) (.tp [(.nm 2), (.nm 3)]) (.var 0) .nop [2, 3], .var 1]) (.one (.bi .all [.lc (.call 15 [.var 2, .var 3]) (.tp [(.nm 2), (.nm 3)]) (.var 0) .nop [2, 3]])))]⟩
def g__law_common : EV.Fn := ⟨2, 3, [.par 0 1 (.bi .abs [.var 0]) (.bi .abs [.var 1]), .for_ (.nm 2) (.rng1 (.int 20000)) [.ifs (.cmp .eq (.var 1) (.int 0)) [.brk] [], .par 0 1 (.var 1) (.bin .sub (.var 0) (.bin .mul (.var 1) (.bi .int [.bin .fdiv (.var 0) (.var 1)])))], .ret (.var 0)]⟩
def g__law_pair : EV.Fn := ⟨2, 5, [.asg (.nm 2) (.bin .add (.int 2) (.call 1 [.var 0, .bin .sub (.var 1) (.int 1)])), .asg (.nm 3) (.lc (.var 4) (.nm 4) (.rng2 (.int 1) (.var 2)) (.cmp .eq (.call 17 [.var 2, .var 4]) (.int 1)) [4]), .ret (.tup [.var 2, .call 2 [.var 0, .var 3]])]⟩
def g__law_signed : EV.Fn := ⟨2, 4, [.asg (.tp [(.nm 2), (.nm 3)]) (.call 18 [.var 0, .var 1]), .ifs (.cmp .eq (.bin .mod (.var 2) (.int 2)) (.int 0)) [.ret (.tup [.var 2, .bin .sub (.val (.var 3)) (.call 2 [.var 0, .lst [.int 0, .var 2]])])] [], .ret (.tup [.var 2, .ife (.cmp .eq (.bin .mod (.var 3) (.int 2)) (.int 0)) (.var 3) (.bin .sub (.var 3) (.var 2))])]⟩
def g__law_fault : EV.Fn := ⟨2, 3, [.tryRet [.expr (.call 7 [.ix (.var 0) (.int 0), .ix (.var 0) (.int 1), .ix (.var 1) (.int 0), .ix (.var 1) (.int 1)])] [(0, 2, [.str "signed", .isi 1, .isis [2, 3]])], .ret (.tup [.str "none"])]⟩
def g_law : EV.Fn := ⟨1, 12, [.asg (.nm 1) (.call 0 [.var 0]), .ifs (.not (.call 16 [])) [.ret (.bl false)] [], .for_ (.nm 2) (.rng1 (.int 6)) [.asg (.nm 6) (.call 19 [.var 1, .call 2 [.var 1, .lst [.int 20, .int 60, .int 250]]]), .asg (.tp [(.nm 3), (.nm 9)]) (.var 6), .asg (.nm 7) (.call 1 [.var 1, .int 4]), .asg (.nm 8) (.call 19 [.var 1, .int 30]), .ifs (.cmp .eq (.var 7) (.int 0)) [.asg (.nm 8) (.var 6)] [.ifs (.cmp .eq (.var 7) (.int 1)) [.asg (.nm 10) (.lc (.var 11) (.nm 11) (.rng2 (.bin .sub (.int 1) (.var 3)) (.var 3)) (.and (.cmp .eq (.bin .mod (.bi .int [.bin .sub (.bin .mul (.var 9) (.var 11)) (.int 1)]) (.var 3)) (.int 0)) (.one (.cmp .eq (.bin .mod (.bi .int [.bin .add (.var 3) (.var 11)]) (.int 2)) (.int 1)))) [11]), .asg (.nm 8) (.ife (.var 10) (.tup [.var 3, .call 2 [.var 1, .var 10]]) (.var 6))] [.ifs (.cmp .eq (.var 7) (.int 2)) [.asg (.nm 10) (.lc (.var 11) (.nm 11) (.rng2 (.bin .sub (.int 1) (.var 3)) (.var 3)) (.and (.cmp .eq (.bin .mod (.bi .int [.bin .add (.var 3) (.var 11)]) (.int 2)) (.int 1)) (.one (.cmp .eq (.call 17 [.var 3, .var 11]) (.int 1)))) [11]), .asg (.nm 8) (.tup [.var 3, .call 2 [.var 1, .var 10]])] []]], .ifs (.not (.call 15 [.var 6, .var 8])) [.ret (.bl false)] []], .asg (.nm 3) (.bin .sub (.bin .pow (.int 10) (.int 9)) (.call 1 [.var 1, .bin .pow (.int 10) (.int 6)])), .asg (.nm 4) (.ife (.cmp .eq (.bin .mod (.var 3) (.int 2)) (.int 1)) (.tup [.var 3, .bin .sub (.var 3) (.int 1)]) (.tup [.var 3, .int 1])), .ifs (.not (.call 4 [.call 7 [.ix (.var 4) (.int 0), .ix (.var 4) (.int 1), .ix (.var 4) (.int 0), .ix (.var 4) (.int 1)], .bl true])) [.ret (.bl false)] [], .asg (.nm 5) (.call 2 [.var 1, .lst [.tup [.int 0, .int 1], .tup [.int 3, .int 1], .tup [.int 4, .int 2], .tup [.int 9, .int 6], .tup [.int 5, .int 6], .tup [.neg (.int 3), .int 2], .tup [.bin .add (.bin .pow (.int 10) (.int 9)) (.int 1), .int 2], .tup [.non, .int 0], .tup [.int 5, .non], .tup [.bl true, .int 0], .tup [.int 5, .bl false], .tup [.str "5", .int 2], .tup [.lst [], .disp [] []]]]), .ifs (.not (.call 4 [.call 20 [.var 5, .tup [.int 3, .int 1]], .tup [.str "signed", .bl true, .bl false]])) [.ret (.bl false)] [], .ret (.call 4 [.call 20 [.tup [.int 3, .int 2], .var 5], .tup [.str "signed", .bl true, .bl false]])]⟩
def fs : List EV.PF := [⟨"_law_pool", top 14, ["script", "cell"], ["script"], g__law_pool⟩,
  ⟨"_law_take", top 15, ["pool", "many", "cell", "mixed", "digit"], ["pool", "many"], g__law_take⟩,
  ⟨"_law_pick", top 16, ["pool", "rows"], ["pool", "rows"], g__law_pick⟩,
  ⟨"_law_is_integer", top 17, ["actual"], ["actual"], g__law_is_integer⟩,
  ⟨"_law_same", top 18, ["actual", "due", "k"], ["actual", "due"], g__law_same⟩,
  ⟨"is_whole", top 4, ["value"], ["value"], g_is_whole⟩,
  ⟨"check_signed", top 9, ["p", "e"], ["p", "e"], g_check_signed⟩,
  ⟨"same_directed", top 12, ["p", "e", "p2", "e2"], ["p", "e", "p2", "e2"], g_same_directed⟩,
  ⟨"_law_due", top 27, ["one", "other", "k", "p", "e"], ["one", "other"], g__law_due⟩,
  ⟨"_law_even", top 24, ["p", "e", "found", "turn", "part", "best", "low"], ["p", "e"], g__law_even⟩,
  ⟨"_law_told", top 21, ["found", "powers", "power"], ["found"], g__law_told⟩,
  ⟨"_law_put", top 20, ["found", "power", "number"], ["found", "power", "number"], g__law_put⟩,
  ⟨"_law_sum_of", top 23, ["one", "other", "found", "power"], ["one", "other"], g__law_sum_of⟩,
  ⟨"_law_product", top 22, ["one", "other", "found", "power", "more"], ["one", "other"], g__law_product⟩,
  ⟨"_law_by_row", top 28, ["row", "k", "last", "here", "by"], ["row"], g__law_by_row⟩,
  ⟨"_law_so", top 30, ["one", "other", "due", "here", "there"], ["one", "other"], g__law_so⟩,
  ⟨"_law_always", top 31, ["pairs", "due", "one", "other"], [], g__law_always⟩,
  ⟨"_law_common", top 19, ["one", "other", "turn"], ["one", "other"], g__law_common⟩,
  ⟨"_law_pair", top 25, ["pool", "most", "p", "some", "q"], ["pool", "most"], g__law_pair⟩,
  ⟨"_law_signed", top 29, ["pool", "most", "p", "q"], ["pool", "most"], g__law_signed⟩,
  ⟨"_law_fault", top 26, ["one", "other", "wrong"], ["one", "other"], g__law_fault⟩,
  ⟨"law", top 32, ["script", "pool", "turn", "p", "great", "wrong", "one", "kind", "other", "e", "some", "r"], ["script"], g_law⟩]
def D : EV.PD := ⟨fs, ["BadSignedFraction", "KnotError", "TooLongRow", "TooGreatFraction"], [[true, true, false, false], [false, true, false, false], [false, true, true, false], [false, true, false, true]], [("MOST_FRACTION", 1000000000)], ["int", "len", "isinstance", "bool", "tuple", "all", "range", "list", "str", "abs", "sorted", "dict"], true⟩
theorem checked : (fs.all fun p => EV.chkF (D.cc p.N) p.ps p.g p.st) = true := by kernel_rfl
theorem binds : ∀ p ∈ fs, p.Bind := List.forall_mem_cons.mpr ⟨fun _ _ _ _ _ _ us hl => match us, hl with | [_], _ => rfl, List.forall_mem_cons.mpr ⟨fun _ _ _ _ _ _ us hl => match us, hl with | [_, _], _ => rfl, List.forall_mem_cons.mpr ⟨fun _ _ _ _ _ _ us hl => match us, hl with | [_, _], _ => rfl, List.forall_mem_cons.mpr ⟨fun _ _ _ _ _ _ us hl => match us, hl with | [_], _ => rfl, List.forall_mem_cons.mpr ⟨fun _ _ _ _ _ _ us hl => match us, hl with | [_, _], _ => rfl, List.forall_mem_cons.mpr ⟨fun _ _ _ _ _ _ us hl => match us, hl with | [_], _ => rfl, List.forall_mem_cons.mpr ⟨fun _ _ _ _ _ _ us hl => match us, hl with | [_, _], _ => rfl, List.forall_mem_cons.mpr ⟨fun _ _ _ _ _ _ us hl => match us, hl with | [_, _, _, _], _ => rfl, List.forall_mem_cons.mpr ⟨fun _ _ _ _ _ _ us hl => match us, hl with | [_, _], _ => rfl, List.forall_mem_cons.mpr ⟨fun _ _ _ _ _ _ us hl => match us, hl with | [_, _], _ => rfl, List.forall_mem_cons.mpr ⟨fun _ _ _ _ _ _ us hl => match us, hl with | [_], _ => rfl, List.forall_mem_cons.mpr ⟨fun _ _ _ _ _ _ us hl => match us, hl with | [_, _, _], _ => rfl, List.forall_mem_cons.mpr ⟨fun _ _ _ _ _ _ us hl => match us, hl with | [_, _], _ => rfl, List.forall_mem_cons.mpr ⟨fun _ _ _ _ _ _ us hl => match us, hl with | [_, _], _ => rfl, List.forall_mem_cons.mpr ⟨fun _ _ _ _ _ _ us hl => match us, hl with | [_], _ => rfl, List.forall_mem_cons.mpr ⟨fun _ _ _ _ _ _ us hl => match us, hl with | [_, _], _ => rfl, List.forall_mem_cons.mpr ⟨fun _ _ _ _ _ _ us hl => match us, hl with | [], _ => rfl, List.forall_mem_cons.mpr ⟨fun _ _ _ _ _ _ us hl => match us, hl with | [_, _], _ => rfl, List.forall_mem_cons.mpr ⟨fun _ _ _ _ _ _ us hl => match us, hl with | [_, _], _ => rfl, List.forall_mem_cons.mpr ⟨fun _ _ _ _ _ _ us hl => match us, hl with | [_, _], _ => rfl, List.forall_mem_cons.mpr ⟨fun _ _ _ _ _ _ us hl => match us, hl with | [_, _], _ => rfl, List.forall_mem_cons.mpr ⟨fun _ _ _ _ _ _ us hl => match us, hl with | [_], _ => rfl, fun _ m => nomatch m⟩⟩⟩⟩⟩⟩⟩⟩⟩⟩⟩⟩⟩⟩⟩⟩⟩⟩⟩⟩⟩⟩
abbrev R : PySem.W.OpenRow := PySem.W.OpenLaw.row PySem.Challenge.rw_knotproved_k71_whole_directed_two_bridge
abbrev hk : PySem.W.Hook := EV.hookT 4 D.fa D.fn D.t
def ob (s : PySem.W.SharedT) : He.AlD × Bool := EV.obT 4 D.fa D.fn D.t s
def names : List Str := ["gcd", "__name__", "KnotError", "is_whole", "MOST_FRACTION", "BadSignedFraction", "TooLongRow", "check_signed", "TooGreatFraction", "same_directed", "_law_pool", "_law_take", "_law_pick", "_law_is_integer", "_law_same", "_law_common", "_law_put", "_law_told", "_law_product", "_law_sum_of", "_law_even", "_law_pair", "_law_fault", "_law_due", "_law_by_row", "_law_signed", "_law_so", "_law_always"]
theorem run (w : World) : HandSHeadRun.RunEqI R (PySem.W.view R.prog [32]) hk ob 2000 names w := by
  unfold HandSHeadRun.RunEqI
  kernel_rfl
end HD
set_option Elab.async false
set_option linter.all false
set_option maxRecDepth 100000
set_option maxHeartbeats 8000000
namespace HD
open PySem L2 EV
theorem hPow18 : (10 : Int) ^ (18 : Nat) = 1000000000000000000 := by decide
def poolV (cells : List Int) (i s m : Int) : Val := .lst [.lst (cells.map .int), .int i, .int s, .int m]
theorem take_a {Γ : Env'} {sub : Nat → Nat → Bool} {k : En} (cells : List Int) (i s m many : Int) (hs : 0 < s) (hm : 0 < many) (hm2 : many < 1073741824) (hk : k.rt (.int (s.fmod many), false) [.ow (poolV cells i (s.fdiv many) m), .fz (.int many), .no, .no, .fz (.int (s.fmod many))]) :
    Ow (evSs Γ sub g__law_take.body [.ow (poolV cells i s m), .fz (.int many), .no, .no, .no]) k := by
  have e0 : ¬ many = 0 := by omega
  have e1 : divOk many = true := by simp [divOk]; omega
  simp only [g__law_take, poolV, ↓w_bvar, ↓w_bnv, ↓w_var, ↓w_non, ↓w_bl, ↓w_int, ↓w_str, ↓w_val, ↓w_one, ↓w_bin, ↓w_neg, ↓w_test, ↓w_not, ↓w_and, ↓w_or, ↓w_ife, ↓w_cmp, ↓w_chain, ↓w_call, ↓w_bi, ↓w_isi, ↓w_isis, ↓w_ix, ↓w_sl, ↓w_rev, ↓w_tup, ↓w_lst, ↓w_snil, ↓w_scons, ↓w_bnil, ↓w_bcons, ↓w_anil, ↓w_aconsN, ↓w_aconsF, ↓w_aconsT, ↓w_prnop, ↓w_pr, ↓w_nil, ↓w_cons, ↓w_put, ↓w_asgN, ↓w_asgT, ↓w_par, ↓w_ifs, ↓w_ret, ↓w_retn, ↓w_raise, ↓w_brk, ↓w_cont, ↓w_expr, ↓w_seti, ↓w_turn, ↓w_cnop, ↓w_cond, ↓w_lc, ↓w_forF, iv_non, iv_bl, iv_int, np_int, iv_str, iv_glob, iv_bin, np_bin, iv_neg, np_neg, iv_not, iv_and, iv_or, iv_one, iv_ife, np_ife, iv_cmp, iv_chain, iv_call, np_call, iv_bi, np_bi, iv_isi, iv_isis, iv_ix, np_ix, iv_sl, iv_rev, iv_tup, iv_lst, iv_lc, iv_disp, iv_get, iv_lcK, iv_val, np_var, np_cmp, np_chain, np_not, np_and, np_or, np_isi, np_isis, np_one, Rw_got, Ov_some, Ob_true, Ob_false, rdB, rdV, Rw_got, List.getElem?_cons_zero, List.getElem?_cons_succ, List.set_cons_zero, List.set_cons_succ, List.length_cons, List.length_nil, List.length_set, at0, at1, at2, at3, ix0, ix1, ix2, ix3, vf_add, vf_sub, vf_mul, vf_fdiv, vf_mod, vf_pow, vf_addT, vf_addL, vf_lt, vf_le, vf_gt, vf_ge, vf_lt2, vf_le2, vf_gt2, vf_ge2, vf_isN, vf_notN, vf_nn_int, vf_nn_bl, vf_nn_tup, vf_nn_lst, vf_nn_str, vf_nn_non, vf_tr_bl, vf_tr_int, vf_tr_non, vf_tr_tup, vf_tr_lst, vf_lenT, vf_lenL, vf_abs, vf_int, vf_tupL, vf_tupT, vf_lstL, vf_lstT, vf_gcd, vf_ixL, vf_ixT, vf_ixS, vf_setL, vf_appL, vf_neg, vf_ow, vf_mkT, vf_mkF, vf_part, vf_revL, vf_revT, vf_is_int_int, vf_is_bl_int, vf_is_str_int, vf_is_tup_int, vf_is_lst_int, vf_is_scr_int, vf_is_non_int, vf_is_int_bool, vf_is_bl_bool, vf_is_str_bool, vf_is_tup_bool, vf_is_lst_bool, vf_is_scr_bool, vf_is_non_bool, vf_is_int_str, vf_is_bl_str, vf_is_str_str, vf_is_tup_str, vf_is_lst_str, vf_is_scr_str, vf_is_non_str, vf_is_int_tuple, vf_is_bl_tuple, vf_is_str_tuple, vf_is_tup_tuple, vf_is_lst_tuple, vf_is_scr_tuple, vf_is_non_tuple, vf_is_int_list, vf_is_bl_list, vf_is_str_list, vf_is_tup_list, vf_is_lst_list, vf_is_scr_list, vf_is_non_list, vf_eqI, vf_neI, vf_eqB, Option.map_some, Option.bind_some, List.map_cons, List.map_nil, Nat.reduceAdd, Nat.reducePow, Int.reducePow, hPow18, Int.reduceMul, Int.reduceSub, Int.reduceFDiv, Int.reduceFMod, Nat.reduceLT, Nat.reduceLeDiff, Nat.reduceSub, Int.reduceLE, Int.reduceLT, Int.reduceNeg, Int.reduceAdd, Int.reduceToNat, Int.reduceEq, Int.ofNat_eq_coe, ↓reduceIte, reduceCtorEq, decide_true, decide_false, Int.cast_ofNat_Int, and_true, true_and, Bool.not_true, Bool.not_false, hs, e0, e1]
  exact hk
theorem mulOkR {a b : Int} (h1 : -(2 ^ 64) < b) (h2 : b < 2 ^ 64) : mulOk a b = true := by
  unfold mulOk
  rw [decide_eq_true (show -(2 ^ 64) < b ∧ b < 2 ^ 64 from ⟨h1, h2⟩)]
  simp
/-- no stock: the cell c is taken up -/
theorem take_b {Γ : Env'} {sub : Nat → Nat → Bool} {k : En} (cells : List Int) (i m many c : Int) (hm : 0 < many) (hm2 : many < 1073741824) (hm3 : 0 ≤ m) (hm4 : m < 2147483647) (hi : ¬ i < cells.length ∧ c = 0 ∨ i < cells.length ∧ atI (cells.map Val.int) i = some (.int c)) (hc : c < 1000000000000000000) (m' : Int) (em : m' = (m * 48271 + c * 69621 + (i + 1) * 613).fmod 2147483647)
    (hk : ∀ ρ, ρ.headD .no = .ow (poolV cells (i + 1) 0 m') → k.rt (.int ((((m' * m' + m' * 7919 + 104729).fmod 1000000007).fdiv 3).fmod many), false) ρ) :
    Ow (evSs Γ sub g__law_take.body [.ow (poolV cells i 0 m), .fz (.int many), .no, .no, .no]) k := by
  have e0 : ¬ many = 0 := by omega
  have e1 : divOk 3 = true := by decide
  have e2 : powOk 10 18 = true := by decide
  have hc' : ¬ (1000000000000000000 ≤ c) := by omega
  have e3 : mulOk m 48271 = true := mulOkR (by decide) (by decide)
  have e4 : mulOk c 69621 = true := mulOkR (by decide) (by decide)
  have e5 : mulOk (i + 1) 613 = true := mulOkR (by decide) (by decide)
  have h1 : 0 ≤ m' := by rw [em]; exact Int.fmod_nonneg_of_pos _ (by decide)
  have h2 : m' < 2147483647 := by rw [em]; exact Int.fmod_lt_of_pos _ (by decide)
  have e6 : mulOk m' m' = true := mulOkR (by omega) (by omega)
  have e7 : mulOk m' 7919 = true := mulOkR (by decide) (by decide)
  rcases hi with ⟨hi, rfl⟩ | ⟨hi, hat⟩
  · have em1 : (m * 48271 + 0 + (i + 1) * 613).fmod 2147483647 = m' := by rw [em]; simp
    simp only [g__law_take, poolV, ↓w_bvar, ↓w_bnv, ↓w_var, ↓w_non, ↓w_bl, ↓w_int, ↓w_str, ↓w_val, ↓w_one, ↓w_bin, ↓w_neg, ↓w_test, ↓w_not, ↓w_and, ↓w_or, ↓w_ife, ↓w_cmp, ↓w_chain, ↓w_call, ↓w_bi, ↓w_isi, ↓w_isis, ↓w_ix, ↓w_sl, ↓w_rev, ↓w_tup, ↓w_lst, ↓w_snil, ↓w_scons, ↓w_bnil, ↓w_bcons, ↓w_anil, ↓w_aconsN, ↓w_aconsF, ↓w_aconsT, ↓w_prnop, ↓w_pr, ↓w_nil, ↓w_cons, ↓w_put, ↓w_asgN, ↓w_asgT, ↓w_par, ↓w_ifs, ↓w_ret, ↓w_retn, ↓w_raise, ↓w_brk, ↓w_cont, ↓w_expr, ↓w_seti, ↓w_turn, ↓w_cnop, ↓w_cond, ↓w_lc, ↓w_forF, iv_non, iv_bl, iv_int, np_int, iv_str, iv_glob, iv_bin, np_bin, iv_neg, np_neg, iv_not, iv_and, iv_or, iv_one, iv_ife, np_ife, iv_cmp, iv_chain, iv_call, np_call, iv_bi, np_bi, iv_isi, iv_isis, iv_ix, np_ix, iv_sl, iv_rev, iv_tup, iv_lst, iv_lc, iv_disp, iv_get, iv_lcK, iv_val, np_var, np_cmp, np_chain, np_not, np_and, np_or, np_isi, np_isis, np_one, Rw_got, Ov_some, Ob_true, Ob_false, rdB, rdV, Rw_got, List.getElem?_cons_zero, List.getElem?_cons_succ, List.set_cons_zero, List.set_cons_succ, List.length_cons, List.length_nil, List.length_set, at0, at1, at2, at3, ix0, ix1, ix2, ix3, vf_add, vf_sub, vf_mul, vf_fdiv, vf_mod, vf_pow, vf_addT, vf_addL, vf_lt, vf_le, vf_gt, vf_ge, vf_lt2, vf_le2, vf_gt2, vf_ge2, vf_isN, vf_notN, vf_nn_int, vf_nn_bl, vf_nn_tup, vf_nn_lst, vf_nn_str, vf_nn_non, vf_tr_bl, vf_tr_int, vf_tr_non, vf_tr_tup, vf_tr_lst, vf_lenT, vf_lenL, vf_abs, vf_int, vf_tupL, vf_tupT, vf_lstL, vf_lstT, vf_gcd, vf_ixL, vf_ixT, vf_ixS, vf_setL, vf_appL, vf_neg, vf_ow, vf_mkT, vf_mkF, vf_part, vf_revL, vf_revT, vf_is_int_int, vf_is_bl_int, vf_is_str_int, vf_is_tup_int, vf_is_lst_int, vf_is_scr_int, vf_is_non_int, vf_is_int_bool, vf_is_bl_bool, vf_is_str_bool, vf_is_tup_bool, vf_is_lst_bool, vf_is_scr_bool, vf_is_non_bool, vf_is_int_str, vf_is_bl_str, vf_is_str_str, vf_is_tup_str, vf_is_lst_str, vf_is_scr_str, vf_is_non_str, vf_is_int_tuple, vf_is_bl_tuple, vf_is_str_tuple, vf_is_tup_tuple, vf_is_lst_tuple, vf_is_scr_tuple, vf_is_non_tuple, vf_is_int_list, vf_is_bl_list, vf_is_str_list, vf_is_tup_list, vf_is_lst_list, vf_is_scr_list, vf_is_non_list, vf_eqI, vf_neI, vf_eqB, Option.map_some, Option.bind_some, List.map_cons, List.map_nil, Nat.reduceAdd, Nat.reducePow, Int.reducePow, hPow18, Int.reduceMul, Int.reduceSub, Int.reduceFDiv, Int.reduceFMod, Nat.reduceLT, Nat.reduceLeDiff, Nat.reduceSub, Int.reduceLE, Int.reduceLT, Int.reduceNeg, Int.reduceAdd, Int.reduceToNat, Int.reduceEq, Int.ofNat_eq_coe, ↓reduceIte, reduceCtorEq, decide_true, decide_false, Int.cast_ofNat_Int, and_true, true_and, Bool.not_true, Bool.not_false, e0, e1, e2, e3, e4, e5, e6, e7, hi, em1, List.length_map]
    exact hk _ rfl
  · simp only [g__law_take, poolV, ↓w_bvar, ↓w_bnv, ↓w_var, ↓w_non, ↓w_bl, ↓w_int, ↓w_str, ↓w_val, ↓w_one, ↓w_bin, ↓w_neg, ↓w_test, ↓w_not, ↓w_and, ↓w_or, ↓w_ife, ↓w_cmp, ↓w_chain, ↓w_call, ↓w_bi, ↓w_isi, ↓w_isis, ↓w_ix, ↓w_sl, ↓w_rev, ↓w_tup, ↓w_lst, ↓w_snil, ↓w_scons, ↓w_bnil, ↓w_bcons, ↓w_anil, ↓w_aconsN, ↓w_aconsF, ↓w_aconsT, ↓w_prnop, ↓w_pr, ↓w_nil, ↓w_cons, ↓w_put, ↓w_asgN, ↓w_asgT, ↓w_par, ↓w_ifs, ↓w_ret, ↓w_retn, ↓w_raise, ↓w_brk, ↓w_cont, ↓w_expr, ↓w_seti, ↓w_turn, ↓w_cnop, ↓w_cond, ↓w_lc, ↓w_forF, iv_non, iv_bl, iv_int, np_int, iv_str, iv_glob, iv_bin, np_bin, iv_neg, np_neg, iv_not, iv_and, iv_or, iv_one, iv_ife, np_ife, iv_cmp, iv_chain, iv_call, np_call, iv_bi, np_bi, iv_isi, iv_isis, iv_ix, np_ix, iv_sl, iv_rev, iv_tup, iv_lst, iv_lc, iv_disp, iv_get, iv_lcK, iv_val, np_var, np_cmp, np_chain, np_not, np_and, np_or, np_isi, np_isis, np_one, Rw_got, Ov_some, Ob_true, Ob_false, rdB, rdV, Rw_got, List.getElem?_cons_zero, List.getElem?_cons_succ, List.set_cons_zero, List.set_cons_succ, List.length_cons, List.length_nil, List.length_set, at0, at1, at2, at3, ix0, ix1, ix2, ix3, vf_add, vf_sub, vf_mul, vf_fdiv, vf_mod, vf_pow, vf_addT, vf_addL, vf_lt, vf_le, vf_gt, vf_ge, vf_lt2, vf_le2, vf_gt2, vf_ge2, vf_isN, vf_notN, vf_nn_int, vf_nn_bl, vf_nn_tup, vf_nn_lst, vf_nn_str, vf_nn_non, vf_tr_bl, vf_tr_int, vf_tr_non, vf_tr_tup, vf_tr_lst, vf_lenT, vf_lenL, vf_abs, vf_int, vf_tupL, vf_tupT, vf_lstL, vf_lstT, vf_gcd, vf_ixL, vf_ixT, vf_ixS, vf_setL, vf_appL, vf_neg, vf_ow, vf_mkT, vf_mkF, vf_part, vf_revL, vf_revT, vf_is_int_int, vf_is_bl_int, vf_is_str_int, vf_is_tup_int, vf_is_lst_int, vf_is_scr_int, vf_is_non_int, vf_is_int_bool, vf_is_bl_bool, vf_is_str_bool, vf_is_tup_bool, vf_is_lst_bool, vf_is_scr_bool, vf_is_non_bool, vf_is_int_str, vf_is_bl_str, vf_is_str_str, vf_is_tup_str, vf_is_lst_str, vf_is_scr_str, vf_is_non_str, vf_is_int_tuple, vf_is_bl_tuple, vf_is_str_tuple, vf_is_tup_tuple, vf_is_lst_tuple, vf_is_scr_tuple, vf_is_non_tuple, vf_is_int_list, vf_is_bl_list, vf_is_str_list, vf_is_tup_list, vf_is_lst_list, vf_is_scr_list, vf_is_non_list, vf_eqI, vf_neI, vf_eqB, Option.map_some, Option.bind_some, List.map_cons, List.map_nil, Nat.reduceAdd, Nat.reducePow, Int.reducePow, hPow18, Int.reduceMul, Int.reduceSub, Int.reduceFDiv, Int.reduceFMod, Nat.reduceLT, Nat.reduceLeDiff, Nat.reduceSub, Int.reduceLE, Int.reduceLT, Int.reduceNeg, Int.reduceAdd, Int.reduceToNat, Int.reduceEq, Int.ofNat_eq_coe, ↓reduceIte, reduceCtorEq, decide_true, decide_false, Int.cast_ofNat_Int, and_true, true_and, Bool.not_true, Bool.not_false, e0, e1, e2, e3, e4, e5, e6, e7, hi, hat, hc', ← em, List.length_map]
    exact hk _ rfl
/-- a great cell is the new stock -/
theorem take_c {Γ : Env'} {sub : Nat → Nat → Bool} {k : En} (cells : List Int) (i m many c : Int) (hm : 0 < many) (hm2 : many < 1073741824) (hi : i < cells.length) (hat : atI (cells.map Val.int) i = some (.int c)) (hc : 1000000000000000000 ≤ c) (hst : Γ.stab 1 = [true, true])
    (hk : Rw (Γ.den 1 [.ow (poolV cells (i + 1) (c.fdiv 2) m), .fz (.int many)]) (fun y => k.rt y.1 (giveR [some 0, none] y.2 [.no, .fz (.int many), .fz (.int c), .no, .no])) k.ex) :
    Ow (evSs Γ sub g__law_take.body [.ow (poolV cells i 0 m), .fz (.int many), .no, .no, .no]) k := by
  have e1 : divOk 2 = true := by decide
  have e2 : powOk 10 18 = true := by decide
  simp only [g__law_take, poolV, ↓w_bvar, ↓w_bnv, ↓w_var, ↓w_non, ↓w_bl, ↓w_int, ↓w_str, ↓w_val, ↓w_one, ↓w_bin, ↓w_neg, ↓w_test, ↓w_not, ↓w_and, ↓w_or, ↓w_ife, ↓w_cmp, ↓w_chain, ↓w_call, ↓w_bi, ↓w_isi, ↓w_isis, ↓w_ix, ↓w_sl, ↓w_rev, ↓w_tup, ↓w_lst, ↓w_snil, ↓w_scons, ↓w_bnil, ↓w_bcons, ↓w_anil, ↓w_aconsN, ↓w_aconsF, ↓w_aconsT, ↓w_prnop, ↓w_pr, ↓w_nil, ↓w_cons, ↓w_put, ↓w_asgN, ↓w_asgT, ↓w_par, ↓w_ifs, ↓w_ret, ↓w_retn, ↓w_raise, ↓w_brk, ↓w_cont, ↓w_expr, ↓w_seti, ↓w_turn, ↓w_cnop, ↓w_cond, ↓w_lc, ↓w_forF, iv_non, iv_bl, iv_int, np_int, iv_str, iv_glob, iv_bin, np_bin, iv_neg, np_neg, iv_not, iv_and, iv_or, iv_one, iv_ife, np_ife, iv_cmp, iv_chain, iv_call, np_call, iv_bi, np_bi, iv_isi, iv_isis, iv_ix, np_ix, iv_sl, iv_rev, iv_tup, iv_lst, iv_lc, iv_disp, iv_get, iv_lcK, iv_val, np_var, np_cmp, np_chain, np_not, np_and, np_or, np_isi, np_isis, np_one, Rw_got, Ov_some, Ob_true, Ob_false, rdB, rdV, Rw_got, List.getElem?_cons_zero, List.getElem?_cons_succ, List.set_cons_zero, List.set_cons_succ, List.length_cons, List.length_nil, List.length_set, at0, at1, at2, at3, ix0, ix1, ix2, ix3, vf_add, vf_sub, vf_mul, vf_fdiv, vf_mod, vf_pow, vf_addT, vf_addL, vf_lt, vf_le, vf_gt, vf_ge, vf_lt2, vf_le2, vf_gt2, vf_ge2, vf_isN, vf_notN, vf_nn_int, vf_nn_bl, vf_nn_tup, vf_nn_lst, vf_nn_str, vf_nn_non, vf_tr_bl, vf_tr_int, vf_tr_non, vf_tr_tup, vf_tr_lst, vf_lenT, vf_lenL, vf_abs, vf_int, vf_tupL, vf_tupT, vf_lstL, vf_lstT, vf_gcd, vf_ixL, vf_ixT, vf_ixS, vf_setL, vf_appL, vf_neg, vf_ow, vf_mkT, vf_mkF, vf_part, vf_revL, vf_revT, vf_is_int_int, vf_is_bl_int, vf_is_str_int, vf_is_tup_int, vf_is_lst_int, vf_is_scr_int, vf_is_non_int, vf_is_int_bool, vf_is_bl_bool, vf_is_str_bool, vf_is_tup_bool, vf_is_lst_bool, vf_is_scr_bool, vf_is_non_bool, vf_is_int_str, vf_is_bl_str, vf_is_str_str, vf_is_tup_str, vf_is_lst_str, vf_is_scr_str, vf_is_non_str, vf_is_int_tuple, vf_is_bl_tuple, vf_is_str_tuple, vf_is_tup_tuple, vf_is_lst_tuple, vf_is_scr_tuple, vf_is_non_tuple, vf_is_int_list, vf_is_bl_list, vf_is_str_list, vf_is_tup_list, vf_is_lst_list, vf_is_scr_list, vf_is_non_list, vf_eqI, vf_neI, vf_eqB, Option.map_some, Option.bind_some, List.map_cons, List.map_nil, Nat.reduceAdd, Nat.reducePow, Int.reducePow, hPow18, Int.reduceMul, Int.reduceSub, Int.reduceFDiv, Int.reduceFMod, Nat.reduceLT, Nat.reduceLeDiff, Nat.reduceSub, Int.reduceLE, Int.reduceLT, Int.reduceNeg, Int.reduceAdd, Int.reduceToNat, Int.reduceEq, Int.ofNat_eq_coe, ↓reduceIte, reduceCtorEq, decide_true, decide_false, Int.cast_ofNat_Int, and_true, true_and, Bool.not_true, Bool.not_false, e1, e2, hi, hat, hc, hst, List.length_map]
  exact hk
end HD
set_option Elab.async false
set_option linter.all false
set_option maxRecDepth 100000
set_option maxHeartbeats 8000000
namespace HD
open PySem L2 EV
def PoolOk (v : Val) : Prop := ∃ (cells : List Int) (i s m : Int), v = poolV cells i s m ∧ (∀ c ∈ cells, 0 ≤ c) ∧ 0 ≤ i ∧ 0 ≤ s ∧ 0 ≤ m ∧ m < 2147483647
abbrev NX : XP := fun _ _ => False
theorem stab1 : D.prg.stab 1 = [true, true] := by kernel_rfl
theorem outs2 (v w : Val) (ρ : Ro) : outsL [true, true] [.ow v, .fz w] ρ = [ρ.headD .no, .no] := rfl
theorem gst_take : g__law_take.stab = [true, true] := by kernel_rfl
theorem take_ok0 {d : Nat} {many : Int} {cells : List Int} {i s m : Int} (hs : 0 < s) (hc : ∀ c ∈ cells, 0 ≤ c) (hi : 0 ≤ i) (h1 : 0 ≤ m) (h2 : m < 2147483647) (hm : 0 < many) (hm2 : many < 1073741824) :
    Rw (D.prg.den (d + 1) 1 [.ow (poolV cells i s m), .fz (.int many)]) (fun z => ∃ t v', z = ((.int t, false), [.ow v', .no]) ∧ PoolOk v' ∧ 0 ≤ t ∧ t < many) NX := by
  rw [den_succ (g := g__law_take) rfl, w_run rfl, gst_take]
  show Ow (evSs _ _ g__law_take.body [.ow (poolV cells i s m), .fz (.int many), .no, .no, .no]) _
  refine take_a cells i s m many hs hm hm2 ?_
  exact ⟨_, _, rfl, ⟨cells, i, _, m, rfl, hc, hi, Int.fdiv_nonneg (by omega) (by omega), h1, h2⟩, Int.fmod_nonneg_of_pos _ hm, Int.fmod_lt_of_pos _ hm⟩
theorem take_ok {d : Nat} {v : Val} {many : Int} (h : PoolOk v) (hm : 0 < many) (hm2 : many < 1073741824) :
    Rw (D.prg.den (d + 2) 1 [.ow v, .fz (.int many)]) (fun z => ∃ t v', z = ((.int t, false), [.ow v', .no]) ∧ PoolOk v' ∧ 0 ≤ t ∧ t < many) NX := by
  obtain ⟨cells, i, s, m, rfl, hc, hi, hs, h1, h2⟩ := h
  by_cases hp : 0 < s
  · exact take_ok0 hp hc hi h1 h2 hm hm2
  · have hz : s = 0 := by omega
    subst hz
    rw [den_succ (g := g__law_take) rfl, w_run rfl, gst_take]
    show Ow (evSs _ _ g__law_take.body [.ow (poolV cells i 0 m), .fz (.int many), .no, .no, .no]) _
    have key : ∀ c, 0 ≤ c → (¬ i < cells.length ∧ c = 0 ∨ i < cells.length ∧ atI (cells.map Val.int) i = some (.int c)) → c < 1000000000000000000 → Ow (evSs ⟨D.prg.den (d + 1), D.prg.stab, D.prg.gl⟩ D.prg.sub g__law_take.body [.ow (poolV cells i 0 m), .fz (.int many), .no, .no, .no]) { nx := fun ρ => (fun z => ∃ t v', z = ((Val.int t, false), [Sl.ow v', Sl.no]) ∧ PoolOk v' ∧ 0 ≤ t ∧ t < many) ((.non, false), outsL [true, true] [.ow (poolV cells i 0 m), .fz (.int many)] ρ), rt := fun z ρ => (fun z => ∃ t v', z = ((Val.int t, false), [Sl.ow v', Sl.no]) ∧ PoolOk v' ∧ 0 ≤ t ∧ t < many) (z, outsL [true, true] [.ow (poolV cells i 0 m), .fz (.int many)] ρ), ex := NX } := fun c c0 ho cb => by
      refine take_b cells i m many c hm hm2 h1 h2 ho cb _ rfl fun ρ hρ => ?_
      refine ⟨_, _, Prod.ext rfl (by rw [outs2, hρ]), ⟨cells, i + 1, 0, _, rfl, hc, by omega, by omega, Int.fmod_nonneg_of_pos _ (by decide), Int.fmod_lt_of_pos _ (by decide)⟩, Int.fmod_nonneg_of_pos _ hm, Int.fmod_lt_of_pos _ hm⟩
    by_cases hl : i < cells.length
    · obtain ⟨c, mc, hat⟩ := at_nat hi hl
      by_cases hg : c < 1000000000000000000
      · exact key c (hc c mc) (.inr ⟨hl, hat⟩) hg
      · refine take_c cells i m many c hm hm2 hl hat (by omega) stab1 ?_
        refine Rw_mono (take_ok0 (s := c.fdiv 2) ?_ hc (by omega) h1 h2 hm hm2) ?_ fun _ _ z => z
        · have := Int.fdiv_nonneg (a := c) (b := 2) (by omega) (by omega)
          rw [Int.fdiv_eq_ediv_of_nonneg _ (by decide)]
          omega
        · rintro z ⟨t, v', rfl, hv, t0, t1⟩
          exact ⟨t, v', rfl, hv, t0, t1⟩
    · exact key 0 (by omega) (.inl ⟨hl, rfl⟩) (by omega)
end HD
set_option Elab.async false
set_option linter.all false
set_option maxRecDepth 100000
set_option maxHeartbeats 8000000
namespace HD
open PySem L2 EV
theorem gst_pick : g__law_pick.stab = [true, true] := by kernel_rfl
theorem stab2 : D.prg.stab 2 = [true, true] := by kernel_rfl
theorem at_mem {α : Type} {xs : List α} {t : Int} (h0 : 0 ≤ t) (h : t < xs.length) : ∃ x ∈ xs, atI xs t = some x := by
  have hl : t.toNat < xs.length := by omega
  refine ⟨xs[t.toNat], List.getElem_mem hl, ?_⟩
  unfold L2.atI ixN
  rw [if_pos h0, if_pos h]
  exact List.getElem?_eq_getElem hl
theorem pick_ok {d : Nat} {v w : Val} {xs : List Val} (hw : w = .lst xs ∨ w = .tup xs) (h : PoolOk v) (hn : xs ≠ []) (hl : xs.length < 1073741824) :
    Rw (D.prg.den (d + 3) 2 [.ow v, .fz w]) (fun z => ∃ x ∈ xs, ∃ v', z = ((x, false), [.ow v', .no]) ∧ PoolOk v') NX := by
  have hp : 0 < xs.length := List.length_pos_iff.mpr hn
  rw [den_succ (g := g__law_pick) rfl, w_run rfl, gst_pick]
  show Ow (evSs _ _ g__law_pick.body [.ow v, .fz w]) _
  rcases hw with rfl | rfl
  · simp only [g__law_pick, ↓w_bvar, ↓w_bnv, ↓w_var, ↓w_non, ↓w_bl, ↓w_int, ↓w_str, ↓w_val, ↓w_one, ↓w_bin, ↓w_neg, ↓w_test, ↓w_not, ↓w_and, ↓w_or, ↓w_ife, ↓w_cmp, ↓w_chain, ↓w_call, ↓w_bi, ↓w_isi, ↓w_isis, ↓w_ix, ↓w_sl, ↓w_rev, ↓w_tup, ↓w_lst, ↓w_snil, ↓w_scons, ↓w_bnil, ↓w_bcons, ↓w_anil, ↓w_aconsN, ↓w_aconsF, ↓w_aconsT, ↓w_prnop, ↓w_pr, ↓w_nil, ↓w_cons, ↓w_put, ↓w_asgN, ↓w_asgT, ↓w_par, ↓w_ifs, ↓w_ret, ↓w_retn, ↓w_raise, ↓w_brk, ↓w_cont, ↓w_expr, ↓w_seti, ↓w_turn, ↓w_cnop, ↓w_cond, ↓w_lc, ↓w_forF, iv_non, iv_bl, iv_int, np_int, iv_str, iv_glob, iv_bin, np_bin, iv_neg, np_neg, iv_not, iv_and, iv_or, iv_one, iv_ife, np_ife, iv_cmp, iv_chain, iv_call, np_call, iv_bi, np_bi, iv_isi, iv_isis, iv_ix, np_ix, iv_sl, iv_rev, iv_tup, iv_lst, iv_lc, iv_disp, iv_get, iv_lcK, iv_val, np_var, np_cmp, np_chain, np_not, np_and, np_or, np_isi, np_isis, np_one, Rw_got, Ov_some, Ob_true, Ob_false, rdB, rdV, Rw_got, List.getElem?_cons_zero, List.getElem?_cons_succ, List.set_cons_zero, List.set_cons_succ, List.length_cons, List.length_nil, List.length_set, at0, at1, at2, at3, ix0, ix1, ix2, ix3, vf_add, vf_sub, vf_mul, vf_fdiv, vf_mod, vf_pow, vf_addT, vf_addL, vf_lt, vf_le, vf_gt, vf_ge, vf_lt2, vf_le2, vf_gt2, vf_ge2, vf_isN, vf_notN, vf_nn_int, vf_nn_bl, vf_nn_tup, vf_nn_lst, vf_nn_str, vf_nn_non, vf_tr_bl, vf_tr_int, vf_tr_non, vf_tr_tup, vf_tr_lst, vf_lenT, vf_lenL, vf_abs, vf_int, vf_tupL, vf_tupT, vf_lstL, vf_lstT, vf_gcd, vf_ixL, vf_ixT, vf_ixS, vf_setL, vf_appL, vf_neg, vf_ow, vf_mkT, vf_mkF, vf_part, vf_revL, vf_revT, vf_is_int_int, vf_is_bl_int, vf_is_str_int, vf_is_tup_int, vf_is_lst_int, vf_is_scr_int, vf_is_non_int, vf_is_int_bool, vf_is_bl_bool, vf_is_str_bool, vf_is_tup_bool, vf_is_lst_bool, vf_is_scr_bool, vf_is_non_bool, vf_is_int_str, vf_is_bl_str, vf_is_str_str, vf_is_tup_str, vf_is_lst_str, vf_is_scr_str, vf_is_non_str, vf_is_int_tuple, vf_is_bl_tuple, vf_is_str_tuple, vf_is_tup_tuple, vf_is_lst_tuple, vf_is_scr_tuple, vf_is_non_tuple, vf_is_int_list, vf_is_bl_list, vf_is_str_list, vf_is_tup_list, vf_is_lst_list, vf_is_scr_list, vf_is_non_list, vf_eqI, vf_neI, vf_eqB, Option.map_some, Option.bind_some, List.map_cons, List.map_nil, Nat.reduceAdd, Nat.reducePow, Int.reducePow, hPow18, Int.reduceMul, Int.reduceSub, Int.reduceFDiv, Int.reduceFMod, Nat.reduceLT, Nat.reduceLeDiff, Nat.reduceSub, Int.reduceLE, Int.reduceLT, Int.reduceNeg, Int.reduceAdd, Int.reduceToNat, Int.reduceEq, Int.ofNat_eq_coe, ↓reduceIte, reduceCtorEq, decide_true, decide_false, Int.cast_ofNat_Int, and_true, true_and, Bool.not_true, Bool.not_false, stab1]
    refine Rw_mono (take_ok (d := d) h (by omega) (by omega)) ?_ fun _ _ z => z
    rintro z ⟨t, v', rfl, hv, t0, t1⟩
    obtain ⟨x, mx, hx⟩ := at_mem t0 t1
    simp only [↓w_bvar, ↓w_bnv, ↓w_var, ↓w_non, ↓w_bl, ↓w_int, ↓w_str, ↓w_val, ↓w_one, ↓w_bin, ↓w_neg, ↓w_test, ↓w_not, ↓w_and, ↓w_or, ↓w_ife, ↓w_cmp, ↓w_chain, ↓w_call, ↓w_bi, ↓w_isi, ↓w_isis, ↓w_ix, ↓w_sl, ↓w_rev, ↓w_tup, ↓w_lst, ↓w_snil, ↓w_scons, ↓w_bnil, ↓w_bcons, ↓w_anil, ↓w_aconsN, ↓w_aconsF, ↓w_aconsT, ↓w_prnop, ↓w_pr, ↓w_nil, ↓w_cons, ↓w_put, ↓w_asgN, ↓w_asgT, ↓w_par, ↓w_ifs, ↓w_ret, ↓w_retn, ↓w_raise, ↓w_brk, ↓w_cont, ↓w_expr, ↓w_seti, ↓w_turn, ↓w_cnop, ↓w_cond, ↓w_lc, ↓w_forF, iv_non, iv_bl, iv_int, np_int, iv_str, iv_glob, iv_bin, np_bin, iv_neg, np_neg, iv_not, iv_and, iv_or, iv_one, iv_ife, np_ife, iv_cmp, iv_chain, iv_call, np_call, iv_bi, np_bi, iv_isi, iv_isis, iv_ix, np_ix, iv_sl, iv_rev, iv_tup, iv_lst, iv_lc, iv_disp, iv_get, iv_lcK, iv_val, np_var, np_cmp, np_chain, np_not, np_and, np_or, np_isi, np_isis, np_one, Rw_got, Ov_some, Ob_true, Ob_false, rdB, rdV, Rw_got, List.getElem?_cons_zero, List.getElem?_cons_succ, List.set_cons_zero, List.set_cons_succ, List.length_cons, List.length_nil, List.length_set, at0, at1, at2, at3, ix0, ix1, ix2, ix3, vf_add, vf_sub, vf_mul, vf_fdiv, vf_mod, vf_pow, vf_addT, vf_addL, vf_lt, vf_le, vf_gt, vf_ge, vf_lt2, vf_le2, vf_gt2, vf_ge2, vf_isN, vf_notN, vf_nn_int, vf_nn_bl, vf_nn_tup, vf_nn_lst, vf_nn_str, vf_nn_non, vf_tr_bl, vf_tr_int, vf_tr_non, vf_tr_tup, vf_tr_lst, vf_lenT, vf_lenL, vf_abs, vf_int, vf_tupL, vf_tupT, vf_lstL, vf_lstT, vf_gcd, vf_ixL, vf_ixT, vf_ixS, vf_setL, vf_appL, vf_neg, vf_ow, vf_mkT, vf_mkF, vf_part, vf_revL, vf_revT, vf_is_int_int, vf_is_bl_int, vf_is_str_int, vf_is_tup_int, vf_is_lst_int, vf_is_scr_int, vf_is_non_int, vf_is_int_bool, vf_is_bl_bool, vf_is_str_bool, vf_is_tup_bool, vf_is_lst_bool, vf_is_scr_bool, vf_is_non_bool, vf_is_int_str, vf_is_bl_str, vf_is_str_str, vf_is_tup_str, vf_is_lst_str, vf_is_scr_str, vf_is_non_str, vf_is_int_tuple, vf_is_bl_tuple, vf_is_str_tuple, vf_is_tup_tuple, vf_is_lst_tuple, vf_is_scr_tuple, vf_is_non_tuple, vf_is_int_list, vf_is_bl_list, vf_is_str_list, vf_is_tup_list, vf_is_lst_list, vf_is_scr_list, vf_is_non_list, vf_eqI, vf_neI, vf_eqB, Option.map_some, Option.bind_some, List.map_cons, List.map_nil, Nat.reduceAdd, Nat.reducePow, Int.reducePow, hPow18, Int.reduceMul, Int.reduceSub, Int.reduceFDiv, Int.reduceFMod, Nat.reduceLT, Nat.reduceLeDiff, Nat.reduceSub, Int.reduceLE, Int.reduceLT, Int.reduceNeg, Int.reduceAdd, Int.reduceToNat, Int.reduceEq, Int.ofNat_eq_coe, ↓reduceIte, reduceCtorEq, decide_true, decide_false, Int.cast_ofNat_Int, and_true, true_and, Bool.not_true, Bool.not_false, hx]
    exact ⟨x, mx, v', rfl, hv⟩
  · simp only [g__law_pick, ↓w_bvar, ↓w_bnv, ↓w_var, ↓w_non, ↓w_bl, ↓w_int, ↓w_str, ↓w_val, ↓w_one, ↓w_bin, ↓w_neg, ↓w_test, ↓w_not, ↓w_and, ↓w_or, ↓w_ife, ↓w_cmp, ↓w_chain, ↓w_call, ↓w_bi, ↓w_isi, ↓w_isis, ↓w_ix, ↓w_sl, ↓w_rev, ↓w_tup, ↓w_lst, ↓w_snil, ↓w_scons, ↓w_bnil, ↓w_bcons, ↓w_anil, ↓w_aconsN, ↓w_aconsF, ↓w_aconsT, ↓w_prnop, ↓w_pr, ↓w_nil, ↓w_cons, ↓w_put, ↓w_asgN, ↓w_asgT, ↓w_par, ↓w_ifs, ↓w_ret, ↓w_retn, ↓w_raise, ↓w_brk, ↓w_cont, ↓w_expr, ↓w_seti, ↓w_turn, ↓w_cnop, ↓w_cond, ↓w_lc, ↓w_forF, iv_non, iv_bl, iv_int, np_int, iv_str, iv_glob, iv_bin, np_bin, iv_neg, np_neg, iv_not, iv_and, iv_or, iv_one, iv_ife, np_ife, iv_cmp, iv_chain, iv_call, np_call, iv_bi, np_bi, iv_isi, iv_isis, iv_ix, np_ix, iv_sl, iv_rev, iv_tup, iv_lst, iv_lc, iv_disp, iv_get, iv_lcK, iv_val, np_var, np_cmp, np_chain, np_not, np_and, np_or, np_isi, np_isis, np_one, Rw_got, Ov_some, Ob_true, Ob_false, rdB, rdV, Rw_got, List.getElem?_cons_zero, List.getElem?_cons_succ, List.set_cons_zero, List.set_cons_succ, List.length_cons, List.length_nil, List.length_set, at0, at1, at2, at3, ix0, ix1, ix2, ix3, vf_add, vf_sub, vf_mul, vf_fdiv, vf_mod, vf_pow, vf_addT, vf_addL, vf_lt, vf_le, vf_gt, vf_ge, vf_lt2, vf_le2, vf_gt2, vf_ge2, vf_isN, vf_notN, vf_nn_int, vf_nn_bl, vf_nn_tup, vf_nn_lst, vf_nn_str, vf_nn_non, vf_tr_bl, vf_tr_int, vf_tr_non, vf_tr_tup, vf_tr_lst, vf_lenT, vf_lenL, vf_abs, vf_int, vf_tupL, vf_tupT, vf_lstL, vf_lstT, vf_gcd, vf_ixL, vf_ixT, vf_ixS, vf_setL, vf_appL, vf_neg, vf_ow, vf_mkT, vf_mkF, vf_part, vf_revL, vf_revT, vf_is_int_int, vf_is_bl_int, vf_is_str_int, vf_is_tup_int, vf_is_lst_int, vf_is_scr_int, vf_is_non_int, vf_is_int_bool, vf_is_bl_bool, vf_is_str_bool, vf_is_tup_bool, vf_is_lst_bool, vf_is_scr_bool, vf_is_non_bool, vf_is_int_str, vf_is_bl_str, vf_is_str_str, vf_is_tup_str, vf_is_lst_str, vf_is_scr_str, vf_is_non_str, vf_is_int_tuple, vf_is_bl_tuple, vf_is_str_tuple, vf_is_tup_tuple, vf_is_lst_tuple, vf_is_scr_tuple, vf_is_non_tuple, vf_is_int_list, vf_is_bl_list, vf_is_str_list, vf_is_tup_list, vf_is_lst_list, vf_is_scr_list, vf_is_non_list, vf_eqI, vf_neI, vf_eqB, Option.map_some, Option.bind_some, List.map_cons, List.map_nil, Nat.reduceAdd, Nat.reducePow, Int.reducePow, hPow18, Int.reduceMul, Int.reduceSub, Int.reduceFDiv, Int.reduceFMod, Nat.reduceLT, Nat.reduceLeDiff, Nat.reduceSub, Int.reduceLE, Int.reduceLT, Int.reduceNeg, Int.reduceAdd, Int.reduceToNat, Int.reduceEq, Int.ofNat_eq_coe, ↓reduceIte, reduceCtorEq, decide_true, decide_false, Int.cast_ofNat_Int, and_true, true_and, Bool.not_true, Bool.not_false, stab1]
    refine Rw_mono (take_ok (d := d) h (by omega) (by omega)) ?_ fun _ _ z => z
    rintro z ⟨t, v', rfl, hv, t0, t1⟩
    obtain ⟨x, mx, hx⟩ := at_mem t0 t1
    simp only [↓w_bvar, ↓w_bnv, ↓w_var, ↓w_non, ↓w_bl, ↓w_int, ↓w_str, ↓w_val, ↓w_one, ↓w_bin, ↓w_neg, ↓w_test, ↓w_not, ↓w_and, ↓w_or, ↓w_ife, ↓w_cmp, ↓w_chain, ↓w_call, ↓w_bi, ↓w_isi, ↓w_isis, ↓w_ix, ↓w_sl, ↓w_rev, ↓w_tup, ↓w_lst, ↓w_snil, ↓w_scons, ↓w_bnil, ↓w_bcons, ↓w_anil, ↓w_aconsN, ↓w_aconsF, ↓w_aconsT, ↓w_prnop, ↓w_pr, ↓w_nil, ↓w_cons, ↓w_put, ↓w_asgN, ↓w_asgT, ↓w_par, ↓w_ifs, ↓w_ret, ↓w_retn, ↓w_raise, ↓w_brk, ↓w_cont, ↓w_expr, ↓w_seti, ↓w_turn, ↓w_cnop, ↓w_cond, ↓w_lc, ↓w_forF, iv_non, iv_bl, iv_int, np_int, iv_str, iv_glob, iv_bin, np_bin, iv_neg, np_neg, iv_not, iv_and, iv_or, iv_one, iv_ife, np_ife, iv_cmp, iv_chain, iv_call, np_call, iv_bi, np_bi, iv_isi, iv_isis, iv_ix, np_ix, iv_sl, iv_rev, iv_tup, iv_lst, iv_lc, iv_disp, iv_get, iv_lcK, iv_val, np_var, np_cmp, np_chain, np_not, np_and, np_or, np_isi, np_isis, np_one, Rw_got, Ov_some, Ob_true, Ob_false, rdB, rdV, Rw_got, List.getElem?_cons_zero, List.getElem?_cons_succ, List.set_cons_zero, List.set_cons_succ, List.length_cons, List.length_nil, List.length_set, at0, at1, at2, at3, ix0, ix1, ix2, ix3, vf_add, vf_sub, vf_mul, vf_fdiv, vf_mod, vf_pow, vf_addT, vf_addL, vf_lt, vf_le, vf_gt, vf_ge, vf_lt2, vf_le2, vf_gt2, vf_ge2, vf_isN, vf_notN, vf_nn_int, vf_nn_bl, vf_nn_tup, vf_nn_lst, vf_nn_str, vf_nn_non, vf_tr_bl, vf_tr_int, vf_tr_non, vf_tr_tup, vf_tr_lst, vf_lenT, vf_lenL, vf_abs, vf_int, vf_tupL, vf_tupT, vf_lstL, vf_lstT, vf_gcd, vf_ixL, vf_ixT, vf_ixS, vf_setL, vf_appL, vf_neg, vf_ow, vf_mkT, vf_mkF, vf_part, vf_revL, vf_revT, vf_is_int_int, vf_is_bl_int, vf_is_str_int, vf_is_tup_int, vf_is_lst_int, vf_is_scr_int, vf_is_non_int, vf_is_int_bool, vf_is_bl_bool, vf_is_str_bool, vf_is_tup_bool, vf_is_lst_bool, vf_is_scr_bool, vf_is_non_bool, vf_is_int_str, vf_is_bl_str, vf_is_str_str, vf_is_tup_str, vf_is_lst_str, vf_is_scr_str, vf_is_non_str, vf_is_int_tuple, vf_is_bl_tuple, vf_is_str_tuple, vf_is_tup_tuple, vf_is_lst_tuple, vf_is_scr_tuple, vf_is_non_tuple, vf_is_int_list, vf_is_bl_list, vf_is_str_list, vf_is_tup_list, vf_is_lst_list, vf_is_scr_list, vf_is_non_list, vf_eqI, vf_neI, vf_eqB, Option.map_some, Option.bind_some, List.map_cons, List.map_nil, Nat.reduceAdd, Nat.reducePow, Int.reducePow, hPow18, Int.reduceMul, Int.reduceSub, Int.reduceFDiv, Int.reduceFMod, Nat.reduceLT, Nat.reduceLeDiff, Nat.reduceSub, Int.reduceLE, Int.reduceLT, Int.reduceNeg, Int.reduceAdd, Int.reduceToNat, Int.reduceEq, Int.ofNat_eq_coe, ↓reduceIte, reduceCtorEq, decide_true, decide_false, Int.cast_ofNat_Int, and_true, true_and, Bool.not_true, Bool.not_false, hx]
    exact ⟨x, mx, v', rfl, hv⟩
/-- .. of a list that the caller lends -/
theorem pick_okO {d : Nat} {v : Val} {xs : List Val} (h : PoolOk v) (hn : xs ≠ []) (hl : xs.length < 1073741824) :
    Rw (D.prg.den (d + 3) 2 [.ow v, .ow (.lst xs)]) (fun z => ∃ x ∈ xs, ∃ v', z = ((x, false), [.ow v', .fz (.lst xs)]) ∧ PoolOk v') NX := by
  have hp : 0 < xs.length := List.length_pos_iff.mpr hn
  rw [den_succ (g := g__law_pick) rfl, w_run rfl, gst_pick]
  show Ow (evSs _ _ g__law_pick.body [.ow v, .ow (.lst xs)]) _
  simp only [g__law_pick, ↓w_bvar, ↓w_bnv, ↓w_var, ↓w_non, ↓w_bl, ↓w_int, ↓w_str, ↓w_val, ↓w_one, ↓w_bin, ↓w_neg, ↓w_test, ↓w_not, ↓w_and, ↓w_or, ↓w_ife, ↓w_cmp, ↓w_chain, ↓w_call, ↓w_bi, ↓w_isi, ↓w_isis, ↓w_ix, ↓w_sl, ↓w_rev, ↓w_tup, ↓w_lst, ↓w_snil, ↓w_scons, ↓w_bnil, ↓w_bcons, ↓w_anil, ↓w_aconsN, ↓w_aconsF, ↓w_aconsT, ↓w_prnop, ↓w_pr, ↓w_nil, ↓w_cons, ↓w_put, ↓w_asgN, ↓w_asgT, ↓w_par, ↓w_ifs, ↓w_ret, ↓w_retn, ↓w_raise, ↓w_brk, ↓w_cont, ↓w_expr, ↓w_seti, ↓w_turn, ↓w_cnop, ↓w_cond, ↓w_lc, ↓w_forF, iv_non, iv_bl, iv_int, np_int, iv_str, iv_glob, iv_bin, np_bin, iv_neg, np_neg, iv_not, iv_and, iv_or, iv_one, iv_ife, np_ife, iv_cmp, iv_chain, iv_call, np_call, iv_bi, np_bi, iv_isi, iv_isis, iv_ix, np_ix, iv_sl, iv_rev, iv_tup, iv_lst, iv_lc, iv_disp, iv_get, iv_lcK, iv_val, np_var, np_cmp, np_chain, np_not, np_and, np_or, np_isi, np_isis, np_one, Rw_got, Ov_some, Ob_true, Ob_false, rdB, rdV, Rw_got, List.getElem?_cons_zero, List.getElem?_cons_succ, List.set_cons_zero, List.set_cons_succ, List.length_cons, List.length_nil, List.length_set, at0, at1, at2, at3, ix0, ix1, ix2, ix3, vf_add, vf_sub, vf_mul, vf_fdiv, vf_mod, vf_pow, vf_addT, vf_addL, vf_lt, vf_le, vf_gt, vf_ge, vf_lt2, vf_le2, vf_gt2, vf_ge2, vf_isN, vf_notN, vf_nn_int, vf_nn_bl, vf_nn_tup, vf_nn_lst, vf_nn_str, vf_nn_non, vf_tr_bl, vf_tr_int, vf_tr_non, vf_tr_tup, vf_tr_lst, vf_lenT, vf_lenL, vf_abs, vf_int, vf_tupL, vf_tupT, vf_lstL, vf_lstT, vf_gcd, vf_ixL, vf_ixT, vf_ixS, vf_setL, vf_appL, vf_neg, vf_ow, vf_mkT, vf_mkF, vf_part, vf_revL, vf_revT, vf_is_int_int, vf_is_bl_int, vf_is_str_int, vf_is_tup_int, vf_is_lst_int, vf_is_scr_int, vf_is_non_int, vf_is_int_bool, vf_is_bl_bool, vf_is_str_bool, vf_is_tup_bool, vf_is_lst_bool, vf_is_scr_bool, vf_is_non_bool, vf_is_int_str, vf_is_bl_str, vf_is_str_str, vf_is_tup_str, vf_is_lst_str, vf_is_scr_str, vf_is_non_str, vf_is_int_tuple, vf_is_bl_tuple, vf_is_str_tuple, vf_is_tup_tuple, vf_is_lst_tuple, vf_is_scr_tuple, vf_is_non_tuple, vf_is_int_list, vf_is_bl_list, vf_is_str_list, vf_is_tup_list, vf_is_lst_list, vf_is_scr_list, vf_is_non_list, vf_eqI, vf_neI, vf_eqB, Option.map_some, Option.bind_some, List.map_cons, List.map_nil, Nat.reduceAdd, Nat.reducePow, Int.reducePow, hPow18, Int.reduceMul, Int.reduceSub, Int.reduceFDiv, Int.reduceFMod, Nat.reduceLT, Nat.reduceLeDiff, Nat.reduceSub, Int.reduceLE, Int.reduceLT, Int.reduceNeg, Int.reduceAdd, Int.reduceToNat, Int.reduceEq, Int.ofNat_eq_coe, ↓reduceIte, reduceCtorEq, decide_true, decide_false, Int.cast_ofNat_Int, and_true, true_and, Bool.not_true, Bool.not_false, stab1]
  refine Rw_mono (take_ok (d := d) h (by omega) (by omega)) ?_ fun _ _ z => z
  rintro z ⟨t, v', rfl, hv, t0, t1⟩
  obtain ⟨x, mx, hx⟩ := at_mem t0 t1
  simp only [↓w_bvar, ↓w_bnv, ↓w_var, ↓w_non, ↓w_bl, ↓w_int, ↓w_str, ↓w_val, ↓w_one, ↓w_bin, ↓w_neg, ↓w_test, ↓w_not, ↓w_and, ↓w_or, ↓w_ife, ↓w_cmp, ↓w_chain, ↓w_call, ↓w_bi, ↓w_isi, ↓w_isis, ↓w_ix, ↓w_sl, ↓w_rev, ↓w_tup, ↓w_lst, ↓w_snil, ↓w_scons, ↓w_bnil, ↓w_bcons, ↓w_anil, ↓w_aconsN, ↓w_aconsF, ↓w_aconsT, ↓w_prnop, ↓w_pr, ↓w_nil, ↓w_cons, ↓w_put, ↓w_asgN, ↓w_asgT, ↓w_par, ↓w_ifs, ↓w_ret, ↓w_retn, ↓w_raise, ↓w_brk, ↓w_cont, ↓w_expr, ↓w_seti, ↓w_turn, ↓w_cnop, ↓w_cond, ↓w_lc, ↓w_forF, iv_non, iv_bl, iv_int, np_int, iv_str, iv_glob, iv_bin, np_bin, iv_neg, np_neg, iv_not, iv_and, iv_or, iv_one, iv_ife, np_ife, iv_cmp, iv_chain, iv_call, np_call, iv_bi, np_bi, iv_isi, iv_isis, iv_ix, np_ix, iv_sl, iv_rev, iv_tup, iv_lst, iv_lc, iv_disp, iv_get, iv_lcK, iv_val, np_var, np_cmp, np_chain, np_not, np_and, np_or, np_isi, np_isis, np_one, Rw_got, Ov_some, Ob_true, Ob_false, rdB, rdV, Rw_got, List.getElem?_cons_zero, List.getElem?_cons_succ, List.set_cons_zero, List.set_cons_succ, List.length_cons, List.length_nil, List.length_set, at0, at1, at2, at3, ix0, ix1, ix2, ix3, vf_add, vf_sub, vf_mul, vf_fdiv, vf_mod, vf_pow, vf_addT, vf_addL, vf_lt, vf_le, vf_gt, vf_ge, vf_lt2, vf_le2, vf_gt2, vf_ge2, vf_isN, vf_notN, vf_nn_int, vf_nn_bl, vf_nn_tup, vf_nn_lst, vf_nn_str, vf_nn_non, vf_tr_bl, vf_tr_int, vf_tr_non, vf_tr_tup, vf_tr_lst, vf_lenT, vf_lenL, vf_abs, vf_int, vf_tupL, vf_tupT, vf_lstL, vf_lstT, vf_gcd, vf_ixL, vf_ixT, vf_ixS, vf_setL, vf_appL, vf_neg, vf_ow, vf_mkT, vf_mkF, vf_part, vf_revL, vf_revT, vf_is_int_int, vf_is_bl_int, vf_is_str_int, vf_is_tup_int, vf_is_lst_int, vf_is_scr_int, vf_is_non_int, vf_is_int_bool, vf_is_bl_bool, vf_is_str_bool, vf_is_tup_bool, vf_is_lst_bool, vf_is_scr_bool, vf_is_non_bool, vf_is_int_str, vf_is_bl_str, vf_is_str_str, vf_is_tup_str, vf_is_lst_str, vf_is_scr_str, vf_is_non_str, vf_is_int_tuple, vf_is_bl_tuple, vf_is_str_tuple, vf_is_tup_tuple, vf_is_lst_tuple, vf_is_scr_tuple, vf_is_non_tuple, vf_is_int_list, vf_is_bl_list, vf_is_str_list, vf_is_tup_list, vf_is_lst_list, vf_is_scr_list, vf_is_non_list, vf_eqI, vf_neI, vf_eqB, Option.map_some, Option.bind_some, List.map_cons, List.map_nil, Nat.reduceAdd, Nat.reducePow, Int.reducePow, hPow18, Int.reduceMul, Int.reduceSub, Int.reduceFDiv, Int.reduceFMod, Nat.reduceLT, Nat.reduceLeDiff, Nat.reduceSub, Int.reduceLE, Int.reduceLT, Int.reduceNeg, Int.reduceAdd, Int.reduceToNat, Int.reduceEq, Int.ofNat_eq_coe, ↓reduceIte, reduceCtorEq, decide_true, decide_false, Int.cast_ofNat_Int, and_true, true_and, Bool.not_true, Bool.not_false, hx]
  exact ⟨x, mx, v', rfl, hv⟩
end HD
set_option Elab.async false
set_option linter.all false
set_option maxRecDepth 100000
set_option maxHeartbeats 8000000
namespace HD
open PySem L2 EV
def cellOf (c : Int) : Int := if 0 ≤ c then 2 * c else -2 * c - 1
theorem cellOf_nn (c : Int) : 0 ≤ cellOf c := by unfold cellOf; split <;> omega
theorem pool_ok {d : Nat} {ns : List Int} (hl : ns.length ≤ 63) : Rw (D.prg.den (d + 1) 0 [.fz (.scr (ns.map .int))]) (fun z => ∃ v o, z = ((v, true), o) ∧ PoolOk v) NX := by
  rw [den_succ (g := g__law_pool) rfl, w_run rfl]
  show Ow (evSs _ _ g__law_pool.body [.fz (.scr (ns.map .int)), .no]) _
  have hz : (ns.map Val.int).length ≤ sizeLine := by rw [List.length_map]; exact Nat.le_trans hl (by decide)
  simp only [g__law_pool, ↓w_bvar, ↓w_bnv, ↓w_var, ↓w_non, ↓w_bl, ↓w_int, ↓w_str, ↓w_val, ↓w_one, ↓w_bin, ↓w_neg, ↓w_test, ↓w_not, ↓w_and, ↓w_or, ↓w_ife, ↓w_cmp, ↓w_chain, ↓w_call, ↓w_bi, ↓w_isi, ↓w_isis, ↓w_ix, ↓w_sl, ↓w_rev, ↓w_tup, ↓w_lst, ↓w_snil, ↓w_scons, ↓w_bnil, ↓w_bcons, ↓w_anil, ↓w_aconsN, ↓w_aconsF, ↓w_aconsT, ↓w_prnop, ↓w_pr, ↓w_nil, ↓w_cons, ↓w_put, ↓w_asgN, ↓w_asgT, ↓w_par, ↓w_ifs, ↓w_ret, ↓w_retn, ↓w_raise, ↓w_brk, ↓w_cont, ↓w_expr, ↓w_seti, ↓w_turn, ↓w_cnop, ↓w_cond, ↓w_lc, ↓w_forF, iv_non, iv_bl, iv_int, np_int, iv_str, iv_glob, iv_bin, np_bin, iv_neg, np_neg, iv_not, iv_and, iv_or, iv_one, iv_ife, np_ife, iv_cmp, iv_chain, iv_call, np_call, iv_bi, np_bi, iv_isi, iv_isis, iv_ix, np_ix, iv_sl, iv_rev, iv_tup, iv_lst, iv_lc, iv_disp, iv_get, iv_lcK, iv_val, np_var, np_cmp, np_chain, np_not, np_and, np_or, np_isi, np_isis, np_one, Rw_got, Ov_some, Ob_true, Ob_false, rdB, rdV, Rw_got, List.getElem?_cons_zero, List.getElem?_cons_succ, List.set_cons_zero, List.set_cons_succ, List.length_cons, List.length_nil, List.length_set, at0, at1, at2, at3, ix0, ix1, ix2, ix3, vf_add, vf_sub, vf_mul, vf_fdiv, vf_mod, vf_pow, vf_addT, vf_addL, vf_lt, vf_le, vf_gt, vf_ge, vf_lt2, vf_le2, vf_gt2, vf_ge2, vf_isN, vf_notN, vf_nn_int, vf_nn_bl, vf_nn_tup, vf_nn_lst, vf_nn_str, vf_nn_non, vf_tr_bl, vf_tr_int, vf_tr_non, vf_tr_tup, vf_tr_lst, vf_lenT, vf_lenL, vf_abs, vf_int, vf_tupL, vf_tupT, vf_lstL, vf_lstT, vf_gcd, vf_ixL, vf_ixT, vf_ixS, vf_setL, vf_appL, vf_neg, vf_ow, vf_mkT, vf_mkF, vf_part, vf_revL, vf_revT, vf_is_int_int, vf_is_bl_int, vf_is_str_int, vf_is_tup_int, vf_is_lst_int, vf_is_scr_int, vf_is_non_int, vf_is_int_bool, vf_is_bl_bool, vf_is_str_bool, vf_is_tup_bool, vf_is_lst_bool, vf_is_scr_bool, vf_is_non_bool, vf_is_int_str, vf_is_bl_str, vf_is_str_str, vf_is_tup_str, vf_is_lst_str, vf_is_scr_str, vf_is_non_str, vf_is_int_tuple, vf_is_bl_tuple, vf_is_str_tuple, vf_is_tup_tuple, vf_is_lst_tuple, vf_is_scr_tuple, vf_is_non_tuple, vf_is_int_list, vf_is_bl_list, vf_is_str_list, vf_is_tup_list, vf_is_lst_list, vf_is_scr_list, vf_is_non_list, vf_eqI, vf_neI, vf_eqB, Option.map_some, Option.bind_some, List.map_cons, List.map_nil, Nat.reduceAdd, Nat.reducePow, Int.reducePow, hPow18, Int.reduceMul, Int.reduceSub, Int.reduceFDiv, Int.reduceFMod, Nat.reduceLT, Nat.reduceLeDiff, Nat.reduceSub, Int.reduceLE, Int.reduceLT, Int.reduceNeg, Int.reduceAdd, Int.reduceToNat, Int.reduceEq, Int.ofNat_eq_coe, ↓reduceIte, reduceCtorEq, decide_true, decide_false, Int.cast_ofNat_Int, and_true, true_and, Bool.not_true, Bool.not_false, itemsV, hz]
  refine loop_map (g := fun v => match v with | .int c => .int (cellOf c) | v => v) (fun x hx => ?_) ?_
  · obtain ⟨c, _, rfl⟩ := List.mem_map.mp hx
    have m1 : mulOk 2 c = true := by unfold mulOk; simp
    have m2 : mulOk (-2) c = true := by unfold mulOk; simp
    unfold lcF
    simp only [↓w_bvar, ↓w_bnv, ↓w_var, ↓w_non, ↓w_bl, ↓w_int, ↓w_str, ↓w_val, ↓w_one, ↓w_bin, ↓w_neg, ↓w_test, ↓w_not, ↓w_and, ↓w_or, ↓w_ife, ↓w_cmp, ↓w_chain, ↓w_call, ↓w_bi, ↓w_isi, ↓w_isis, ↓w_ix, ↓w_sl, ↓w_rev, ↓w_tup, ↓w_lst, ↓w_snil, ↓w_scons, ↓w_bnil, ↓w_bcons, ↓w_anil, ↓w_aconsN, ↓w_aconsF, ↓w_aconsT, ↓w_prnop, ↓w_pr, ↓w_nil, ↓w_cons, ↓w_put, ↓w_asgN, ↓w_asgT, ↓w_par, ↓w_ifs, ↓w_ret, ↓w_retn, ↓w_raise, ↓w_brk, ↓w_cont, ↓w_expr, ↓w_seti, ↓w_turn, ↓w_cnop, ↓w_cond, ↓w_lc, ↓w_forF, iv_non, iv_bl, iv_int, np_int, iv_str, iv_glob, iv_bin, np_bin, iv_neg, np_neg, iv_not, iv_and, iv_or, iv_one, iv_ife, np_ife, iv_cmp, iv_chain, iv_call, np_call, iv_bi, np_bi, iv_isi, iv_isis, iv_ix, np_ix, iv_sl, iv_rev, iv_tup, iv_lst, iv_lc, iv_disp, iv_get, iv_lcK, iv_val, np_var, np_cmp, np_chain, np_not, np_and, np_or, np_isi, np_isis, np_one, Rw_got, Ov_some, Ob_true, Ob_false, rdB, rdV, Rw_got, List.getElem?_cons_zero, List.getElem?_cons_succ, List.set_cons_zero, List.set_cons_succ, List.length_cons, List.length_nil, List.length_set, at0, at1, at2, at3, ix0, ix1, ix2, ix3, vf_add, vf_sub, vf_mul, vf_fdiv, vf_mod, vf_pow, vf_addT, vf_addL, vf_lt, vf_le, vf_gt, vf_ge, vf_lt2, vf_le2, vf_gt2, vf_ge2, vf_isN, vf_notN, vf_nn_int, vf_nn_bl, vf_nn_tup, vf_nn_lst, vf_nn_str, vf_nn_non, vf_tr_bl, vf_tr_int, vf_tr_non, vf_tr_tup, vf_tr_lst, vf_lenT, vf_lenL, vf_abs, vf_int, vf_tupL, vf_tupT, vf_lstL, vf_lstT, vf_gcd, vf_ixL, vf_ixT, vf_ixS, vf_setL, vf_appL, vf_neg, vf_ow, vf_mkT, vf_mkF, vf_part, vf_revL, vf_revT, vf_is_int_int, vf_is_bl_int, vf_is_str_int, vf_is_tup_int, vf_is_lst_int, vf_is_scr_int, vf_is_non_int, vf_is_int_bool, vf_is_bl_bool, vf_is_str_bool, vf_is_tup_bool, vf_is_lst_bool, vf_is_scr_bool, vf_is_non_bool, vf_is_int_str, vf_is_bl_str, vf_is_str_str, vf_is_tup_str, vf_is_lst_str, vf_is_scr_str, vf_is_non_str, vf_is_int_tuple, vf_is_bl_tuple, vf_is_str_tuple, vf_is_tup_tuple, vf_is_lst_tuple, vf_is_scr_tuple, vf_is_non_tuple, vf_is_int_list, vf_is_bl_list, vf_is_str_list, vf_is_tup_list, vf_is_lst_list, vf_is_scr_list, vf_is_non_list, vf_eqI, vf_neI, vf_eqB, Option.map_some, Option.bind_some, List.map_cons, List.map_nil, Nat.reduceAdd, Nat.reducePow, Int.reducePow, hPow18, Int.reduceMul, Int.reduceSub, Int.reduceFDiv, Int.reduceFMod, Nat.reduceLT, Nat.reduceLeDiff, Nat.reduceSub, Int.reduceLE, Int.reduceLT, Int.reduceNeg, Int.reduceAdd, Int.reduceToNat, Int.reduceEq, Int.ofNat_eq_coe, ↓reduceIte, reduceCtorEq, decide_true, decide_false, Int.cast_ofNat_Int, and_true, true_and, Bool.not_true, Bool.not_false, wipeR, bindT, backR, Option.getD_some]
    by_cases h : 0 ≤ c
    · simp only [↓w_bvar, ↓w_bnv, ↓w_var, ↓w_non, ↓w_bl, ↓w_int, ↓w_str, ↓w_val, ↓w_one, ↓w_bin, ↓w_neg, ↓w_test, ↓w_not, ↓w_and, ↓w_or, ↓w_ife, ↓w_cmp, ↓w_chain, ↓w_call, ↓w_bi, ↓w_isi, ↓w_isis, ↓w_ix, ↓w_sl, ↓w_rev, ↓w_tup, ↓w_lst, ↓w_snil, ↓w_scons, ↓w_bnil, ↓w_bcons, ↓w_anil, ↓w_aconsN, ↓w_aconsF, ↓w_aconsT, ↓w_prnop, ↓w_pr, ↓w_nil, ↓w_cons, ↓w_put, ↓w_asgN, ↓w_asgT, ↓w_par, ↓w_ifs, ↓w_ret, ↓w_retn, ↓w_raise, ↓w_brk, ↓w_cont, ↓w_expr, ↓w_seti, ↓w_turn, ↓w_cnop, ↓w_cond, ↓w_lc, ↓w_forF, iv_non, iv_bl, iv_int, np_int, iv_str, iv_glob, iv_bin, np_bin, iv_neg, np_neg, iv_not, iv_and, iv_or, iv_one, iv_ife, np_ife, iv_cmp, iv_chain, iv_call, np_call, iv_bi, np_bi, iv_isi, iv_isis, iv_ix, np_ix, iv_sl, iv_rev, iv_tup, iv_lst, iv_lc, iv_disp, iv_get, iv_lcK, iv_val, np_var, np_cmp, np_chain, np_not, np_and, np_or, np_isi, np_isis, np_one, Rw_got, Ov_some, Ob_true, Ob_false, rdB, rdV, Rw_got, List.getElem?_cons_zero, List.getElem?_cons_succ, List.set_cons_zero, List.set_cons_succ, List.length_cons, List.length_nil, List.length_set, at0, at1, at2, at3, ix0, ix1, ix2, ix3, vf_add, vf_sub, vf_mul, vf_fdiv, vf_mod, vf_pow, vf_addT, vf_addL, vf_lt, vf_le, vf_gt, vf_ge, vf_lt2, vf_le2, vf_gt2, vf_ge2, vf_isN, vf_notN, vf_nn_int, vf_nn_bl, vf_nn_tup, vf_nn_lst, vf_nn_str, vf_nn_non, vf_tr_bl, vf_tr_int, vf_tr_non, vf_tr_tup, vf_tr_lst, vf_lenT, vf_lenL, vf_abs, vf_int, vf_tupL, vf_tupT, vf_lstL, vf_lstT, vf_gcd, vf_ixL, vf_ixT, vf_ixS, vf_setL, vf_appL, vf_neg, vf_ow, vf_mkT, vf_mkF, vf_part, vf_revL, vf_revT, vf_is_int_int, vf_is_bl_int, vf_is_str_int, vf_is_tup_int, vf_is_lst_int, vf_is_scr_int, vf_is_non_int, vf_is_int_bool, vf_is_bl_bool, vf_is_str_bool, vf_is_tup_bool, vf_is_lst_bool, vf_is_scr_bool, vf_is_non_bool, vf_is_int_str, vf_is_bl_str, vf_is_str_str, vf_is_tup_str, vf_is_lst_str, vf_is_scr_str, vf_is_non_str, vf_is_int_tuple, vf_is_bl_tuple, vf_is_str_tuple, vf_is_tup_tuple, vf_is_lst_tuple, vf_is_scr_tuple, vf_is_non_tuple, vf_is_int_list, vf_is_bl_list, vf_is_str_list, vf_is_tup_list, vf_is_lst_list, vf_is_scr_list, vf_is_non_list, vf_eqI, vf_neI, vf_eqB, Option.map_some, Option.bind_some, List.map_cons, List.map_nil, Nat.reduceAdd, Nat.reducePow, Int.reducePow, hPow18, Int.reduceMul, Int.reduceSub, Int.reduceFDiv, Int.reduceFMod, Nat.reduceLT, Nat.reduceLeDiff, Nat.reduceSub, Int.reduceLE, Int.reduceLT, Int.reduceNeg, Int.reduceAdd, Int.reduceToNat, Int.reduceEq, Int.ofNat_eq_coe, ↓reduceIte, reduceCtorEq, decide_true, decide_false, Int.cast_ofNat_Int, and_true, true_and, Bool.not_true, Bool.not_false, h, m1, cellOf, backR, Option.getD_some]
    · simp only [↓w_bvar, ↓w_bnv, ↓w_var, ↓w_non, ↓w_bl, ↓w_int, ↓w_str, ↓w_val, ↓w_one, ↓w_bin, ↓w_neg, ↓w_test, ↓w_not, ↓w_and, ↓w_or, ↓w_ife, ↓w_cmp, ↓w_chain, ↓w_call, ↓w_bi, ↓w_isi, ↓w_isis, ↓w_ix, ↓w_sl, ↓w_rev, ↓w_tup, ↓w_lst, ↓w_snil, ↓w_scons, ↓w_bnil, ↓w_bcons, ↓w_anil, ↓w_aconsN, ↓w_aconsF, ↓w_aconsT, ↓w_prnop, ↓w_pr, ↓w_nil, ↓w_cons, ↓w_put, ↓w_asgN, ↓w_asgT, ↓w_par, ↓w_ifs, ↓w_ret, ↓w_retn, ↓w_raise, ↓w_brk, ↓w_cont, ↓w_expr, ↓w_seti, ↓w_turn, ↓w_cnop, ↓w_cond, ↓w_lc, ↓w_forF, iv_non, iv_bl, iv_int, np_int, iv_str, iv_glob, iv_bin, np_bin, iv_neg, np_neg, iv_not, iv_and, iv_or, iv_one, iv_ife, np_ife, iv_cmp, iv_chain, iv_call, np_call, iv_bi, np_bi, iv_isi, iv_isis, iv_ix, np_ix, iv_sl, iv_rev, iv_tup, iv_lst, iv_lc, iv_disp, iv_get, iv_lcK, iv_val, np_var, np_cmp, np_chain, np_not, np_and, np_or, np_isi, np_isis, np_one, Rw_got, Ov_some, Ob_true, Ob_false, rdB, rdV, Rw_got, List.getElem?_cons_zero, List.getElem?_cons_succ, List.set_cons_zero, List.set_cons_succ, List.length_cons, List.length_nil, List.length_set, at0, at1, at2, at3, ix0, ix1, ix2, ix3, vf_add, vf_sub, vf_mul, vf_fdiv, vf_mod, vf_pow, vf_addT, vf_addL, vf_lt, vf_le, vf_gt, vf_ge, vf_lt2, vf_le2, vf_gt2, vf_ge2, vf_isN, vf_notN, vf_nn_int, vf_nn_bl, vf_nn_tup, vf_nn_lst, vf_nn_str, vf_nn_non, vf_tr_bl, vf_tr_int, vf_tr_non, vf_tr_tup, vf_tr_lst, vf_lenT, vf_lenL, vf_abs, vf_int, vf_tupL, vf_tupT, vf_lstL, vf_lstT, vf_gcd, vf_ixL, vf_ixT, vf_ixS, vf_setL, vf_appL, vf_neg, vf_ow, vf_mkT, vf_mkF, vf_part, vf_revL, vf_revT, vf_is_int_int, vf_is_bl_int, vf_is_str_int, vf_is_tup_int, vf_is_lst_int, vf_is_scr_int, vf_is_non_int, vf_is_int_bool, vf_is_bl_bool, vf_is_str_bool, vf_is_tup_bool, vf_is_lst_bool, vf_is_scr_bool, vf_is_non_bool, vf_is_int_str, vf_is_bl_str, vf_is_str_str, vf_is_tup_str, vf_is_lst_str, vf_is_scr_str, vf_is_non_str, vf_is_int_tuple, vf_is_bl_tuple, vf_is_str_tuple, vf_is_tup_tuple, vf_is_lst_tuple, vf_is_scr_tuple, vf_is_non_tuple, vf_is_int_list, vf_is_bl_list, vf_is_str_list, vf_is_tup_list, vf_is_lst_list, vf_is_scr_list, vf_is_non_list, vf_eqI, vf_neI, vf_eqB, Option.map_some, Option.bind_some, List.map_cons, List.map_nil, Nat.reduceAdd, Nat.reducePow, Int.reducePow, hPow18, Int.reduceMul, Int.reduceSub, Int.reduceFDiv, Int.reduceFMod, Nat.reduceLT, Nat.reduceLeDiff, Nat.reduceSub, Int.reduceLE, Int.reduceLT, Int.reduceNeg, Int.reduceAdd, Int.reduceToNat, Int.reduceEq, Int.ofNat_eq_coe, ↓reduceIte, reduceCtorEq, decide_true, decide_false, Int.cast_ofNat_Int, and_true, true_and, Bool.not_true, Bool.not_false, h, m2, cellOf, backR, Option.getD_some]
  · simp only [↓w_bvar, ↓w_bnv, ↓w_var, ↓w_non, ↓w_bl, ↓w_int, ↓w_str, ↓w_val, ↓w_one, ↓w_bin, ↓w_neg, ↓w_test, ↓w_not, ↓w_and, ↓w_or, ↓w_ife, ↓w_cmp, ↓w_chain, ↓w_call, ↓w_bi, ↓w_isi, ↓w_isis, ↓w_ix, ↓w_sl, ↓w_rev, ↓w_tup, ↓w_lst, ↓w_snil, ↓w_scons, ↓w_bnil, ↓w_bcons, ↓w_anil, ↓w_aconsN, ↓w_aconsF, ↓w_aconsT, ↓w_prnop, ↓w_pr, ↓w_nil, ↓w_cons, ↓w_put, ↓w_asgN, ↓w_asgT, ↓w_par, ↓w_ifs, ↓w_ret, ↓w_retn, ↓w_raise, ↓w_brk, ↓w_cont, ↓w_expr, ↓w_seti, ↓w_turn, ↓w_cnop, ↓w_cond, ↓w_lc, ↓w_forF, iv_non, iv_bl, iv_int, np_int, iv_str, iv_glob, iv_bin, np_bin, iv_neg, np_neg, iv_not, iv_and, iv_or, iv_one, iv_ife, np_ife, iv_cmp, iv_chain, iv_call, np_call, iv_bi, np_bi, iv_isi, iv_isis, iv_ix, np_ix, iv_sl, iv_rev, iv_tup, iv_lst, iv_lc, iv_disp, iv_get, iv_lcK, iv_val, np_var, np_cmp, np_chain, np_not, np_and, np_or, np_isi, np_isis, np_one, Rw_got, Ov_some, Ob_true, Ob_false, rdB, rdV, Rw_got, List.getElem?_cons_zero, List.getElem?_cons_succ, List.set_cons_zero, List.set_cons_succ, List.length_cons, List.length_nil, List.length_set, at0, at1, at2, at3, ix0, ix1, ix2, ix3, vf_add, vf_sub, vf_mul, vf_fdiv, vf_mod, vf_pow, vf_addT, vf_addL, vf_lt, vf_le, vf_gt, vf_ge, vf_lt2, vf_le2, vf_gt2, vf_ge2, vf_isN, vf_notN, vf_nn_int, vf_nn_bl, vf_nn_tup, vf_nn_lst, vf_nn_str, vf_nn_non, vf_tr_bl, vf_tr_int, vf_tr_non, vf_tr_tup, vf_tr_lst, vf_lenT, vf_lenL, vf_abs, vf_int, vf_tupL, vf_tupT, vf_lstL, vf_lstT, vf_gcd, vf_ixL, vf_ixT, vf_ixS, vf_setL, vf_appL, vf_neg, vf_ow, vf_mkT, vf_mkF, vf_part, vf_revL, vf_revT, vf_is_int_int, vf_is_bl_int, vf_is_str_int, vf_is_tup_int, vf_is_lst_int, vf_is_scr_int, vf_is_non_int, vf_is_int_bool, vf_is_bl_bool, vf_is_str_bool, vf_is_tup_bool, vf_is_lst_bool, vf_is_scr_bool, vf_is_non_bool, vf_is_int_str, vf_is_bl_str, vf_is_str_str, vf_is_tup_str, vf_is_lst_str, vf_is_scr_str, vf_is_non_str, vf_is_int_tuple, vf_is_bl_tuple, vf_is_str_tuple, vf_is_tup_tuple, vf_is_lst_tuple, vf_is_scr_tuple, vf_is_non_tuple, vf_is_int_list, vf_is_bl_list, vf_is_str_list, vf_is_tup_list, vf_is_lst_list, vf_is_scr_list, vf_is_non_list, vf_eqI, vf_neI, vf_eqB, Option.map_some, Option.bind_some, List.map_cons, List.map_nil, Nat.reduceAdd, Nat.reducePow, Int.reducePow, hPow18, Int.reduceMul, Int.reduceSub, Int.reduceFDiv, Int.reduceFMod, Nat.reduceLT, Nat.reduceLeDiff, Nat.reduceSub, Int.reduceLE, Int.reduceLT, Int.reduceNeg, Int.reduceAdd, Int.reduceToNat, Int.reduceEq, Int.ofNat_eq_coe, ↓reduceIte, reduceCtorEq, decide_true, decide_false, Int.cast_ofNat_Int, and_true, true_and, Bool.not_true, Bool.not_false]
    refine ⟨by decide, _, _, rfl, ns.map cellOf, 0, 0, 17, ?_, fun c hc => ?_, by decide, by decide, by decide, by decide⟩
    · unfold poolV
      rw [List.map_map, List.map_map]
      rfl
    · obtain ⟨n, _, rfl⟩ := List.mem_map.mp hc
      exact cellOf_nn n
end HD
set_option Elab.async false
set_option linter.all false
set_option maxRecDepth 100000
set_option maxHeartbeats 8000000
namespace HD
open PySem L2 EV
theorem gst_common : g__law_common.stab = [false, false] := by kernel_rfl
theorem stab17 : D.prg.stab 17 = [false, false] := by kernel_rfl
theorem outsFF (a b : Sl) (ρ : Ro) : outsL [false, false] [a, b] ρ = [.no, .no] := by cases a <;> cases b <;> rfl
theorem gcd_step {x y : Int} (hx : 0 ≤ x) (hy : 0 < y) : 0 ≤ x - y * x.fdiv y ∧ x - y * x.fdiv y < y ∧ Nat.gcd y.natAbs (x - y * x.fdiv y).natAbs = Nat.gcd x.natAbs y.natAbs := by
  have e : x - y * x.fdiv y = x.fmod y := by have := Int.fmod_def x y; omega
  rw [e]
  refine ⟨Int.fmod_nonneg_of_pos _ hy, Int.fmod_lt_of_pos _ hy, ?_⟩
  rw [Int.fmod_eq_emod_of_nonneg _ (by omega)]
  obtain ⟨a, rfl⟩ := Int.eq_ofNat_of_zero_le hx
  obtain ⟨b, rfl⟩ := Int.eq_ofNat_of_zero_le (by omega : 0 ≤ y)
  rw [← Int.natCast_emod]
  simp only [Int.natAbs_natCast]
  rw [Nat.gcd_comm b, ← Nat.gcd_rec, Nat.gcd_comm]
theorem rngL_len : ∀ (n : Nat) (a : Int), (rngL a n).length = n
  | 0, _ => rfl
  | n + 1, a => by simp [rngL, rngL_len n]
theorem common_ok {d : Nat} {a b : Int} (ha : a.natAbs < 20000) (hb : b.natAbs < 20000) : Rw (D.prg.den (d + 1) 17 [.fz (.int a), .fz (.int b)]) (fun z => z = ((.int ((Nat.gcd a.natAbs b.natAbs : Nat) : Int), false), [.no, .no])) NX := by
  rw [den_succ (g := g__law_common) rfl, w_run rfl, gst_common]
  show Ow (evSs _ _ g__law_common.body [.fz (.int a), .fz (.int b), .no]) _
  simp only [g__law_common, ↓w_bvar, ↓w_bnv, ↓w_var, ↓w_non, ↓w_bl, ↓w_int, ↓w_str, ↓w_val, ↓w_one, ↓w_bin, ↓w_neg, ↓w_test, ↓w_not, ↓w_and, ↓w_or, ↓w_ife, ↓w_cmp, ↓w_chain, ↓w_call, ↓w_bi, ↓w_isi, ↓w_isis, ↓w_ix, ↓w_sl, ↓w_rev, ↓w_tup, ↓w_lst, ↓w_snil, ↓w_scons, ↓w_bnil, ↓w_bcons, ↓w_anil, ↓w_aconsN, ↓w_aconsF, ↓w_aconsT, ↓w_prnop, ↓w_pr, ↓w_nil, ↓w_cons, ↓w_put, ↓w_asgN, ↓w_asgT, ↓w_par, ↓w_ifs, ↓w_ret, ↓w_retn, ↓w_raise, ↓w_brk, ↓w_cont, ↓w_expr, ↓w_seti, ↓w_turn, ↓w_cnop, ↓w_cond, ↓w_lc, ↓w_forF, iv_non, iv_bl, iv_int, np_int, iv_str, iv_glob, iv_bin, np_bin, iv_neg, np_neg, iv_not, iv_and, iv_or, iv_one, iv_ife, np_ife, iv_cmp, iv_chain, iv_call, np_call, iv_bi, np_bi, iv_isi, iv_isis, iv_ix, np_ix, iv_sl, iv_rev, iv_tup, iv_lst, iv_lc, iv_disp, iv_get, iv_lcK, iv_val, np_var, np_cmp, np_chain, np_not, np_and, np_or, np_isi, np_isis, np_one, Rw_got, Ov_some, Ob_true, Ob_false, rdB, rdV, Rw_got, List.getElem?_cons_zero, List.getElem?_cons_succ, List.set_cons_zero, List.set_cons_succ, List.length_cons, List.length_nil, List.length_set, at0, at1, at2, at3, ix0, ix1, ix2, ix3, vf_add, vf_sub, vf_mul, vf_fdiv, vf_mod, vf_pow, vf_addT, vf_addL, vf_lt, vf_le, vf_gt, vf_ge, vf_lt2, vf_le2, vf_gt2, vf_ge2, vf_isN, vf_notN, vf_nn_int, vf_nn_bl, vf_nn_tup, vf_nn_lst, vf_nn_str, vf_nn_non, vf_tr_bl, vf_tr_int, vf_tr_non, vf_tr_tup, vf_tr_lst, vf_lenT, vf_lenL, vf_abs, vf_int, vf_tupL, vf_tupT, vf_lstL, vf_lstT, vf_gcd, vf_ixL, vf_ixT, vf_ixS, vf_setL, vf_appL, vf_neg, vf_ow, vf_mkT, vf_mkF, vf_part, vf_revL, vf_revT, vf_is_int_int, vf_is_bl_int, vf_is_str_int, vf_is_tup_int, vf_is_lst_int, vf_is_scr_int, vf_is_non_int, vf_is_int_bool, vf_is_bl_bool, vf_is_str_bool, vf_is_tup_bool, vf_is_lst_bool, vf_is_scr_bool, vf_is_non_bool, vf_is_int_str, vf_is_bl_str, vf_is_str_str, vf_is_tup_str, vf_is_lst_str, vf_is_scr_str, vf_is_non_str, vf_is_int_tuple, vf_is_bl_tuple, vf_is_str_tuple, vf_is_tup_tuple, vf_is_lst_tuple, vf_is_scr_tuple, vf_is_non_tuple, vf_is_int_list, vf_is_bl_list, vf_is_str_list, vf_is_tup_list, vf_is_lst_list, vf_is_scr_list, vf_is_non_list, vf_eqI, vf_neI, vf_eqB, Option.map_some, Option.bind_some, List.map_cons, List.map_nil, Nat.reduceAdd, Nat.reducePow, Int.reducePow, hPow18, Int.reduceMul, Int.reduceSub, Int.reduceFDiv, Int.reduceFMod, Nat.reduceLT, Nat.reduceLeDiff, Nat.reduceSub, Int.reduceLE, Int.reduceLT, Int.reduceNeg, Int.reduceAdd, Int.reduceToNat, Int.reduceEq, Int.ofNat_eq_coe, ↓reduceIte, reduceCtorEq, decide_true, decide_false, Int.cast_ofNat_Int, and_true, true_and, Bool.not_true, Bool.not_false, w_for, w_rng1, outsFF]
  rw [show rngOk 20000 = true from by decide]
  simp only [↓w_bvar, ↓w_bnv, ↓w_var, ↓w_non, ↓w_bl, ↓w_int, ↓w_str, ↓w_val, ↓w_one, ↓w_bin, ↓w_neg, ↓w_test, ↓w_not, ↓w_and, ↓w_or, ↓w_ife, ↓w_cmp, ↓w_chain, ↓w_call, ↓w_bi, ↓w_isi, ↓w_isis, ↓w_ix, ↓w_sl, ↓w_rev, ↓w_tup, ↓w_lst, ↓w_snil, ↓w_scons, ↓w_bnil, ↓w_bcons, ↓w_anil, ↓w_aconsN, ↓w_aconsF, ↓w_aconsT, ↓w_prnop, ↓w_pr, ↓w_nil, ↓w_cons, ↓w_put, ↓w_asgN, ↓w_asgT, ↓w_par, ↓w_ifs, ↓w_ret, ↓w_retn, ↓w_raise, ↓w_brk, ↓w_cont, ↓w_expr, ↓w_seti, ↓w_turn, ↓w_cnop, ↓w_cond, ↓w_lc, ↓w_forF, iv_non, iv_bl, iv_int, np_int, iv_str, iv_glob, iv_bin, np_bin, iv_neg, np_neg, iv_not, iv_and, iv_or, iv_one, iv_ife, np_ife, iv_cmp, iv_chain, iv_call, np_call, iv_bi, np_bi, iv_isi, iv_isis, iv_ix, np_ix, iv_sl, iv_rev, iv_tup, iv_lst, iv_lc, iv_disp, iv_get, iv_lcK, iv_val, np_var, np_cmp, np_chain, np_not, np_and, np_or, np_isi, np_isis, np_one, Rw_got, Ov_some, Ob_true, Ob_false, rdB, rdV, Rw_got, List.getElem?_cons_zero, List.getElem?_cons_succ, List.set_cons_zero, List.set_cons_succ, List.length_cons, List.length_nil, List.length_set, at0, at1, at2, at3, ix0, ix1, ix2, ix3, vf_add, vf_sub, vf_mul, vf_fdiv, vf_mod, vf_pow, vf_addT, vf_addL, vf_lt, vf_le, vf_gt, vf_ge, vf_lt2, vf_le2, vf_gt2, vf_ge2, vf_isN, vf_notN, vf_nn_int, vf_nn_bl, vf_nn_tup, vf_nn_lst, vf_nn_str, vf_nn_non, vf_tr_bl, vf_tr_int, vf_tr_non, vf_tr_tup, vf_tr_lst, vf_lenT, vf_lenL, vf_abs, vf_int, vf_tupL, vf_tupT, vf_lstL, vf_lstT, vf_gcd, vf_ixL, vf_ixT, vf_ixS, vf_setL, vf_appL, vf_neg, vf_ow, vf_mkT, vf_mkF, vf_part, vf_revL, vf_revT, vf_is_int_int, vf_is_bl_int, vf_is_str_int, vf_is_tup_int, vf_is_lst_int, vf_is_scr_int, vf_is_non_int, vf_is_int_bool, vf_is_bl_bool, vf_is_str_bool, vf_is_tup_bool, vf_is_lst_bool, vf_is_scr_bool, vf_is_non_bool, vf_is_int_str, vf_is_bl_str, vf_is_str_str, vf_is_tup_str, vf_is_lst_str, vf_is_scr_str, vf_is_non_str, vf_is_int_tuple, vf_is_bl_tuple, vf_is_str_tuple, vf_is_tup_tuple, vf_is_lst_tuple, vf_is_scr_tuple, vf_is_non_tuple, vf_is_int_list, vf_is_bl_list, vf_is_str_list, vf_is_tup_list, vf_is_lst_list, vf_is_scr_list, vf_is_non_list, vf_eqI, vf_neI, vf_eqB, Option.map_some, Option.bind_some, List.map_cons, List.map_nil, Nat.reduceAdd, Nat.reducePow, Int.reducePow, hPow18, Int.reduceMul, Int.reduceSub, Int.reduceFDiv, Int.reduceFMod, Nat.reduceLT, Nat.reduceLeDiff, Nat.reduceSub, Int.reduceLE, Int.reduceLT, Int.reduceNeg, Int.reduceAdd, Int.reduceToNat, Int.reduceEq, Int.ofNat_eq_coe, ↓reduceIte, reduceCtorEq, decide_true, decide_false, Int.cast_ofNat_Int, and_true, true_and, Bool.not_true, Bool.not_false, itemsV]
  have ea : (if a < 0 then -a else a) = (a.natAbs : Int) := by split <;> omega
  have eb : (if b < 0 then -b else b) = (b.natAbs : Int) := by split <;> omega
  refine for_inv (n := 0) (I := fun n ρ => ∃ (x y : Int) (t : Sl), ρ = [.fz (.int x), .fz (.int y), t] ∧ 0 ≤ x ∧ 0 ≤ y ∧ x < 20000 ∧ Nat.gcd x.natAbs y.natAbs = Nat.gcd a.natAbs b.natAbs ∧ y + n < 20000) ?_ (fun j v ρ hv => ?_) fun ρ => ?_
  · rw [ea, eb]
    exact ⟨_, _, _, rfl, by omega, by omega, by omega, by simp, by omega⟩
  · rintro ⟨x, y, t, rfl, hx, hy, hx2, hg, hn⟩
    rw [w_forF]
    simp only [↓w_bvar, ↓w_bnv, ↓w_var, ↓w_non, ↓w_bl, ↓w_int, ↓w_str, ↓w_val, ↓w_one, ↓w_bin, ↓w_neg, ↓w_test, ↓w_not, ↓w_and, ↓w_or, ↓w_ife, ↓w_cmp, ↓w_chain, ↓w_call, ↓w_bi, ↓w_isi, ↓w_isis, ↓w_ix, ↓w_sl, ↓w_rev, ↓w_tup, ↓w_lst, ↓w_snil, ↓w_scons, ↓w_bnil, ↓w_bcons, ↓w_anil, ↓w_aconsN, ↓w_aconsF, ↓w_aconsT, ↓w_prnop, ↓w_pr, ↓w_nil, ↓w_cons, ↓w_put, ↓w_asgN, ↓w_asgT, ↓w_par, ↓w_ifs, ↓w_ret, ↓w_retn, ↓w_raise, ↓w_brk, ↓w_cont, ↓w_expr, ↓w_seti, ↓w_turn, ↓w_cnop, ↓w_cond, ↓w_lc, ↓w_forF, iv_non, iv_bl, iv_int, np_int, iv_str, iv_glob, iv_bin, np_bin, iv_neg, np_neg, iv_not, iv_and, iv_or, iv_one, iv_ife, np_ife, iv_cmp, iv_chain, iv_call, np_call, iv_bi, np_bi, iv_isi, iv_isis, iv_ix, np_ix, iv_sl, iv_rev, iv_tup, iv_lst, iv_lc, iv_disp, iv_get, iv_lcK, iv_val, np_var, np_cmp, np_chain, np_not, np_and, np_or, np_isi, np_isis, np_one, Rw_got, Ov_some, Ob_true, Ob_false, rdB, rdV, Rw_got, List.getElem?_cons_zero, List.getElem?_cons_succ, List.set_cons_zero, List.set_cons_succ, List.length_cons, List.length_nil, List.length_set, at0, at1, at2, at3, ix0, ix1, ix2, ix3, vf_add, vf_sub, vf_mul, vf_fdiv, vf_mod, vf_pow, vf_addT, vf_addL, vf_lt, vf_le, vf_gt, vf_ge, vf_lt2, vf_le2, vf_gt2, vf_ge2, vf_isN, vf_notN, vf_nn_int, vf_nn_bl, vf_nn_tup, vf_nn_lst, vf_nn_str, vf_nn_non, vf_tr_bl, vf_tr_int, vf_tr_non, vf_tr_tup, vf_tr_lst, vf_lenT, vf_lenL, vf_abs, vf_int, vf_tupL, vf_tupT, vf_lstL, vf_lstT, vf_gcd, vf_ixL, vf_ixT, vf_ixS, vf_setL, vf_appL, vf_neg, vf_ow, vf_mkT, vf_mkF, vf_part, vf_revL, vf_revT, vf_is_int_int, vf_is_bl_int, vf_is_str_int, vf_is_tup_int, vf_is_lst_int, vf_is_scr_int, vf_is_non_int, vf_is_int_bool, vf_is_bl_bool, vf_is_str_bool, vf_is_tup_bool, vf_is_lst_bool, vf_is_scr_bool, vf_is_non_bool, vf_is_int_str, vf_is_bl_str, vf_is_str_str, vf_is_tup_str, vf_is_lst_str, vf_is_scr_str, vf_is_non_str, vf_is_int_tuple, vf_is_bl_tuple, vf_is_str_tuple, vf_is_tup_tuple, vf_is_lst_tuple, vf_is_scr_tuple, vf_is_non_tuple, vf_is_int_list, vf_is_bl_list, vf_is_str_list, vf_is_tup_list, vf_is_lst_list, vf_is_scr_list, vf_is_non_list, vf_eqI, vf_neI, vf_eqB, Option.map_some, Option.bind_some, List.map_cons, List.map_nil, Nat.reduceAdd, Nat.reducePow, Int.reducePow, hPow18, Int.reduceMul, Int.reduceSub, Int.reduceFDiv, Int.reduceFMod, Nat.reduceLT, Nat.reduceLeDiff, Nat.reduceSub, Int.reduceLE, Int.reduceLT, Int.reduceNeg, Int.reduceAdd, Int.reduceToNat, Int.reduceEq, Int.ofNat_eq_coe, ↓reduceIte, reduceCtorEq, decide_true, decide_false, Int.cast_ofNat_Int, and_true, true_and, Bool.not_true, Bool.not_false, bindT]
    by_cases h : y = 0
    · subst h
      simp only [↓w_bvar, ↓w_bnv, ↓w_var, ↓w_non, ↓w_bl, ↓w_int, ↓w_str, ↓w_val, ↓w_one, ↓w_bin, ↓w_neg, ↓w_test, ↓w_not, ↓w_and, ↓w_or, ↓w_ife, ↓w_cmp, ↓w_chain, ↓w_call, ↓w_bi, ↓w_isi, ↓w_isis, ↓w_ix, ↓w_sl, ↓w_rev, ↓w_tup, ↓w_lst, ↓w_snil, ↓w_scons, ↓w_bnil, ↓w_bcons, ↓w_anil, ↓w_aconsN, ↓w_aconsF, ↓w_aconsT, ↓w_prnop, ↓w_pr, ↓w_nil, ↓w_cons, ↓w_put, ↓w_asgN, ↓w_asgT, ↓w_par, ↓w_ifs, ↓w_ret, ↓w_retn, ↓w_raise, ↓w_brk, ↓w_cont, ↓w_expr, ↓w_seti, ↓w_turn, ↓w_cnop, ↓w_cond, ↓w_lc, ↓w_forF, iv_non, iv_bl, iv_int, np_int, iv_str, iv_glob, iv_bin, np_bin, iv_neg, np_neg, iv_not, iv_and, iv_or, iv_one, iv_ife, np_ife, iv_cmp, iv_chain, iv_call, np_call, iv_bi, np_bi, iv_isi, iv_isis, iv_ix, np_ix, iv_sl, iv_rev, iv_tup, iv_lst, iv_lc, iv_disp, iv_get, iv_lcK, iv_val, np_var, np_cmp, np_chain, np_not, np_and, np_or, np_isi, np_isis, np_one, Rw_got, Ov_some, Ob_true, Ob_false, rdB, rdV, Rw_got, List.getElem?_cons_zero, List.getElem?_cons_succ, List.set_cons_zero, List.set_cons_succ, List.length_cons, List.length_nil, List.length_set, at0, at1, at2, at3, ix0, ix1, ix2, ix3, vf_add, vf_sub, vf_mul, vf_fdiv, vf_mod, vf_pow, vf_addT, vf_addL, vf_lt, vf_le, vf_gt, vf_ge, vf_lt2, vf_le2, vf_gt2, vf_ge2, vf_isN, vf_notN, vf_nn_int, vf_nn_bl, vf_nn_tup, vf_nn_lst, vf_nn_str, vf_nn_non, vf_tr_bl, vf_tr_int, vf_tr_non, vf_tr_tup, vf_tr_lst, vf_lenT, vf_lenL, vf_abs, vf_int, vf_tupL, vf_tupT, vf_lstL, vf_lstT, vf_gcd, vf_ixL, vf_ixT, vf_ixS, vf_setL, vf_appL, vf_neg, vf_ow, vf_mkT, vf_mkF, vf_part, vf_revL, vf_revT, vf_is_int_int, vf_is_bl_int, vf_is_str_int, vf_is_tup_int, vf_is_lst_int, vf_is_scr_int, vf_is_non_int, vf_is_int_bool, vf_is_bl_bool, vf_is_str_bool, vf_is_tup_bool, vf_is_lst_bool, vf_is_scr_bool, vf_is_non_bool, vf_is_int_str, vf_is_bl_str, vf_is_str_str, vf_is_tup_str, vf_is_lst_str, vf_is_scr_str, vf_is_non_str, vf_is_int_tuple, vf_is_bl_tuple, vf_is_str_tuple, vf_is_tup_tuple, vf_is_lst_tuple, vf_is_scr_tuple, vf_is_non_tuple, vf_is_int_list, vf_is_bl_list, vf_is_str_list, vf_is_tup_list, vf_is_lst_list, vf_is_scr_list, vf_is_non_list, vf_eqI, vf_neI, vf_eqB, Option.map_some, Option.bind_some, List.map_cons, List.map_nil, Nat.reduceAdd, Nat.reducePow, Int.reducePow, hPow18, Int.reduceMul, Int.reduceSub, Int.reduceFDiv, Int.reduceFMod, Nat.reduceLT, Nat.reduceLeDiff, Nat.reduceSub, Int.reduceLE, Int.reduceLT, Int.reduceNeg, Int.reduceAdd, Int.reduceToNat, Int.reduceEq, Int.ofNat_eq_coe, ↓reduceIte, reduceCtorEq, decide_true, decide_false, Int.cast_ofNat_Int, and_true, true_and, Bool.not_true, Bool.not_false]
      rw [← hg]
      simp
      omega
    · have hy2 : 0 < y := by omega
      obtain ⟨s1, s2, s3⟩ := gcd_step hx hy2
      have e1 : divOk y = true := divOkI h (by omega)
      have e2 : mulOk y (x.fdiv y) = true := mulOkL (by omega) (by omega)
      simp only [↓w_bvar, ↓w_bnv, ↓w_var, ↓w_non, ↓w_bl, ↓w_int, ↓w_str, ↓w_val, ↓w_one, ↓w_bin, ↓w_neg, ↓w_test, ↓w_not, ↓w_and, ↓w_or, ↓w_ife, ↓w_cmp, ↓w_chain, ↓w_call, ↓w_bi, ↓w_isi, ↓w_isis, ↓w_ix, ↓w_sl, ↓w_rev, ↓w_tup, ↓w_lst, ↓w_snil, ↓w_scons, ↓w_bnil, ↓w_bcons, ↓w_anil, ↓w_aconsN, ↓w_aconsF, ↓w_aconsT, ↓w_prnop, ↓w_pr, ↓w_nil, ↓w_cons, ↓w_put, ↓w_asgN, ↓w_asgT, ↓w_par, ↓w_ifs, ↓w_ret, ↓w_retn, ↓w_raise, ↓w_brk, ↓w_cont, ↓w_expr, ↓w_seti, ↓w_turn, ↓w_cnop, ↓w_cond, ↓w_lc, ↓w_forF, iv_non, iv_bl, iv_int, np_int, iv_str, iv_glob, iv_bin, np_bin, iv_neg, np_neg, iv_not, iv_and, iv_or, iv_one, iv_ife, np_ife, iv_cmp, iv_chain, iv_call, np_call, iv_bi, np_bi, iv_isi, iv_isis, iv_ix, np_ix, iv_sl, iv_rev, iv_tup, iv_lst, iv_lc, iv_disp, iv_get, iv_lcK, iv_val, np_var, np_cmp, np_chain, np_not, np_and, np_or, np_isi, np_isis, np_one, Rw_got, Ov_some, Ob_true, Ob_false, rdB, rdV, Rw_got, List.getElem?_cons_zero, List.getElem?_cons_succ, List.set_cons_zero, List.set_cons_succ, List.length_cons, List.length_nil, List.length_set, at0, at1, at2, at3, ix0, ix1, ix2, ix3, vf_add, vf_sub, vf_mul, vf_fdiv, vf_mod, vf_pow, vf_addT, vf_addL, vf_lt, vf_le, vf_gt, vf_ge, vf_lt2, vf_le2, vf_gt2, vf_ge2, vf_isN, vf_notN, vf_nn_int, vf_nn_bl, vf_nn_tup, vf_nn_lst, vf_nn_str, vf_nn_non, vf_tr_bl, vf_tr_int, vf_tr_non, vf_tr_tup, vf_tr_lst, vf_lenT, vf_lenL, vf_abs, vf_int, vf_tupL, vf_tupT, vf_lstL, vf_lstT, vf_gcd, vf_ixL, vf_ixT, vf_ixS, vf_setL, vf_appL, vf_neg, vf_ow, vf_mkT, vf_mkF, vf_part, vf_revL, vf_revT, vf_is_int_int, vf_is_bl_int, vf_is_str_int, vf_is_tup_int, vf_is_lst_int, vf_is_scr_int, vf_is_non_int, vf_is_int_bool, vf_is_bl_bool, vf_is_str_bool, vf_is_tup_bool, vf_is_lst_bool, vf_is_scr_bool, vf_is_non_bool, vf_is_int_str, vf_is_bl_str, vf_is_str_str, vf_is_tup_str, vf_is_lst_str, vf_is_scr_str, vf_is_non_str, vf_is_int_tuple, vf_is_bl_tuple, vf_is_str_tuple, vf_is_tup_tuple, vf_is_lst_tuple, vf_is_scr_tuple, vf_is_non_tuple, vf_is_int_list, vf_is_bl_list, vf_is_str_list, vf_is_tup_list, vf_is_lst_list, vf_is_scr_list, vf_is_non_list, vf_eqI, vf_neI, vf_eqB, Option.map_some, Option.bind_some, List.map_cons, List.map_nil, Nat.reduceAdd, Nat.reducePow, Int.reducePow, hPow18, Int.reduceMul, Int.reduceSub, Int.reduceFDiv, Int.reduceFMod, Nat.reduceLT, Nat.reduceLeDiff, Nat.reduceSub, Int.reduceLE, Int.reduceLT, Int.reduceNeg, Int.reduceAdd, Int.reduceToNat, Int.reduceEq, Int.ofNat_eq_coe, ↓reduceIte, reduceCtorEq, decide_true, decide_false, Int.cast_ofNat_Int, and_true, true_and, Bool.not_true, Bool.not_false, h, e1, e2]
      exact ⟨_, _, _, rfl, by omega, s1, by omega, by rw [s3, hg], by omega⟩
  · rintro ⟨x, y, t, rfl, hx, hy, hx2, hg, hn⟩
    rw [rngL_len] at hn
    exfalso
    have : (20000 : Int).toNat = 20000 := rfl
    omega
end HD
set_option Elab.async false
set_option linter.all false
set_option maxRecDepth 100000
set_option maxHeartbeats 8000000
namespace HD
open PySem L2 EV
theorem w_glob {Γ : Env'} {ρ : Ro} {g : Nat} {Qv : (Val × Bool) × Ro → Prop} {X : XP} : Rw (ev Γ (.glob g) ρ) Qv X = Ov Γ.gl[g]? (fun p => Qv ((p.2, false), ρ)) := by
  show Rw (match Γ.gl[g]? with
    | some p => .got ((p.2, false), ρ)
    | none => .bad) _ _ = _
  cases Γ.gl[g]? <;> rfl
structure Valid (p e : Int) : Prop where
  p1 : 1 ≤ p
  p2 : p ≤ 1000000000
  lt : (e.natAbs : Int) < p
  g : Nat.gcd p.natAbs e.natAbs = 1
  o : (p + e).fmod 2 = 1
theorem gst_whole : g_is_whole.stab = [true] := by kernel_rfl
theorem stab5 : D.prg.stab 5 = [true] := by kernel_rfl
theorem stab6 : D.prg.stab 6 = [true, true] := by kernel_rfl
theorem stab4 : D.prg.stab 4 = [true, true] := by kernel_rfl
theorem stab7 : D.prg.stab 7 = [true, true, true, true] := by kernel_rfl
theorem stab8 : D.prg.stab 8 = [true, true] := by kernel_rfl
theorem stab9 : D.prg.stab 9 = [false, false] := by kernel_rfl
theorem gst_check : g_check_signed.stab = [true, true] := by kernel_rfl
theorem gst_same : g_same_directed.stab = [true, true, true, true] := by kernel_rfl
theorem gst_due : g__law_due.stab = [true, true] := by kernel_rfl
theorem gl0 : D.prg.gl[0]? = some (("MOST_FRACTION" : Str), Val.int 1000000000) := rfl
theorem outsT1 (a : Val) (ρ : Ro) : outsL [true] [.fz a] ρ = [.no] := rfl
theorem outsT2 (a b : Val) (ρ : Ro) : outsL [true, true] [.fz a, .fz b] ρ = [.no, .no] := rfl
theorem outsT4 (a b c e : Val) (ρ : Ro) : outsL [true, true, true, true] [.fz a, .fz b, .fz c, .fz e] ρ = [.no, .no, .no, .no] := rfl
theorem whole_ok {d : Nat} {i : Int} : D.prg.den (d + 1) 5 [.fz (.int i)] = .got ((.bl true, false), [.no]) := by
  have : Rw (D.prg.den (d + 1) 5 [.fz (.int i)]) (fun z => z = ((.bl true, false), [.no])) NX := by
    rw [den_succ (g := g_is_whole) rfl, w_run rfl, gst_whole]
    show Ow (evSs _ _ g_is_whole.body [.fz (.int i)]) _
    simp only [g_is_whole, ↓w_bvar, ↓w_bnv, ↓w_var, ↓w_non, ↓w_bl, ↓w_int, ↓w_str, ↓w_val, ↓w_one, ↓w_bin, ↓w_neg, ↓w_test, ↓w_not, ↓w_and, ↓w_or, ↓w_ife, ↓w_cmp, ↓w_chain, ↓w_call, ↓w_bi, ↓w_isi, ↓w_isis, ↓w_ix, ↓w_sl, ↓w_rev, ↓w_tup, ↓w_lst, ↓w_snil, ↓w_scons, ↓w_bnil, ↓w_bcons, ↓w_anil, ↓w_aconsN, ↓w_aconsF, ↓w_aconsT, ↓w_prnop, ↓w_pr, ↓w_nil, ↓w_cons, ↓w_put, ↓w_asgN, ↓w_asgT, ↓w_par, ↓w_ifs, ↓w_ret, ↓w_retn, ↓w_raise, ↓w_brk, ↓w_cont, ↓w_expr, ↓w_seti, ↓w_turn, ↓w_cnop, ↓w_cond, ↓w_lc, ↓w_forF, iv_non, iv_bl, iv_int, np_int, iv_str, iv_glob, iv_bin, np_bin, iv_neg, np_neg, iv_not, iv_and, iv_or, iv_one, iv_ife, np_ife, iv_cmp, iv_chain, iv_call, np_call, iv_bi, np_bi, iv_isi, iv_isis, iv_ix, np_ix, iv_sl, iv_rev, iv_tup, iv_lst, iv_lc, iv_disp, iv_get, iv_lcK, iv_val, np_var, np_cmp, np_chain, np_not, np_and, np_or, np_isi, np_isis, np_one, Rw_got, Ov_some, Ob_true, Ob_false, rdB, rdV, Rw_got, List.getElem?_cons_zero, List.getElem?_cons_succ, List.set_cons_zero, List.set_cons_succ, List.length_cons, List.length_nil, List.length_set, at0, at1, at2, at3, ix0, ix1, ix2, ix3, vf_add, vf_sub, vf_mul, vf_fdiv, vf_mod, vf_pow, vf_addT, vf_addL, vf_lt, vf_le, vf_gt, vf_ge, vf_lt2, vf_le2, vf_gt2, vf_ge2, vf_isN, vf_notN, vf_nn_int, vf_nn_bl, vf_nn_tup, vf_nn_lst, vf_nn_str, vf_nn_non, vf_tr_bl, vf_tr_int, vf_tr_non, vf_tr_tup, vf_tr_lst, vf_lenT, vf_lenL, vf_abs, vf_int, vf_tupL, vf_tupT, vf_lstL, vf_lstT, vf_gcd, vf_ixL, vf_ixT, vf_ixS, vf_setL, vf_appL, vf_neg, vf_ow, vf_mkT, vf_mkF, vf_part, vf_revL, vf_revT, vf_is_int_int, vf_is_bl_int, vf_is_str_int, vf_is_tup_int, vf_is_lst_int, vf_is_scr_int, vf_is_non_int, vf_is_int_bool, vf_is_bl_bool, vf_is_str_bool, vf_is_tup_bool, vf_is_lst_bool, vf_is_scr_bool, vf_is_non_bool, vf_is_int_str, vf_is_bl_str, vf_is_str_str, vf_is_tup_str, vf_is_lst_str, vf_is_scr_str, vf_is_non_str, vf_is_int_tuple, vf_is_bl_tuple, vf_is_str_tuple, vf_is_tup_tuple, vf_is_lst_tuple, vf_is_scr_tuple, vf_is_non_tuple, vf_is_int_list, vf_is_bl_list, vf_is_str_list, vf_is_tup_list, vf_is_lst_list, vf_is_scr_list, vf_is_non_list, vf_eqI, vf_neI, vf_eqB, Option.map_some, Option.bind_some, List.map_cons, List.map_nil, Nat.reduceAdd, Nat.reducePow, Int.reducePow, hPow18, Int.reduceMul, Int.reduceSub, Int.reduceFDiv, Int.reduceFMod, Nat.reduceLT, Nat.reduceLeDiff, Nat.reduceSub, Int.reduceLE, Int.reduceLT, Int.reduceNeg, Int.reduceAdd, Int.reduceToNat, Int.reduceEq, Int.ofNat_eq_coe, ↓reduceIte, reduceCtorEq, decide_true, decide_false, Int.cast_ofNat_Int, and_true, true_and, Bool.not_true, Bool.not_false, outsT1]
  obtain ⟨a, h, rfl⟩ := Rw_iff.mp this
  exact h
theorem check_ok {d : Nat} {p e : Int} (h : Valid p e) : D.prg.den (d + 2) 6 [.fz (.int p), .fz (.int e)] = .got ((.non, false), [.no, .no]) := by
  have : Rw (D.prg.den (d + 2) 6 [.fz (.int p), .fz (.int e)]) (fun z => z = ((.non, false), [.no, .no])) NX := by
    rw [den_succ (g := g_check_signed) rfl, w_run rfl, gst_check]
    show Ow (evSs _ _ g_check_signed.body [.fz (.int p), .fz (.int e)]) _
    have h1 : (1 : Int) ≤ p := h.p1
    have h2 := h.p2
    have ea : (if e < 0 then -e else e) = (e.natAbs : Int) := by split <;> omega
    have h3 : ¬ (p ≤ (e.natAbs : Int)) := by have := h.lt; omega
    have h4 := h.g
    have h5 := h.o
    simp only [g_check_signed, ↓w_bvar, ↓w_bnv, ↓w_var, ↓w_non, ↓w_bl, ↓w_int, ↓w_str, ↓w_val, ↓w_one, ↓w_bin, ↓w_neg, ↓w_test, ↓w_not, ↓w_and, ↓w_or, ↓w_ife, ↓w_cmp, ↓w_chain, ↓w_call, ↓w_bi, ↓w_isi, ↓w_isis, ↓w_ix, ↓w_sl, ↓w_rev, ↓w_tup, ↓w_lst, ↓w_snil, ↓w_scons, ↓w_bnil, ↓w_bcons, ↓w_anil, ↓w_aconsN, ↓w_aconsF, ↓w_aconsT, ↓w_prnop, ↓w_pr, ↓w_nil, ↓w_cons, ↓w_put, ↓w_asgN, ↓w_asgT, ↓w_par, ↓w_ifs, ↓w_ret, ↓w_retn, ↓w_raise, ↓w_brk, ↓w_cont, ↓w_expr, ↓w_seti, ↓w_turn, ↓w_cnop, ↓w_cond, ↓w_lc, ↓w_forF, iv_non, iv_bl, iv_int, np_int, iv_str, iv_glob, iv_bin, np_bin, iv_neg, np_neg, iv_not, iv_and, iv_or, iv_one, iv_ife, np_ife, iv_cmp, iv_chain, iv_call, np_call, iv_bi, np_bi, iv_isi, iv_isis, iv_ix, np_ix, iv_sl, iv_rev, iv_tup, iv_lst, iv_lc, iv_disp, iv_get, iv_lcK, iv_val, np_var, np_cmp, np_chain, np_not, np_and, np_or, np_isi, np_isis, np_one, Rw_got, Ov_some, Ob_true, Ob_false, rdB, rdV, Rw_got, List.getElem?_cons_zero, List.getElem?_cons_succ, List.set_cons_zero, List.set_cons_succ, List.length_cons, List.length_nil, List.length_set, at0, at1, at2, at3, ix0, ix1, ix2, ix3, vf_add, vf_sub, vf_mul, vf_fdiv, vf_mod, vf_pow, vf_addT, vf_addL, vf_lt, vf_le, vf_gt, vf_ge, vf_lt2, vf_le2, vf_gt2, vf_ge2, vf_isN, vf_notN, vf_nn_int, vf_nn_bl, vf_nn_tup, vf_nn_lst, vf_nn_str, vf_nn_non, vf_tr_bl, vf_tr_int, vf_tr_non, vf_tr_tup, vf_tr_lst, vf_lenT, vf_lenL, vf_abs, vf_int, vf_tupL, vf_tupT, vf_lstL, vf_lstT, vf_gcd, vf_ixL, vf_ixT, vf_ixS, vf_setL, vf_appL, vf_neg, vf_ow, vf_mkT, vf_mkF, vf_part, vf_revL, vf_revT, vf_is_int_int, vf_is_bl_int, vf_is_str_int, vf_is_tup_int, vf_is_lst_int, vf_is_scr_int, vf_is_non_int, vf_is_int_bool, vf_is_bl_bool, vf_is_str_bool, vf_is_tup_bool, vf_is_lst_bool, vf_is_scr_bool, vf_is_non_bool, vf_is_int_str, vf_is_bl_str, vf_is_str_str, vf_is_tup_str, vf_is_lst_str, vf_is_scr_str, vf_is_non_str, vf_is_int_tuple, vf_is_bl_tuple, vf_is_str_tuple, vf_is_tup_tuple, vf_is_lst_tuple, vf_is_scr_tuple, vf_is_non_tuple, vf_is_int_list, vf_is_bl_list, vf_is_str_list, vf_is_tup_list, vf_is_lst_list, vf_is_scr_list, vf_is_non_list, vf_eqI, vf_neI, vf_eqB, Option.map_some, Option.bind_some, List.map_cons, List.map_nil, Nat.reduceAdd, Nat.reducePow, Int.reducePow, hPow18, Int.reduceMul, Int.reduceSub, Int.reduceFDiv, Int.reduceFMod, Nat.reduceLT, Nat.reduceLeDiff, Nat.reduceSub, Int.reduceLE, Int.reduceLT, Int.reduceNeg, Int.reduceAdd, Int.reduceToNat, Int.reduceEq, Int.ofNat_eq_coe, ↓reduceIte, reduceCtorEq, decide_true, decide_false, Int.cast_ofNat_Int, and_true, true_and, Bool.not_true, Bool.not_false, w_glob, stab5, whole_ok, gl0, giveR, h1, h2, ea, h3, h4, h5, outsT2, Int.cast_ofNat_Int]
  obtain ⟨a, h, rfl⟩ := Rw_iff.mp this
  exact h
def dueB (p e p2 e2 : Int) : Bool := if p = p2 then decide ((e - e2).fmod (if p.fmod 2 = 1 then p else 2 * p) = 0) || decide ((e * e2 - 1).fmod (if p.fmod 2 = 1 then p else 2 * p) = 0) else false
theorem fmod_small {x k : Int} (hk : 0 < k) (h : x.fmod k = 0) (h1 : -k < x) (h2 : x < k) : x = 0 := by
  rw [Int.fmod_eq_emod_of_nonneg _ (by omega)] at h
  obtain ⟨c, rfl⟩ := Int.dvd_of_emod_eq_zero h
  rcases Int.lt_trichotomy c 0 with hc | hc | hc
  · have : k * c ≤ k * (-1) := Int.mul_le_mul_of_nonneg_left (by omega) (by omega)
    omega
  · rw [hc, Int.mul_zero]
  · have : k * 1 ≤ k * c := Int.mul_le_mul_of_nonneg_left (by omega) (by omega)
    omega
theorem same_ok {d : Nat} {p e p2 e2 : Int} (h : Valid p e) (h' : Valid p2 e2) : D.prg.den (d + 3) 7 [.fz (.int p), .fz (.int e), .fz (.int p2), .fz (.int e2)] = .got ((.bl (dueB p e p2 e2), false), [.no, .no, .no, .no]) := by
  have : Rw (D.prg.den (d + 3) 7 [.fz (.int p), .fz (.int e), .fz (.int p2), .fz (.int e2)]) (fun z => z = ((.bl (dueB p e p2 e2), false), [.no, .no, .no, .no])) NX := by
    rw [den_succ (g := g_same_directed) rfl, w_run rfl, gst_same]
    show Ow (evSs _ _ g_same_directed.body [.fz (.int p), .fz (.int e), .fz (.int p2), .fz (.int e2)]) _
    have l1 := h.lt
    have l2 := h'.lt
    have b1 := h.p2
    have b2 := h'.p2
    have m1 : mulOk e e2 = true := mulOkL (by omega) (by omega)
    have m2 : mulOk 2 p = true := mulOkL (by decide) (by decide)
    have z0 : ¬ p = 0 := by have := h.p1; omega
    have z1 : ¬ 2 * p = 0 := by have := h.p1; omega
    by_cases hp : p = p2
    · subst hp
      by_cases ho : p.fmod 2 = 1
      · simp only [g_same_directed, ↓w_bvar, ↓w_bnv, ↓w_var, ↓w_non, ↓w_bl, ↓w_int, ↓w_str, ↓w_val, ↓w_one, ↓w_bin, ↓w_neg, ↓w_test, ↓w_not, ↓w_and, ↓w_or, ↓w_ife, ↓w_cmp, ↓w_chain, ↓w_call, ↓w_bi, ↓w_isi, ↓w_isis, ↓w_ix, ↓w_sl, ↓w_rev, ↓w_tup, ↓w_lst, ↓w_snil, ↓w_scons, ↓w_bnil, ↓w_bcons, ↓w_anil, ↓w_aconsN, ↓w_aconsF, ↓w_aconsT, ↓w_prnop, ↓w_pr, ↓w_nil, ↓w_cons, ↓w_put, ↓w_asgN, ↓w_asgT, ↓w_par, ↓w_ifs, ↓w_ret, ↓w_retn, ↓w_raise, ↓w_brk, ↓w_cont, ↓w_expr, ↓w_seti, ↓w_turn, ↓w_cnop, ↓w_cond, ↓w_lc, ↓w_forF, iv_non, iv_bl, iv_int, np_int, iv_str, iv_glob, iv_bin, np_bin, iv_neg, np_neg, iv_not, iv_and, iv_or, iv_one, iv_ife, np_ife, iv_cmp, iv_chain, iv_call, np_call, iv_bi, np_bi, iv_isi, iv_isis, iv_ix, np_ix, iv_sl, iv_rev, iv_tup, iv_lst, iv_lc, iv_disp, iv_get, iv_lcK, iv_val, np_var, np_cmp, np_chain, np_not, np_and, np_or, np_isi, np_isis, np_one, Rw_got, Ov_some, Ob_true, Ob_false, rdB, rdV, Rw_got, List.getElem?_cons_zero, List.getElem?_cons_succ, List.set_cons_zero, List.set_cons_succ, List.length_cons, List.length_nil, List.length_set, at0, at1, at2, at3, ix0, ix1, ix2, ix3, vf_add, vf_sub, vf_mul, vf_fdiv, vf_mod, vf_pow, vf_addT, vf_addL, vf_lt, vf_le, vf_gt, vf_ge, vf_lt2, vf_le2, vf_gt2, vf_ge2, vf_isN, vf_notN, vf_nn_int, vf_nn_bl, vf_nn_tup, vf_nn_lst, vf_nn_str, vf_nn_non, vf_tr_bl, vf_tr_int, vf_tr_non, vf_tr_tup, vf_tr_lst, vf_lenT, vf_lenL, vf_abs, vf_int, vf_tupL, vf_tupT, vf_lstL, vf_lstT, vf_gcd, vf_ixL, vf_ixT, vf_ixS, vf_setL, vf_appL, vf_neg, vf_ow, vf_mkT, vf_mkF, vf_part, vf_revL, vf_revT, vf_is_int_int, vf_is_bl_int, vf_is_str_int, vf_is_tup_int, vf_is_lst_int, vf_is_scr_int, vf_is_non_int, vf_is_int_bool, vf_is_bl_bool, vf_is_str_bool, vf_is_tup_bool, vf_is_lst_bool, vf_is_scr_bool, vf_is_non_bool, vf_is_int_str, vf_is_bl_str, vf_is_str_str, vf_is_tup_str, vf_is_lst_str, vf_is_scr_str, vf_is_non_str, vf_is_int_tuple, vf_is_bl_tuple, vf_is_str_tuple, vf_is_tup_tuple, vf_is_lst_tuple, vf_is_scr_tuple, vf_is_non_tuple, vf_is_int_list, vf_is_bl_list, vf_is_str_list, vf_is_tup_list, vf_is_lst_list, vf_is_scr_list, vf_is_non_list, vf_eqI, vf_neI, vf_eqB, Option.map_some, Option.bind_some, List.map_cons, List.map_nil, Nat.reduceAdd, Nat.reducePow, Int.reducePow, hPow18, Int.reduceMul, Int.reduceSub, Int.reduceFDiv, Int.reduceFMod, Nat.reduceLT, Nat.reduceLeDiff, Nat.reduceSub, Int.reduceLE, Int.reduceLT, Int.reduceNeg, Int.reduceAdd, Int.reduceToNat, Int.reduceEq, Int.ofNat_eq_coe, ↓reduceIte, reduceCtorEq, decide_true, decide_false, Int.cast_ofNat_Int, and_true, true_and, Bool.not_true, Bool.not_false, stab6, check_ok h, check_ok h', giveR, ho, m1, m2, z0, outsT4, dueB]
        by_cases hq : (e - e2).fmod p = 0
        · simp only [hq, ↓w_bvar, ↓w_bnv, ↓w_var, ↓w_non, ↓w_bl, ↓w_int, ↓w_str, ↓w_val, ↓w_one, ↓w_bin, ↓w_neg, ↓w_test, ↓w_not, ↓w_and, ↓w_or, ↓w_ife, ↓w_cmp, ↓w_chain, ↓w_call, ↓w_bi, ↓w_isi, ↓w_isis, ↓w_ix, ↓w_sl, ↓w_rev, ↓w_tup, ↓w_lst, ↓w_snil, ↓w_scons, ↓w_bnil, ↓w_bcons, ↓w_anil, ↓w_aconsN, ↓w_aconsF, ↓w_aconsT, ↓w_prnop, ↓w_pr, ↓w_nil, ↓w_cons, ↓w_put, ↓w_asgN, ↓w_asgT, ↓w_par, ↓w_ifs, ↓w_ret, ↓w_retn, ↓w_raise, ↓w_brk, ↓w_cont, ↓w_expr, ↓w_seti, ↓w_turn, ↓w_cnop, ↓w_cond, ↓w_lc, ↓w_forF, iv_non, iv_bl, iv_int, np_int, iv_str, iv_glob, iv_bin, np_bin, iv_neg, np_neg, iv_not, iv_and, iv_or, iv_one, iv_ife, np_ife, iv_cmp, iv_chain, iv_call, np_call, iv_bi, np_bi, iv_isi, iv_isis, iv_ix, np_ix, iv_sl, iv_rev, iv_tup, iv_lst, iv_lc, iv_disp, iv_get, iv_lcK, iv_val, np_var, np_cmp, np_chain, np_not, np_and, np_or, np_isi, np_isis, np_one, Rw_got, Ov_some, Ob_true, Ob_false, rdB, rdV, Rw_got, List.getElem?_cons_zero, List.getElem?_cons_succ, List.set_cons_zero, List.set_cons_succ, List.length_cons, List.length_nil, List.length_set, at0, at1, at2, at3, ix0, ix1, ix2, ix3, vf_add, vf_sub, vf_mul, vf_fdiv, vf_mod, vf_pow, vf_addT, vf_addL, vf_lt, vf_le, vf_gt, vf_ge, vf_lt2, vf_le2, vf_gt2, vf_ge2, vf_isN, vf_notN, vf_nn_int, vf_nn_bl, vf_nn_tup, vf_nn_lst, vf_nn_str, vf_nn_non, vf_tr_bl, vf_tr_int, vf_tr_non, vf_tr_tup, vf_tr_lst, vf_lenT, vf_lenL, vf_abs, vf_int, vf_tupL, vf_tupT, vf_lstL, vf_lstT, vf_gcd, vf_ixL, vf_ixT, vf_ixS, vf_setL, vf_appL, vf_neg, vf_ow, vf_mkT, vf_mkF, vf_part, vf_revL, vf_revT, vf_is_int_int, vf_is_bl_int, vf_is_str_int, vf_is_tup_int, vf_is_lst_int, vf_is_scr_int, vf_is_non_int, vf_is_int_bool, vf_is_bl_bool, vf_is_str_bool, vf_is_tup_bool, vf_is_lst_bool, vf_is_scr_bool, vf_is_non_bool, vf_is_int_str, vf_is_bl_str, vf_is_str_str, vf_is_tup_str, vf_is_lst_str, vf_is_scr_str, vf_is_non_str, vf_is_int_tuple, vf_is_bl_tuple, vf_is_str_tuple, vf_is_tup_tuple, vf_is_lst_tuple, vf_is_scr_tuple, vf_is_non_tuple, vf_is_int_list, vf_is_bl_list, vf_is_str_list, vf_is_tup_list, vf_is_lst_list, vf_is_scr_list, vf_is_non_list, vf_eqI, vf_neI, vf_eqB, Option.map_some, Option.bind_some, List.map_cons, List.map_nil, Nat.reduceAdd, Nat.reducePow, Int.reducePow, hPow18, Int.reduceMul, Int.reduceSub, Int.reduceFDiv, Int.reduceFMod, Nat.reduceLT, Nat.reduceLeDiff, Nat.reduceSub, Int.reduceLE, Int.reduceLT, Int.reduceNeg, Int.reduceAdd, Int.reduceToNat, Int.reduceEq, Int.ofNat_eq_coe, ↓reduceIte, reduceCtorEq, decide_true, decide_false, Int.cast_ofNat_Int, and_true, true_and, Bool.not_true, Bool.not_false, Bool.true_or]
        · simp only [hq, ↓w_bvar, ↓w_bnv, ↓w_var, ↓w_non, ↓w_bl, ↓w_int, ↓w_str, ↓w_val, ↓w_one, ↓w_bin, ↓w_neg, ↓w_test, ↓w_not, ↓w_and, ↓w_or, ↓w_ife, ↓w_cmp, ↓w_chain, ↓w_call, ↓w_bi, ↓w_isi, ↓w_isis, ↓w_ix, ↓w_sl, ↓w_rev, ↓w_tup, ↓w_lst, ↓w_snil, ↓w_scons, ↓w_bnil, ↓w_bcons, ↓w_anil, ↓w_aconsN, ↓w_aconsF, ↓w_aconsT, ↓w_prnop, ↓w_pr, ↓w_nil, ↓w_cons, ↓w_put, ↓w_asgN, ↓w_asgT, ↓w_par, ↓w_ifs, ↓w_ret, ↓w_retn, ↓w_raise, ↓w_brk, ↓w_cont, ↓w_expr, ↓w_seti, ↓w_turn, ↓w_cnop, ↓w_cond, ↓w_lc, ↓w_forF, iv_non, iv_bl, iv_int, np_int, iv_str, iv_glob, iv_bin, np_bin, iv_neg, np_neg, iv_not, iv_and, iv_or, iv_one, iv_ife, np_ife, iv_cmp, iv_chain, iv_call, np_call, iv_bi, np_bi, iv_isi, iv_isis, iv_ix, np_ix, iv_sl, iv_rev, iv_tup, iv_lst, iv_lc, iv_disp, iv_get, iv_lcK, iv_val, np_var, np_cmp, np_chain, np_not, np_and, np_or, np_isi, np_isis, np_one, Rw_got, Ov_some, Ob_true, Ob_false, rdB, rdV, Rw_got, List.getElem?_cons_zero, List.getElem?_cons_succ, List.set_cons_zero, List.set_cons_succ, List.length_cons, List.length_nil, List.length_set, at0, at1, at2, at3, ix0, ix1, ix2, ix3, vf_add, vf_sub, vf_mul, vf_fdiv, vf_mod, vf_pow, vf_addT, vf_addL, vf_lt, vf_le, vf_gt, vf_ge, vf_lt2, vf_le2, vf_gt2, vf_ge2, vf_isN, vf_notN, vf_nn_int, vf_nn_bl, vf_nn_tup, vf_nn_lst, vf_nn_str, vf_nn_non, vf_tr_bl, vf_tr_int, vf_tr_non, vf_tr_tup, vf_tr_lst, vf_lenT, vf_lenL, vf_abs, vf_int, vf_tupL, vf_tupT, vf_lstL, vf_lstT, vf_gcd, vf_ixL, vf_ixT, vf_ixS, vf_setL, vf_appL, vf_neg, vf_ow, vf_mkT, vf_mkF, vf_part, vf_revL, vf_revT, vf_is_int_int, vf_is_bl_int, vf_is_str_int, vf_is_tup_int, vf_is_lst_int, vf_is_scr_int, vf_is_non_int, vf_is_int_bool, vf_is_bl_bool, vf_is_str_bool, vf_is_tup_bool, vf_is_lst_bool, vf_is_scr_bool, vf_is_non_bool, vf_is_int_str, vf_is_bl_str, vf_is_str_str, vf_is_tup_str, vf_is_lst_str, vf_is_scr_str, vf_is_non_str, vf_is_int_tuple, vf_is_bl_tuple, vf_is_str_tuple, vf_is_tup_tuple, vf_is_lst_tuple, vf_is_scr_tuple, vf_is_non_tuple, vf_is_int_list, vf_is_bl_list, vf_is_str_list, vf_is_tup_list, vf_is_lst_list, vf_is_scr_list, vf_is_non_list, vf_eqI, vf_neI, vf_eqB, Option.map_some, Option.bind_some, List.map_cons, List.map_nil, Nat.reduceAdd, Nat.reducePow, Int.reducePow, hPow18, Int.reduceMul, Int.reduceSub, Int.reduceFDiv, Int.reduceFMod, Nat.reduceLT, Nat.reduceLeDiff, Nat.reduceSub, Int.reduceLE, Int.reduceLT, Int.reduceNeg, Int.reduceAdd, Int.reduceToNat, Int.reduceEq, Int.ofNat_eq_coe, ↓reduceIte, reduceCtorEq, decide_true, decide_false, Int.cast_ofNat_Int, and_true, true_and, Bool.not_true, Bool.not_false, Bool.false_or]
      · have hq : decide (e = e2) = decide ((e - e2).fmod (2 * p) = 0) := by
          have hp1 := h.p1
          rw [decide_eq_decide]
          constructor
          · rintro rfl; simp
          · intro hz
            have := fmod_small (by omega) hz (by omega) (by omega)
            omega
        simp only [g_same_directed, ↓w_bvar, ↓w_bnv, ↓w_var, ↓w_non, ↓w_bl, ↓w_int, ↓w_str, ↓w_val, ↓w_one, ↓w_bin, ↓w_neg, ↓w_test, ↓w_not, ↓w_and, ↓w_or, ↓w_ife, ↓w_cmp, ↓w_chain, ↓w_call, ↓w_bi, ↓w_isi, ↓w_isis, ↓w_ix, ↓w_sl, ↓w_rev, ↓w_tup, ↓w_lst, ↓w_snil, ↓w_scons, ↓w_bnil, ↓w_bcons, ↓w_anil, ↓w_aconsN, ↓w_aconsF, ↓w_aconsT, ↓w_prnop, ↓w_pr, ↓w_nil, ↓w_cons, ↓w_put, ↓w_asgN, ↓w_asgT, ↓w_par, ↓w_ifs, ↓w_ret, ↓w_retn, ↓w_raise, ↓w_brk, ↓w_cont, ↓w_expr, ↓w_seti, ↓w_turn, ↓w_cnop, ↓w_cond, ↓w_lc, ↓w_forF, iv_non, iv_bl, iv_int, np_int, iv_str, iv_glob, iv_bin, np_bin, iv_neg, np_neg, iv_not, iv_and, iv_or, iv_one, iv_ife, np_ife, iv_cmp, iv_chain, iv_call, np_call, iv_bi, np_bi, iv_isi, iv_isis, iv_ix, np_ix, iv_sl, iv_rev, iv_tup, iv_lst, iv_lc, iv_disp, iv_get, iv_lcK, iv_val, np_var, np_cmp, np_chain, np_not, np_and, np_or, np_isi, np_isis, np_one, Rw_got, Ov_some, Ob_true, Ob_false, rdB, rdV, Rw_got, List.getElem?_cons_zero, List.getElem?_cons_succ, List.set_cons_zero, List.set_cons_succ, List.length_cons, List.length_nil, List.length_set, at0, at1, at2, at3, ix0, ix1, ix2, ix3, vf_add, vf_sub, vf_mul, vf_fdiv, vf_mod, vf_pow, vf_addT, vf_addL, vf_lt, vf_le, vf_gt, vf_ge, vf_lt2, vf_le2, vf_gt2, vf_ge2, vf_isN, vf_notN, vf_nn_int, vf_nn_bl, vf_nn_tup, vf_nn_lst, vf_nn_str, vf_nn_non, vf_tr_bl, vf_tr_int, vf_tr_non, vf_tr_tup, vf_tr_lst, vf_lenT, vf_lenL, vf_abs, vf_int, vf_tupL, vf_tupT, vf_lstL, vf_lstT, vf_gcd, vf_ixL, vf_ixT, vf_ixS, vf_setL, vf_appL, vf_neg, vf_ow, vf_mkT, vf_mkF, vf_part, vf_revL, vf_revT, vf_is_int_int, vf_is_bl_int, vf_is_str_int, vf_is_tup_int, vf_is_lst_int, vf_is_scr_int, vf_is_non_int, vf_is_int_bool, vf_is_bl_bool, vf_is_str_bool, vf_is_tup_bool, vf_is_lst_bool, vf_is_scr_bool, vf_is_non_bool, vf_is_int_str, vf_is_bl_str, vf_is_str_str, vf_is_tup_str, vf_is_lst_str, vf_is_scr_str, vf_is_non_str, vf_is_int_tuple, vf_is_bl_tuple, vf_is_str_tuple, vf_is_tup_tuple, vf_is_lst_tuple, vf_is_scr_tuple, vf_is_non_tuple, vf_is_int_list, vf_is_bl_list, vf_is_str_list, vf_is_tup_list, vf_is_lst_list, vf_is_scr_list, vf_is_non_list, vf_eqI, vf_neI, vf_eqB, Option.map_some, Option.bind_some, List.map_cons, List.map_nil, Nat.reduceAdd, Nat.reducePow, Int.reducePow, hPow18, Int.reduceMul, Int.reduceSub, Int.reduceFDiv, Int.reduceFMod, Nat.reduceLT, Nat.reduceLeDiff, Nat.reduceSub, Int.reduceLE, Int.reduceLT, Int.reduceNeg, Int.reduceAdd, Int.reduceToNat, Int.reduceEq, Int.ofNat_eq_coe, ↓reduceIte, reduceCtorEq, decide_true, decide_false, Int.cast_ofNat_Int, and_true, true_and, Bool.not_true, Bool.not_false, stab6, check_ok h, check_ok h', giveR, ho, m1, m2, z0, z1, outsT4, dueB, hq]
        by_cases hq : (e - e2).fmod (2 * p) = 0
        · simp only [hq, ↓w_bvar, ↓w_bnv, ↓w_var, ↓w_non, ↓w_bl, ↓w_int, ↓w_str, ↓w_val, ↓w_one, ↓w_bin, ↓w_neg, ↓w_test, ↓w_not, ↓w_and, ↓w_or, ↓w_ife, ↓w_cmp, ↓w_chain, ↓w_call, ↓w_bi, ↓w_isi, ↓w_isis, ↓w_ix, ↓w_sl, ↓w_rev, ↓w_tup, ↓w_lst, ↓w_snil, ↓w_scons, ↓w_bnil, ↓w_bcons, ↓w_anil, ↓w_aconsN, ↓w_aconsF, ↓w_aconsT, ↓w_prnop, ↓w_pr, ↓w_nil, ↓w_cons, ↓w_put, ↓w_asgN, ↓w_asgT, ↓w_par, ↓w_ifs, ↓w_ret, ↓w_retn, ↓w_raise, ↓w_brk, ↓w_cont, ↓w_expr, ↓w_seti, ↓w_turn, ↓w_cnop, ↓w_cond, ↓w_lc, ↓w_forF, iv_non, iv_bl, iv_int, np_int, iv_str, iv_glob, iv_bin, np_bin, iv_neg, np_neg, iv_not, iv_and, iv_or, iv_one, iv_ife, np_ife, iv_cmp, iv_chain, iv_call, np_call, iv_bi, np_bi, iv_isi, iv_isis, iv_ix, np_ix, iv_sl, iv_rev, iv_tup, iv_lst, iv_lc, iv_disp, iv_get, iv_lcK, iv_val, np_var, np_cmp, np_chain, np_not, np_and, np_or, np_isi, np_isis, np_one, Rw_got, Ov_some, Ob_true, Ob_false, rdB, rdV, Rw_got, List.getElem?_cons_zero, List.getElem?_cons_succ, List.set_cons_zero, List.set_cons_succ, List.length_cons, List.length_nil, List.length_set, at0, at1, at2, at3, ix0, ix1, ix2, ix3, vf_add, vf_sub, vf_mul, vf_fdiv, vf_mod, vf_pow, vf_addT, vf_addL, vf_lt, vf_le, vf_gt, vf_ge, vf_lt2, vf_le2, vf_gt2, vf_ge2, vf_isN, vf_notN, vf_nn_int, vf_nn_bl, vf_nn_tup, vf_nn_lst, vf_nn_str, vf_nn_non, vf_tr_bl, vf_tr_int, vf_tr_non, vf_tr_tup, vf_tr_lst, vf_lenT, vf_lenL, vf_abs, vf_int, vf_tupL, vf_tupT, vf_lstL, vf_lstT, vf_gcd, vf_ixL, vf_ixT, vf_ixS, vf_setL, vf_appL, vf_neg, vf_ow, vf_mkT, vf_mkF, vf_part, vf_revL, vf_revT, vf_is_int_int, vf_is_bl_int, vf_is_str_int, vf_is_tup_int, vf_is_lst_int, vf_is_scr_int, vf_is_non_int, vf_is_int_bool, vf_is_bl_bool, vf_is_str_bool, vf_is_tup_bool, vf_is_lst_bool, vf_is_scr_bool, vf_is_non_bool, vf_is_int_str, vf_is_bl_str, vf_is_str_str, vf_is_tup_str, vf_is_lst_str, vf_is_scr_str, vf_is_non_str, vf_is_int_tuple, vf_is_bl_tuple, vf_is_str_tuple, vf_is_tup_tuple, vf_is_lst_tuple, vf_is_scr_tuple, vf_is_non_tuple, vf_is_int_list, vf_is_bl_list, vf_is_str_list, vf_is_tup_list, vf_is_lst_list, vf_is_scr_list, vf_is_non_list, vf_eqI, vf_neI, vf_eqB, Option.map_some, Option.bind_some, List.map_cons, List.map_nil, Nat.reduceAdd, Nat.reducePow, Int.reducePow, hPow18, Int.reduceMul, Int.reduceSub, Int.reduceFDiv, Int.reduceFMod, Nat.reduceLT, Nat.reduceLeDiff, Nat.reduceSub, Int.reduceLE, Int.reduceLT, Int.reduceNeg, Int.reduceAdd, Int.reduceToNat, Int.reduceEq, Int.ofNat_eq_coe, ↓reduceIte, reduceCtorEq, decide_true, decide_false, Int.cast_ofNat_Int, and_true, true_and, Bool.not_true, Bool.not_false, Bool.true_or]
        · simp only [hq, ↓w_bvar, ↓w_bnv, ↓w_var, ↓w_non, ↓w_bl, ↓w_int, ↓w_str, ↓w_val, ↓w_one, ↓w_bin, ↓w_neg, ↓w_test, ↓w_not, ↓w_and, ↓w_or, ↓w_ife, ↓w_cmp, ↓w_chain, ↓w_call, ↓w_bi, ↓w_isi, ↓w_isis, ↓w_ix, ↓w_sl, ↓w_rev, ↓w_tup, ↓w_lst, ↓w_snil, ↓w_scons, ↓w_bnil, ↓w_bcons, ↓w_anil, ↓w_aconsN, ↓w_aconsF, ↓w_aconsT, ↓w_prnop, ↓w_pr, ↓w_nil, ↓w_cons, ↓w_put, ↓w_asgN, ↓w_asgT, ↓w_par, ↓w_ifs, ↓w_ret, ↓w_retn, ↓w_raise, ↓w_brk, ↓w_cont, ↓w_expr, ↓w_seti, ↓w_turn, ↓w_cnop, ↓w_cond, ↓w_lc, ↓w_forF, iv_non, iv_bl, iv_int, np_int, iv_str, iv_glob, iv_bin, np_bin, iv_neg, np_neg, iv_not, iv_and, iv_or, iv_one, iv_ife, np_ife, iv_cmp, iv_chain, iv_call, np_call, iv_bi, np_bi, iv_isi, iv_isis, iv_ix, np_ix, iv_sl, iv_rev, iv_tup, iv_lst, iv_lc, iv_disp, iv_get, iv_lcK, iv_val, np_var, np_cmp, np_chain, np_not, np_and, np_or, np_isi, np_isis, np_one, Rw_got, Ov_some, Ob_true, Ob_false, rdB, rdV, Rw_got, List.getElem?_cons_zero, List.getElem?_cons_succ, List.set_cons_zero, List.set_cons_succ, List.length_cons, List.length_nil, List.length_set, at0, at1, at2, at3, ix0, ix1, ix2, ix3, vf_add, vf_sub, vf_mul, vf_fdiv, vf_mod, vf_pow, vf_addT, vf_addL, vf_lt, vf_le, vf_gt, vf_ge, vf_lt2, vf_le2, vf_gt2, vf_ge2, vf_isN, vf_notN, vf_nn_int, vf_nn_bl, vf_nn_tup, vf_nn_lst, vf_nn_str, vf_nn_non, vf_tr_bl, vf_tr_int, vf_tr_non, vf_tr_tup, vf_tr_lst, vf_lenT, vf_lenL, vf_abs, vf_int, vf_tupL, vf_tupT, vf_lstL, vf_lstT, vf_gcd, vf_ixL, vf_ixT, vf_ixS, vf_setL, vf_appL, vf_neg, vf_ow, vf_mkT, vf_mkF, vf_part, vf_revL, vf_revT, vf_is_int_int, vf_is_bl_int, vf_is_str_int, vf_is_tup_int, vf_is_lst_int, vf_is_scr_int, vf_is_non_int, vf_is_int_bool, vf_is_bl_bool, vf_is_str_bool, vf_is_tup_bool, vf_is_lst_bool, vf_is_scr_bool, vf_is_non_bool, vf_is_int_str, vf_is_bl_str, vf_is_str_str, vf_is_tup_str, vf_is_lst_str, vf_is_scr_str, vf_is_non_str, vf_is_int_tuple, vf_is_bl_tuple, vf_is_str_tuple, vf_is_tup_tuple, vf_is_lst_tuple, vf_is_scr_tuple, vf_is_non_tuple, vf_is_int_list, vf_is_bl_list, vf_is_str_list, vf_is_tup_list, vf_is_lst_list, vf_is_scr_list, vf_is_non_list, vf_eqI, vf_neI, vf_eqB, Option.map_some, Option.bind_some, List.map_cons, List.map_nil, Nat.reduceAdd, Nat.reducePow, Int.reducePow, hPow18, Int.reduceMul, Int.reduceSub, Int.reduceFDiv, Int.reduceFMod, Nat.reduceLT, Nat.reduceLeDiff, Nat.reduceSub, Int.reduceLE, Int.reduceLT, Int.reduceNeg, Int.reduceAdd, Int.reduceToNat, Int.reduceEq, Int.ofNat_eq_coe, ↓reduceIte, reduceCtorEq, decide_true, decide_false, Int.cast_ofNat_Int, and_true, true_and, Bool.not_true, Bool.not_false, Bool.false_or]
    · simp only [g_same_directed, ↓w_bvar, ↓w_bnv, ↓w_var, ↓w_non, ↓w_bl, ↓w_int, ↓w_str, ↓w_val, ↓w_one, ↓w_bin, ↓w_neg, ↓w_test, ↓w_not, ↓w_and, ↓w_or, ↓w_ife, ↓w_cmp, ↓w_chain, ↓w_call, ↓w_bi, ↓w_isi, ↓w_isis, ↓w_ix, ↓w_sl, ↓w_rev, ↓w_tup, ↓w_lst, ↓w_snil, ↓w_scons, ↓w_bnil, ↓w_bcons, ↓w_anil, ↓w_aconsN, ↓w_aconsF, ↓w_aconsT, ↓w_prnop, ↓w_pr, ↓w_nil, ↓w_cons, ↓w_put, ↓w_asgN, ↓w_asgT, ↓w_par, ↓w_ifs, ↓w_ret, ↓w_retn, ↓w_raise, ↓w_brk, ↓w_cont, ↓w_expr, ↓w_seti, ↓w_turn, ↓w_cnop, ↓w_cond, ↓w_lc, ↓w_forF, iv_non, iv_bl, iv_int, np_int, iv_str, iv_glob, iv_bin, np_bin, iv_neg, np_neg, iv_not, iv_and, iv_or, iv_one, iv_ife, np_ife, iv_cmp, iv_chain, iv_call, np_call, iv_bi, np_bi, iv_isi, iv_isis, iv_ix, np_ix, iv_sl, iv_rev, iv_tup, iv_lst, iv_lc, iv_disp, iv_get, iv_lcK, iv_val, np_var, np_cmp, np_chain, np_not, np_and, np_or, np_isi, np_isis, np_one, Rw_got, Ov_some, Ob_true, Ob_false, rdB, rdV, Rw_got, List.getElem?_cons_zero, List.getElem?_cons_succ, List.set_cons_zero, List.set_cons_succ, List.length_cons, List.length_nil, List.length_set, at0, at1, at2, at3, ix0, ix1, ix2, ix3, vf_add, vf_sub, vf_mul, vf_fdiv, vf_mod, vf_pow, vf_addT, vf_addL, vf_lt, vf_le, vf_gt, vf_ge, vf_lt2, vf_le2, vf_gt2, vf_ge2, vf_isN, vf_notN, vf_nn_int, vf_nn_bl, vf_nn_tup, vf_nn_lst, vf_nn_str, vf_nn_non, vf_tr_bl, vf_tr_int, vf_tr_non, vf_tr_tup, vf_tr_lst, vf_lenT, vf_lenL, vf_abs, vf_int, vf_tupL, vf_tupT, vf_lstL, vf_lstT, vf_gcd, vf_ixL, vf_ixT, vf_ixS, vf_setL, vf_appL, vf_neg, vf_ow, vf_mkT, vf_mkF, vf_part, vf_revL, vf_revT, vf_is_int_int, vf_is_bl_int, vf_is_str_int, vf_is_tup_int, vf_is_lst_int, vf_is_scr_int, vf_is_non_int, vf_is_int_bool, vf_is_bl_bool, vf_is_str_bool, vf_is_tup_bool, vf_is_lst_bool, vf_is_scr_bool, vf_is_non_bool, vf_is_int_str, vf_is_bl_str, vf_is_str_str, vf_is_tup_str, vf_is_lst_str, vf_is_scr_str, vf_is_non_str, vf_is_int_tuple, vf_is_bl_tuple, vf_is_str_tuple, vf_is_tup_tuple, vf_is_lst_tuple, vf_is_scr_tuple, vf_is_non_tuple, vf_is_int_list, vf_is_bl_list, vf_is_str_list, vf_is_tup_list, vf_is_lst_list, vf_is_scr_list, vf_is_non_list, vf_eqI, vf_neI, vf_eqB, Option.map_some, Option.bind_some, List.map_cons, List.map_nil, Nat.reduceAdd, Nat.reducePow, Int.reducePow, hPow18, Int.reduceMul, Int.reduceSub, Int.reduceFDiv, Int.reduceFMod, Nat.reduceLT, Nat.reduceLeDiff, Nat.reduceSub, Int.reduceLE, Int.reduceLT, Int.reduceNeg, Int.reduceAdd, Int.reduceToNat, Int.reduceEq, Int.ofNat_eq_coe, ↓reduceIte, reduceCtorEq, decide_true, decide_false, Int.cast_ofNat_Int, and_true, true_and, Bool.not_true, Bool.not_false, stab6, check_ok h, check_ok h', giveR, hp, outsT4, dueB]
  obtain ⟨a, h, rfl⟩ := Rw_iff.mp this
  exact h
theorem due_ok {d : Nat} {p e p2 e2 : Int} (h : Valid p e) (h' : Valid p2 e2) : D.prg.den (d + 1) 8 [.fz (.tup [.int p, .int e]), .fz (.tup [.int p2, .int e2])] = .got ((.bl (dueB p e p2 e2), false), [.no, .no]) := by
  have : Rw (D.prg.den (d + 1) 8 [.fz (.tup [.int p, .int e]), .fz (.tup [.int p2, .int e2])]) (fun z => z = ((.bl (dueB p e p2 e2), false), [.no, .no])) NX := by
    rw [den_succ (g := g__law_due) rfl, w_run rfl, gst_due]
    show Ow (evSs _ _ g__law_due.body [.fz (.tup [.int p, .int e]), .fz (.tup [.int p2, .int e2]), .no, .no, .no]) _
    have l1 := h.lt
    have l2 := h'.lt
    have b1 := h.p2
    have b2 := h'.p2
    have m1 : mulOk e e2 = true := mulOkL (by omega) (by omega)
    have m2 : mulOk 2 p = true := mulOkL (by decide) (by decide)
    have z0 : ¬ p = 0 := by have := h.p1; omega
    have z1 : ¬ 2 * p = 0 := by have := h.p1; omega
    by_cases hp : p = p2
    · subst hp
      by_cases ho : p.fmod 2 = 1
      · simp only [g__law_due, ↓w_bvar, ↓w_bnv, ↓w_var, ↓w_non, ↓w_bl, ↓w_int, ↓w_str, ↓w_val, ↓w_one, ↓w_bin, ↓w_neg, ↓w_test, ↓w_not, ↓w_and, ↓w_or, ↓w_ife, ↓w_cmp, ↓w_chain, ↓w_call, ↓w_bi, ↓w_isi, ↓w_isis, ↓w_ix, ↓w_sl, ↓w_rev, ↓w_tup, ↓w_lst, ↓w_snil, ↓w_scons, ↓w_bnil, ↓w_bcons, ↓w_anil, ↓w_aconsN, ↓w_aconsF, ↓w_aconsT, ↓w_prnop, ↓w_pr, ↓w_nil, ↓w_cons, ↓w_put, ↓w_asgN, ↓w_asgT, ↓w_par, ↓w_ifs, ↓w_ret, ↓w_retn, ↓w_raise, ↓w_brk, ↓w_cont, ↓w_expr, ↓w_seti, ↓w_turn, ↓w_cnop, ↓w_cond, ↓w_lc, ↓w_forF, iv_non, iv_bl, iv_int, np_int, iv_str, iv_glob, iv_bin, np_bin, iv_neg, np_neg, iv_not, iv_and, iv_or, iv_one, iv_ife, np_ife, iv_cmp, iv_chain, iv_call, np_call, iv_bi, np_bi, iv_isi, iv_isis, iv_ix, np_ix, iv_sl, iv_rev, iv_tup, iv_lst, iv_lc, iv_disp, iv_get, iv_lcK, iv_val, np_var, np_cmp, np_chain, np_not, np_and, np_or, np_isi, np_isis, np_one, Rw_got, Ov_some, Ob_true, Ob_false, rdB, rdV, Rw_got, List.getElem?_cons_zero, List.getElem?_cons_succ, List.set_cons_zero, List.set_cons_succ, List.length_cons, List.length_nil, List.length_set, at0, at1, at2, at3, ix0, ix1, ix2, ix3, vf_add, vf_sub, vf_mul, vf_fdiv, vf_mod, vf_pow, vf_addT, vf_addL, vf_lt, vf_le, vf_gt, vf_ge, vf_lt2, vf_le2, vf_gt2, vf_ge2, vf_isN, vf_notN, vf_nn_int, vf_nn_bl, vf_nn_tup, vf_nn_lst, vf_nn_str, vf_nn_non, vf_tr_bl, vf_tr_int, vf_tr_non, vf_tr_tup, vf_tr_lst, vf_lenT, vf_lenL, vf_abs, vf_int, vf_tupL, vf_tupT, vf_lstL, vf_lstT, vf_gcd, vf_ixL, vf_ixT, vf_ixS, vf_setL, vf_appL, vf_neg, vf_ow, vf_mkT, vf_mkF, vf_part, vf_revL, vf_revT, vf_is_int_int, vf_is_bl_int, vf_is_str_int, vf_is_tup_int, vf_is_lst_int, vf_is_scr_int, vf_is_non_int, vf_is_int_bool, vf_is_bl_bool, vf_is_str_bool, vf_is_tup_bool, vf_is_lst_bool, vf_is_scr_bool, vf_is_non_bool, vf_is_int_str, vf_is_bl_str, vf_is_str_str, vf_is_tup_str, vf_is_lst_str, vf_is_scr_str, vf_is_non_str, vf_is_int_tuple, vf_is_bl_tuple, vf_is_str_tuple, vf_is_tup_tuple, vf_is_lst_tuple, vf_is_scr_tuple, vf_is_non_tuple, vf_is_int_list, vf_is_bl_list, vf_is_str_list, vf_is_tup_list, vf_is_lst_list, vf_is_scr_list, vf_is_non_list, vf_eqI, vf_neI, vf_eqB, Option.map_some, Option.bind_some, List.map_cons, List.map_nil, Nat.reduceAdd, Nat.reducePow, Int.reducePow, hPow18, Int.reduceMul, Int.reduceSub, Int.reduceFDiv, Int.reduceFMod, Nat.reduceLT, Nat.reduceLeDiff, Nat.reduceSub, Int.reduceLE, Int.reduceLT, Int.reduceNeg, Int.reduceAdd, Int.reduceToNat, Int.reduceEq, Int.ofNat_eq_coe, ↓reduceIte, reduceCtorEq, decide_true, decide_false, Int.cast_ofNat_Int, and_true, true_and, Bool.not_true, Bool.not_false, bindT, bindTs, ho, m1, m2, z0, z1, outsT2, dueB]
        by_cases hq : (e - e2).fmod p = 0
        · simp only [hq, ↓w_bvar, ↓w_bnv, ↓w_var, ↓w_non, ↓w_bl, ↓w_int, ↓w_str, ↓w_val, ↓w_one, ↓w_bin, ↓w_neg, ↓w_test, ↓w_not, ↓w_and, ↓w_or, ↓w_ife, ↓w_cmp, ↓w_chain, ↓w_call, ↓w_bi, ↓w_isi, ↓w_isis, ↓w_ix, ↓w_sl, ↓w_rev, ↓w_tup, ↓w_lst, ↓w_snil, ↓w_scons, ↓w_bnil, ↓w_bcons, ↓w_anil, ↓w_aconsN, ↓w_aconsF, ↓w_aconsT, ↓w_prnop, ↓w_pr, ↓w_nil, ↓w_cons, ↓w_put, ↓w_asgN, ↓w_asgT, ↓w_par, ↓w_ifs, ↓w_ret, ↓w_retn, ↓w_raise, ↓w_brk, ↓w_cont, ↓w_expr, ↓w_seti, ↓w_turn, ↓w_cnop, ↓w_cond, ↓w_lc, ↓w_forF, iv_non, iv_bl, iv_int, np_int, iv_str, iv_glob, iv_bin, np_bin, iv_neg, np_neg, iv_not, iv_and, iv_or, iv_one, iv_ife, np_ife, iv_cmp, iv_chain, iv_call, np_call, iv_bi, np_bi, iv_isi, iv_isis, iv_ix, np_ix, iv_sl, iv_rev, iv_tup, iv_lst, iv_lc, iv_disp, iv_get, iv_lcK, iv_val, np_var, np_cmp, np_chain, np_not, np_and, np_or, np_isi, np_isis, np_one, Rw_got, Ov_some, Ob_true, Ob_false, rdB, rdV, Rw_got, List.getElem?_cons_zero, List.getElem?_cons_succ, List.set_cons_zero, List.set_cons_succ, List.length_cons, List.length_nil, List.length_set, at0, at1, at2, at3, ix0, ix1, ix2, ix3, vf_add, vf_sub, vf_mul, vf_fdiv, vf_mod, vf_pow, vf_addT, vf_addL, vf_lt, vf_le, vf_gt, vf_ge, vf_lt2, vf_le2, vf_gt2, vf_ge2, vf_isN, vf_notN, vf_nn_int, vf_nn_bl, vf_nn_tup, vf_nn_lst, vf_nn_str, vf_nn_non, vf_tr_bl, vf_tr_int, vf_tr_non, vf_tr_tup, vf_tr_lst, vf_lenT, vf_lenL, vf_abs, vf_int, vf_tupL, vf_tupT, vf_lstL, vf_lstT, vf_gcd, vf_ixL, vf_ixT, vf_ixS, vf_setL, vf_appL, vf_neg, vf_ow, vf_mkT, vf_mkF, vf_part, vf_revL, vf_revT, vf_is_int_int, vf_is_bl_int, vf_is_str_int, vf_is_tup_int, vf_is_lst_int, vf_is_scr_int, vf_is_non_int, vf_is_int_bool, vf_is_bl_bool, vf_is_str_bool, vf_is_tup_bool, vf_is_lst_bool, vf_is_scr_bool, vf_is_non_bool, vf_is_int_str, vf_is_bl_str, vf_is_str_str, vf_is_tup_str, vf_is_lst_str, vf_is_scr_str, vf_is_non_str, vf_is_int_tuple, vf_is_bl_tuple, vf_is_str_tuple, vf_is_tup_tuple, vf_is_lst_tuple, vf_is_scr_tuple, vf_is_non_tuple, vf_is_int_list, vf_is_bl_list, vf_is_str_list, vf_is_tup_list, vf_is_lst_list, vf_is_scr_list, vf_is_non_list, vf_eqI, vf_neI, vf_eqB, Option.map_some, Option.bind_some, List.map_cons, List.map_nil, Nat.reduceAdd, Nat.reducePow, Int.reducePow, hPow18, Int.reduceMul, Int.reduceSub, Int.reduceFDiv, Int.reduceFMod, Nat.reduceLT, Nat.reduceLeDiff, Nat.reduceSub, Int.reduceLE, Int.reduceLT, Int.reduceNeg, Int.reduceAdd, Int.reduceToNat, Int.reduceEq, Int.ofNat_eq_coe, ↓reduceIte, reduceCtorEq, decide_true, decide_false, Int.cast_ofNat_Int, and_true, true_and, Bool.not_true, Bool.not_false, Bool.true_or]
        · simp only [hq, ↓w_bvar, ↓w_bnv, ↓w_var, ↓w_non, ↓w_bl, ↓w_int, ↓w_str, ↓w_val, ↓w_one, ↓w_bin, ↓w_neg, ↓w_test, ↓w_not, ↓w_and, ↓w_or, ↓w_ife, ↓w_cmp, ↓w_chain, ↓w_call, ↓w_bi, ↓w_isi, ↓w_isis, ↓w_ix, ↓w_sl, ↓w_rev, ↓w_tup, ↓w_lst, ↓w_snil, ↓w_scons, ↓w_bnil, ↓w_bcons, ↓w_anil, ↓w_aconsN, ↓w_aconsF, ↓w_aconsT, ↓w_prnop, ↓w_pr, ↓w_nil, ↓w_cons, ↓w_put, ↓w_asgN, ↓w_asgT, ↓w_par, ↓w_ifs, ↓w_ret, ↓w_retn, ↓w_raise, ↓w_brk, ↓w_cont, ↓w_expr, ↓w_seti, ↓w_turn, ↓w_cnop, ↓w_cond, ↓w_lc, ↓w_forF, iv_non, iv_bl, iv_int, np_int, iv_str, iv_glob, iv_bin, np_bin, iv_neg, np_neg, iv_not, iv_and, iv_or, iv_one, iv_ife, np_ife, iv_cmp, iv_chain, iv_call, np_call, iv_bi, np_bi, iv_isi, iv_isis, iv_ix, np_ix, iv_sl, iv_rev, iv_tup, iv_lst, iv_lc, iv_disp, iv_get, iv_lcK, iv_val, np_var, np_cmp, np_chain, np_not, np_and, np_or, np_isi, np_isis, np_one, Rw_got, Ov_some, Ob_true, Ob_false, rdB, rdV, Rw_got, List.getElem?_cons_zero, List.getElem?_cons_succ, List.set_cons_zero, List.set_cons_succ, List.length_cons, List.length_nil, List.length_set, at0, at1, at2, at3, ix0, ix1, ix2, ix3, vf_add, vf_sub, vf_mul, vf_fdiv, vf_mod, vf_pow, vf_addT, vf_addL, vf_lt, vf_le, vf_gt, vf_ge, vf_lt2, vf_le2, vf_gt2, vf_ge2, vf_isN, vf_notN, vf_nn_int, vf_nn_bl, vf_nn_tup, vf_nn_lst, vf_nn_str, vf_nn_non, vf_tr_bl, vf_tr_int, vf_tr_non, vf_tr_tup, vf_tr_lst, vf_lenT, vf_lenL, vf_abs, vf_int, vf_tupL, vf_tupT, vf_lstL, vf_lstT, vf_gcd, vf_ixL, vf_ixT, vf_ixS, vf_setL, vf_appL, vf_neg, vf_ow, vf_mkT, vf_mkF, vf_part, vf_revL, vf_revT, vf_is_int_int, vf_is_bl_int, vf_is_str_int, vf_is_tup_int, vf_is_lst_int, vf_is_scr_int, vf_is_non_int, vf_is_int_bool, vf_is_bl_bool, vf_is_str_bool, vf_is_tup_bool, vf_is_lst_bool, vf_is_scr_bool, vf_is_non_bool, vf_is_int_str, vf_is_bl_str, vf_is_str_str, vf_is_tup_str, vf_is_lst_str, vf_is_scr_str, vf_is_non_str, vf_is_int_tuple, vf_is_bl_tuple, vf_is_str_tuple, vf_is_tup_tuple, vf_is_lst_tuple, vf_is_scr_tuple, vf_is_non_tuple, vf_is_int_list, vf_is_bl_list, vf_is_str_list, vf_is_tup_list, vf_is_lst_list, vf_is_scr_list, vf_is_non_list, vf_eqI, vf_neI, vf_eqB, Option.map_some, Option.bind_some, List.map_cons, List.map_nil, Nat.reduceAdd, Nat.reducePow, Int.reducePow, hPow18, Int.reduceMul, Int.reduceSub, Int.reduceFDiv, Int.reduceFMod, Nat.reduceLT, Nat.reduceLeDiff, Nat.reduceSub, Int.reduceLE, Int.reduceLT, Int.reduceNeg, Int.reduceAdd, Int.reduceToNat, Int.reduceEq, Int.ofNat_eq_coe, ↓reduceIte, reduceCtorEq, decide_true, decide_false, Int.cast_ofNat_Int, and_true, true_and, Bool.not_true, Bool.not_false, Bool.false_or]
      · simp only [g__law_due, ↓w_bvar, ↓w_bnv, ↓w_var, ↓w_non, ↓w_bl, ↓w_int, ↓w_str, ↓w_val, ↓w_one, ↓w_bin, ↓w_neg, ↓w_test, ↓w_not, ↓w_and, ↓w_or, ↓w_ife, ↓w_cmp, ↓w_chain, ↓w_call, ↓w_bi, ↓w_isi, ↓w_isis, ↓w_ix, ↓w_sl, ↓w_rev, ↓w_tup, ↓w_lst, ↓w_snil, ↓w_scons, ↓w_bnil, ↓w_bcons, ↓w_anil, ↓w_aconsN, ↓w_aconsF, ↓w_aconsT, ↓w_prnop, ↓w_pr, ↓w_nil, ↓w_cons, ↓w_put, ↓w_asgN, ↓w_asgT, ↓w_par, ↓w_ifs, ↓w_ret, ↓w_retn, ↓w_raise, ↓w_brk, ↓w_cont, ↓w_expr, ↓w_seti, ↓w_turn, ↓w_cnop, ↓w_cond, ↓w_lc, ↓w_forF, iv_non, iv_bl, iv_int, np_int, iv_str, iv_glob, iv_bin, np_bin, iv_neg, np_neg, iv_not, iv_and, iv_or, iv_one, iv_ife, np_ife, iv_cmp, iv_chain, iv_call, np_call, iv_bi, np_bi, iv_isi, iv_isis, iv_ix, np_ix, iv_sl, iv_rev, iv_tup, iv_lst, iv_lc, iv_disp, iv_get, iv_lcK, iv_val, np_var, np_cmp, np_chain, np_not, np_and, np_or, np_isi, np_isis, np_one, Rw_got, Ov_some, Ob_true, Ob_false, rdB, rdV, Rw_got, List.getElem?_cons_zero, List.getElem?_cons_succ, List.set_cons_zero, List.set_cons_succ, List.length_cons, List.length_nil, List.length_set, at0, at1, at2, at3, ix0, ix1, ix2, ix3, vf_add, vf_sub, vf_mul, vf_fdiv, vf_mod, vf_pow, vf_addT, vf_addL, vf_lt, vf_le, vf_gt, vf_ge, vf_lt2, vf_le2, vf_gt2, vf_ge2, vf_isN, vf_notN, vf_nn_int, vf_nn_bl, vf_nn_tup, vf_nn_lst, vf_nn_str, vf_nn_non, vf_tr_bl, vf_tr_int, vf_tr_non, vf_tr_tup, vf_tr_lst, vf_lenT, vf_lenL, vf_abs, vf_int, vf_tupL, vf_tupT, vf_lstL, vf_lstT, vf_gcd, vf_ixL, vf_ixT, vf_ixS, vf_setL, vf_appL, vf_neg, vf_ow, vf_mkT, vf_mkF, vf_part, vf_revL, vf_revT, vf_is_int_int, vf_is_bl_int, vf_is_str_int, vf_is_tup_int, vf_is_lst_int, vf_is_scr_int, vf_is_non_int, vf_is_int_bool, vf_is_bl_bool, vf_is_str_bool, vf_is_tup_bool, vf_is_lst_bool, vf_is_scr_bool, vf_is_non_bool, vf_is_int_str, vf_is_bl_str, vf_is_str_str, vf_is_tup_str, vf_is_lst_str, vf_is_scr_str, vf_is_non_str, vf_is_int_tuple, vf_is_bl_tuple, vf_is_str_tuple, vf_is_tup_tuple, vf_is_lst_tuple, vf_is_scr_tuple, vf_is_non_tuple, vf_is_int_list, vf_is_bl_list, vf_is_str_list, vf_is_tup_list, vf_is_lst_list, vf_is_scr_list, vf_is_non_list, vf_eqI, vf_neI, vf_eqB, Option.map_some, Option.bind_some, List.map_cons, List.map_nil, Nat.reduceAdd, Nat.reducePow, Int.reducePow, hPow18, Int.reduceMul, Int.reduceSub, Int.reduceFDiv, Int.reduceFMod, Nat.reduceLT, Nat.reduceLeDiff, Nat.reduceSub, Int.reduceLE, Int.reduceLT, Int.reduceNeg, Int.reduceAdd, Int.reduceToNat, Int.reduceEq, Int.ofNat_eq_coe, ↓reduceIte, reduceCtorEq, decide_true, decide_false, Int.cast_ofNat_Int, and_true, true_and, Bool.not_true, Bool.not_false, bindT, bindTs, ho, m1, m2, z0, z1, outsT2, dueB]
        by_cases hq : (e - e2).fmod (2 * p) = 0
        · simp only [hq, ↓w_bvar, ↓w_bnv, ↓w_var, ↓w_non, ↓w_bl, ↓w_int, ↓w_str, ↓w_val, ↓w_one, ↓w_bin, ↓w_neg, ↓w_test, ↓w_not, ↓w_and, ↓w_or, ↓w_ife, ↓w_cmp, ↓w_chain, ↓w_call, ↓w_bi, ↓w_isi, ↓w_isis, ↓w_ix, ↓w_sl, ↓w_rev, ↓w_tup, ↓w_lst, ↓w_snil, ↓w_scons, ↓w_bnil, ↓w_bcons, ↓w_anil, ↓w_aconsN, ↓w_aconsF, ↓w_aconsT, ↓w_prnop, ↓w_pr, ↓w_nil, ↓w_cons, ↓w_put, ↓w_asgN, ↓w_asgT, ↓w_par, ↓w_ifs, ↓w_ret, ↓w_retn, ↓w_raise, ↓w_brk, ↓w_cont, ↓w_expr, ↓w_seti, ↓w_turn, ↓w_cnop, ↓w_cond, ↓w_lc, ↓w_forF, iv_non, iv_bl, iv_int, np_int, iv_str, iv_glob, iv_bin, np_bin, iv_neg, np_neg, iv_not, iv_and, iv_or, iv_one, iv_ife, np_ife, iv_cmp, iv_chain, iv_call, np_call, iv_bi, np_bi, iv_isi, iv_isis, iv_ix, np_ix, iv_sl, iv_rev, iv_tup, iv_lst, iv_lc, iv_disp, iv_get, iv_lcK, iv_val, np_var, np_cmp, np_chain, np_not, np_and, np_or, np_isi, np_isis, np_one, Rw_got, Ov_some, Ob_true, Ob_false, rdB, rdV, Rw_got, List.getElem?_cons_zero, List.getElem?_cons_succ, List.set_cons_zero, List.set_cons_succ, List.length_cons, List.length_nil, List.length_set, at0, at1, at2, at3, ix0, ix1, ix2, ix3, vf_add, vf_sub, vf_mul, vf_fdiv, vf_mod, vf_pow, vf_addT, vf_addL, vf_lt, vf_le, vf_gt, vf_ge, vf_lt2, vf_le2, vf_gt2, vf_ge2, vf_isN, vf_notN, vf_nn_int, vf_nn_bl, vf_nn_tup, vf_nn_lst, vf_nn_str, vf_nn_non, vf_tr_bl, vf_tr_int, vf_tr_non, vf_tr_tup, vf_tr_lst, vf_lenT, vf_lenL, vf_abs, vf_int, vf_tupL, vf_tupT, vf_lstL, vf_lstT, vf_gcd, vf_ixL, vf_ixT, vf_ixS, vf_setL, vf_appL, vf_neg, vf_ow, vf_mkT, vf_mkF, vf_part, vf_revL, vf_revT, vf_is_int_int, vf_is_bl_int, vf_is_str_int, vf_is_tup_int, vf_is_lst_int, vf_is_scr_int, vf_is_non_int, vf_is_int_bool, vf_is_bl_bool, vf_is_str_bool, vf_is_tup_bool, vf_is_lst_bool, vf_is_scr_bool, vf_is_non_bool, vf_is_int_str, vf_is_bl_str, vf_is_str_str, vf_is_tup_str, vf_is_lst_str, vf_is_scr_str, vf_is_non_str, vf_is_int_tuple, vf_is_bl_tuple, vf_is_str_tuple, vf_is_tup_tuple, vf_is_lst_tuple, vf_is_scr_tuple, vf_is_non_tuple, vf_is_int_list, vf_is_bl_list, vf_is_str_list, vf_is_tup_list, vf_is_lst_list, vf_is_scr_list, vf_is_non_list, vf_eqI, vf_neI, vf_eqB, Option.map_some, Option.bind_some, List.map_cons, List.map_nil, Nat.reduceAdd, Nat.reducePow, Int.reducePow, hPow18, Int.reduceMul, Int.reduceSub, Int.reduceFDiv, Int.reduceFMod, Nat.reduceLT, Nat.reduceLeDiff, Nat.reduceSub, Int.reduceLE, Int.reduceLT, Int.reduceNeg, Int.reduceAdd, Int.reduceToNat, Int.reduceEq, Int.ofNat_eq_coe, ↓reduceIte, reduceCtorEq, decide_true, decide_false, Int.cast_ofNat_Int, and_true, true_and, Bool.not_true, Bool.not_false, Bool.true_or]
        · simp only [hq, ↓w_bvar, ↓w_bnv, ↓w_var, ↓w_non, ↓w_bl, ↓w_int, ↓w_str, ↓w_val, ↓w_one, ↓w_bin, ↓w_neg, ↓w_test, ↓w_not, ↓w_and, ↓w_or, ↓w_ife, ↓w_cmp, ↓w_chain, ↓w_call, ↓w_bi, ↓w_isi, ↓w_isis, ↓w_ix, ↓w_sl, ↓w_rev, ↓w_tup, ↓w_lst, ↓w_snil, ↓w_scons, ↓w_bnil, ↓w_bcons, ↓w_anil, ↓w_aconsN, ↓w_aconsF, ↓w_aconsT, ↓w_prnop, ↓w_pr, ↓w_nil, ↓w_cons, ↓w_put, ↓w_asgN, ↓w_asgT, ↓w_par, ↓w_ifs, ↓w_ret, ↓w_retn, ↓w_raise, ↓w_brk, ↓w_cont, ↓w_expr, ↓w_seti, ↓w_turn, ↓w_cnop, ↓w_cond, ↓w_lc, ↓w_forF, iv_non, iv_bl, iv_int, np_int, iv_str, iv_glob, iv_bin, np_bin, iv_neg, np_neg, iv_not, iv_and, iv_or, iv_one, iv_ife, np_ife, iv_cmp, iv_chain, iv_call, np_call, iv_bi, np_bi, iv_isi, iv_isis, iv_ix, np_ix, iv_sl, iv_rev, iv_tup, iv_lst, iv_lc, iv_disp, iv_get, iv_lcK, iv_val, np_var, np_cmp, np_chain, np_not, np_and, np_or, np_isi, np_isis, np_one, Rw_got, Ov_some, Ob_true, Ob_false, rdB, rdV, Rw_got, List.getElem?_cons_zero, List.getElem?_cons_succ, List.set_cons_zero, List.set_cons_succ, List.length_cons, List.length_nil, List.length_set, at0, at1, at2, at3, ix0, ix1, ix2, ix3, vf_add, vf_sub, vf_mul, vf_fdiv, vf_mod, vf_pow, vf_addT, vf_addL, vf_lt, vf_le, vf_gt, vf_ge, vf_lt2, vf_le2, vf_gt2, vf_ge2, vf_isN, vf_notN, vf_nn_int, vf_nn_bl, vf_nn_tup, vf_nn_lst, vf_nn_str, vf_nn_non, vf_tr_bl, vf_tr_int, vf_tr_non, vf_tr_tup, vf_tr_lst, vf_lenT, vf_lenL, vf_abs, vf_int, vf_tupL, vf_tupT, vf_lstL, vf_lstT, vf_gcd, vf_ixL, vf_ixT, vf_ixS, vf_setL, vf_appL, vf_neg, vf_ow, vf_mkT, vf_mkF, vf_part, vf_revL, vf_revT, vf_is_int_int, vf_is_bl_int, vf_is_str_int, vf_is_tup_int, vf_is_lst_int, vf_is_scr_int, vf_is_non_int, vf_is_int_bool, vf_is_bl_bool, vf_is_str_bool, vf_is_tup_bool, vf_is_lst_bool, vf_is_scr_bool, vf_is_non_bool, vf_is_int_str, vf_is_bl_str, vf_is_str_str, vf_is_tup_str, vf_is_lst_str, vf_is_scr_str, vf_is_non_str, vf_is_int_tuple, vf_is_bl_tuple, vf_is_str_tuple, vf_is_tup_tuple, vf_is_lst_tuple, vf_is_scr_tuple, vf_is_non_tuple, vf_is_int_list, vf_is_bl_list, vf_is_str_list, vf_is_tup_list, vf_is_lst_list, vf_is_scr_list, vf_is_non_list, vf_eqI, vf_neI, vf_eqB, Option.map_some, Option.bind_some, List.map_cons, List.map_nil, Nat.reduceAdd, Nat.reducePow, Int.reducePow, hPow18, Int.reduceMul, Int.reduceSub, Int.reduceFDiv, Int.reduceFMod, Nat.reduceLT, Nat.reduceLeDiff, Nat.reduceSub, Int.reduceLE, Int.reduceLT, Int.reduceNeg, Int.reduceAdd, Int.reduceToNat, Int.reduceEq, Int.ofNat_eq_coe, ↓reduceIte, reduceCtorEq, decide_true, decide_false, Int.cast_ofNat_Int, and_true, true_and, Bool.not_true, Bool.not_false, Bool.false_or]
    · simp only [g__law_due, ↓w_bvar, ↓w_bnv, ↓w_var, ↓w_non, ↓w_bl, ↓w_int, ↓w_str, ↓w_val, ↓w_one, ↓w_bin, ↓w_neg, ↓w_test, ↓w_not, ↓w_and, ↓w_or, ↓w_ife, ↓w_cmp, ↓w_chain, ↓w_call, ↓w_bi, ↓w_isi, ↓w_isis, ↓w_ix, ↓w_sl, ↓w_rev, ↓w_tup, ↓w_lst, ↓w_snil, ↓w_scons, ↓w_bnil, ↓w_bcons, ↓w_anil, ↓w_aconsN, ↓w_aconsF, ↓w_aconsT, ↓w_prnop, ↓w_pr, ↓w_nil, ↓w_cons, ↓w_put, ↓w_asgN, ↓w_asgT, ↓w_par, ↓w_ifs, ↓w_ret, ↓w_retn, ↓w_raise, ↓w_brk, ↓w_cont, ↓w_expr, ↓w_seti, ↓w_turn, ↓w_cnop, ↓w_cond, ↓w_lc, ↓w_forF, iv_non, iv_bl, iv_int, np_int, iv_str, iv_glob, iv_bin, np_bin, iv_neg, np_neg, iv_not, iv_and, iv_or, iv_one, iv_ife, np_ife, iv_cmp, iv_chain, iv_call, np_call, iv_bi, np_bi, iv_isi, iv_isis, iv_ix, np_ix, iv_sl, iv_rev, iv_tup, iv_lst, iv_lc, iv_disp, iv_get, iv_lcK, iv_val, np_var, np_cmp, np_chain, np_not, np_and, np_or, np_isi, np_isis, np_one, Rw_got, Ov_some, Ob_true, Ob_false, rdB, rdV, Rw_got, List.getElem?_cons_zero, List.getElem?_cons_succ, List.set_cons_zero, List.set_cons_succ, List.length_cons, List.length_nil, List.length_set, at0, at1, at2, at3, ix0, ix1, ix2, ix3, vf_add, vf_sub, vf_mul, vf_fdiv, vf_mod, vf_pow, vf_addT, vf_addL, vf_lt, vf_le, vf_gt, vf_ge, vf_lt2, vf_le2, vf_gt2, vf_ge2, vf_isN, vf_notN, vf_nn_int, vf_nn_bl, vf_nn_tup, vf_nn_lst, vf_nn_str, vf_nn_non, vf_tr_bl, vf_tr_int, vf_tr_non, vf_tr_tup, vf_tr_lst, vf_lenT, vf_lenL, vf_abs, vf_int, vf_tupL, vf_tupT, vf_lstL, vf_lstT, vf_gcd, vf_ixL, vf_ixT, vf_ixS, vf_setL, vf_appL, vf_neg, vf_ow, vf_mkT, vf_mkF, vf_part, vf_revL, vf_revT, vf_is_int_int, vf_is_bl_int, vf_is_str_int, vf_is_tup_int, vf_is_lst_int, vf_is_scr_int, vf_is_non_int, vf_is_int_bool, vf_is_bl_bool, vf_is_str_bool, vf_is_tup_bool, vf_is_lst_bool, vf_is_scr_bool, vf_is_non_bool, vf_is_int_str, vf_is_bl_str, vf_is_str_str, vf_is_tup_str, vf_is_lst_str, vf_is_scr_str, vf_is_non_str, vf_is_int_tuple, vf_is_bl_tuple, vf_is_str_tuple, vf_is_tup_tuple, vf_is_lst_tuple, vf_is_scr_tuple, vf_is_non_tuple, vf_is_int_list, vf_is_bl_list, vf_is_str_list, vf_is_tup_list, vf_is_lst_list, vf_is_scr_list, vf_is_non_list, vf_eqI, vf_neI, vf_eqB, Option.map_some, Option.bind_some, List.map_cons, List.map_nil, Nat.reduceAdd, Nat.reducePow, Int.reducePow, hPow18, Int.reduceMul, Int.reduceSub, Int.reduceFDiv, Int.reduceFMod, Nat.reduceLT, Nat.reduceLeDiff, Nat.reduceSub, Int.reduceLE, Int.reduceLT, Int.reduceNeg, Int.reduceAdd, Int.reduceToNat, Int.reduceEq, Int.ofNat_eq_coe, ↓reduceIte, reduceCtorEq, decide_true, decide_false, Int.cast_ofNat_Int, and_true, true_and, Bool.not_true, Bool.not_false, bindT, bindTs, hp, outsT2, dueB]
  obtain ⟨a, h, rfl⟩ := Rw_iff.mp this
  exact h
end HD
set_option Elab.async false
set_option linter.all false
set_option maxRecDepth 100000
set_option maxHeartbeats 8000000
namespace HD
open PySem L2 EV
theorem w_rng2 {Γ : Env'} {ρ : Ro} {a b : E} {Qv : (Val × Bool) × Ro → Prop} {X : XP} : Rw (ev Γ (.rng2 a b) ρ) Qv X = Rw (ev Γ a ρ) (fun x => Rw (ev Γ b x.2) (fun y => Ov (match x.1.1, y.1.1 with | .int m, .int n => (if rngOk m && rngOk n then some (Val.lst (rngL m (n - m).toNat)) else none) | _, _ => none) fun v => Qv ((v, false), y.2)) X) X := by
  show Rw (R.bind _ _) _ _ = _
  rw [Rw_bind]
  congr 1
  funext x
  rw [Rw_bind]
  congr 1
  funext y
  obtain ⟨⟨v, f⟩, ρ⟩ := x
  obtain ⟨⟨w, f2⟩, ρ2⟩ := y
  cases v <;> first | rfl | (cases w <;> first | rfl | skip)
  rename_i m n
  by_cases h : (rngOk m && rngOk n) = true <;> simp [h, Rw, Ov]
/-- the items that pass a test -/
theorem loop_filter {f : Val → Ro → EV.R (List Val × Ro)} {ρ : Ro} {pr : Val → Bool} {X : XP} {Ql : List Val × Ro → Prop} {items : List Val} (h : ∀ x ∈ items, Rw (f x ρ) (fun z => z = (if pr x then [x] else [], ρ)) X) (q : Ql (items.filter pr, ρ)) : Rw (loopL f items ρ) Ql X := by
  refine loop_inv (I := fun n acc ρ' => acc = (items.take n).filter pr ∧ ρ' = ρ) (n := 0) (acc := []) ⟨rfl, rfl⟩ (fun j x acc ρ' e ⟨e1, e2⟩ => ?_) fun acc' ρ' ⟨e1, e2⟩ => ?_
  · subst e2
    refine Rw_mono (h x (List.mem_of_getElem? e)) ?_ fun _ _ z => z
    rintro z rfl
    refine ⟨?_, rfl⟩
    rw [e1, Nat.zero_add, List.take_succ, e, List.filter_append]
    simp [List.filter_cons]
  · subst e2
    rw [List.nil_append, Nat.zero_add, List.take_length] at e1
    rw [e1]
    exact q
theorem mem_rngL {x : Val} : ∀ {n : Nat} {a : Int}, x ∈ rngL a n → ∃ i : Int, x = .int i ∧ a ≤ i ∧ i < a + n
  | 0, a, h => by cases h
  | n + 1, a, h => by
    rcases List.mem_cons.mp h with e | h
    · exact ⟨a, e, by omega, by omega⟩
    · obtain ⟨i, e, h1, h2⟩ := mem_rngL h
      exact ⟨i, e, by omega, by omega⟩
theorem rngL_mem {i : Int} : ∀ {n : Nat} {a : Int}, a ≤ i → i < a + n → Val.int i ∈ rngL a n
  | 0, a, h1, h2 => by omega
  | n + 1, a, h1, h2 => by
    by_cases h : i = a
    · rw [h]; exact List.mem_cons_self
    · exact List.mem_cons_of_mem _ (rngL_mem (by omega) (by omega))
theorem gst_pair : g__law_pair.stab = [true, true] := by kernel_rfl
theorem stab18 : D.prg.stab 18 = [true, true] := by kernel_rfl
theorem outsO2 (a b : Val) (ρ : Ro) : outsL [true, true] [.ow a, .fz b] ρ = [ρ.headD .no, .no] := rfl
theorem pair_ok {d : Nat} {v : Val} {most : Int} (h : PoolOk v) (hm : 2 ≤ most) (hm2 : most ≤ 1000) : Rw (D.prg.den (d + 4) 18 [.ow v, .fz (.int most)]) (fun z => ∃ p q v', z = ((.tup [.int p, .int q], false), [.ow v', .no]) ∧ PoolOk v' ∧ 2 ≤ p ∧ p ≤ most ∧ 1 ≤ q ∧ q < p ∧ Nat.gcd p.natAbs q.natAbs = 1) NX := by
  rw [den_succ (g := g__law_pair) rfl, w_run rfl, gst_pair]
  show Ow (evSs _ _ g__law_pair.body [.ow v, .fz (.int most), .no, .no, .no]) _
  simp only [g__law_pair, ↓w_bvar, ↓w_bnv, ↓w_var, ↓w_non, ↓w_bl, ↓w_int, ↓w_str, ↓w_val, ↓w_one, ↓w_bin, ↓w_neg, ↓w_test, ↓w_not, ↓w_and, ↓w_or, ↓w_ife, ↓w_cmp, ↓w_chain, ↓w_call, ↓w_bi, ↓w_isi, ↓w_isis, ↓w_ix, ↓w_sl, ↓w_rev, ↓w_tup, ↓w_lst, ↓w_snil, ↓w_scons, ↓w_bnil, ↓w_bcons, ↓w_anil, ↓w_aconsN, ↓w_aconsF, ↓w_aconsT, ↓w_prnop, ↓w_pr, ↓w_nil, ↓w_cons, ↓w_put, ↓w_asgN, ↓w_asgT, ↓w_par, ↓w_ifs, ↓w_ret, ↓w_retn, ↓w_raise, ↓w_brk, ↓w_cont, ↓w_expr, ↓w_seti, ↓w_turn, ↓w_cnop, ↓w_cond, ↓w_lc, ↓w_forF, iv_non, iv_bl, iv_int, np_int, iv_str, iv_glob, iv_bin, np_bin, iv_neg, np_neg, iv_not, iv_and, iv_or, iv_one, iv_ife, np_ife, iv_cmp, iv_chain, iv_call, np_call, iv_bi, np_bi, iv_isi, iv_isis, iv_ix, np_ix, iv_sl, iv_rev, iv_tup, iv_lst, iv_lc, iv_disp, iv_get, iv_lcK, iv_val, np_var, np_cmp, np_chain, np_not, np_and, np_or, np_isi, np_isis, np_one, Rw_got, Ov_some, Ob_true, Ob_false, rdB, rdV, Rw_got, List.getElem?_cons_zero, List.getElem?_cons_succ, List.set_cons_zero, List.set_cons_succ, List.length_cons, List.length_nil, List.length_set, at0, at1, at2, at3, ix0, ix1, ix2, ix3, vf_add, vf_sub, vf_mul, vf_fdiv, vf_mod, vf_pow, vf_addT, vf_addL, vf_lt, vf_le, vf_gt, vf_ge, vf_lt2, vf_le2, vf_gt2, vf_ge2, vf_isN, vf_notN, vf_nn_int, vf_nn_bl, vf_nn_tup, vf_nn_lst, vf_nn_str, vf_nn_non, vf_tr_bl, vf_tr_int, vf_tr_non, vf_tr_tup, vf_tr_lst, vf_lenT, vf_lenL, vf_abs, vf_int, vf_tupL, vf_tupT, vf_lstL, vf_lstT, vf_gcd, vf_ixL, vf_ixT, vf_ixS, vf_setL, vf_appL, vf_neg, vf_ow, vf_mkT, vf_mkF, vf_part, vf_revL, vf_revT, vf_is_int_int, vf_is_bl_int, vf_is_str_int, vf_is_tup_int, vf_is_lst_int, vf_is_scr_int, vf_is_non_int, vf_is_int_bool, vf_is_bl_bool, vf_is_str_bool, vf_is_tup_bool, vf_is_lst_bool, vf_is_scr_bool, vf_is_non_bool, vf_is_int_str, vf_is_bl_str, vf_is_str_str, vf_is_tup_str, vf_is_lst_str, vf_is_scr_str, vf_is_non_str, vf_is_int_tuple, vf_is_bl_tuple, vf_is_str_tuple, vf_is_tup_tuple, vf_is_lst_tuple, vf_is_scr_tuple, vf_is_non_tuple, vf_is_int_list, vf_is_bl_list, vf_is_str_list, vf_is_tup_list, vf_is_lst_list, vf_is_scr_list, vf_is_non_list, vf_eqI, vf_neI, vf_eqB, Option.map_some, Option.bind_some, List.map_cons, List.map_nil, Nat.reduceAdd, Nat.reducePow, Int.reducePow, hPow18, Int.reduceMul, Int.reduceSub, Int.reduceFDiv, Int.reduceFMod, Nat.reduceLT, Nat.reduceLeDiff, Nat.reduceSub, Int.reduceLE, Int.reduceLT, Int.reduceNeg, Int.reduceAdd, Int.reduceToNat, Int.reduceEq, Int.ofNat_eq_coe, ↓reduceIte, reduceCtorEq, decide_true, decide_false, Int.cast_ofNat_Int, and_true, true_and, Bool.not_true, Bool.not_false, stab1]
  refine Rw_mono (take_ok (d := d + 1) h (by omega) (by omega)) ?_ fun _ _ z => z
  rintro z ⟨t, v', rfl, hv, t0, t1⟩
  have o1 : rngOk 1 = true := by decide
  have o2 : rngOk (2 + t) = true := decide_eq_true (by constructor <;> omega)
  have e1 : (2 + t - 1).toNat ≤ sizeLine := Nat.le_trans (by omega : (2 + t - 1).toNat ≤ 1000) (by decide)
  simp only [↓w_bvar, ↓w_bnv, ↓w_var, ↓w_non, ↓w_bl, ↓w_int, ↓w_str, ↓w_val, ↓w_one, ↓w_bin, ↓w_neg, ↓w_test, ↓w_not, ↓w_and, ↓w_or, ↓w_ife, ↓w_cmp, ↓w_chain, ↓w_call, ↓w_bi, ↓w_isi, ↓w_isis, ↓w_ix, ↓w_sl, ↓w_rev, ↓w_tup, ↓w_lst, ↓w_snil, ↓w_scons, ↓w_bnil, ↓w_bcons, ↓w_anil, ↓w_aconsN, ↓w_aconsF, ↓w_aconsT, ↓w_prnop, ↓w_pr, ↓w_nil, ↓w_cons, ↓w_put, ↓w_asgN, ↓w_asgT, ↓w_par, ↓w_ifs, ↓w_ret, ↓w_retn, ↓w_raise, ↓w_brk, ↓w_cont, ↓w_expr, ↓w_seti, ↓w_turn, ↓w_cnop, ↓w_cond, ↓w_lc, ↓w_forF, iv_non, iv_bl, iv_int, np_int, iv_str, iv_glob, iv_bin, np_bin, iv_neg, np_neg, iv_not, iv_and, iv_or, iv_one, iv_ife, np_ife, iv_cmp, iv_chain, iv_call, np_call, iv_bi, np_bi, iv_isi, iv_isis, iv_ix, np_ix, iv_sl, iv_rev, iv_tup, iv_lst, iv_lc, iv_disp, iv_get, iv_lcK, iv_val, np_var, np_cmp, np_chain, np_not, np_and, np_or, np_isi, np_isis, np_one, Rw_got, Ov_some, Ob_true, Ob_false, rdB, rdV, Rw_got, List.getElem?_cons_zero, List.getElem?_cons_succ, List.set_cons_zero, List.set_cons_succ, List.length_cons, List.length_nil, List.length_set, at0, at1, at2, at3, ix0, ix1, ix2, ix3, vf_add, vf_sub, vf_mul, vf_fdiv, vf_mod, vf_pow, vf_addT, vf_addL, vf_lt, vf_le, vf_gt, vf_ge, vf_lt2, vf_le2, vf_gt2, vf_ge2, vf_isN, vf_notN, vf_nn_int, vf_nn_bl, vf_nn_tup, vf_nn_lst, vf_nn_str, vf_nn_non, vf_tr_bl, vf_tr_int, vf_tr_non, vf_tr_tup, vf_tr_lst, vf_lenT, vf_lenL, vf_abs, vf_int, vf_tupL, vf_tupT, vf_lstL, vf_lstT, vf_gcd, vf_ixL, vf_ixT, vf_ixS, vf_setL, vf_appL, vf_neg, vf_ow, vf_mkT, vf_mkF, vf_part, vf_revL, vf_revT, vf_is_int_int, vf_is_bl_int, vf_is_str_int, vf_is_tup_int, vf_is_lst_int, vf_is_scr_int, vf_is_non_int, vf_is_int_bool, vf_is_bl_bool, vf_is_str_bool, vf_is_tup_bool, vf_is_lst_bool, vf_is_scr_bool, vf_is_non_bool, vf_is_int_str, vf_is_bl_str, vf_is_str_str, vf_is_tup_str, vf_is_lst_str, vf_is_scr_str, vf_is_non_str, vf_is_int_tuple, vf_is_bl_tuple, vf_is_str_tuple, vf_is_tup_tuple, vf_is_lst_tuple, vf_is_scr_tuple, vf_is_non_tuple, vf_is_int_list, vf_is_bl_list, vf_is_str_list, vf_is_tup_list, vf_is_lst_list, vf_is_scr_list, vf_is_non_list, vf_eqI, vf_neI, vf_eqB, Option.map_some, Option.bind_some, List.map_cons, List.map_nil, Nat.reduceAdd, Nat.reducePow, Int.reducePow, hPow18, Int.reduceMul, Int.reduceSub, Int.reduceFDiv, Int.reduceFMod, Nat.reduceLT, Nat.reduceLeDiff, Nat.reduceSub, Int.reduceLE, Int.reduceLT, Int.reduceNeg, Int.reduceAdd, Int.reduceToNat, Int.reduceEq, Int.ofNat_eq_coe, ↓reduceIte, reduceCtorEq, decide_true, decide_false, Int.cast_ofNat_Int, and_true, true_and, Bool.not_true, Bool.not_false, giveR, w_rng2, o1, o2, Bool.and_self, itemsV, rngL_len, e1]
  refine loop_filter (pr := fun x => match x with | .int q => decide (Nat.gcd (2 + t).natAbs q.natAbs = 1) | _ => false) (fun x hx => ?_) ?_
  · obtain ⟨q, rfl, q1, q2⟩ := mem_rngL hx
    unfold lcF
    simp only [↓w_bvar, ↓w_bnv, ↓w_var, ↓w_non, ↓w_bl, ↓w_int, ↓w_str, ↓w_val, ↓w_one, ↓w_bin, ↓w_neg, ↓w_test, ↓w_not, ↓w_and, ↓w_or, ↓w_ife, ↓w_cmp, ↓w_chain, ↓w_call, ↓w_bi, ↓w_isi, ↓w_isis, ↓w_ix, ↓w_sl, ↓w_rev, ↓w_tup, ↓w_lst, ↓w_snil, ↓w_scons, ↓w_bnil, ↓w_bcons, ↓w_anil, ↓w_aconsN, ↓w_aconsF, ↓w_aconsT, ↓w_prnop, ↓w_pr, ↓w_nil, ↓w_cons, ↓w_put, ↓w_asgN, ↓w_asgT, ↓w_par, ↓w_ifs, ↓w_ret, ↓w_retn, ↓w_raise, ↓w_brk, ↓w_cont, ↓w_expr, ↓w_seti, ↓w_turn, ↓w_cnop, ↓w_cond, ↓w_lc, ↓w_forF, iv_non, iv_bl, iv_int, np_int, iv_str, iv_glob, iv_bin, np_bin, iv_neg, np_neg, iv_not, iv_and, iv_or, iv_one, iv_ife, np_ife, iv_cmp, iv_chain, iv_call, np_call, iv_bi, np_bi, iv_isi, iv_isis, iv_ix, np_ix, iv_sl, iv_rev, iv_tup, iv_lst, iv_lc, iv_disp, iv_get, iv_lcK, iv_val, np_var, np_cmp, np_chain, np_not, np_and, np_or, np_isi, np_isis, np_one, Rw_got, Ov_some, Ob_true, Ob_false, rdB, rdV, Rw_got, List.getElem?_cons_zero, List.getElem?_cons_succ, List.set_cons_zero, List.set_cons_succ, List.length_cons, List.length_nil, List.length_set, at0, at1, at2, at3, ix0, ix1, ix2, ix3, vf_add, vf_sub, vf_mul, vf_fdiv, vf_mod, vf_pow, vf_addT, vf_addL, vf_lt, vf_le, vf_gt, vf_ge, vf_lt2, vf_le2, vf_gt2, vf_ge2, vf_isN, vf_notN, vf_nn_int, vf_nn_bl, vf_nn_tup, vf_nn_lst, vf_nn_str, vf_nn_non, vf_tr_bl, vf_tr_int, vf_tr_non, vf_tr_tup, vf_tr_lst, vf_lenT, vf_lenL, vf_abs, vf_int, vf_tupL, vf_tupT, vf_lstL, vf_lstT, vf_gcd, vf_ixL, vf_ixT, vf_ixS, vf_setL, vf_appL, vf_neg, vf_ow, vf_mkT, vf_mkF, vf_part, vf_revL, vf_revT, vf_is_int_int, vf_is_bl_int, vf_is_str_int, vf_is_tup_int, vf_is_lst_int, vf_is_scr_int, vf_is_non_int, vf_is_int_bool, vf_is_bl_bool, vf_is_str_bool, vf_is_tup_bool, vf_is_lst_bool, vf_is_scr_bool, vf_is_non_bool, vf_is_int_str, vf_is_bl_str, vf_is_str_str, vf_is_tup_str, vf_is_lst_str, vf_is_scr_str, vf_is_non_str, vf_is_int_tuple, vf_is_bl_tuple, vf_is_str_tuple, vf_is_tup_tuple, vf_is_lst_tuple, vf_is_scr_tuple, vf_is_non_tuple, vf_is_int_list, vf_is_bl_list, vf_is_str_list, vf_is_tup_list, vf_is_lst_list, vf_is_scr_list, vf_is_non_list, vf_eqI, vf_neI, vf_eqB, Option.map_some, Option.bind_some, List.map_cons, List.map_nil, Nat.reduceAdd, Nat.reducePow, Int.reducePow, hPow18, Int.reduceMul, Int.reduceSub, Int.reduceFDiv, Int.reduceFMod, Nat.reduceLT, Nat.reduceLeDiff, Nat.reduceSub, Int.reduceLE, Int.reduceLT, Int.reduceNeg, Int.reduceAdd, Int.reduceToNat, Int.reduceEq, Int.ofNat_eq_coe, ↓reduceIte, reduceCtorEq, decide_true, decide_false, Int.cast_ofNat_Int, and_true, true_and, Bool.not_true, Bool.not_false, w_cond, wipeR, bindT, stab17]
    refine Rw_mono (common_ok (d := d + 2) (by omega) (by omega)) ?_ fun _ _ z => z
    rintro z rfl
    by_cases hg : Nat.gcd (2 + t).natAbs q.natAbs = 1
    · have hg' : ((Nat.gcd (2 + t).natAbs q.natAbs : Nat) : Int) = 1 := by omega
      simp only [↓w_bvar, ↓w_bnv, ↓w_var, ↓w_non, ↓w_bl, ↓w_int, ↓w_str, ↓w_val, ↓w_one, ↓w_bin, ↓w_neg, ↓w_test, ↓w_not, ↓w_and, ↓w_or, ↓w_ife, ↓w_cmp, ↓w_chain, ↓w_call, ↓w_bi, ↓w_isi, ↓w_isis, ↓w_ix, ↓w_sl, ↓w_rev, ↓w_tup, ↓w_lst, ↓w_snil, ↓w_scons, ↓w_bnil, ↓w_bcons, ↓w_anil, ↓w_aconsN, ↓w_aconsF, ↓w_aconsT, ↓w_prnop, ↓w_pr, ↓w_nil, ↓w_cons, ↓w_put, ↓w_asgN, ↓w_asgT, ↓w_par, ↓w_ifs, ↓w_ret, ↓w_retn, ↓w_raise, ↓w_brk, ↓w_cont, ↓w_expr, ↓w_seti, ↓w_turn, ↓w_cnop, ↓w_cond, ↓w_lc, ↓w_forF, iv_non, iv_bl, iv_int, np_int, iv_str, iv_glob, iv_bin, np_bin, iv_neg, np_neg, iv_not, iv_and, iv_or, iv_one, iv_ife, np_ife, iv_cmp, iv_chain, iv_call, np_call, iv_bi, np_bi, iv_isi, iv_isis, iv_ix, np_ix, iv_sl, iv_rev, iv_tup, iv_lst, iv_lc, iv_disp, iv_get, iv_lcK, iv_val, np_var, np_cmp, np_chain, np_not, np_and, np_or, np_isi, np_isis, np_one, Rw_got, Ov_some, Ob_true, Ob_false, rdB, rdV, Rw_got, List.getElem?_cons_zero, List.getElem?_cons_succ, List.set_cons_zero, List.set_cons_succ, List.length_cons, List.length_nil, List.length_set, at0, at1, at2, at3, ix0, ix1, ix2, ix3, vf_add, vf_sub, vf_mul, vf_fdiv, vf_mod, vf_pow, vf_addT, vf_addL, vf_lt, vf_le, vf_gt, vf_ge, vf_lt2, vf_le2, vf_gt2, vf_ge2, vf_isN, vf_notN, vf_nn_int, vf_nn_bl, vf_nn_tup, vf_nn_lst, vf_nn_str, vf_nn_non, vf_tr_bl, vf_tr_int, vf_tr_non, vf_tr_tup, vf_tr_lst, vf_lenT, vf_lenL, vf_abs, vf_int, vf_tupL, vf_tupT, vf_lstL, vf_lstT, vf_gcd, vf_ixL, vf_ixT, vf_ixS, vf_setL, vf_appL, vf_neg, vf_ow, vf_mkT, vf_mkF, vf_part, vf_revL, vf_revT, vf_is_int_int, vf_is_bl_int, vf_is_str_int, vf_is_tup_int, vf_is_lst_int, vf_is_scr_int, vf_is_non_int, vf_is_int_bool, vf_is_bl_bool, vf_is_str_bool, vf_is_tup_bool, vf_is_lst_bool, vf_is_scr_bool, vf_is_non_bool, vf_is_int_str, vf_is_bl_str, vf_is_str_str, vf_is_tup_str, vf_is_lst_str, vf_is_scr_str, vf_is_non_str, vf_is_int_tuple, vf_is_bl_tuple, vf_is_str_tuple, vf_is_tup_tuple, vf_is_lst_tuple, vf_is_scr_tuple, vf_is_non_tuple, vf_is_int_list, vf_is_bl_list, vf_is_str_list, vf_is_tup_list, vf_is_lst_list, vf_is_scr_list, vf_is_non_list, vf_eqI, vf_neI, vf_eqB, Option.map_some, Option.bind_some, List.map_cons, List.map_nil, Nat.reduceAdd, Nat.reducePow, Int.reducePow, hPow18, Int.reduceMul, Int.reduceSub, Int.reduceFDiv, Int.reduceFMod, Nat.reduceLT, Nat.reduceLeDiff, Nat.reduceSub, Int.reduceLE, Int.reduceLT, Int.reduceNeg, Int.reduceAdd, Int.reduceToNat, Int.reduceEq, Int.ofNat_eq_coe, ↓reduceIte, reduceCtorEq, decide_true, decide_false, Int.cast_ofNat_Int, and_true, true_and, Bool.not_true, Bool.not_false, giveR, hg', hg, backR, Option.getD_some]
    · have hg' : ¬ ((Nat.gcd (2 + t).natAbs q.natAbs : Nat) : Int) = 1 := by omega
      simp only [↓w_bvar, ↓w_bnv, ↓w_var, ↓w_non, ↓w_bl, ↓w_int, ↓w_str, ↓w_val, ↓w_one, ↓w_bin, ↓w_neg, ↓w_test, ↓w_not, ↓w_and, ↓w_or, ↓w_ife, ↓w_cmp, ↓w_chain, ↓w_call, ↓w_bi, ↓w_isi, ↓w_isis, ↓w_ix, ↓w_sl, ↓w_rev, ↓w_tup, ↓w_lst, ↓w_snil, ↓w_scons, ↓w_bnil, ↓w_bcons, ↓w_anil, ↓w_aconsN, ↓w_aconsF, ↓w_aconsT, ↓w_prnop, ↓w_pr, ↓w_nil, ↓w_cons, ↓w_put, ↓w_asgN, ↓w_asgT, ↓w_par, ↓w_ifs, ↓w_ret, ↓w_retn, ↓w_raise, ↓w_brk, ↓w_cont, ↓w_expr, ↓w_seti, ↓w_turn, ↓w_cnop, ↓w_cond, ↓w_lc, ↓w_forF, iv_non, iv_bl, iv_int, np_int, iv_str, iv_glob, iv_bin, np_bin, iv_neg, np_neg, iv_not, iv_and, iv_or, iv_one, iv_ife, np_ife, iv_cmp, iv_chain, iv_call, np_call, iv_bi, np_bi, iv_isi, iv_isis, iv_ix, np_ix, iv_sl, iv_rev, iv_tup, iv_lst, iv_lc, iv_disp, iv_get, iv_lcK, iv_val, np_var, np_cmp, np_chain, np_not, np_and, np_or, np_isi, np_isis, np_one, Rw_got, Ov_some, Ob_true, Ob_false, rdB, rdV, Rw_got, List.getElem?_cons_zero, List.getElem?_cons_succ, List.set_cons_zero, List.set_cons_succ, List.length_cons, List.length_nil, List.length_set, at0, at1, at2, at3, ix0, ix1, ix2, ix3, vf_add, vf_sub, vf_mul, vf_fdiv, vf_mod, vf_pow, vf_addT, vf_addL, vf_lt, vf_le, vf_gt, vf_ge, vf_lt2, vf_le2, vf_gt2, vf_ge2, vf_isN, vf_notN, vf_nn_int, vf_nn_bl, vf_nn_tup, vf_nn_lst, vf_nn_str, vf_nn_non, vf_tr_bl, vf_tr_int, vf_tr_non, vf_tr_tup, vf_tr_lst, vf_lenT, vf_lenL, vf_abs, vf_int, vf_tupL, vf_tupT, vf_lstL, vf_lstT, vf_gcd, vf_ixL, vf_ixT, vf_ixS, vf_setL, vf_appL, vf_neg, vf_ow, vf_mkT, vf_mkF, vf_part, vf_revL, vf_revT, vf_is_int_int, vf_is_bl_int, vf_is_str_int, vf_is_tup_int, vf_is_lst_int, vf_is_scr_int, vf_is_non_int, vf_is_int_bool, vf_is_bl_bool, vf_is_str_bool, vf_is_tup_bool, vf_is_lst_bool, vf_is_scr_bool, vf_is_non_bool, vf_is_int_str, vf_is_bl_str, vf_is_str_str, vf_is_tup_str, vf_is_lst_str, vf_is_scr_str, vf_is_non_str, vf_is_int_tuple, vf_is_bl_tuple, vf_is_str_tuple, vf_is_tup_tuple, vf_is_lst_tuple, vf_is_scr_tuple, vf_is_non_tuple, vf_is_int_list, vf_is_bl_list, vf_is_str_list, vf_is_tup_list, vf_is_lst_list, vf_is_scr_list, vf_is_non_list, vf_eqI, vf_neI, vf_eqB, Option.map_some, Option.bind_some, List.map_cons, List.map_nil, Nat.reduceAdd, Nat.reducePow, Int.reducePow, hPow18, Int.reduceMul, Int.reduceSub, Int.reduceFDiv, Int.reduceFMod, Nat.reduceLT, Nat.reduceLeDiff, Nat.reduceSub, Int.reduceLE, Int.reduceLT, Int.reduceNeg, Int.reduceAdd, Int.reduceToNat, Int.reduceEq, Int.ofNat_eq_coe, ↓reduceIte, reduceCtorEq, decide_true, decide_false, Int.cast_ofNat_Int, and_true, true_and, Bool.not_true, Bool.not_false, giveR, hg', hg, backR, Option.getD_some, Bool.false_eq_true]
  · have hne : (rngL 1 (2 + t - 1).toNat).filter (fun x => match x with | .int q => decide (Nat.gcd (2 + t).natAbs q.natAbs = 1) | _ => false) ≠ [] := by
      intro hz
      have : Val.int 1 ∈ (rngL 1 (2 + t - 1).toNat).filter (fun x => match x with | .int q => decide (Nat.gcd (2 + t).natAbs q.natAbs = 1) | _ => false) := List.mem_filter.mpr ⟨rngL_mem (by omega) (by omega), by simp⟩
      rw [hz] at this
      cases this
    have hlen : ((rngL 1 (2 + t - 1).toNat).filter (fun x => match x with | .int q => decide (Nat.gcd (2 + t).natAbs q.natAbs = 1) | _ => false)).length < 1073741824 := Nat.lt_of_le_of_lt (List.length_filter_le _ _) (by rw [rngL_len]; omega)
    simp only [↓w_bvar, ↓w_bnv, ↓w_var, ↓w_non, ↓w_bl, ↓w_int, ↓w_str, ↓w_val, ↓w_one, ↓w_bin, ↓w_neg, ↓w_test, ↓w_not, ↓w_and, ↓w_or, ↓w_ife, ↓w_cmp, ↓w_chain, ↓w_call, ↓w_bi, ↓w_isi, ↓w_isis, ↓w_ix, ↓w_sl, ↓w_rev, ↓w_tup, ↓w_lst, ↓w_snil, ↓w_scons, ↓w_bnil, ↓w_bcons, ↓w_anil, ↓w_aconsN, ↓w_aconsF, ↓w_aconsT, ↓w_prnop, ↓w_pr, ↓w_nil, ↓w_cons, ↓w_put, ↓w_asgN, ↓w_asgT, ↓w_par, ↓w_ifs, ↓w_ret, ↓w_retn, ↓w_raise, ↓w_brk, ↓w_cont, ↓w_expr, ↓w_seti, ↓w_turn, ↓w_cnop, ↓w_cond, ↓w_lc, ↓w_forF, iv_non, iv_bl, iv_int, np_int, iv_str, iv_glob, iv_bin, np_bin, iv_neg, np_neg, iv_not, iv_and, iv_or, iv_one, iv_ife, np_ife, iv_cmp, iv_chain, iv_call, np_call, iv_bi, np_bi, iv_isi, iv_isis, iv_ix, np_ix, iv_sl, iv_rev, iv_tup, iv_lst, iv_lc, iv_disp, iv_get, iv_lcK, iv_val, np_var, np_cmp, np_chain, np_not, np_and, np_or, np_isi, np_isis, np_one, Rw_got, Ov_some, Ob_true, Ob_false, rdB, rdV, Rw_got, List.getElem?_cons_zero, List.getElem?_cons_succ, List.set_cons_zero, List.set_cons_succ, List.length_cons, List.length_nil, List.length_set, at0, at1, at2, at3, ix0, ix1, ix2, ix3, vf_add, vf_sub, vf_mul, vf_fdiv, vf_mod, vf_pow, vf_addT, vf_addL, vf_lt, vf_le, vf_gt, vf_ge, vf_lt2, vf_le2, vf_gt2, vf_ge2, vf_isN, vf_notN, vf_nn_int, vf_nn_bl, vf_nn_tup, vf_nn_lst, vf_nn_str, vf_nn_non, vf_tr_bl, vf_tr_int, vf_tr_non, vf_tr_tup, vf_tr_lst, vf_lenT, vf_lenL, vf_abs, vf_int, vf_tupL, vf_tupT, vf_lstL, vf_lstT, vf_gcd, vf_ixL, vf_ixT, vf_ixS, vf_setL, vf_appL, vf_neg, vf_ow, vf_mkT, vf_mkF, vf_part, vf_revL, vf_revT, vf_is_int_int, vf_is_bl_int, vf_is_str_int, vf_is_tup_int, vf_is_lst_int, vf_is_scr_int, vf_is_non_int, vf_is_int_bool, vf_is_bl_bool, vf_is_str_bool, vf_is_tup_bool, vf_is_lst_bool, vf_is_scr_bool, vf_is_non_bool, vf_is_int_str, vf_is_bl_str, vf_is_str_str, vf_is_tup_str, vf_is_lst_str, vf_is_scr_str, vf_is_non_str, vf_is_int_tuple, vf_is_bl_tuple, vf_is_str_tuple, vf_is_tup_tuple, vf_is_lst_tuple, vf_is_scr_tuple, vf_is_non_tuple, vf_is_int_list, vf_is_bl_list, vf_is_str_list, vf_is_tup_list, vf_is_lst_list, vf_is_scr_list, vf_is_non_list, vf_eqI, vf_neI, vf_eqB, Option.map_some, Option.bind_some, List.map_cons, List.map_nil, Nat.reduceAdd, Nat.reducePow, Int.reducePow, hPow18, Int.reduceMul, Int.reduceSub, Int.reduceFDiv, Int.reduceFMod, Nat.reduceLT, Nat.reduceLeDiff, Nat.reduceSub, Int.reduceLE, Int.reduceLT, Int.reduceNeg, Int.reduceAdd, Int.reduceToNat, Int.reduceEq, Int.ofNat_eq_coe, ↓reduceIte, reduceCtorEq, decide_true, decide_false, Int.cast_ofNat_Int, and_true, true_and, Bool.not_true, Bool.not_false, stab2]
    refine Rw_mono (pick_okO (d := d) hv hne hlen) ?_ fun _ _ z => z
    rintro z ⟨x, mx, v2, rfl, hv2⟩
    obtain ⟨mx1, mx2⟩ := List.mem_filter.mp mx
    obtain ⟨q, rfl, q1, q2⟩ := mem_rngL mx1
    have hg : Nat.gcd (2 + t).natAbs q.natAbs = 1 := of_decide_eq_true mx2
    simp only [↓w_bvar, ↓w_bnv, ↓w_var, ↓w_non, ↓w_bl, ↓w_int, ↓w_str, ↓w_val, ↓w_one, ↓w_bin, ↓w_neg, ↓w_test, ↓w_not, ↓w_and, ↓w_or, ↓w_ife, ↓w_cmp, ↓w_chain, ↓w_call, ↓w_bi, ↓w_isi, ↓w_isis, ↓w_ix, ↓w_sl, ↓w_rev, ↓w_tup, ↓w_lst, ↓w_snil, ↓w_scons, ↓w_bnil, ↓w_bcons, ↓w_anil, ↓w_aconsN, ↓w_aconsF, ↓w_aconsT, ↓w_prnop, ↓w_pr, ↓w_nil, ↓w_cons, ↓w_put, ↓w_asgN, ↓w_asgT, ↓w_par, ↓w_ifs, ↓w_ret, ↓w_retn, ↓w_raise, ↓w_brk, ↓w_cont, ↓w_expr, ↓w_seti, ↓w_turn, ↓w_cnop, ↓w_cond, ↓w_lc, ↓w_forF, iv_non, iv_bl, iv_int, np_int, iv_str, iv_glob, iv_bin, np_bin, iv_neg, np_neg, iv_not, iv_and, iv_or, iv_one, iv_ife, np_ife, iv_cmp, iv_chain, iv_call, np_call, iv_bi, np_bi, iv_isi, iv_isis, iv_ix, np_ix, iv_sl, iv_rev, iv_tup, iv_lst, iv_lc, iv_disp, iv_get, iv_lcK, iv_val, np_var, np_cmp, np_chain, np_not, np_and, np_or, np_isi, np_isis, np_one, Rw_got, Ov_some, Ob_true, Ob_false, rdB, rdV, Rw_got, List.getElem?_cons_zero, List.getElem?_cons_succ, List.set_cons_zero, List.set_cons_succ, List.length_cons, List.length_nil, List.length_set, at0, at1, at2, at3, ix0, ix1, ix2, ix3, vf_add, vf_sub, vf_mul, vf_fdiv, vf_mod, vf_pow, vf_addT, vf_addL, vf_lt, vf_le, vf_gt, vf_ge, vf_lt2, vf_le2, vf_gt2, vf_ge2, vf_isN, vf_notN, vf_nn_int, vf_nn_bl, vf_nn_tup, vf_nn_lst, vf_nn_str, vf_nn_non, vf_tr_bl, vf_tr_int, vf_tr_non, vf_tr_tup, vf_tr_lst, vf_lenT, vf_lenL, vf_abs, vf_int, vf_tupL, vf_tupT, vf_lstL, vf_lstT, vf_gcd, vf_ixL, vf_ixT, vf_ixS, vf_setL, vf_appL, vf_neg, vf_ow, vf_mkT, vf_mkF, vf_part, vf_revL, vf_revT, vf_is_int_int, vf_is_bl_int, vf_is_str_int, vf_is_tup_int, vf_is_lst_int, vf_is_scr_int, vf_is_non_int, vf_is_int_bool, vf_is_bl_bool, vf_is_str_bool, vf_is_tup_bool, vf_is_lst_bool, vf_is_scr_bool, vf_is_non_bool, vf_is_int_str, vf_is_bl_str, vf_is_str_str, vf_is_tup_str, vf_is_lst_str, vf_is_scr_str, vf_is_non_str, vf_is_int_tuple, vf_is_bl_tuple, vf_is_str_tuple, vf_is_tup_tuple, vf_is_lst_tuple, vf_is_scr_tuple, vf_is_non_tuple, vf_is_int_list, vf_is_bl_list, vf_is_str_list, vf_is_tup_list, vf_is_lst_list, vf_is_scr_list, vf_is_non_list, vf_eqI, vf_neI, vf_eqB, Option.map_some, Option.bind_some, List.map_cons, List.map_nil, Nat.reduceAdd, Nat.reducePow, Int.reducePow, hPow18, Int.reduceMul, Int.reduceSub, Int.reduceFDiv, Int.reduceFMod, Nat.reduceLT, Nat.reduceLeDiff, Nat.reduceSub, Int.reduceLE, Int.reduceLT, Int.reduceNeg, Int.reduceAdd, Int.reduceToNat, Int.reduceEq, Int.ofNat_eq_coe, ↓reduceIte, reduceCtorEq, decide_true, decide_false, Int.cast_ofNat_Int, and_true, true_and, Bool.not_true, Bool.not_false, giveR, outsO2, List.headD_cons]
    exact ⟨by decide, _, _, _, rfl, hv2, by omega, by omega, by omega, by omega, hg⟩
end HD
set_option Elab.async false
set_option linter.all false
set_option maxRecDepth 100000
set_option maxHeartbeats 8000000
namespace HD
open PySem L2 EV
theorem gst_signed : g__law_signed.stab = [true, true] := by kernel_rfl
theorem stab19 : D.prg.stab 19 = [true, true] := by kernel_rfl
theorem gcd_less {p q : Int} (h1 : 1 ≤ q) (h2 : q < p) (h : Nat.gcd p.natAbs q.natAbs = 1) : Nat.gcd p.natAbs (q - p).natAbs = 1 := by
  obtain ⟨a, ha⟩ : ∃ a, a = p.natAbs - q.natAbs := ⟨_, rfl⟩
  have e : (q - p).natAbs = a := by omega
  have e2 : p.natAbs = a + q.natAbs := by omega
  rw [e]
  rw [e2] at h ⊢
  have h1 : Nat.gcd (a + q.natAbs) q.natAbs = Nat.gcd a q.natAbs := by simp
  have h2 : Nat.gcd (a + q.natAbs) a = Nat.gcd q.natAbs a := by simp
  rw [h2, Nat.gcd_comm, ← h1]
  exact h
theorem odd_of_gcd {p q : Int} (h : Nat.gcd p.natAbs q.natAbs = 1) (hp : p.fmod 2 = 0) : q.fmod 2 = 1 := by
  rw [Int.fmod_eq_emod_of_nonneg _ (by decide)] at hp ⊢
  by_cases hq : q % 2 = 0
  · exfalso
    have h1 : 2 ∣ p.natAbs := by omega
    have h2 : 2 ∣ q.natAbs := by omega
    have := Nat.dvd_gcd h1 h2
    rw [h] at this
    omega
  · omega
theorem signed_ok {d : Nat} {v : Val} {most : Int} (h : PoolOk v) (hm : 2 ≤ most) (hm2 : most ≤ 1000) : Rw (D.prg.den (d + 5) 19 [.ow v, .fz (.int most)]) (fun z => ∃ p e v', z = ((.tup [.int p, .int e], false), [.ow v', .no]) ∧ PoolOk v' ∧ 2 ≤ p ∧ p ≤ most ∧ Valid p e) NX := by
  rw [den_succ (g := g__law_signed) rfl, w_run rfl, gst_signed]
  show Ow (evSs _ _ g__law_signed.body [.ow v, .fz (.int most), .no, .no]) _
  simp only [g__law_signed, ↓w_bvar, ↓w_bnv, ↓w_var, ↓w_non, ↓w_bl, ↓w_int, ↓w_str, ↓w_val, ↓w_one, ↓w_bin, ↓w_neg, ↓w_test, ↓w_not, ↓w_and, ↓w_or, ↓w_ife, ↓w_cmp, ↓w_chain, ↓w_call, ↓w_bi, ↓w_isi, ↓w_isis, ↓w_ix, ↓w_sl, ↓w_rev, ↓w_tup, ↓w_lst, ↓w_snil, ↓w_scons, ↓w_bnil, ↓w_bcons, ↓w_anil, ↓w_aconsN, ↓w_aconsF, ↓w_aconsT, ↓w_prnop, ↓w_pr, ↓w_nil, ↓w_cons, ↓w_put, ↓w_asgN, ↓w_asgT, ↓w_par, ↓w_ifs, ↓w_ret, ↓w_retn, ↓w_raise, ↓w_brk, ↓w_cont, ↓w_expr, ↓w_seti, ↓w_turn, ↓w_cnop, ↓w_cond, ↓w_lc, ↓w_forF, iv_non, iv_bl, iv_int, np_int, iv_str, iv_glob, iv_bin, np_bin, iv_neg, np_neg, iv_not, iv_and, iv_or, iv_one, iv_ife, np_ife, iv_cmp, iv_chain, iv_call, np_call, iv_bi, np_bi, iv_isi, iv_isis, iv_ix, np_ix, iv_sl, iv_rev, iv_tup, iv_lst, iv_lc, iv_disp, iv_get, iv_lcK, iv_val, np_var, np_cmp, np_chain, np_not, np_and, np_or, np_isi, np_isis, np_one, Rw_got, Ov_some, Ob_true, Ob_false, rdB, rdV, Rw_got, List.getElem?_cons_zero, List.getElem?_cons_succ, List.set_cons_zero, List.set_cons_succ, List.length_cons, List.length_nil, List.length_set, at0, at1, at2, at3, ix0, ix1, ix2, ix3, vf_add, vf_sub, vf_mul, vf_fdiv, vf_mod, vf_pow, vf_addT, vf_addL, vf_lt, vf_le, vf_gt, vf_ge, vf_lt2, vf_le2, vf_gt2, vf_ge2, vf_isN, vf_notN, vf_nn_int, vf_nn_bl, vf_nn_tup, vf_nn_lst, vf_nn_str, vf_nn_non, vf_tr_bl, vf_tr_int, vf_tr_non, vf_tr_tup, vf_tr_lst, vf_lenT, vf_lenL, vf_abs, vf_int, vf_tupL, vf_tupT, vf_lstL, vf_lstT, vf_gcd, vf_ixL, vf_ixT, vf_ixS, vf_setL, vf_appL, vf_neg, vf_ow, vf_mkT, vf_mkF, vf_part, vf_revL, vf_revT, vf_is_int_int, vf_is_bl_int, vf_is_str_int, vf_is_tup_int, vf_is_lst_int, vf_is_scr_int, vf_is_non_int, vf_is_int_bool, vf_is_bl_bool, vf_is_str_bool, vf_is_tup_bool, vf_is_lst_bool, vf_is_scr_bool, vf_is_non_bool, vf_is_int_str, vf_is_bl_str, vf_is_str_str, vf_is_tup_str, vf_is_lst_str, vf_is_scr_str, vf_is_non_str, vf_is_int_tuple, vf_is_bl_tuple, vf_is_str_tuple, vf_is_tup_tuple, vf_is_lst_tuple, vf_is_scr_tuple, vf_is_non_tuple, vf_is_int_list, vf_is_bl_list, vf_is_str_list, vf_is_tup_list, vf_is_lst_list, vf_is_scr_list, vf_is_non_list, vf_eqI, vf_neI, vf_eqB, Option.map_some, Option.bind_some, List.map_cons, List.map_nil, Nat.reduceAdd, Nat.reducePow, Int.reducePow, hPow18, Int.reduceMul, Int.reduceSub, Int.reduceFDiv, Int.reduceFMod, Nat.reduceLT, Nat.reduceLeDiff, Nat.reduceSub, Int.reduceLE, Int.reduceLT, Int.reduceNeg, Int.reduceAdd, Int.reduceToNat, Int.reduceEq, Int.ofNat_eq_coe, ↓reduceIte, reduceCtorEq, decide_true, decide_false, Int.cast_ofNat_Int, and_true, true_and, Bool.not_true, Bool.not_false, stab18]
  refine Rw_mono (pair_ok (d := d) h hm hm2) ?_ fun _ _ z => z
  rintro z ⟨p, q, v', rfl, hv, p1, p2, q1, q2, hg⟩
  by_cases hp : p.fmod 2 = 0
  · have hq := odd_of_gcd hg hp
    simp only [↓w_bvar, ↓w_bnv, ↓w_var, ↓w_non, ↓w_bl, ↓w_int, ↓w_str, ↓w_val, ↓w_one, ↓w_bin, ↓w_neg, ↓w_test, ↓w_not, ↓w_and, ↓w_or, ↓w_ife, ↓w_cmp, ↓w_chain, ↓w_call, ↓w_bi, ↓w_isi, ↓w_isis, ↓w_ix, ↓w_sl, ↓w_rev, ↓w_tup, ↓w_lst, ↓w_snil, ↓w_scons, ↓w_bnil, ↓w_bcons, ↓w_anil, ↓w_aconsN, ↓w_aconsF, ↓w_aconsT, ↓w_prnop, ↓w_pr, ↓w_nil, ↓w_cons, ↓w_put, ↓w_asgN, ↓w_asgT, ↓w_par, ↓w_ifs, ↓w_ret, ↓w_retn, ↓w_raise, ↓w_brk, ↓w_cont, ↓w_expr, ↓w_seti, ↓w_turn, ↓w_cnop, ↓w_cond, ↓w_lc, ↓w_forF, iv_non, iv_bl, iv_int, np_int, iv_str, iv_glob, iv_bin, np_bin, iv_neg, np_neg, iv_not, iv_and, iv_or, iv_one, iv_ife, np_ife, iv_cmp, iv_chain, iv_call, np_call, iv_bi, np_bi, iv_isi, iv_isis, iv_ix, np_ix, iv_sl, iv_rev, iv_tup, iv_lst, iv_lc, iv_disp, iv_get, iv_lcK, iv_val, np_var, np_cmp, np_chain, np_not, np_and, np_or, np_isi, np_isis, np_one, Rw_got, Ov_some, Ob_true, Ob_false, rdB, rdV, Rw_got, List.getElem?_cons_zero, List.getElem?_cons_succ, List.set_cons_zero, List.set_cons_succ, List.length_cons, List.length_nil, List.length_set, at0, at1, at2, at3, ix0, ix1, ix2, ix3, vf_add, vf_sub, vf_mul, vf_fdiv, vf_mod, vf_pow, vf_addT, vf_addL, vf_lt, vf_le, vf_gt, vf_ge, vf_lt2, vf_le2, vf_gt2, vf_ge2, vf_isN, vf_notN, vf_nn_int, vf_nn_bl, vf_nn_tup, vf_nn_lst, vf_nn_str, vf_nn_non, vf_tr_bl, vf_tr_int, vf_tr_non, vf_tr_tup, vf_tr_lst, vf_lenT, vf_lenL, vf_abs, vf_int, vf_tupL, vf_tupT, vf_lstL, vf_lstT, vf_gcd, vf_ixL, vf_ixT, vf_ixS, vf_setL, vf_appL, vf_neg, vf_ow, vf_mkT, vf_mkF, vf_part, vf_revL, vf_revT, vf_is_int_int, vf_is_bl_int, vf_is_str_int, vf_is_tup_int, vf_is_lst_int, vf_is_scr_int, vf_is_non_int, vf_is_int_bool, vf_is_bl_bool, vf_is_str_bool, vf_is_tup_bool, vf_is_lst_bool, vf_is_scr_bool, vf_is_non_bool, vf_is_int_str, vf_is_bl_str, vf_is_str_str, vf_is_tup_str, vf_is_lst_str, vf_is_scr_str, vf_is_non_str, vf_is_int_tuple, vf_is_bl_tuple, vf_is_str_tuple, vf_is_tup_tuple, vf_is_lst_tuple, vf_is_scr_tuple, vf_is_non_tuple, vf_is_int_list, vf_is_bl_list, vf_is_str_list, vf_is_tup_list, vf_is_lst_list, vf_is_scr_list, vf_is_non_list, vf_eqI, vf_neI, vf_eqB, Option.map_some, Option.bind_some, List.map_cons, List.map_nil, Nat.reduceAdd, Nat.reducePow, Int.reducePow, hPow18, Int.reduceMul, Int.reduceSub, Int.reduceFDiv, Int.reduceFMod, Nat.reduceLT, Nat.reduceLeDiff, Nat.reduceSub, Int.reduceLE, Int.reduceLT, Int.reduceNeg, Int.reduceAdd, Int.reduceToNat, Int.reduceEq, Int.ofNat_eq_coe, ↓reduceIte, reduceCtorEq, decide_true, decide_false, Int.cast_ofNat_Int, and_true, true_and, Bool.not_true, Bool.not_false, giveR, bindT, bindTs, hp, stab2]
    refine ⟨by decide, Rw_mono (pick_ok (d := d + 1) (xs := [.int 0, .int p]) (.inl rfl) hv (by simp) (by simp)) ?_ fun _ _ z => z⟩
    rintro z ⟨x, mx, v2, rfl, hv2⟩
    rw [Int.fmod_eq_emod_of_nonneg _ (by decide)] at hp hq
    rcases List.mem_cons.mp mx with rfl | mx
    · simp only [↓w_bvar, ↓w_bnv, ↓w_var, ↓w_non, ↓w_bl, ↓w_int, ↓w_str, ↓w_val, ↓w_one, ↓w_bin, ↓w_neg, ↓w_test, ↓w_not, ↓w_and, ↓w_or, ↓w_ife, ↓w_cmp, ↓w_chain, ↓w_call, ↓w_bi, ↓w_isi, ↓w_isis, ↓w_ix, ↓w_sl, ↓w_rev, ↓w_tup, ↓w_lst, ↓w_snil, ↓w_scons, ↓w_bnil, ↓w_bcons, ↓w_anil, ↓w_aconsN, ↓w_aconsF, ↓w_aconsT, ↓w_prnop, ↓w_pr, ↓w_nil, ↓w_cons, ↓w_put, ↓w_asgN, ↓w_asgT, ↓w_par, ↓w_ifs, ↓w_ret, ↓w_retn, ↓w_raise, ↓w_brk, ↓w_cont, ↓w_expr, ↓w_seti, ↓w_turn, ↓w_cnop, ↓w_cond, ↓w_lc, ↓w_forF, iv_non, iv_bl, iv_int, np_int, iv_str, iv_glob, iv_bin, np_bin, iv_neg, np_neg, iv_not, iv_and, iv_or, iv_one, iv_ife, np_ife, iv_cmp, iv_chain, iv_call, np_call, iv_bi, np_bi, iv_isi, iv_isis, iv_ix, np_ix, iv_sl, iv_rev, iv_tup, iv_lst, iv_lc, iv_disp, iv_get, iv_lcK, iv_val, np_var, np_cmp, np_chain, np_not, np_and, np_or, np_isi, np_isis, np_one, Rw_got, Ov_some, Ob_true, Ob_false, rdB, rdV, Rw_got, List.getElem?_cons_zero, List.getElem?_cons_succ, List.set_cons_zero, List.set_cons_succ, List.length_cons, List.length_nil, List.length_set, at0, at1, at2, at3, ix0, ix1, ix2, ix3, vf_add, vf_sub, vf_mul, vf_fdiv, vf_mod, vf_pow, vf_addT, vf_addL, vf_lt, vf_le, vf_gt, vf_ge, vf_lt2, vf_le2, vf_gt2, vf_ge2, vf_isN, vf_notN, vf_nn_int, vf_nn_bl, vf_nn_tup, vf_nn_lst, vf_nn_str, vf_nn_non, vf_tr_bl, vf_tr_int, vf_tr_non, vf_tr_tup, vf_tr_lst, vf_lenT, vf_lenL, vf_abs, vf_int, vf_tupL, vf_tupT, vf_lstL, vf_lstT, vf_gcd, vf_ixL, vf_ixT, vf_ixS, vf_setL, vf_appL, vf_neg, vf_ow, vf_mkT, vf_mkF, vf_part, vf_revL, vf_revT, vf_is_int_int, vf_is_bl_int, vf_is_str_int, vf_is_tup_int, vf_is_lst_int, vf_is_scr_int, vf_is_non_int, vf_is_int_bool, vf_is_bl_bool, vf_is_str_bool, vf_is_tup_bool, vf_is_lst_bool, vf_is_scr_bool, vf_is_non_bool, vf_is_int_str, vf_is_bl_str, vf_is_str_str, vf_is_tup_str, vf_is_lst_str, vf_is_scr_str, vf_is_non_str, vf_is_int_tuple, vf_is_bl_tuple, vf_is_str_tuple, vf_is_tup_tuple, vf_is_lst_tuple, vf_is_scr_tuple, vf_is_non_tuple, vf_is_int_list, vf_is_bl_list, vf_is_str_list, vf_is_tup_list, vf_is_lst_list, vf_is_scr_list, vf_is_non_list, vf_eqI, vf_neI, vf_eqB, Option.map_some, Option.bind_some, List.map_cons, List.map_nil, Nat.reduceAdd, Nat.reducePow, Int.reducePow, hPow18, Int.reduceMul, Int.reduceSub, Int.reduceFDiv, Int.reduceFMod, Nat.reduceLT, Nat.reduceLeDiff, Nat.reduceSub, Int.reduceLE, Int.reduceLT, Int.reduceNeg, Int.reduceAdd, Int.reduceToNat, Int.reduceEq, Int.ofNat_eq_coe, ↓reduceIte, reduceCtorEq, decide_true, decide_false, Int.cast_ofNat_Int, and_true, true_and, Bool.not_true, Bool.not_false, giveR, outsO2, List.headD_cons]
      exact ⟨by decide, p, _, v2, rfl, hv2, p1, p2, by omega, by omega, by omega, by rw [Int.sub_zero]; exact hg, by rw [Int.fmod_eq_emod_of_nonneg _ (by decide)]; omega⟩
    · rcases List.mem_cons.mp mx with rfl | mx
      · simp only [↓w_bvar, ↓w_bnv, ↓w_var, ↓w_non, ↓w_bl, ↓w_int, ↓w_str, ↓w_val, ↓w_one, ↓w_bin, ↓w_neg, ↓w_test, ↓w_not, ↓w_and, ↓w_or, ↓w_ife, ↓w_cmp, ↓w_chain, ↓w_call, ↓w_bi, ↓w_isi, ↓w_isis, ↓w_ix, ↓w_sl, ↓w_rev, ↓w_tup, ↓w_lst, ↓w_snil, ↓w_scons, ↓w_bnil, ↓w_bcons, ↓w_anil, ↓w_aconsN, ↓w_aconsF, ↓w_aconsT, ↓w_prnop, ↓w_pr, ↓w_nil, ↓w_cons, ↓w_put, ↓w_asgN, ↓w_asgT, ↓w_par, ↓w_ifs, ↓w_ret, ↓w_retn, ↓w_raise, ↓w_brk, ↓w_cont, ↓w_expr, ↓w_seti, ↓w_turn, ↓w_cnop, ↓w_cond, ↓w_lc, ↓w_forF, iv_non, iv_bl, iv_int, np_int, iv_str, iv_glob, iv_bin, np_bin, iv_neg, np_neg, iv_not, iv_and, iv_or, iv_one, iv_ife, np_ife, iv_cmp, iv_chain, iv_call, np_call, iv_bi, np_bi, iv_isi, iv_isis, iv_ix, np_ix, iv_sl, iv_rev, iv_tup, iv_lst, iv_lc, iv_disp, iv_get, iv_lcK, iv_val, np_var, np_cmp, np_chain, np_not, np_and, np_or, np_isi, np_isis, np_one, Rw_got, Ov_some, Ob_true, Ob_false, rdB, rdV, Rw_got, List.getElem?_cons_zero, List.getElem?_cons_succ, List.set_cons_zero, List.set_cons_succ, List.length_cons, List.length_nil, List.length_set, at0, at1, at2, at3, ix0, ix1, ix2, ix3, vf_add, vf_sub, vf_mul, vf_fdiv, vf_mod, vf_pow, vf_addT, vf_addL, vf_lt, vf_le, vf_gt, vf_ge, vf_lt2, vf_le2, vf_gt2, vf_ge2, vf_isN, vf_notN, vf_nn_int, vf_nn_bl, vf_nn_tup, vf_nn_lst, vf_nn_str, vf_nn_non, vf_tr_bl, vf_tr_int, vf_tr_non, vf_tr_tup, vf_tr_lst, vf_lenT, vf_lenL, vf_abs, vf_int, vf_tupL, vf_tupT, vf_lstL, vf_lstT, vf_gcd, vf_ixL, vf_ixT, vf_ixS, vf_setL, vf_appL, vf_neg, vf_ow, vf_mkT, vf_mkF, vf_part, vf_revL, vf_revT, vf_is_int_int, vf_is_bl_int, vf_is_str_int, vf_is_tup_int, vf_is_lst_int, vf_is_scr_int, vf_is_non_int, vf_is_int_bool, vf_is_bl_bool, vf_is_str_bool, vf_is_tup_bool, vf_is_lst_bool, vf_is_scr_bool, vf_is_non_bool, vf_is_int_str, vf_is_bl_str, vf_is_str_str, vf_is_tup_str, vf_is_lst_str, vf_is_scr_str, vf_is_non_str, vf_is_int_tuple, vf_is_bl_tuple, vf_is_str_tuple, vf_is_tup_tuple, vf_is_lst_tuple, vf_is_scr_tuple, vf_is_non_tuple, vf_is_int_list, vf_is_bl_list, vf_is_str_list, vf_is_tup_list, vf_is_lst_list, vf_is_scr_list, vf_is_non_list, vf_eqI, vf_neI, vf_eqB, Option.map_some, Option.bind_some, List.map_cons, List.map_nil, Nat.reduceAdd, Nat.reducePow, Int.reducePow, hPow18, Int.reduceMul, Int.reduceSub, Int.reduceFDiv, Int.reduceFMod, Nat.reduceLT, Nat.reduceLeDiff, Nat.reduceSub, Int.reduceLE, Int.reduceLT, Int.reduceNeg, Int.reduceAdd, Int.reduceToNat, Int.reduceEq, Int.ofNat_eq_coe, ↓reduceIte, reduceCtorEq, decide_true, decide_false, Int.cast_ofNat_Int, and_true, true_and, Bool.not_true, Bool.not_false, giveR, outsO2, List.headD_cons]
        exact ⟨by decide, p, _, v2, rfl, hv2, p1, p2, by omega, by omega, by omega, gcd_less q1 q2 hg, by rw [Int.fmod_eq_emod_of_nonneg _ (by decide)]; omega⟩
      · cases mx
  · have hp' := hp
    rw [Int.fmod_eq_emod_of_nonneg _ (by decide)] at hp'
    by_cases hq : q.fmod 2 = 0
    · simp only [↓w_bvar, ↓w_bnv, ↓w_var, ↓w_non, ↓w_bl, ↓w_int, ↓w_str, ↓w_val, ↓w_one, ↓w_bin, ↓w_neg, ↓w_test, ↓w_not, ↓w_and, ↓w_or, ↓w_ife, ↓w_cmp, ↓w_chain, ↓w_call, ↓w_bi, ↓w_isi, ↓w_isis, ↓w_ix, ↓w_sl, ↓w_rev, ↓w_tup, ↓w_lst, ↓w_snil, ↓w_scons, ↓w_bnil, ↓w_bcons, ↓w_anil, ↓w_aconsN, ↓w_aconsF, ↓w_aconsT, ↓w_prnop, ↓w_pr, ↓w_nil, ↓w_cons, ↓w_put, ↓w_asgN, ↓w_asgT, ↓w_par, ↓w_ifs, ↓w_ret, ↓w_retn, ↓w_raise, ↓w_brk, ↓w_cont, ↓w_expr, ↓w_seti, ↓w_turn, ↓w_cnop, ↓w_cond, ↓w_lc, ↓w_forF, iv_non, iv_bl, iv_int, np_int, iv_str, iv_glob, iv_bin, np_bin, iv_neg, np_neg, iv_not, iv_and, iv_or, iv_one, iv_ife, np_ife, iv_cmp, iv_chain, iv_call, np_call, iv_bi, np_bi, iv_isi, iv_isis, iv_ix, np_ix, iv_sl, iv_rev, iv_tup, iv_lst, iv_lc, iv_disp, iv_get, iv_lcK, iv_val, np_var, np_cmp, np_chain, np_not, np_and, np_or, np_isi, np_isis, np_one, Rw_got, Ov_some, Ob_true, Ob_false, rdB, rdV, Rw_got, List.getElem?_cons_zero, List.getElem?_cons_succ, List.set_cons_zero, List.set_cons_succ, List.length_cons, List.length_nil, List.length_set, at0, at1, at2, at3, ix0, ix1, ix2, ix3, vf_add, vf_sub, vf_mul, vf_fdiv, vf_mod, vf_pow, vf_addT, vf_addL, vf_lt, vf_le, vf_gt, vf_ge, vf_lt2, vf_le2, vf_gt2, vf_ge2, vf_isN, vf_notN, vf_nn_int, vf_nn_bl, vf_nn_tup, vf_nn_lst, vf_nn_str, vf_nn_non, vf_tr_bl, vf_tr_int, vf_tr_non, vf_tr_tup, vf_tr_lst, vf_lenT, vf_lenL, vf_abs, vf_int, vf_tupL, vf_tupT, vf_lstL, vf_lstT, vf_gcd, vf_ixL, vf_ixT, vf_ixS, vf_setL, vf_appL, vf_neg, vf_ow, vf_mkT, vf_mkF, vf_part, vf_revL, vf_revT, vf_is_int_int, vf_is_bl_int, vf_is_str_int, vf_is_tup_int, vf_is_lst_int, vf_is_scr_int, vf_is_non_int, vf_is_int_bool, vf_is_bl_bool, vf_is_str_bool, vf_is_tup_bool, vf_is_lst_bool, vf_is_scr_bool, vf_is_non_bool, vf_is_int_str, vf_is_bl_str, vf_is_str_str, vf_is_tup_str, vf_is_lst_str, vf_is_scr_str, vf_is_non_str, vf_is_int_tuple, vf_is_bl_tuple, vf_is_str_tuple, vf_is_tup_tuple, vf_is_lst_tuple, vf_is_scr_tuple, vf_is_non_tuple, vf_is_int_list, vf_is_bl_list, vf_is_str_list, vf_is_tup_list, vf_is_lst_list, vf_is_scr_list, vf_is_non_list, vf_eqI, vf_neI, vf_eqB, Option.map_some, Option.bind_some, List.map_cons, List.map_nil, Nat.reduceAdd, Nat.reducePow, Int.reducePow, hPow18, Int.reduceMul, Int.reduceSub, Int.reduceFDiv, Int.reduceFMod, Nat.reduceLT, Nat.reduceLeDiff, Nat.reduceSub, Int.reduceLE, Int.reduceLT, Int.reduceNeg, Int.reduceAdd, Int.reduceToNat, Int.reduceEq, Int.ofNat_eq_coe, ↓reduceIte, reduceCtorEq, decide_true, decide_false, Int.cast_ofNat_Int, and_true, true_and, Bool.not_true, Bool.not_false, giveR, bindT, bindTs, hp, hq, outsO2, List.headD_cons]
      rw [Int.fmod_eq_emod_of_nonneg _ (by decide)] at hq
      exact ⟨by decide, p, _, v', rfl, hv, p1, p2, by omega, by omega, by omega, hg, by rw [Int.fmod_eq_emod_of_nonneg _ (by decide)]; omega⟩
    · simp only [↓w_bvar, ↓w_bnv, ↓w_var, ↓w_non, ↓w_bl, ↓w_int, ↓w_str, ↓w_val, ↓w_one, ↓w_bin, ↓w_neg, ↓w_test, ↓w_not, ↓w_and, ↓w_or, ↓w_ife, ↓w_cmp, ↓w_chain, ↓w_call, ↓w_bi, ↓w_isi, ↓w_isis, ↓w_ix, ↓w_sl, ↓w_rev, ↓w_tup, ↓w_lst, ↓w_snil, ↓w_scons, ↓w_bnil, ↓w_bcons, ↓w_anil, ↓w_aconsN, ↓w_aconsF, ↓w_aconsT, ↓w_prnop, ↓w_pr, ↓w_nil, ↓w_cons, ↓w_put, ↓w_asgN, ↓w_asgT, ↓w_par, ↓w_ifs, ↓w_ret, ↓w_retn, ↓w_raise, ↓w_brk, ↓w_cont, ↓w_expr, ↓w_seti, ↓w_turn, ↓w_cnop, ↓w_cond, ↓w_lc, ↓w_forF, iv_non, iv_bl, iv_int, np_int, iv_str, iv_glob, iv_bin, np_bin, iv_neg, np_neg, iv_not, iv_and, iv_or, iv_one, iv_ife, np_ife, iv_cmp, iv_chain, iv_call, np_call, iv_bi, np_bi, iv_isi, iv_isis, iv_ix, np_ix, iv_sl, iv_rev, iv_tup, iv_lst, iv_lc, iv_disp, iv_get, iv_lcK, iv_val, np_var, np_cmp, np_chain, np_not, np_and, np_or, np_isi, np_isis, np_one, Rw_got, Ov_some, Ob_true, Ob_false, rdB, rdV, Rw_got, List.getElem?_cons_zero, List.getElem?_cons_succ, List.set_cons_zero, List.set_cons_succ, List.length_cons, List.length_nil, List.length_set, at0, at1, at2, at3, ix0, ix1, ix2, ix3, vf_add, vf_sub, vf_mul, vf_fdiv, vf_mod, vf_pow, vf_addT, vf_addL, vf_lt, vf_le, vf_gt, vf_ge, vf_lt2, vf_le2, vf_gt2, vf_ge2, vf_isN, vf_notN, vf_nn_int, vf_nn_bl, vf_nn_tup, vf_nn_lst, vf_nn_str, vf_nn_non, vf_tr_bl, vf_tr_int, vf_tr_non, vf_tr_tup, vf_tr_lst, vf_lenT, vf_lenL, vf_abs, vf_int, vf_tupL, vf_tupT, vf_lstL, vf_lstT, vf_gcd, vf_ixL, vf_ixT, vf_ixS, vf_setL, vf_appL, vf_neg, vf_ow, vf_mkT, vf_mkF, vf_part, vf_revL, vf_revT, vf_is_int_int, vf_is_bl_int, vf_is_str_int, vf_is_tup_int, vf_is_lst_int, vf_is_scr_int, vf_is_non_int, vf_is_int_bool, vf_is_bl_bool, vf_is_str_bool, vf_is_tup_bool, vf_is_lst_bool, vf_is_scr_bool, vf_is_non_bool, vf_is_int_str, vf_is_bl_str, vf_is_str_str, vf_is_tup_str, vf_is_lst_str, vf_is_scr_str, vf_is_non_str, vf_is_int_tuple, vf_is_bl_tuple, vf_is_str_tuple, vf_is_tup_tuple, vf_is_lst_tuple, vf_is_scr_tuple, vf_is_non_tuple, vf_is_int_list, vf_is_bl_list, vf_is_str_list, vf_is_tup_list, vf_is_lst_list, vf_is_scr_list, vf_is_non_list, vf_eqI, vf_neI, vf_eqB, Option.map_some, Option.bind_some, List.map_cons, List.map_nil, Nat.reduceAdd, Nat.reducePow, Int.reducePow, hPow18, Int.reduceMul, Int.reduceSub, Int.reduceFDiv, Int.reduceFMod, Nat.reduceLT, Nat.reduceLeDiff, Nat.reduceSub, Int.reduceLE, Int.reduceLT, Int.reduceNeg, Int.reduceAdd, Int.reduceToNat, Int.reduceEq, Int.ofNat_eq_coe, ↓reduceIte, reduceCtorEq, decide_true, decide_false, Int.cast_ofNat_Int, and_true, true_and, Bool.not_true, Bool.not_false, giveR, bindT, bindTs, hp, hq, outsO2, List.headD_cons]
      rw [Int.fmod_eq_emod_of_nonneg _ (by decide)] at hq
      exact ⟨by decide, p, _, v', rfl, hv, p1, p2, by omega, by omega, by omega, gcd_less q1 q2 hg, by rw [Int.fmod_eq_emod_of_nonneg _ (by decide)]; omega⟩
end HD
set_option Elab.async false
set_option linter.all false
set_option maxRecDepth 100000
set_option maxHeartbeats 8000000
namespace HD
open PySem L2 EV
theorem w_fornil {g : Val → Ro → EV.O} {ρ : Ro} {k : En} : Ow (forL g [] ρ) k = k.nx ρ := (rfl)
theorem w_forcons {g : Val → Ro → EV.O} {x : Val} {xs : List Val} {ρ : Ro} {k : En} : Ow (forL g (x :: xs) ρ) k = Ow (g x ρ) { k with nx := fun ρ => Ow (forL g xs ρ) k, ct := fun ρ => Ow (forL g xs ρ) k, bk := k.nx } := by
  show Ow (match g x ρ with
      | .nx ρ' => forL g xs ρ'
      | .ct ρ' => forL g xs ρ'
      | .bk ρ' => .nx ρ'
      | o => o) k = _
  cases g x ρ <;> rfl
/-- the even one of the floor and the next -/
def ev2 (p e : Int) : Int := if (p.fdiv e).fmod 2 = 0 then p.fdiv e else p.fdiv e + 1
def evenL : Nat → Int → Int → List Int
  | 0, _, _ => []
  | n + 1, p, e => if e = 0 then [] else ev2 p e :: evenL n e (p - ev2 p e * e)
theorem ev2_even {p e : Int} : (ev2 p e).fmod 2 = 0 := by
  unfold ev2
  split
  · assumption
  · rename_i h
    rw [Int.fmod_eq_emod_of_nonneg _ (by decide)] at h ⊢
    omega
theorem floor_pos {p e : Int} (he : 0 < e) : 0 ≤ p - p.fdiv e * e ∧ p - p.fdiv e * e < e := by
  have h := Int.fmod_def p e
  have hc : p.fdiv e * e = e * p.fdiv e := Int.mul_comm _ _
  have h1 := Int.fmod_nonneg_of_pos p he
  have h2 := Int.fmod_lt_of_pos p he
  omega
theorem floor_rest {p e : Int} (he : e ≠ 0) : (0 < e ∧ 0 ≤ p - p.fdiv e * e ∧ p - p.fdiv e * e < e) ∨ (e < 0 ∧ e < p - p.fdiv e * e ∧ p - p.fdiv e * e ≤ 0) := by
  rcases Int.lt_or_lt_of_ne he with hn | hp
  · have h := floor_pos (p := -p) (e := -e) (by omega)
    rw [Int.neg_fdiv_neg, Int.mul_neg] at h
    exact .inr ⟨hn, by omega, by omega⟩
  · exact .inl ⟨hp, floor_pos hp⟩
theorem ev2_rest {p e : Int} (he : e ≠ 0) (ho : (p + e).fmod 2 = 1) : ((p - ev2 p e * e).natAbs < e.natAbs) ∧ (e + (p - ev2 p e * e)).fmod 2 = 1 := by
  have hev := ev2_even (p := p) (e := e)
  have hpar : (e + (p - ev2 p e * e)).fmod 2 = 1 := by
    rw [Int.fmod_eq_emod_of_nonneg _ (by decide)] at ho hev ⊢
    have : (ev2 p e * e) % 2 = 0 := by rw [Int.mul_emod, hev]; simp
    omega
  refine ⟨?_, hpar⟩
  have hf := floor_rest (p := p) he
  have hle : (p - ev2 p e * e).natAbs ≤ e.natAbs := by
    unfold ev2
    split
    · omega
    · rw [Int.add_mul, Int.one_mul]
      omega
  have hne : (p - ev2 p e * e).natAbs ≠ e.natAbs := by
    intro hq
    rw [Int.fmod_eq_emod_of_nonneg _ (by decide)] at hpar
    omega
  omega
def lsOf : Option Sl → Option (List Val)
  | some (.ow (.lst xs)) => some xs
  | _ => none
theorem w_appU {Γ : Env'} {sub : Nat → Nat → Bool} {ρ : Ro} {k : En} {i : Nat} {e : E} : Ow (evS Γ sub (.app i e) ρ) k = Ov (lsOf ρ[i]?) fun _ => Rw (ev Γ e ρ) (fun x => Ov (owOf x.2[i]?) fun l => Ov (appV l x.1.1) fun u => k.nx (x.2.set i (.ow u))) k.ex := by
  cases h : ρ[i]? with
  | none =>
    show Ow (match ρ[i]? with | some (.ow (.lst _)) => _ | _ => EV.O.bad) k = _
    rw [h]; rfl
  | some s =>
    cases s with
    | no => show Ow (match ρ[i]? with | some (.ow (.lst _)) => _ | _ => EV.O.bad) k = _; rw [h]; rfl
    | fz _ => show Ow (match ρ[i]? with | some (.ow (.lst _)) => _ | _ => EV.O.bad) k = _; rw [h]; rfl
    | ow v =>
      cases v with
      | lst xs => rw [w_app h]; rfl
      | _ => show Ow (match ρ[i]? with | some (.ow (.lst _)) => _ | _ => EV.O.bad) k = _; rw [h]; rfl
theorem w_bnon {Γ : Env'} {ρ : Ro} {Qb : Val × Ro → Prop} {X : XP} : Rw (borrow E.non ρ (ev Γ E.non ρ)) Qb X = Qb (.non, ρ) := (rfl)
theorem ls_ow {xs : List Val} : lsOf (some (.ow (.lst xs))) = some xs := rfl
theorem gst_even : g__law_even.stab = [false, false] := by kernel_rfl
theorem even_ok {d : Nat} {p e : Int} (hp : p.natAbs ≤ 300) (he : e.natAbs ≤ 300) (ho : (p + e).fmod 2 = 1) : Rw (D.prg.den (d + 1) 9 [.fz (.int p), .fz (.int e)]) (fun z => z = ((.tup ((evenL 300 p e).map .int), false), [.no, .no])) NX := by
  rw [den_succ (g := g__law_even) rfl, w_run rfl, gst_even]
  show Ow (evSs _ _ g__law_even.body [.fz (.int p), .fz (.int e), .no, .no, .no, .no, .no]) _
  simp only [g__law_even, ↓w_bvar, ↓w_bnv, ↓w_var, ↓w_non, ↓w_bl, ↓w_int, ↓w_str, ↓w_val, ↓w_one, ↓w_bin, ↓w_neg, ↓w_test, ↓w_not, ↓w_and, ↓w_or, ↓w_ife, ↓w_cmp, ↓w_chain, ↓w_call, ↓w_bi, ↓w_isi, ↓w_isis, ↓w_ix, ↓w_sl, ↓w_rev, ↓w_tup, ↓w_lst, ↓w_snil, ↓w_scons, ↓w_bnil, ↓w_bcons, ↓w_anil, ↓w_aconsN, ↓w_aconsF, ↓w_aconsT, ↓w_prnop, ↓w_pr, ↓w_nil, ↓w_cons, ↓w_put, ↓w_asgN, ↓w_asgT, ↓w_par, ↓w_ifs, ↓w_ret, ↓w_retn, ↓w_raise, ↓w_brk, ↓w_cont, ↓w_expr, ↓w_seti, ↓w_turn, ↓w_cnop, ↓w_cond, ↓w_lc, ↓w_forF, iv_non, iv_bl, iv_int, np_int, iv_str, iv_glob, iv_bin, np_bin, iv_neg, np_neg, iv_not, iv_and, iv_or, iv_one, iv_ife, np_ife, iv_cmp, iv_chain, iv_call, np_call, iv_bi, np_bi, iv_isi, iv_isis, iv_ix, np_ix, iv_sl, iv_rev, iv_tup, iv_lst, iv_lc, iv_disp, iv_get, iv_lcK, iv_val, np_var, np_cmp, np_chain, np_not, np_and, np_or, np_isi, np_isis, np_one, Rw_got, Ov_some, Ob_true, Ob_false, rdB, rdV, Rw_got, List.getElem?_cons_zero, List.getElem?_cons_succ, List.set_cons_zero, List.set_cons_succ, List.length_cons, List.length_nil, List.length_set, at0, at1, at2, at3, ix0, ix1, ix2, ix3, vf_add, vf_sub, vf_mul, vf_fdiv, vf_mod, vf_pow, vf_addT, vf_addL, vf_lt, vf_le, vf_gt, vf_ge, vf_lt2, vf_le2, vf_gt2, vf_ge2, vf_isN, vf_notN, vf_nn_int, vf_nn_bl, vf_nn_tup, vf_nn_lst, vf_nn_str, vf_nn_non, vf_tr_bl, vf_tr_int, vf_tr_non, vf_tr_tup, vf_tr_lst, vf_lenT, vf_lenL, vf_abs, vf_int, vf_tupL, vf_tupT, vf_lstL, vf_lstT, vf_gcd, vf_ixL, vf_ixT, vf_ixS, vf_setL, vf_appL, vf_neg, vf_ow, vf_mkT, vf_mkF, vf_part, vf_revL, vf_revT, vf_is_int_int, vf_is_bl_int, vf_is_str_int, vf_is_tup_int, vf_is_lst_int, vf_is_scr_int, vf_is_non_int, vf_is_int_bool, vf_is_bl_bool, vf_is_str_bool, vf_is_tup_bool, vf_is_lst_bool, vf_is_scr_bool, vf_is_non_bool, vf_is_int_str, vf_is_bl_str, vf_is_str_str, vf_is_tup_str, vf_is_lst_str, vf_is_scr_str, vf_is_non_str, vf_is_int_tuple, vf_is_bl_tuple, vf_is_str_tuple, vf_is_tup_tuple, vf_is_lst_tuple, vf_is_scr_tuple, vf_is_non_tuple, vf_is_int_list, vf_is_bl_list, vf_is_str_list, vf_is_tup_list, vf_is_lst_list, vf_is_scr_list, vf_is_non_list, vf_eqI, vf_neI, vf_eqB, Option.map_some, Option.bind_some, List.map_cons, List.map_nil, Nat.reduceAdd, Nat.reducePow, Int.reducePow, hPow18, Int.reduceMul, Int.reduceSub, Int.reduceFDiv, Int.reduceFMod, Nat.reduceLT, Nat.reduceLeDiff, Nat.reduceSub, Int.reduceLE, Int.reduceLT, Int.reduceNeg, Int.reduceAdd, Int.reduceToNat, Int.reduceEq, Int.ofNat_eq_coe, ↓reduceIte, reduceCtorEq, decide_true, decide_false, Int.cast_ofNat_Int, and_true, true_and, Bool.not_true, Bool.not_false, w_for, w_rng1, outsFF]
  rw [show rngOk 300 = true from by decide]
  simp only [↓w_bvar, ↓w_bnv, ↓w_var, ↓w_non, ↓w_bl, ↓w_int, ↓w_str, ↓w_val, ↓w_one, ↓w_bin, ↓w_neg, ↓w_test, ↓w_not, ↓w_and, ↓w_or, ↓w_ife, ↓w_cmp, ↓w_chain, ↓w_call, ↓w_bi, ↓w_isi, ↓w_isis, ↓w_ix, ↓w_sl, ↓w_rev, ↓w_tup, ↓w_lst, ↓w_snil, ↓w_scons, ↓w_bnil, ↓w_bcons, ↓w_anil, ↓w_aconsN, ↓w_aconsF, ↓w_aconsT, ↓w_prnop, ↓w_pr, ↓w_nil, ↓w_cons, ↓w_put, ↓w_asgN, ↓w_asgT, ↓w_par, ↓w_ifs, ↓w_ret, ↓w_retn, ↓w_raise, ↓w_brk, ↓w_cont, ↓w_expr, ↓w_seti, ↓w_turn, ↓w_cnop, ↓w_cond, ↓w_lc, ↓w_forF, iv_non, iv_bl, iv_int, np_int, iv_str, iv_glob, iv_bin, np_bin, iv_neg, np_neg, iv_not, iv_and, iv_or, iv_one, iv_ife, np_ife, iv_cmp, iv_chain, iv_call, np_call, iv_bi, np_bi, iv_isi, iv_isis, iv_ix, np_ix, iv_sl, iv_rev, iv_tup, iv_lst, iv_lc, iv_disp, iv_get, iv_lcK, iv_val, np_var, np_cmp, np_chain, np_not, np_and, np_or, np_isi, np_isis, np_one, Rw_got, Ov_some, Ob_true, Ob_false, rdB, rdV, Rw_got, List.getElem?_cons_zero, List.getElem?_cons_succ, List.set_cons_zero, List.set_cons_succ, List.length_cons, List.length_nil, List.length_set, at0, at1, at2, at3, ix0, ix1, ix2, ix3, vf_add, vf_sub, vf_mul, vf_fdiv, vf_mod, vf_pow, vf_addT, vf_addL, vf_lt, vf_le, vf_gt, vf_ge, vf_lt2, vf_le2, vf_gt2, vf_ge2, vf_isN, vf_notN, vf_nn_int, vf_nn_bl, vf_nn_tup, vf_nn_lst, vf_nn_str, vf_nn_non, vf_tr_bl, vf_tr_int, vf_tr_non, vf_tr_tup, vf_tr_lst, vf_lenT, vf_lenL, vf_abs, vf_int, vf_tupL, vf_tupT, vf_lstL, vf_lstT, vf_gcd, vf_ixL, vf_ixT, vf_ixS, vf_setL, vf_appL, vf_neg, vf_ow, vf_mkT, vf_mkF, vf_part, vf_revL, vf_revT, vf_is_int_int, vf_is_bl_int, vf_is_str_int, vf_is_tup_int, vf_is_lst_int, vf_is_scr_int, vf_is_non_int, vf_is_int_bool, vf_is_bl_bool, vf_is_str_bool, vf_is_tup_bool, vf_is_lst_bool, vf_is_scr_bool, vf_is_non_bool, vf_is_int_str, vf_is_bl_str, vf_is_str_str, vf_is_tup_str, vf_is_lst_str, vf_is_scr_str, vf_is_non_str, vf_is_int_tuple, vf_is_bl_tuple, vf_is_str_tuple, vf_is_tup_tuple, vf_is_lst_tuple, vf_is_scr_tuple, vf_is_non_tuple, vf_is_int_list, vf_is_bl_list, vf_is_str_list, vf_is_tup_list, vf_is_lst_list, vf_is_scr_list, vf_is_non_list, vf_eqI, vf_neI, vf_eqB, Option.map_some, Option.bind_some, List.map_cons, List.map_nil, Nat.reduceAdd, Nat.reducePow, Int.reducePow, hPow18, Int.reduceMul, Int.reduceSub, Int.reduceFDiv, Int.reduceFMod, Nat.reduceLT, Nat.reduceLeDiff, Nat.reduceSub, Int.reduceLE, Int.reduceLT, Int.reduceNeg, Int.reduceAdd, Int.reduceToNat, Int.reduceEq, Int.ofNat_eq_coe, ↓reduceIte, reduceCtorEq, decide_true, decide_false, Int.cast_ofNat_Int, and_true, true_and, Bool.not_true, Bool.not_false, itemsV]
  refine ⟨by decide, for_inv (n := 0) (I := fun n ρ => ∃ (p' e' : Int) (acc : List Int) (t3 t4 t5 t6 : Sl), ρ = [.fz (.int p'), .fz (.int e'), .ow (.lst (acc.map .int)), t3, t4, t5, t6] ∧ acc ++ evenL (300 - n) p' e' = evenL 300 p e ∧ (p' + e').fmod 2 = 1 ∧ p'.natAbs ≤ 300 ∧ e'.natAbs ≤ 300 ∧ acc.length = n ∧ n ≤ 300) ?_ (fun j v ρ hv => ?_) fun ρ => ?_⟩
  · exact ⟨p, e, [], _, _, _, _, rfl, rfl, ho, hp, he, rfl, by omega⟩
  · rintro ⟨p', e', acc, t3, t4, t5, t6, rfl, hacc, ho', hp', he', hn, hn2⟩
    have hj : j < 300 := by
      have := (List.getElem?_eq_some_iff.mp hv).1
      rw [rngL_len] at this
      exact this
    rw [w_forF]
    by_cases h : e' = 0
    · subst h
      have hz : evenL (300 - (0 + j)) p' 0 = [] := by
        obtain ⟨m, hm⟩ : ∃ m, 300 - (0 + j) = m + 1 := ⟨300 - (0 + j) - 1, by omega⟩
        rw [hm]; rfl
      rw [hz, List.append_nil] at hacc
      simp only [↓w_bvar, ↓w_bnv, ↓w_var, ↓w_non, ↓w_bl, ↓w_int, ↓w_str, ↓w_val, ↓w_one, ↓w_bin, ↓w_neg, ↓w_test, ↓w_not, ↓w_and, ↓w_or, ↓w_ife, ↓w_cmp, ↓w_chain, ↓w_call, ↓w_bi, ↓w_isi, ↓w_isis, ↓w_ix, ↓w_sl, ↓w_rev, ↓w_tup, ↓w_lst, ↓w_snil, ↓w_scons, ↓w_bnil, ↓w_bcons, ↓w_anil, ↓w_aconsN, ↓w_aconsF, ↓w_aconsT, ↓w_prnop, ↓w_pr, ↓w_nil, ↓w_cons, ↓w_put, ↓w_asgN, ↓w_asgT, ↓w_par, ↓w_ifs, ↓w_ret, ↓w_retn, ↓w_raise, ↓w_brk, ↓w_cont, ↓w_expr, ↓w_seti, ↓w_turn, ↓w_cnop, ↓w_cond, ↓w_lc, ↓w_forF, iv_non, iv_bl, iv_int, np_int, iv_str, iv_glob, iv_bin, np_bin, iv_neg, np_neg, iv_not, iv_and, iv_or, iv_one, iv_ife, np_ife, iv_cmp, iv_chain, iv_call, np_call, iv_bi, np_bi, iv_isi, iv_isis, iv_ix, np_ix, iv_sl, iv_rev, iv_tup, iv_lst, iv_lc, iv_disp, iv_get, iv_lcK, iv_val, np_var, np_cmp, np_chain, np_not, np_and, np_or, np_isi, np_isis, np_one, Rw_got, Ov_some, Ob_true, Ob_false, rdB, rdV, Rw_got, List.getElem?_cons_zero, List.getElem?_cons_succ, List.set_cons_zero, List.set_cons_succ, List.length_cons, List.length_nil, List.length_set, at0, at1, at2, at3, ix0, ix1, ix2, ix3, vf_add, vf_sub, vf_mul, vf_fdiv, vf_mod, vf_pow, vf_addT, vf_addL, vf_lt, vf_le, vf_gt, vf_ge, vf_lt2, vf_le2, vf_gt2, vf_ge2, vf_isN, vf_notN, vf_nn_int, vf_nn_bl, vf_nn_tup, vf_nn_lst, vf_nn_str, vf_nn_non, vf_tr_bl, vf_tr_int, vf_tr_non, vf_tr_tup, vf_tr_lst, vf_lenT, vf_lenL, vf_abs, vf_int, vf_tupL, vf_tupT, vf_lstL, vf_lstT, vf_gcd, vf_ixL, vf_ixT, vf_ixS, vf_setL, vf_appL, vf_neg, vf_ow, vf_mkT, vf_mkF, vf_part, vf_revL, vf_revT, vf_is_int_int, vf_is_bl_int, vf_is_str_int, vf_is_tup_int, vf_is_lst_int, vf_is_scr_int, vf_is_non_int, vf_is_int_bool, vf_is_bl_bool, vf_is_str_bool, vf_is_tup_bool, vf_is_lst_bool, vf_is_scr_bool, vf_is_non_bool, vf_is_int_str, vf_is_bl_str, vf_is_str_str, vf_is_tup_str, vf_is_lst_str, vf_is_scr_str, vf_is_non_str, vf_is_int_tuple, vf_is_bl_tuple, vf_is_str_tuple, vf_is_tup_tuple, vf_is_lst_tuple, vf_is_scr_tuple, vf_is_non_tuple, vf_is_int_list, vf_is_bl_list, vf_is_str_list, vf_is_tup_list, vf_is_lst_list, vf_is_scr_list, vf_is_non_list, vf_eqI, vf_neI, vf_eqB, Option.map_some, Option.bind_some, List.map_cons, List.map_nil, Nat.reduceAdd, Nat.reducePow, Int.reducePow, hPow18, Int.reduceMul, Int.reduceSub, Int.reduceFDiv, Int.reduceFMod, Nat.reduceLT, Nat.reduceLeDiff, Nat.reduceSub, Int.reduceLE, Int.reduceLT, Int.reduceNeg, Int.reduceAdd, Int.reduceToNat, Int.reduceEq, Int.ofNat_eq_coe, ↓reduceIte, reduceCtorEq, decide_true, decide_false, Int.cast_ofNat_Int, and_true, true_and, Bool.not_true, Bool.not_false, bindT]
      rw [hacc]
    · obtain ⟨r1, r2⟩ := ev2_rest (p := p') h ho'
      have e1 : divOk e' = true := divOkI h (by omega)
      have e2 : mulOk (ev2 p' e') e' = true := mulOkR (by omega) (by omega)
      have hlen : (acc.map Val.int).length < sizeLine := Nat.lt_of_lt_of_le (by rw [List.length_map]; omega : (acc.map Val.int).length < 301) (by decide)
      have hev : evenL (300 - (0 + j)) p' e' = ev2 p' e' :: evenL (300 - (0 + j + 1)) e' (p' - ev2 p' e' * e') := by
        obtain ⟨m, hm⟩ : ∃ m, 300 - (0 + j) = m + 1 := ⟨300 - (0 + j) - 1, by omega⟩
        have hm2 : 300 - (0 + j + 1) = m := by omega
        rw [hm, hm2]
        show (if e' = 0 then [] else _) = _
        rw [if_neg h]
      have fin : ∀ t3 t4 t5 t6, ∃ (p2 e2 : Int) (acc2 : List Int) (s3 s4 s5 s6 : Sl), [Sl.fz (.int e'), Sl.fz (.int (p' - ev2 p' e' * e')), Sl.ow (.lst (acc.map Val.int ++ [Val.int (ev2 p' e')])), t3, t4, t5, t6] = [.fz (.int p2), .fz (.int e2), .ow (.lst (acc2.map .int)), s3, s4, s5, s6] ∧ acc2 ++ evenL (300 - (0 + j + 1)) p2 e2 = evenL 300 p e ∧ (p2 + e2).fmod 2 = 1 ∧ p2.natAbs ≤ 300 ∧ e2.natAbs ≤ 300 ∧ acc2.length = 0 + j + 1 ∧ 0 + j ≤ 299 := fun t3 t4 t5 t6 => by
        refine ⟨e', p' - ev2 p' e' * e', acc ++ [ev2 p' e'], t3, t4, t5, t6, by rw [List.map_append]; rfl, ?_, r2, he', by omega, by rw [List.length_append, hn]; rfl, by omega⟩
        rw [List.append_assoc, ← hacc, hev]
        rfl
      by_cases hl : (p'.fdiv e').fmod 2 = 0
      · have hb : ev2 p' e' = p'.fdiv e' := if_pos hl
        have hl2 : ¬ (p'.fdiv e' + 1).fmod 2 = 0 := by
          rw [Int.fmod_eq_emod_of_nonneg _ (by decide)] at hl ⊢
          omega
        rw [hb] at fin e2
        simp only [↓w_bvar, ↓w_bnv, ↓w_var, ↓w_non, ↓w_bl, ↓w_int, ↓w_str, ↓w_val, ↓w_one, ↓w_bin, ↓w_neg, ↓w_test, ↓w_not, ↓w_and, ↓w_or, ↓w_ife, ↓w_cmp, ↓w_chain, ↓w_call, ↓w_bi, ↓w_isi, ↓w_isis, ↓w_ix, ↓w_sl, ↓w_rev, ↓w_tup, ↓w_lst, ↓w_snil, ↓w_scons, ↓w_bnil, ↓w_bcons, ↓w_anil, ↓w_aconsN, ↓w_aconsF, ↓w_aconsT, ↓w_prnop, ↓w_pr, ↓w_nil, ↓w_cons, ↓w_put, ↓w_asgN, ↓w_asgT, ↓w_par, ↓w_ifs, ↓w_ret, ↓w_retn, ↓w_raise, ↓w_brk, ↓w_cont, ↓w_expr, ↓w_seti, ↓w_turn, ↓w_cnop, ↓w_cond, ↓w_lc, ↓w_forF, iv_non, iv_bl, iv_int, np_int, iv_str, iv_glob, iv_bin, np_bin, iv_neg, np_neg, iv_not, iv_and, iv_or, iv_one, iv_ife, np_ife, iv_cmp, iv_chain, iv_call, np_call, iv_bi, np_bi, iv_isi, iv_isis, iv_ix, np_ix, iv_sl, iv_rev, iv_tup, iv_lst, iv_lc, iv_disp, iv_get, iv_lcK, iv_val, np_var, np_cmp, np_chain, np_not, np_and, np_or, np_isi, np_isis, np_one, Rw_got, Ov_some, Ob_true, Ob_false, rdB, rdV, Rw_got, List.getElem?_cons_zero, List.getElem?_cons_succ, List.set_cons_zero, List.set_cons_succ, List.length_cons, List.length_nil, List.length_set, at0, at1, at2, at3, ix0, ix1, ix2, ix3, vf_add, vf_sub, vf_mul, vf_fdiv, vf_mod, vf_pow, vf_addT, vf_addL, vf_lt, vf_le, vf_gt, vf_ge, vf_lt2, vf_le2, vf_gt2, vf_ge2, vf_isN, vf_notN, vf_nn_int, vf_nn_bl, vf_nn_tup, vf_nn_lst, vf_nn_str, vf_nn_non, vf_tr_bl, vf_tr_int, vf_tr_non, vf_tr_tup, vf_tr_lst, vf_lenT, vf_lenL, vf_abs, vf_int, vf_tupL, vf_tupT, vf_lstL, vf_lstT, vf_gcd, vf_ixL, vf_ixT, vf_ixS, vf_setL, vf_appL, vf_neg, vf_ow, vf_mkT, vf_mkF, vf_part, vf_revL, vf_revT, vf_is_int_int, vf_is_bl_int, vf_is_str_int, vf_is_tup_int, vf_is_lst_int, vf_is_scr_int, vf_is_non_int, vf_is_int_bool, vf_is_bl_bool, vf_is_str_bool, vf_is_tup_bool, vf_is_lst_bool, vf_is_scr_bool, vf_is_non_bool, vf_is_int_str, vf_is_bl_str, vf_is_str_str, vf_is_tup_str, vf_is_lst_str, vf_is_scr_str, vf_is_non_str, vf_is_int_tuple, vf_is_bl_tuple, vf_is_str_tuple, vf_is_tup_tuple, vf_is_lst_tuple, vf_is_scr_tuple, vf_is_non_tuple, vf_is_int_list, vf_is_bl_list, vf_is_str_list, vf_is_tup_list, vf_is_lst_list, vf_is_scr_list, vf_is_non_list, vf_eqI, vf_neI, vf_eqB, Option.map_some, Option.bind_some, List.map_cons, List.map_nil, Nat.reduceAdd, Nat.reducePow, Int.reducePow, hPow18, Int.reduceMul, Int.reduceSub, Int.reduceFDiv, Int.reduceFMod, Nat.reduceLT, Nat.reduceLeDiff, Nat.reduceSub, Int.reduceLE, Int.reduceLT, Int.reduceNeg, Int.reduceAdd, Int.reduceToNat, Int.reduceEq, Int.ofNat_eq_coe, ↓reduceIte, reduceCtorEq, decide_true, decide_false, Int.cast_ofNat_Int, and_true, true_and, Bool.not_true, Bool.not_false, bindT, w_for, w_forcons, w_fornil, w_forF, itemsV, ↓w_bnon, w_appU, ls_ow, h, e1, e2, hl, hl2, hlen, Ov_ite]
        exact ⟨by decide, fin _ _ _ _⟩
      · have hb : ev2 p' e' = p'.fdiv e' + 1 := if_neg hl
        have hl2 : (p'.fdiv e' + 1).fmod 2 = 0 := by
          rw [Int.fmod_eq_emod_of_nonneg _ (by decide)] at hl ⊢
          omega
        rw [hb] at fin e2
        simp only [↓w_bvar, ↓w_bnv, ↓w_var, ↓w_non, ↓w_bl, ↓w_int, ↓w_str, ↓w_val, ↓w_one, ↓w_bin, ↓w_neg, ↓w_test, ↓w_not, ↓w_and, ↓w_or, ↓w_ife, ↓w_cmp, ↓w_chain, ↓w_call, ↓w_bi, ↓w_isi, ↓w_isis, ↓w_ix, ↓w_sl, ↓w_rev, ↓w_tup, ↓w_lst, ↓w_snil, ↓w_scons, ↓w_bnil, ↓w_bcons, ↓w_anil, ↓w_aconsN, ↓w_aconsF, ↓w_aconsT, ↓w_prnop, ↓w_pr, ↓w_nil, ↓w_cons, ↓w_put, ↓w_asgN, ↓w_asgT, ↓w_par, ↓w_ifs, ↓w_ret, ↓w_retn, ↓w_raise, ↓w_brk, ↓w_cont, ↓w_expr, ↓w_seti, ↓w_turn, ↓w_cnop, ↓w_cond, ↓w_lc, ↓w_forF, iv_non, iv_bl, iv_int, np_int, iv_str, iv_glob, iv_bin, np_bin, iv_neg, np_neg, iv_not, iv_and, iv_or, iv_one, iv_ife, np_ife, iv_cmp, iv_chain, iv_call, np_call, iv_bi, np_bi, iv_isi, iv_isis, iv_ix, np_ix, iv_sl, iv_rev, iv_tup, iv_lst, iv_lc, iv_disp, iv_get, iv_lcK, iv_val, np_var, np_cmp, np_chain, np_not, np_and, np_or, np_isi, np_isis, np_one, Rw_got, Ov_some, Ob_true, Ob_false, rdB, rdV, Rw_got, List.getElem?_cons_zero, List.getElem?_cons_succ, List.set_cons_zero, List.set_cons_succ, List.length_cons, List.length_nil, List.length_set, at0, at1, at2, at3, ix0, ix1, ix2, ix3, vf_add, vf_sub, vf_mul, vf_fdiv, vf_mod, vf_pow, vf_addT, vf_addL, vf_lt, vf_le, vf_gt, vf_ge, vf_lt2, vf_le2, vf_gt2, vf_ge2, vf_isN, vf_notN, vf_nn_int, vf_nn_bl, vf_nn_tup, vf_nn_lst, vf_nn_str, vf_nn_non, vf_tr_bl, vf_tr_int, vf_tr_non, vf_tr_tup, vf_tr_lst, vf_lenT, vf_lenL, vf_abs, vf_int, vf_tupL, vf_tupT, vf_lstL, vf_lstT, vf_gcd, vf_ixL, vf_ixT, vf_ixS, vf_setL, vf_appL, vf_neg, vf_ow, vf_mkT, vf_mkF, vf_part, vf_revL, vf_revT, vf_is_int_int, vf_is_bl_int, vf_is_str_int, vf_is_tup_int, vf_is_lst_int, vf_is_scr_int, vf_is_non_int, vf_is_int_bool, vf_is_bl_bool, vf_is_str_bool, vf_is_tup_bool, vf_is_lst_bool, vf_is_scr_bool, vf_is_non_bool, vf_is_int_str, vf_is_bl_str, vf_is_str_str, vf_is_tup_str, vf_is_lst_str, vf_is_scr_str, vf_is_non_str, vf_is_int_tuple, vf_is_bl_tuple, vf_is_str_tuple, vf_is_tup_tuple, vf_is_lst_tuple, vf_is_scr_tuple, vf_is_non_tuple, vf_is_int_list, vf_is_bl_list, vf_is_str_list, vf_is_tup_list, vf_is_lst_list, vf_is_scr_list, vf_is_non_list, vf_eqI, vf_neI, vf_eqB, Option.map_some, Option.bind_some, List.map_cons, List.map_nil, Nat.reduceAdd, Nat.reducePow, Int.reducePow, hPow18, Int.reduceMul, Int.reduceSub, Int.reduceFDiv, Int.reduceFMod, Nat.reduceLT, Nat.reduceLeDiff, Nat.reduceSub, Int.reduceLE, Int.reduceLT, Int.reduceNeg, Int.reduceAdd, Int.reduceToNat, Int.reduceEq, Int.ofNat_eq_coe, ↓reduceIte, reduceCtorEq, decide_true, decide_false, Int.cast_ofNat_Int, and_true, true_and, Bool.not_true, Bool.not_false, bindT, w_for, w_forcons, w_fornil, w_forF, itemsV, ↓w_bnon, w_appU, ls_ow, h, e1, e2, hl, hl2, hlen, Ov_ite]
        exact ⟨by decide, fin _ _ _ _⟩
  · rintro ⟨p', e', acc, t3, t4, t5, t6, rfl, hacc, ho', hp', he', hn, hn2⟩
    rw [rngL_len] at hacc
    have hz : evenL (300 - (0 + 300)) p' e' = [] := rfl
    rw [hz, List.append_nil] at hacc
    simp only [↓w_bvar, ↓w_bnv, ↓w_var, ↓w_non, ↓w_bl, ↓w_int, ↓w_str, ↓w_val, ↓w_one, ↓w_bin, ↓w_neg, ↓w_test, ↓w_not, ↓w_and, ↓w_or, ↓w_ife, ↓w_cmp, ↓w_chain, ↓w_call, ↓w_bi, ↓w_isi, ↓w_isis, ↓w_ix, ↓w_sl, ↓w_rev, ↓w_tup, ↓w_lst, ↓w_snil, ↓w_scons, ↓w_bnil, ↓w_bcons, ↓w_anil, ↓w_aconsN, ↓w_aconsF, ↓w_aconsT, ↓w_prnop, ↓w_pr, ↓w_nil, ↓w_cons, ↓w_put, ↓w_asgN, ↓w_asgT, ↓w_par, ↓w_ifs, ↓w_ret, ↓w_retn, ↓w_raise, ↓w_brk, ↓w_cont, ↓w_expr, ↓w_seti, ↓w_turn, ↓w_cnop, ↓w_cond, ↓w_lc, ↓w_forF, iv_non, iv_bl, iv_int, np_int, iv_str, iv_glob, iv_bin, np_bin, iv_neg, np_neg, iv_not, iv_and, iv_or, iv_one, iv_ife, np_ife, iv_cmp, iv_chain, iv_call, np_call, iv_bi, np_bi, iv_isi, iv_isis, iv_ix, np_ix, iv_sl, iv_rev, iv_tup, iv_lst, iv_lc, iv_disp, iv_get, iv_lcK, iv_val, np_var, np_cmp, np_chain, np_not, np_and, np_or, np_isi, np_isis, np_one, Rw_got, Ov_some, Ob_true, Ob_false, rdB, rdV, Rw_got, List.getElem?_cons_zero, List.getElem?_cons_succ, List.set_cons_zero, List.set_cons_succ, List.length_cons, List.length_nil, List.length_set, at0, at1, at2, at3, ix0, ix1, ix2, ix3, vf_add, vf_sub, vf_mul, vf_fdiv, vf_mod, vf_pow, vf_addT, vf_addL, vf_lt, vf_le, vf_gt, vf_ge, vf_lt2, vf_le2, vf_gt2, vf_ge2, vf_isN, vf_notN, vf_nn_int, vf_nn_bl, vf_nn_tup, vf_nn_lst, vf_nn_str, vf_nn_non, vf_tr_bl, vf_tr_int, vf_tr_non, vf_tr_tup, vf_tr_lst, vf_lenT, vf_lenL, vf_abs, vf_int, vf_tupL, vf_tupT, vf_lstL, vf_lstT, vf_gcd, vf_ixL, vf_ixT, vf_ixS, vf_setL, vf_appL, vf_neg, vf_ow, vf_mkT, vf_mkF, vf_part, vf_revL, vf_revT, vf_is_int_int, vf_is_bl_int, vf_is_str_int, vf_is_tup_int, vf_is_lst_int, vf_is_scr_int, vf_is_non_int, vf_is_int_bool, vf_is_bl_bool, vf_is_str_bool, vf_is_tup_bool, vf_is_lst_bool, vf_is_scr_bool, vf_is_non_bool, vf_is_int_str, vf_is_bl_str, vf_is_str_str, vf_is_tup_str, vf_is_lst_str, vf_is_scr_str, vf_is_non_str, vf_is_int_tuple, vf_is_bl_tuple, vf_is_str_tuple, vf_is_tup_tuple, vf_is_lst_tuple, vf_is_scr_tuple, vf_is_non_tuple, vf_is_int_list, vf_is_bl_list, vf_is_str_list, vf_is_tup_list, vf_is_lst_list, vf_is_scr_list, vf_is_non_list, vf_eqI, vf_neI, vf_eqB, Option.map_some, Option.bind_some, List.map_cons, List.map_nil, Nat.reduceAdd, Nat.reducePow, Int.reducePow, hPow18, Int.reduceMul, Int.reduceSub, Int.reduceFDiv, Int.reduceFMod, Nat.reduceLT, Nat.reduceLeDiff, Nat.reduceSub, Int.reduceLE, Int.reduceLT, Int.reduceNeg, Int.reduceAdd, Int.reduceToNat, Int.reduceEq, Int.ofNat_eq_coe, ↓reduceIte, reduceCtorEq, decide_true, decide_false, Int.cast_ofNat_Int, and_true, true_and, Bool.not_true, Bool.not_false, hacc]
end HD
set_option Elab.async false
set_option linter.all false
set_option maxRecDepth 100000
set_option maxHeartbeats 8000000
namespace HD
open PySem L2 EV
theorem same_bl {d : Nat} {b c : Bool} : D.prg.den (d + 1) 4 [.fz (.bl b), .fz (.bl c)] = .got ((.bl (b == c), false), [.no, .no]) := by
  cases b <;> cases c <;> kernel_rfl
theorem same_signed {d : Nat} : D.prg.den (d + 3) 4 [.fz (.tup [.str "signed", .bl true, .bl false]), .fz (.tup [.str "signed", .bl true, .bl false])] = .got ((.bl true, false), [.no, .no]) := by
  kernel_rfl
theorem fault_first {d : Nat} {x : Val} (hx : x ∈ [Val.tup [.int 0, .int 1], .tup [.int 3, .int 1], .tup [.int 4, .int 2], .tup [.int 9, .int 6], .tup [.int 5, .int 6], .tup [.int (-3), .int 2], .tup [.int 1000000001, .int 2], .tup [.non, .int 0], .tup [.int 5, .non], .tup [.bl true, .int 0], .tup [.int 5, .bl false], .tup [.str "5", .int 2], .tup [.lst [], .dic [] []]]) :
    D.prg.den (d + 4) 20 [.fz x, .fz (.tup [.int 3, .int 1])] = .got ((.tup [.str "signed", .bl true, .bl false], false), [.no, .no]) ∧ D.prg.den (d + 4) 20 [.fz (.tup [.int 3, .int 2]), .fz x] = .got ((.tup [.str "signed", .bl true, .bl false], false), [.no, .no]) := by
  simp only [List.mem_cons, List.not_mem_nil, _root_.or_false] at hx
  rcases hx with rfl | rfl | rfl | rfl | rfl | rfl | rfl | rfl | rfl | rfl | rfl | rfl | rfl <;> exact ⟨by kernel_rfl, by kernel_rfl⟩
end HD
set_option Elab.async false
set_option linter.all false
set_option maxRecDepth 100000
set_option maxHeartbeats 8000000
namespace HD
open PySem L2 EV
theorem always_ok {d : Nat} : D.prg.den (d + 6) 16 [] = .got ((.bl true, false), []) := by kernel_rfl
end HD
set_option Elab.async false
set_option linter.all false
set_option maxRecDepth 100000
set_option maxHeartbeats 8000000
namespace HD
open PySem L2 EV
/-- what a dict of ints says at n -/
def coef (ks : List Key) (cs : List Int) (n : Int) : Int := match lookK ks (cs.map .int) (.inl n) with
  | some (.int c) => c
  | _ => 0
/-- d is the table f -/
def DicOk (d : Val) (f : Int → Int) : Prop := ∃ (ns cs : List Int), d = .dic (ns.map .inl) (cs.map .int) ∧ ns.length = cs.length ∧ ns.Nodup ∧ ∀ n, coef (ns.map .inl) cs n = f n
theorem look_none : ∀ {ns cs : List Int} {n : Int}, n ∉ ns → lookK (ns.map .inl) (cs.map Val.int) (.inl n) = none
  | [], _, _, _ => by cases ‹List Int› <;> rfl
  | _ :: _, [], _, _ => rfl
  | m :: ns, c :: cs, n, h => by
    have h1 : ¬ m = n := fun e => h (by rw [e]; exact List.mem_cons_self)
    show (if (Sum.inl m : Key) = .inl n then _ else lookK (ns.map .inl) (cs.map Val.int) (.inl n)) = none
    rw [if_neg (fun e => h1 (Sum.inl.inj e))]
    exact look_none fun m => h (List.mem_cons_of_mem _ m)
theorem look_some : ∀ {ns cs : List Int} {n : Int}, ns.length = cs.length → n ∈ ns → ∃ c, lookK (ns.map .inl) (cs.map Val.int) (.inl n) = some (.int c)
  | m :: ns, c :: cs, n, l, h => by
    by_cases e : m = n
    · exact ⟨c, by show (if (Sum.inl m : Key) = .inl n then some (Val.int c) else _) = _; rw [if_pos (by rw [e])]⟩
    · obtain ⟨c', e'⟩ := look_some (ns := ns) (cs := cs) (n := n) (by simpa using l) (by
        rcases List.mem_cons.mp h with h | h
        · exact absurd h.symm e
        · exact h)
      refine ⟨c', ?_⟩
      show (if (Sum.inl m : Key) = .inl n then _ else lookK (ns.map .inl) (cs.map Val.int) (.inl n)) = _
      rw [if_neg (fun q => e (Sum.inl.inj q)), e']
theorem coef_get {ns cs : List Int} {n : Int} (l : ns.length = cs.length) : ((lookK (ns.map .inl) (cs.map Val.int) (.inl n)).getD (.int 0)) = .int (coef (ns.map .inl) cs n) := by
  unfold coef
  by_cases h : n ∈ ns
  · obtain ⟨c, e⟩ := look_some l h
    rw [e]; rfl
  · rw [look_none h]; rfl
theorem DicOk.nil : DicOk (.dic [] []) fun _ => 0 := ⟨[], [], rfl, rfl, .nil, fun _ => rfl⟩
theorem any_in {ns : List Int} {n : Int} : ((ns.map (Sum.inl : Int → Key)).any fun k => decide (k = .inl n)) = decide (n ∈ ns) := by
  induction ns with
  | nil => rfl
  | cons m ns ih =>
    rw [List.map_cons, List.any_cons, ih]
    by_cases e : m = n
    · subst e; simp
    · have e2 : ¬ n = m := fun h => e h.symm
      simp [e, e2]
theorem zip_upd : ∀ {ns cs : List Int} {n c : Int}, ns.length = cs.length → ∃ cs' : List Int, (((ns.map (Sum.inl : Int → Key)).zip (cs.map Val.int)).map fun p => if p.1 = .inl n then Val.int c else p.2) = cs'.map .int ∧ ns.length = cs'.length ∧ ∀ m, m ∈ ns → coef (ns.map .inl) cs' m = if m = n then c else coef (ns.map .inl) cs m
  | [], [], _, _, _ => ⟨[], rfl, rfl, fun _ h => nomatch h⟩
  | [], _ :: _, _, _, l => by cases l
  | _ :: _, [], _, _, l => by cases l
  | a :: ns, b :: cs, n, c, l => by
    obtain ⟨cs', e, l2, h⟩ := zip_upd (ns := ns) (cs := cs) (n := n) (c := c) (by simpa using l)
    refine ⟨(if a = n then c else b) :: cs', ?_, by simp [l2], fun m hm => ?_⟩
    · simp only [List.map_cons, List.zip_cons_cons, e]
      by_cases ha : a = n
      · simp [ha]
      · simp [ha]
    · unfold coef
      simp only [List.map_cons, lookK]
      by_cases hma : a = m
      · subst hma
        by_cases ha : a = n <;> simp [ha]
      · have hma2 : ¬ (Sum.inl a : Key) = .inl m := fun q => hma (Sum.inl.inj q)
        rw [if_neg hma2, if_neg hma2]
        exact h m (by
          rcases List.mem_cons.mp hm with h | h
          · exact absurd h.symm hma
          · exact h)
end HD
set_option Elab.async false
set_option linter.all false
set_option maxRecDepth 100000
set_option maxHeartbeats 8000000
namespace HD
open PySem L2 EV
/-- d is the table f, its powers in 0 .. b -/
def DB (d : Val) (b : Nat) (f : Int → Int) : Prop := ∃ (ns cs : List Int), d = .dic (ns.map .inl) (cs.map .int) ∧ ns.length = cs.length ∧ ns.Nodup ∧ (∀ n ∈ ns, 0 ≤ n ∧ n ≤ b) ∧ ∀ n, coef (ns.map .inl) cs n = f n
theorem nodup_len : ∀ {b : Nat} {ns : List Int}, ns.Nodup → (∀ n ∈ ns, 0 ≤ n ∧ n < b) → ns.length ≤ b
  | 0, [], _, _ => Nat.le_refl 0
  | 0, n :: ns, _, h => by have := h n List.mem_cons_self; omega
  | b + 1, ns, nd, h => by
    by_cases hb : (b : Int) ∈ ns
    · have h1 := nodup_len (b := b) (ns := ns.erase (b : Int)) (nd.erase _) (fun n hn => by
        have h2 := h n (List.mem_of_mem_erase hn)
        have h3 : n ≠ (b : Int) := fun e => by
          subst e
          exact (List.Nodup.not_mem_erase nd) hn
        omega)
      rw [List.length_erase_of_mem hb] at h1
      omega
    · have h1 := nodup_len (b := b) nd (fun n hn => by
        have h2 := h n hn
        have h3 : n ≠ (b : Int) := fun e => hb (e ▸ hn)
        omega)
      omega
theorem DB.len {ns : List Int} {b : Nat} (nd : ns.Nodup) (h : ∀ n ∈ ns, 0 ≤ n ∧ n ≤ b) : ns.length ≤ b + 1 := nodup_len nd fun n hn => by have := h n hn; omega
theorem DB.nil {b : Nat} : DB (.dic [] []) b fun _ => 0 := ⟨[], [], rfl, rfl, .nil, fun _ h => (nomatch h), fun _ => rfl⟩
def upd (f : Int → Int) (n c : Int) : Int → Int := fun m => if m = n then c else f m
theorem look_app : ∀ {ns cs : List Int} {n c m : Int}, ns.length = cs.length → lookK ((ns ++ [n]).map .inl) ((cs ++ [c]).map Val.int) (.inl m) = if m ∈ ns then lookK (ns.map .inl) (cs.map Val.int) (.inl m) else if n = m then some (.int c) else none
  | [], [], n, c, m, _ => by
    show (if (Sum.inl n : Key) = .inl m then some (Val.int c) else none) = _
    by_cases e : n = m <;> simp [e]
  | [], _ :: _, _, _, _, l => by cases l
  | _ :: _, [], _, _, _, l => by cases l
  | a :: ns, b :: cs, n, c, m, l => by
    have h := look_app (ns := ns) (cs := cs) (n := n) (c := c) (m := m) (by simpa using l)
    show (if (Sum.inl a : Key) = .inl m then some (Val.int b) else lookK ((ns ++ [n]).map .inl) ((cs ++ [c]).map Val.int) (.inl m)) = if m ∈ a :: ns then (if (Sum.inl a : Key) = .inl m then some (Val.int b) else lookK (ns.map .inl) (cs.map Val.int) (.inl m)) else _
    rw [h]
    by_cases e : a = m
    · subst e; simp
    · have e2 : ¬ m = a := fun q => e q.symm
      simp [e, e2]
theorem DB.put {ns cs : List Int} {n c : Int} (l : ns.length = cs.length) (nd : ns.Nodup) : ∃ ns' cs' : List Int, putK' (ns.map .inl) (cs.map Val.int) (.inl n) (.int c) = (ns'.map .inl, cs'.map .int) ∧ ns'.length = cs'.length ∧ ns'.Nodup ∧ (∀ m ∈ ns', m = n ∨ m ∈ ns) ∧ ∀ m, coef (ns'.map .inl) cs' m = upd (coef (ns.map .inl) cs) n c m := by
  unfold putK'
  rw [any_in]
  by_cases h : n ∈ ns
  · obtain ⟨cs', e, l2, h2⟩ := zip_upd (n := n) (c := c) l
    refine ⟨ns, cs', by rw [decide_eq_true h, if_pos rfl, e], l2, nd, fun m hm => .inr hm, fun m => ?_⟩
    unfold upd
    by_cases hm : m ∈ ns
    · rw [h2 m hm]
    · have : m ≠ n := fun q => hm (q ▸ h)
      rw [if_neg this]
      unfold coef
      rw [look_none hm, look_none hm]
  · refine ⟨ns ++ [n], cs ++ [c], by rw [decide_eq_false h, List.map_append, List.map_append]; rfl, by simp [l], ?_, fun m hm => ?_, fun m => ?_⟩
    · rw [List.nodup_append]
      exact ⟨nd, List.nodup_cons.mpr ⟨List.not_mem_nil, .nil⟩, fun a ha b hb e => h (by rw [List.mem_singleton] at hb; rw [← hb, ← e]; exact ha)⟩
    · rcases List.mem_append.mp hm with q | q
      · exact .inr q
      · exact .inl (List.mem_singleton.mp q)
    · unfold upd coef
      rw [look_app l]
      by_cases hm : m ∈ ns
      · have : m ≠ n := fun q => h (q ▸ hm)
        rw [if_pos hm, if_neg this]
      · rw [if_neg hm, look_none hm]
        by_cases e : m = n
        · subst e; simp
        · have e2 : ¬ n = m := fun q => e q.symm
          simp [e, e2]
theorem w_get {Γ : Env'} {ρ : Ro} {d kk v : E} {Qv : (Val × Bool) × Ro → Prop} {X : XP} : Rw (ev Γ (.get d kk v) ρ) Qv X = Rw (borrow d ρ (ev Γ d ρ)) (fun x => Ov (dicOf x.1) fun kv => Rw (ev Γ kk x.2) (fun y => Rw (ev Γ v y.2) (fun z => Ov (keyV y.1.1) fun j => Qv (((lookK kv.1 kv.2 j).getD z.1.1, false), z.2)) X) X) X := by
  show Rw (R.bind _ _) _ _ = _
  simp only [Rw_bind, Rw_of, Rw_got]
theorem w_disp {Γ : Env'} {ρ : Ro} {ks : List Key} {es : List E} {Qv : (Val × Bool) × Ro → Prop} {X : XP} : Rw (ev Γ (.disp ks es) ρ) Qv X = Rw (evs Γ es ρ) (fun z => (ks.length = z.1.length ∧ ks.length ≤ 15) ∧ Qv ((.dic (mergeD [] [] (ks.zip z.1)).1 (mergeD [] [] (ks.zip z.1)).2, true), z.2)) X := by
  show Rw (R.bind _ _) _ _ = _
  rw [Rw_bind]
  congr 1
  funext z
  by_cases h : ks.length = z.1.length ∧ ks.length ≤ 15
  · rw [if_pos h]
    exact propext ⟨fun q => ⟨h, q⟩, fun q => q.2⟩
  · rw [if_neg h]
    exact propext ⟨fun q => q.elim, fun q => absurd q.1 h⟩
def kysV : Val → Option (List Val)
  | .dic ks _ => some (ks.map keyVal)
  | _ => none
theorem w_keys {ρ : Ro} {i : Nat} {Q : List Val × Ro → Prop} {X : XP} : Rw (keysR ρ i) Q X = Rw (rdV ρ i) (fun z => Ov (kysV z.1.1) fun ks => Q (ks, z.2)) X := by
  unfold keysR
  rw [Rw_bind]
  congr 1
  funext z
  obtain ⟨⟨v, f⟩, ρ⟩ := z
  cases v <;> rfl
theorem dof {ks : List Key} {vs : List Val} : dicOf (.dic ks vs) = some (ks, vs) := rfl
theorem kyv {ks : List Key} {vs : List Val} : kysV (.dic ks vs) = some (ks.map keyVal) := rfl
theorem kv_int {n : Int} : keyV (.int n) = some (.inl n) := rfl
theorem setD {ks : List Key} {vs : List Val} {k v : Val} : setV (.dic ks vs) k v = (keyV k).bind fun j => if ks.length < sizeLine then some (.dic (putK' ks vs j v).1 (putK' ks vs j v).2) else none := by cases k <;> rfl
theorem gst_put : g__law_put.stab = [true, true, true] := by kernel_rfl
theorem stab11 : D.prg.stab 11 = [true, true, true] := by kernel_rfl
theorem outsOFF (a b c : Val) (ρ : Ro) : outsL [true, true, true] [.ow a, .fz b, .fz c] ρ = [ρ.headD .no, .no, .no] := rfl
theorem put_ok {d : Nat} {v : Val} {b : Nat} {f : Int → Int} {n c : Int} (h : DB v b f) (hb : b ≤ 100) (h0 : 0 ≤ n) (h1 : n ≤ b) : Rw (D.prg.den (d + 1) 11 [.ow v, .fz (.int n), .fz (.int c)]) (fun z => ∃ v', z = ((.non, false), [.ow v', .no, .no]) ∧ DB v' b (upd f n (f n + c))) NX := by
  obtain ⟨ns, cs, rfl, l, nd, hk, hf⟩ := h
  rw [den_succ (g := g__law_put) rfl, w_run rfl, gst_put]
  show Ow (evSs _ _ g__law_put.body [_, _, _]) _
  have hl : ns.length < sizeLine := Nat.lt_of_le_of_lt (DB.len nd hk) (Nat.lt_of_le_of_lt (by omega : b + 1 ≤ 101) (by decide))
  obtain ⟨ns', cs', e, l2, nd2, hm, hc⟩ := DB.put (n := n) (c := coef (ns.map .inl) cs n + c) l nd
  simp only [g__law_put, ↓w_bvar, ↓w_bnv, ↓w_var, ↓w_non, ↓w_bl, ↓w_int, ↓w_str, ↓w_val, ↓w_one, ↓w_bin, ↓w_neg, ↓w_test, ↓w_not, ↓w_and, ↓w_or, ↓w_ife, ↓w_cmp, ↓w_chain, ↓w_call, ↓w_bi, ↓w_isi, ↓w_isis, ↓w_ix, ↓w_sl, ↓w_rev, ↓w_tup, ↓w_lst, ↓w_snil, ↓w_scons, ↓w_bnil, ↓w_bcons, ↓w_anil, ↓w_aconsN, ↓w_aconsF, ↓w_aconsT, ↓w_prnop, ↓w_pr, ↓w_nil, ↓w_cons, ↓w_put, ↓w_asgN, ↓w_asgT, ↓w_par, ↓w_ifs, ↓w_ret, ↓w_retn, ↓w_raise, ↓w_brk, ↓w_cont, ↓w_expr, ↓w_seti, ↓w_turn, ↓w_cnop, ↓w_cond, ↓w_lc, ↓w_forF, iv_non, iv_bl, iv_int, np_int, iv_str, iv_glob, iv_bin, np_bin, iv_neg, np_neg, iv_not, iv_and, iv_or, iv_one, iv_ife, np_ife, iv_cmp, iv_chain, iv_call, np_call, iv_bi, np_bi, iv_isi, iv_isis, iv_ix, np_ix, iv_sl, iv_rev, iv_tup, iv_lst, iv_lc, iv_disp, iv_get, iv_lcK, iv_val, np_var, np_cmp, np_chain, np_not, np_and, np_or, np_isi, np_isis, np_one, Rw_got, Ov_some, Ob_true, Ob_false, rdB, rdV, Rw_got, List.getElem?_cons_zero, List.getElem?_cons_succ, List.set_cons_zero, List.set_cons_succ, List.length_cons, List.length_nil, List.length_set, at0, at1, at2, at3, ix0, ix1, ix2, ix3, vf_add, vf_sub, vf_mul, vf_fdiv, vf_mod, vf_pow, vf_addT, vf_addL, vf_lt, vf_le, vf_gt, vf_ge, vf_lt2, vf_le2, vf_gt2, vf_ge2, vf_isN, vf_notN, vf_nn_int, vf_nn_bl, vf_nn_tup, vf_nn_lst, vf_nn_str, vf_nn_non, vf_tr_bl, vf_tr_int, vf_tr_non, vf_tr_tup, vf_tr_lst, vf_lenT, vf_lenL, vf_abs, vf_int, vf_tupL, vf_tupT, vf_lstL, vf_lstT, vf_gcd, vf_ixL, vf_ixT, vf_ixS, vf_setL, vf_appL, vf_neg, vf_ow, vf_mkT, vf_mkF, vf_part, vf_revL, vf_revT, vf_is_int_int, vf_is_bl_int, vf_is_str_int, vf_is_tup_int, vf_is_lst_int, vf_is_scr_int, vf_is_non_int, vf_is_int_bool, vf_is_bl_bool, vf_is_str_bool, vf_is_tup_bool, vf_is_lst_bool, vf_is_scr_bool, vf_is_non_bool, vf_is_int_str, vf_is_bl_str, vf_is_str_str, vf_is_tup_str, vf_is_lst_str, vf_is_scr_str, vf_is_non_str, vf_is_int_tuple, vf_is_bl_tuple, vf_is_str_tuple, vf_is_tup_tuple, vf_is_lst_tuple, vf_is_scr_tuple, vf_is_non_tuple, vf_is_int_list, vf_is_bl_list, vf_is_str_list, vf_is_tup_list, vf_is_lst_list, vf_is_scr_list, vf_is_non_list, vf_eqI, vf_neI, vf_eqB, Option.map_some, Option.bind_some, List.map_cons, List.map_nil, Nat.reduceAdd, Nat.reducePow, Int.reducePow, hPow18, Int.reduceMul, Int.reduceSub, Int.reduceFDiv, Int.reduceFMod, Nat.reduceLT, Nat.reduceLeDiff, Nat.reduceSub, Int.reduceLE, Int.reduceLT, Int.reduceNeg, Int.reduceAdd, Int.reduceToNat, Int.reduceEq, Int.ofNat_eq_coe, ↓reduceIte, reduceCtorEq, decide_true, decide_false, Int.cast_ofNat_Int, and_true, true_and, Bool.not_true, Bool.not_false, w_get, dof, kv_int, coef_get l, setD, hl, List.length_map, e, outsOFF]
  refine ⟨_, rfl, ns', cs', rfl, l2, nd2, fun m q => ?_, fun m => ?_⟩
  · rcases hm m q with q | q
    · rw [q]; exact ⟨h0, h1⟩
    · exact hk m q
  · rw [hc m]
    unfold upd
    rw [hf n, hf m]
end HD
set_option Elab.async false
set_option linter.all false
set_option maxRecDepth 100000
set_option maxHeartbeats 8000000
namespace HD
open PySem L2 EV
theorem ints_map : ∀ {l : List Int}, intsOf (l.map .int) = some l
  | [] => rfl
  | i :: r => by
    show (intsOf (r.map .int)).map (i :: ·) = _
    rw [ints_map]; rfl
theorem vf_sorted {l : List Int} : biV .sorted [.lst (l.map .int)] = some (.lst ((isortI l).map .int), true) := by
  show (intsOf (l.map .int)).map _ = _
  rw [ints_map]; rfl
/-- the powers at which the table is not nought, in order -/
def Pows (l : List Int) (f : Int → Int) : Prop := l.Pairwise (· ≤ ·) ∧ l.Nodup ∧ ∀ n, n ∈ l ↔ f n ≠ 0
theorem Pows.uniq {l l2 : List Int} {f : Int → Int} (h : Pows l f) (h2 : Pows l2 f) : l = l2 :=
  sorted_uniq ((List.perm_ext_iff_of_nodup h.2.1 h2.2.1).mpr fun n => (h.2.2 n).trans (h2.2.2 n).symm) h.1 h2.1
def lastI : List Int → Int → Int
  | [], a => a
  | b :: r, _ => lastI r b
def toldV (f : Int → Int) : List Int → Val
  | [] => .tup [.int 0, .tup []]
  | a :: r => .tup [.int a, .tup ((rngL a (lastI r a + 1 - a).toNat).map fun x => match x with | .int n => .int (f n) | v => v)]
theorem lastI_get : ∀ {r : List Int} {a : Int}, (a :: r)[r.length]? = some (lastI r a)
  | [], a => rfl
  | b :: r, a => by
    show (b :: r)[r.length]? = _
    exact lastI_get (r := r) (a := b)
theorem at_last {r : List Int} {a : Int} : atI (Val.int a :: r.map .int) (-1) = some (.int (lastI r a)) := by
  unfold L2.atI ixN
  rw [if_neg (by decide), if_pos (by simp only [List.length_cons]; omega)]
  show (Val.int a :: r.map .int)[((-1 : Int) + _).toNat]? = _
  rw [show ((-1 : Int) + ((Val.int a :: r.map Val.int).length : Nat)).toNat = r.length by simp only [List.length_cons, List.length_map]; omega]
  rw [show Val.int a :: r.map .int = (a :: r).map .int from rfl, List.getElem?_map, lastI_get]
  rfl
theorem coef_in {ns cs : List Int} {n : Int} (h : coef (ns.map .inl) cs n ≠ 0) : n ∈ ns := by
  by_cases q : n ∈ ns
  · exact q
  · unfold coef at h
    rw [look_none q] at h
    exact absurd rfl h
theorem look_coef {ns cs : List Int} {n : Int} (l : ns.length = cs.length) (h : n ∈ ns) : lookK (ns.map .inl) (cs.map Val.int) (.inl n) = some (.int (coef (ns.map .inl) cs n)) := by
  obtain ⟨c, e⟩ := look_some l h
  unfold coef
  rw [e]
theorem keyvals {ns : List Int} : (ns.map (Sum.inl : Int → Key)).map keyVal = ns.map .int := by
  rw [List.map_map]; rfl
theorem ixD {ks : List Key} {vs : List Val} {w : Val} : ixW (.dic ks vs) w = (keyV w).bind (lookK ks vs) := rfl
theorem filt_int {ns : List Int} {p : Int → Bool} : ((ns.map Val.int).filter fun x => match x with | .int n => p n | _ => false) = (ns.filter p).map .int := by
  rw [List.filter_map]; rfl
theorem lastI_mem : ∀ {r : List Int} {a : Int}, lastI r a ∈ a :: r
  | [], a => List.mem_cons_self
  | b :: r, a => List.mem_cons_of_mem _ lastI_mem
theorem gst_told : g__law_told.stab = [true] := by kernel_rfl
theorem stab10 : D.prg.stab 10 = [true] := by kernel_rfl
theorem outsF (a : Val) (ρ : Ro) : outsL [true] [.fz a] ρ = [.no] := rfl
theorem told_ok {d : Nat} {v : Val} {b : Nat} {f : Int → Int} (h : DB v b f) (hb : b ≤ 100) : Rw (D.prg.den (d + 1) 10 [.fz v]) (fun z => ∃ l, Pows l f ∧ z = ((toldV f l, false), [.no])) NX := by
  obtain ⟨ns, cs, rfl, l, nd, hk, hf⟩ := h
  rw [den_succ (g := g__law_told) rfl, w_run rfl, gst_told]
  show Ow (evSs _ _ g__law_told.body [_, .no, .no]) _
  have hl : ns.length ≤ sizeLine := Nat.le_trans (DB.len nd hk) (Nat.le_trans (by omega : b + 1 ≤ 101) (by decide))
  simp only [g__law_told, ↓w_bvar, ↓w_bnv, ↓w_var, ↓w_non, ↓w_bl, ↓w_int, ↓w_str, ↓w_val, ↓w_one, ↓w_bin, ↓w_neg, ↓w_test, ↓w_not, ↓w_and, ↓w_or, ↓w_ife, ↓w_cmp, ↓w_chain, ↓w_call, ↓w_bi, ↓w_isi, ↓w_isis, ↓w_ix, ↓w_sl, ↓w_rev, ↓w_tup, ↓w_lst, ↓w_snil, ↓w_scons, ↓w_bnil, ↓w_bcons, ↓w_anil, ↓w_aconsN, ↓w_aconsF, ↓w_aconsT, ↓w_prnop, ↓w_pr, ↓w_nil, ↓w_cons, ↓w_put, ↓w_asgN, ↓w_asgT, ↓w_par, ↓w_ifs, ↓w_ret, ↓w_retn, ↓w_raise, ↓w_brk, ↓w_cont, ↓w_expr, ↓w_seti, ↓w_turn, ↓w_cnop, ↓w_cond, ↓w_lc, ↓w_forF, iv_non, iv_bl, iv_int, np_int, iv_str, iv_glob, iv_bin, np_bin, iv_neg, np_neg, iv_not, iv_and, iv_or, iv_one, iv_ife, np_ife, iv_cmp, iv_chain, iv_call, np_call, iv_bi, np_bi, iv_isi, iv_isis, iv_ix, np_ix, iv_sl, iv_rev, iv_tup, iv_lst, iv_lc, iv_disp, iv_get, iv_lcK, iv_val, np_var, np_cmp, np_chain, np_not, np_and, np_or, np_isi, np_isis, np_one, Rw_got, Ov_some, Ob_true, Ob_false, rdB, rdV, Rw_got, List.getElem?_cons_zero, List.getElem?_cons_succ, List.set_cons_zero, List.set_cons_succ, List.length_cons, List.length_nil, List.length_set, at0, at1, at2, at3, ix0, ix1, ix2, ix3, vf_add, vf_sub, vf_mul, vf_fdiv, vf_mod, vf_pow, vf_addT, vf_addL, vf_lt, vf_le, vf_gt, vf_ge, vf_lt2, vf_le2, vf_gt2, vf_ge2, vf_isN, vf_notN, vf_nn_int, vf_nn_bl, vf_nn_tup, vf_nn_lst, vf_nn_str, vf_nn_non, vf_tr_bl, vf_tr_int, vf_tr_non, vf_tr_tup, vf_tr_lst, vf_lenT, vf_lenL, vf_abs, vf_int, vf_tupL, vf_tupT, vf_lstL, vf_lstT, vf_gcd, vf_ixL, vf_ixT, vf_ixS, vf_setL, vf_appL, vf_neg, vf_ow, vf_mkT, vf_mkF, vf_part, vf_revL, vf_revT, vf_is_int_int, vf_is_bl_int, vf_is_str_int, vf_is_tup_int, vf_is_lst_int, vf_is_scr_int, vf_is_non_int, vf_is_int_bool, vf_is_bl_bool, vf_is_str_bool, vf_is_tup_bool, vf_is_lst_bool, vf_is_scr_bool, vf_is_non_bool, vf_is_int_str, vf_is_bl_str, vf_is_str_str, vf_is_tup_str, vf_is_lst_str, vf_is_scr_str, vf_is_non_str, vf_is_int_tuple, vf_is_bl_tuple, vf_is_str_tuple, vf_is_tup_tuple, vf_is_lst_tuple, vf_is_scr_tuple, vf_is_non_tuple, vf_is_int_list, vf_is_bl_list, vf_is_str_list, vf_is_tup_list, vf_is_lst_list, vf_is_scr_list, vf_is_non_list, vf_eqI, vf_neI, vf_eqB, Option.map_some, Option.bind_some, List.map_cons, List.map_nil, Nat.reduceAdd, Nat.reducePow, Int.reducePow, hPow18, Int.reduceMul, Int.reduceSub, Int.reduceFDiv, Int.reduceFMod, Nat.reduceLT, Nat.reduceLeDiff, Nat.reduceSub, Int.reduceLE, Int.reduceLT, Int.reduceNeg, Int.reduceAdd, Int.reduceToNat, Int.reduceEq, Int.ofNat_eq_coe, ↓reduceIte, reduceCtorEq, decide_true, decide_false, Int.cast_ofNat_Int, and_true, true_and, Bool.not_true, Bool.not_false, w_lcK, w_keys, kyv, keyvals, hl, List.length_map]
  refine loop_filter (pr := fun x => match x with | .int n => decide (coef (ns.map .inl) cs n ≠ 0) | _ => false) (fun x hx => ?_) ?_
  · obtain ⟨n, hn, rfl⟩ := List.mem_map.mp hx
    unfold lcF
    simp only [↓w_bvar, ↓w_bnv, ↓w_var, ↓w_non, ↓w_bl, ↓w_int, ↓w_str, ↓w_val, ↓w_one, ↓w_bin, ↓w_neg, ↓w_test, ↓w_not, ↓w_and, ↓w_or, ↓w_ife, ↓w_cmp, ↓w_chain, ↓w_call, ↓w_bi, ↓w_isi, ↓w_isis, ↓w_ix, ↓w_sl, ↓w_rev, ↓w_tup, ↓w_lst, ↓w_snil, ↓w_scons, ↓w_bnil, ↓w_bcons, ↓w_anil, ↓w_aconsN, ↓w_aconsF, ↓w_aconsT, ↓w_prnop, ↓w_pr, ↓w_nil, ↓w_cons, ↓w_put, ↓w_asgN, ↓w_asgT, ↓w_par, ↓w_ifs, ↓w_ret, ↓w_retn, ↓w_raise, ↓w_brk, ↓w_cont, ↓w_expr, ↓w_seti, ↓w_turn, ↓w_cnop, ↓w_cond, ↓w_lc, ↓w_forF, iv_non, iv_bl, iv_int, np_int, iv_str, iv_glob, iv_bin, np_bin, iv_neg, np_neg, iv_not, iv_and, iv_or, iv_one, iv_ife, np_ife, iv_cmp, iv_chain, iv_call, np_call, iv_bi, np_bi, iv_isi, iv_isis, iv_ix, np_ix, iv_sl, iv_rev, iv_tup, iv_lst, iv_lc, iv_disp, iv_get, iv_lcK, iv_val, np_var, np_cmp, np_chain, np_not, np_and, np_or, np_isi, np_isis, np_one, Rw_got, Ov_some, Ob_true, Ob_false, rdB, rdV, Rw_got, List.getElem?_cons_zero, List.getElem?_cons_succ, List.set_cons_zero, List.set_cons_succ, List.length_cons, List.length_nil, List.length_set, at0, at1, at2, at3, ix0, ix1, ix2, ix3, vf_add, vf_sub, vf_mul, vf_fdiv, vf_mod, vf_pow, vf_addT, vf_addL, vf_lt, vf_le, vf_gt, vf_ge, vf_lt2, vf_le2, vf_gt2, vf_ge2, vf_isN, vf_notN, vf_nn_int, vf_nn_bl, vf_nn_tup, vf_nn_lst, vf_nn_str, vf_nn_non, vf_tr_bl, vf_tr_int, vf_tr_non, vf_tr_tup, vf_tr_lst, vf_lenT, vf_lenL, vf_abs, vf_int, vf_tupL, vf_tupT, vf_lstL, vf_lstT, vf_gcd, vf_ixL, vf_ixT, vf_ixS, vf_setL, vf_appL, vf_neg, vf_ow, vf_mkT, vf_mkF, vf_part, vf_revL, vf_revT, vf_is_int_int, vf_is_bl_int, vf_is_str_int, vf_is_tup_int, vf_is_lst_int, vf_is_scr_int, vf_is_non_int, vf_is_int_bool, vf_is_bl_bool, vf_is_str_bool, vf_is_tup_bool, vf_is_lst_bool, vf_is_scr_bool, vf_is_non_bool, vf_is_int_str, vf_is_bl_str, vf_is_str_str, vf_is_tup_str, vf_is_lst_str, vf_is_scr_str, vf_is_non_str, vf_is_int_tuple, vf_is_bl_tuple, vf_is_str_tuple, vf_is_tup_tuple, vf_is_lst_tuple, vf_is_scr_tuple, vf_is_non_tuple, vf_is_int_list, vf_is_bl_list, vf_is_str_list, vf_is_tup_list, vf_is_lst_list, vf_is_scr_list, vf_is_non_list, vf_eqI, vf_neI, vf_eqB, Option.map_some, Option.bind_some, List.map_cons, List.map_nil, Nat.reduceAdd, Nat.reducePow, Int.reducePow, hPow18, Int.reduceMul, Int.reduceSub, Int.reduceFDiv, Int.reduceFMod, Nat.reduceLT, Nat.reduceLeDiff, Nat.reduceSub, Int.reduceLE, Int.reduceLT, Int.reduceNeg, Int.reduceAdd, Int.reduceToNat, Int.reduceEq, Int.ofNat_eq_coe, ↓reduceIte, reduceCtorEq, decide_true, decide_false, Int.cast_ofNat_Int, and_true, true_and, Bool.not_true, Bool.not_false, w_cond, wipeR, bindT, ixD, kv_int, look_coef l hn]
    by_cases hc : coef (ns.map .inl) cs n = 0 <;> simp only [↓w_bvar, ↓w_bnv, ↓w_var, ↓w_non, ↓w_bl, ↓w_int, ↓w_str, ↓w_val, ↓w_one, ↓w_bin, ↓w_neg, ↓w_test, ↓w_not, ↓w_and, ↓w_or, ↓w_ife, ↓w_cmp, ↓w_chain, ↓w_call, ↓w_bi, ↓w_isi, ↓w_isis, ↓w_ix, ↓w_sl, ↓w_rev, ↓w_tup, ↓w_lst, ↓w_snil, ↓w_scons, ↓w_bnil, ↓w_bcons, ↓w_anil, ↓w_aconsN, ↓w_aconsF, ↓w_aconsT, ↓w_prnop, ↓w_pr, ↓w_nil, ↓w_cons, ↓w_put, ↓w_asgN, ↓w_asgT, ↓w_par, ↓w_ifs, ↓w_ret, ↓w_retn, ↓w_raise, ↓w_brk, ↓w_cont, ↓w_expr, ↓w_seti, ↓w_turn, ↓w_cnop, ↓w_cond, ↓w_lc, ↓w_forF, iv_non, iv_bl, iv_int, np_int, iv_str, iv_glob, iv_bin, np_bin, iv_neg, np_neg, iv_not, iv_and, iv_or, iv_one, iv_ife, np_ife, iv_cmp, iv_chain, iv_call, np_call, iv_bi, np_bi, iv_isi, iv_isis, iv_ix, np_ix, iv_sl, iv_rev, iv_tup, iv_lst, iv_lc, iv_disp, iv_get, iv_lcK, iv_val, np_var, np_cmp, np_chain, np_not, np_and, np_or, np_isi, np_isis, np_one, Rw_got, Ov_some, Ob_true, Ob_false, rdB, rdV, Rw_got, List.getElem?_cons_zero, List.getElem?_cons_succ, List.set_cons_zero, List.set_cons_succ, List.length_cons, List.length_nil, List.length_set, at0, at1, at2, at3, ix0, ix1, ix2, ix3, vf_add, vf_sub, vf_mul, vf_fdiv, vf_mod, vf_pow, vf_addT, vf_addL, vf_lt, vf_le, vf_gt, vf_ge, vf_lt2, vf_le2, vf_gt2, vf_ge2, vf_isN, vf_notN, vf_nn_int, vf_nn_bl, vf_nn_tup, vf_nn_lst, vf_nn_str, vf_nn_non, vf_tr_bl, vf_tr_int, vf_tr_non, vf_tr_tup, vf_tr_lst, vf_lenT, vf_lenL, vf_abs, vf_int, vf_tupL, vf_tupT, vf_lstL, vf_lstT, vf_gcd, vf_ixL, vf_ixT, vf_ixS, vf_setL, vf_appL, vf_neg, vf_ow, vf_mkT, vf_mkF, vf_part, vf_revL, vf_revT, vf_is_int_int, vf_is_bl_int, vf_is_str_int, vf_is_tup_int, vf_is_lst_int, vf_is_scr_int, vf_is_non_int, vf_is_int_bool, vf_is_bl_bool, vf_is_str_bool, vf_is_tup_bool, vf_is_lst_bool, vf_is_scr_bool, vf_is_non_bool, vf_is_int_str, vf_is_bl_str, vf_is_str_str, vf_is_tup_str, vf_is_lst_str, vf_is_scr_str, vf_is_non_str, vf_is_int_tuple, vf_is_bl_tuple, vf_is_str_tuple, vf_is_tup_tuple, vf_is_lst_tuple, vf_is_scr_tuple, vf_is_non_tuple, vf_is_int_list, vf_is_bl_list, vf_is_str_list, vf_is_tup_list, vf_is_lst_list, vf_is_scr_list, vf_is_non_list, vf_eqI, vf_neI, vf_eqB, Option.map_some, Option.bind_some, List.map_cons, List.map_nil, Nat.reduceAdd, Nat.reducePow, Int.reducePow, hPow18, Int.reduceMul, Int.reduceSub, Int.reduceFDiv, Int.reduceFMod, Nat.reduceLT, Nat.reduceLeDiff, Nat.reduceSub, Int.reduceLE, Int.reduceLT, Int.reduceNeg, Int.reduceAdd, Int.reduceToNat, Int.reduceEq, Int.ofNat_eq_coe, ↓reduceIte, reduceCtorEq, decide_true, decide_false, Int.cast_ofNat_Int, and_true, true_and, Bool.not_true, Bool.not_false, hc, ne_eq, not_true_eq_false, not_false_eq_true, backR, Option.getD_some, Bool.false_eq_true]
  · simp only [filt_int, ↓w_bvar, ↓w_bnv, ↓w_var, ↓w_non, ↓w_bl, ↓w_int, ↓w_str, ↓w_val, ↓w_one, ↓w_bin, ↓w_neg, ↓w_test, ↓w_not, ↓w_and, ↓w_or, ↓w_ife, ↓w_cmp, ↓w_chain, ↓w_call, ↓w_bi, ↓w_isi, ↓w_isis, ↓w_ix, ↓w_sl, ↓w_rev, ↓w_tup, ↓w_lst, ↓w_snil, ↓w_scons, ↓w_bnil, ↓w_bcons, ↓w_anil, ↓w_aconsN, ↓w_aconsF, ↓w_aconsT, ↓w_prnop, ↓w_pr, ↓w_nil, ↓w_cons, ↓w_put, ↓w_asgN, ↓w_asgT, ↓w_par, ↓w_ifs, ↓w_ret, ↓w_retn, ↓w_raise, ↓w_brk, ↓w_cont, ↓w_expr, ↓w_seti, ↓w_turn, ↓w_cnop, ↓w_cond, ↓w_lc, ↓w_forF, iv_non, iv_bl, iv_int, np_int, iv_str, iv_glob, iv_bin, np_bin, iv_neg, np_neg, iv_not, iv_and, iv_or, iv_one, iv_ife, np_ife, iv_cmp, iv_chain, iv_call, np_call, iv_bi, np_bi, iv_isi, iv_isis, iv_ix, np_ix, iv_sl, iv_rev, iv_tup, iv_lst, iv_lc, iv_disp, iv_get, iv_lcK, iv_val, np_var, np_cmp, np_chain, np_not, np_and, np_or, np_isi, np_isis, np_one, Rw_got, Ov_some, Ob_true, Ob_false, rdB, rdV, Rw_got, List.getElem?_cons_zero, List.getElem?_cons_succ, List.set_cons_zero, List.set_cons_succ, List.length_cons, List.length_nil, List.length_set, at0, at1, at2, at3, ix0, ix1, ix2, ix3, vf_add, vf_sub, vf_mul, vf_fdiv, vf_mod, vf_pow, vf_addT, vf_addL, vf_lt, vf_le, vf_gt, vf_ge, vf_lt2, vf_le2, vf_gt2, vf_ge2, vf_isN, vf_notN, vf_nn_int, vf_nn_bl, vf_nn_tup, vf_nn_lst, vf_nn_str, vf_nn_non, vf_tr_bl, vf_tr_int, vf_tr_non, vf_tr_tup, vf_tr_lst, vf_lenT, vf_lenL, vf_abs, vf_int, vf_tupL, vf_tupT, vf_lstL, vf_lstT, vf_gcd, vf_ixL, vf_ixT, vf_ixS, vf_setL, vf_appL, vf_neg, vf_ow, vf_mkT, vf_mkF, vf_part, vf_revL, vf_revT, vf_is_int_int, vf_is_bl_int, vf_is_str_int, vf_is_tup_int, vf_is_lst_int, vf_is_scr_int, vf_is_non_int, vf_is_int_bool, vf_is_bl_bool, vf_is_str_bool, vf_is_tup_bool, vf_is_lst_bool, vf_is_scr_bool, vf_is_non_bool, vf_is_int_str, vf_is_bl_str, vf_is_str_str, vf_is_tup_str, vf_is_lst_str, vf_is_scr_str, vf_is_non_str, vf_is_int_tuple, vf_is_bl_tuple, vf_is_str_tuple, vf_is_tup_tuple, vf_is_lst_tuple, vf_is_scr_tuple, vf_is_non_tuple, vf_is_int_list, vf_is_bl_list, vf_is_str_list, vf_is_tup_list, vf_is_lst_list, vf_is_scr_list, vf_is_non_list, vf_eqI, vf_neI, vf_eqB, Option.map_some, Option.bind_some, List.map_cons, List.map_nil, Nat.reduceAdd, Nat.reducePow, Int.reducePow, hPow18, Int.reduceMul, Int.reduceSub, Int.reduceFDiv, Int.reduceFMod, Nat.reduceLT, Nat.reduceLeDiff, Nat.reduceSub, Int.reduceLE, Int.reduceLT, Int.reduceNeg, Int.reduceAdd, Int.reduceToNat, Int.reduceEq, Int.ofNat_eq_coe, ↓reduceIte, reduceCtorEq, decide_true, decide_false, Int.cast_ofNat_Int, and_true, true_and, Bool.not_true, Bool.not_false, vf_sorted]
    have hp : Pows (isortI (ns.filter fun n => decide (coef (ns.map .inl) cs n ≠ 0))) f := by
      refine ⟨isortI_sorted _, ((isortI_perm _).nodup_iff).mpr (nd.filter _), fun n => ?_⟩
      rw [(isortI_perm _).mem_iff, List.mem_filter]
      rw [← hf n]
      exact ⟨fun q => of_decide_eq_true q.2, fun q => ⟨coef_in q, decide_eq_true q⟩⟩
    have hin : ∀ n ∈ isortI (ns.filter fun n => decide (coef (ns.map .inl) cs n ≠ 0)), 0 ≤ n ∧ n ≤ b := fun n q => hk n (List.mem_filter.mp ((isortI_perm _).mem_iff.mp q)).1
    generalize isortI (ns.filter fun n => decide (coef (ns.map .inl) cs n ≠ 0)) = L at hp hin
    cases L with
    | nil =>
      simp only [↓w_bvar, ↓w_bnv, ↓w_var, ↓w_non, ↓w_bl, ↓w_int, ↓w_str, ↓w_val, ↓w_one, ↓w_bin, ↓w_neg, ↓w_test, ↓w_not, ↓w_and, ↓w_or, ↓w_ife, ↓w_cmp, ↓w_chain, ↓w_call, ↓w_bi, ↓w_isi, ↓w_isis, ↓w_ix, ↓w_sl, ↓w_rev, ↓w_tup, ↓w_lst, ↓w_snil, ↓w_scons, ↓w_bnil, ↓w_bcons, ↓w_anil, ↓w_aconsN, ↓w_aconsF, ↓w_aconsT, ↓w_prnop, ↓w_pr, ↓w_nil, ↓w_cons, ↓w_put, ↓w_asgN, ↓w_asgT, ↓w_par, ↓w_ifs, ↓w_ret, ↓w_retn, ↓w_raise, ↓w_brk, ↓w_cont, ↓w_expr, ↓w_seti, ↓w_turn, ↓w_cnop, ↓w_cond, ↓w_lc, ↓w_forF, iv_non, iv_bl, iv_int, np_int, iv_str, iv_glob, iv_bin, np_bin, iv_neg, np_neg, iv_not, iv_and, iv_or, iv_one, iv_ife, np_ife, iv_cmp, iv_chain, iv_call, np_call, iv_bi, np_bi, iv_isi, iv_isis, iv_ix, np_ix, iv_sl, iv_rev, iv_tup, iv_lst, iv_lc, iv_disp, iv_get, iv_lcK, iv_val, np_var, np_cmp, np_chain, np_not, np_and, np_or, np_isi, np_isis, np_one, Rw_got, Ov_some, Ob_true, Ob_false, rdB, rdV, Rw_got, List.getElem?_cons_zero, List.getElem?_cons_succ, List.set_cons_zero, List.set_cons_succ, List.length_cons, List.length_nil, List.length_set, at0, at1, at2, at3, ix0, ix1, ix2, ix3, vf_add, vf_sub, vf_mul, vf_fdiv, vf_mod, vf_pow, vf_addT, vf_addL, vf_lt, vf_le, vf_gt, vf_ge, vf_lt2, vf_le2, vf_gt2, vf_ge2, vf_isN, vf_notN, vf_nn_int, vf_nn_bl, vf_nn_tup, vf_nn_lst, vf_nn_str, vf_nn_non, vf_tr_bl, vf_tr_int, vf_tr_non, vf_tr_tup, vf_tr_lst, vf_lenT, vf_lenL, vf_abs, vf_int, vf_tupL, vf_tupT, vf_lstL, vf_lstT, vf_gcd, vf_ixL, vf_ixT, vf_ixS, vf_setL, vf_appL, vf_neg, vf_ow, vf_mkT, vf_mkF, vf_part, vf_revL, vf_revT, vf_is_int_int, vf_is_bl_int, vf_is_str_int, vf_is_tup_int, vf_is_lst_int, vf_is_scr_int, vf_is_non_int, vf_is_int_bool, vf_is_bl_bool, vf_is_str_bool, vf_is_tup_bool, vf_is_lst_bool, vf_is_scr_bool, vf_is_non_bool, vf_is_int_str, vf_is_bl_str, vf_is_str_str, vf_is_tup_str, vf_is_lst_str, vf_is_scr_str, vf_is_non_str, vf_is_int_tuple, vf_is_bl_tuple, vf_is_str_tuple, vf_is_tup_tuple, vf_is_lst_tuple, vf_is_scr_tuple, vf_is_non_tuple, vf_is_int_list, vf_is_bl_list, vf_is_str_list, vf_is_tup_list, vf_is_lst_list, vf_is_scr_list, vf_is_non_list, vf_eqI, vf_neI, vf_eqB, Option.map_some, Option.bind_some, List.map_cons, List.map_nil, Nat.reduceAdd, Nat.reducePow, Int.reducePow, hPow18, Int.reduceMul, Int.reduceSub, Int.reduceFDiv, Int.reduceFMod, Nat.reduceLT, Nat.reduceLeDiff, Nat.reduceSub, Int.reduceLE, Int.reduceLT, Int.reduceNeg, Int.reduceAdd, Int.reduceToNat, Int.reduceEq, Int.ofNat_eq_coe, ↓reduceIte, reduceCtorEq, decide_true, decide_false, Int.cast_ofNat_Int, and_true, true_and, Bool.not_true, Bool.not_false, outsF, List.isEmpty_nil]
      exact ⟨by decide, by decide, [], hp, rfl⟩
    | cons a r =>
      have ha := hin a List.mem_cons_self
      have hz := hin _ (lastI_mem (r := r) (a := a))
      have o1 : rngOk a = true := decide_eq_true (by constructor <;> omega)
      have o2 : rngOk (lastI r a + 1) = true := decide_eq_true (by constructor <;> omega)
      have e1 : (lastI r a + 1 - a).toNat ≤ sizeLine := Nat.le_trans (by omega : (lastI r a + 1 - a).toNat ≤ 1000) (by decide)
      simp only [↓w_bvar, ↓w_bnv, ↓w_var, ↓w_non, ↓w_bl, ↓w_int, ↓w_str, ↓w_val, ↓w_one, ↓w_bin, ↓w_neg, ↓w_test, ↓w_not, ↓w_and, ↓w_or, ↓w_ife, ↓w_cmp, ↓w_chain, ↓w_call, ↓w_bi, ↓w_isi, ↓w_isis, ↓w_ix, ↓w_sl, ↓w_rev, ↓w_tup, ↓w_lst, ↓w_snil, ↓w_scons, ↓w_bnil, ↓w_bcons, ↓w_anil, ↓w_aconsN, ↓w_aconsF, ↓w_aconsT, ↓w_prnop, ↓w_pr, ↓w_nil, ↓w_cons, ↓w_put, ↓w_asgN, ↓w_asgT, ↓w_par, ↓w_ifs, ↓w_ret, ↓w_retn, ↓w_raise, ↓w_brk, ↓w_cont, ↓w_expr, ↓w_seti, ↓w_turn, ↓w_cnop, ↓w_cond, ↓w_lc, ↓w_forF, iv_non, iv_bl, iv_int, np_int, iv_str, iv_glob, iv_bin, np_bin, iv_neg, np_neg, iv_not, iv_and, iv_or, iv_one, iv_ife, np_ife, iv_cmp, iv_chain, iv_call, np_call, iv_bi, np_bi, iv_isi, iv_isis, iv_ix, np_ix, iv_sl, iv_rev, iv_tup, iv_lst, iv_lc, iv_disp, iv_get, iv_lcK, iv_val, np_var, np_cmp, np_chain, np_not, np_and, np_or, np_isi, np_isis, np_one, Rw_got, Ov_some, Ob_true, Ob_false, rdB, rdV, Rw_got, List.getElem?_cons_zero, List.getElem?_cons_succ, List.set_cons_zero, List.set_cons_succ, List.length_cons, List.length_nil, List.length_set, at0, at1, at2, at3, ix0, ix1, ix2, ix3, vf_add, vf_sub, vf_mul, vf_fdiv, vf_mod, vf_pow, vf_addT, vf_addL, vf_lt, vf_le, vf_gt, vf_ge, vf_lt2, vf_le2, vf_gt2, vf_ge2, vf_isN, vf_notN, vf_nn_int, vf_nn_bl, vf_nn_tup, vf_nn_lst, vf_nn_str, vf_nn_non, vf_tr_bl, vf_tr_int, vf_tr_non, vf_tr_tup, vf_tr_lst, vf_lenT, vf_lenL, vf_abs, vf_int, vf_tupL, vf_tupT, vf_lstL, vf_lstT, vf_gcd, vf_ixL, vf_ixT, vf_ixS, vf_setL, vf_appL, vf_neg, vf_ow, vf_mkT, vf_mkF, vf_part, vf_revL, vf_revT, vf_is_int_int, vf_is_bl_int, vf_is_str_int, vf_is_tup_int, vf_is_lst_int, vf_is_scr_int, vf_is_non_int, vf_is_int_bool, vf_is_bl_bool, vf_is_str_bool, vf_is_tup_bool, vf_is_lst_bool, vf_is_scr_bool, vf_is_non_bool, vf_is_int_str, vf_is_bl_str, vf_is_str_str, vf_is_tup_str, vf_is_lst_str, vf_is_scr_str, vf_is_non_str, vf_is_int_tuple, vf_is_bl_tuple, vf_is_str_tuple, vf_is_tup_tuple, vf_is_lst_tuple, vf_is_scr_tuple, vf_is_non_tuple, vf_is_int_list, vf_is_bl_list, vf_is_str_list, vf_is_tup_list, vf_is_lst_list, vf_is_scr_list, vf_is_non_list, vf_eqI, vf_neI, vf_eqB, Option.map_some, Option.bind_some, List.map_cons, List.map_nil, Nat.reduceAdd, Nat.reducePow, Int.reducePow, hPow18, Int.reduceMul, Int.reduceSub, Int.reduceFDiv, Int.reduceFMod, Nat.reduceLT, Nat.reduceLeDiff, Nat.reduceSub, Int.reduceLE, Int.reduceLT, Int.reduceNeg, Int.reduceAdd, Int.reduceToNat, Int.reduceEq, Int.ofNat_eq_coe, ↓reduceIte, reduceCtorEq, decide_true, decide_false, Int.cast_ofNat_Int, and_true, true_and, Bool.not_true, Bool.not_false, outsF, List.isEmpty_cons, w_rng2, at_last, o1, o2, Bool.and_self, itemsV, rngL_len, e1]
      refine loop_map (g := fun x => match x with | .int n => .int (f n) | v => v) (fun x hx => ?_) ?_
      · obtain ⟨n, rfl, n1, n2⟩ := mem_rngL hx
        unfold lcF
        simp only [↓w_bvar, ↓w_bnv, ↓w_var, ↓w_non, ↓w_bl, ↓w_int, ↓w_str, ↓w_val, ↓w_one, ↓w_bin, ↓w_neg, ↓w_test, ↓w_not, ↓w_and, ↓w_or, ↓w_ife, ↓w_cmp, ↓w_chain, ↓w_call, ↓w_bi, ↓w_isi, ↓w_isis, ↓w_ix, ↓w_sl, ↓w_rev, ↓w_tup, ↓w_lst, ↓w_snil, ↓w_scons, ↓w_bnil, ↓w_bcons, ↓w_anil, ↓w_aconsN, ↓w_aconsF, ↓w_aconsT, ↓w_prnop, ↓w_pr, ↓w_nil, ↓w_cons, ↓w_put, ↓w_asgN, ↓w_asgT, ↓w_par, ↓w_ifs, ↓w_ret, ↓w_retn, ↓w_raise, ↓w_brk, ↓w_cont, ↓w_expr, ↓w_seti, ↓w_turn, ↓w_cnop, ↓w_cond, ↓w_lc, ↓w_forF, iv_non, iv_bl, iv_int, np_int, iv_str, iv_glob, iv_bin, np_bin, iv_neg, np_neg, iv_not, iv_and, iv_or, iv_one, iv_ife, np_ife, iv_cmp, iv_chain, iv_call, np_call, iv_bi, np_bi, iv_isi, iv_isis, iv_ix, np_ix, iv_sl, iv_rev, iv_tup, iv_lst, iv_lc, iv_disp, iv_get, iv_lcK, iv_val, np_var, np_cmp, np_chain, np_not, np_and, np_or, np_isi, np_isis, np_one, Rw_got, Ov_some, Ob_true, Ob_false, rdB, rdV, Rw_got, List.getElem?_cons_zero, List.getElem?_cons_succ, List.set_cons_zero, List.set_cons_succ, List.length_cons, List.length_nil, List.length_set, at0, at1, at2, at3, ix0, ix1, ix2, ix3, vf_add, vf_sub, vf_mul, vf_fdiv, vf_mod, vf_pow, vf_addT, vf_addL, vf_lt, vf_le, vf_gt, vf_ge, vf_lt2, vf_le2, vf_gt2, vf_ge2, vf_isN, vf_notN, vf_nn_int, vf_nn_bl, vf_nn_tup, vf_nn_lst, vf_nn_str, vf_nn_non, vf_tr_bl, vf_tr_int, vf_tr_non, vf_tr_tup, vf_tr_lst, vf_lenT, vf_lenL, vf_abs, vf_int, vf_tupL, vf_tupT, vf_lstL, vf_lstT, vf_gcd, vf_ixL, vf_ixT, vf_ixS, vf_setL, vf_appL, vf_neg, vf_ow, vf_mkT, vf_mkF, vf_part, vf_revL, vf_revT, vf_is_int_int, vf_is_bl_int, vf_is_str_int, vf_is_tup_int, vf_is_lst_int, vf_is_scr_int, vf_is_non_int, vf_is_int_bool, vf_is_bl_bool, vf_is_str_bool, vf_is_tup_bool, vf_is_lst_bool, vf_is_scr_bool, vf_is_non_bool, vf_is_int_str, vf_is_bl_str, vf_is_str_str, vf_is_tup_str, vf_is_lst_str, vf_is_scr_str, vf_is_non_str, vf_is_int_tuple, vf_is_bl_tuple, vf_is_str_tuple, vf_is_tup_tuple, vf_is_lst_tuple, vf_is_scr_tuple, vf_is_non_tuple, vf_is_int_list, vf_is_bl_list, vf_is_str_list, vf_is_tup_list, vf_is_lst_list, vf_is_scr_list, vf_is_non_list, vf_eqI, vf_neI, vf_eqB, Option.map_some, Option.bind_some, List.map_cons, List.map_nil, Nat.reduceAdd, Nat.reducePow, Int.reducePow, hPow18, Int.reduceMul, Int.reduceSub, Int.reduceFDiv, Int.reduceFMod, Nat.reduceLT, Nat.reduceLeDiff, Nat.reduceSub, Int.reduceLE, Int.reduceLT, Int.reduceNeg, Int.reduceAdd, Int.reduceToNat, Int.reduceEq, Int.ofNat_eq_coe, ↓reduceIte, reduceCtorEq, decide_true, decide_false, Int.cast_ofNat_Int, and_true, true_and, Bool.not_true, Bool.not_false, w_cnop, wipeR, bindT, w_get, dof, kv_int, coef_get l, hf, backR, Option.getD_some]
      · simp only [↓w_bvar, ↓w_bnv, ↓w_var, ↓w_non, ↓w_bl, ↓w_int, ↓w_str, ↓w_val, ↓w_one, ↓w_bin, ↓w_neg, ↓w_test, ↓w_not, ↓w_and, ↓w_or, ↓w_ife, ↓w_cmp, ↓w_chain, ↓w_call, ↓w_bi, ↓w_isi, ↓w_isis, ↓w_ix, ↓w_sl, ↓w_rev, ↓w_tup, ↓w_lst, ↓w_snil, ↓w_scons, ↓w_bnil, ↓w_bcons, ↓w_anil, ↓w_aconsN, ↓w_aconsF, ↓w_aconsT, ↓w_prnop, ↓w_pr, ↓w_nil, ↓w_cons, ↓w_put, ↓w_asgN, ↓w_asgT, ↓w_par, ↓w_ifs, ↓w_ret, ↓w_retn, ↓w_raise, ↓w_brk, ↓w_cont, ↓w_expr, ↓w_seti, ↓w_turn, ↓w_cnop, ↓w_cond, ↓w_lc, ↓w_forF, iv_non, iv_bl, iv_int, np_int, iv_str, iv_glob, iv_bin, np_bin, iv_neg, np_neg, iv_not, iv_and, iv_or, iv_one, iv_ife, np_ife, iv_cmp, iv_chain, iv_call, np_call, iv_bi, np_bi, iv_isi, iv_isis, iv_ix, np_ix, iv_sl, iv_rev, iv_tup, iv_lst, iv_lc, iv_disp, iv_get, iv_lcK, iv_val, np_var, np_cmp, np_chain, np_not, np_and, np_or, np_isi, np_isis, np_one, Rw_got, Ov_some, Ob_true, Ob_false, rdB, rdV, Rw_got, List.getElem?_cons_zero, List.getElem?_cons_succ, List.set_cons_zero, List.set_cons_succ, List.length_cons, List.length_nil, List.length_set, at0, at1, at2, at3, ix0, ix1, ix2, ix3, vf_add, vf_sub, vf_mul, vf_fdiv, vf_mod, vf_pow, vf_addT, vf_addL, vf_lt, vf_le, vf_gt, vf_ge, vf_lt2, vf_le2, vf_gt2, vf_ge2, vf_isN, vf_notN, vf_nn_int, vf_nn_bl, vf_nn_tup, vf_nn_lst, vf_nn_str, vf_nn_non, vf_tr_bl, vf_tr_int, vf_tr_non, vf_tr_tup, vf_tr_lst, vf_lenT, vf_lenL, vf_abs, vf_int, vf_tupL, vf_tupT, vf_lstL, vf_lstT, vf_gcd, vf_ixL, vf_ixT, vf_ixS, vf_setL, vf_appL, vf_neg, vf_ow, vf_mkT, vf_mkF, vf_part, vf_revL, vf_revT, vf_is_int_int, vf_is_bl_int, vf_is_str_int, vf_is_tup_int, vf_is_lst_int, vf_is_scr_int, vf_is_non_int, vf_is_int_bool, vf_is_bl_bool, vf_is_str_bool, vf_is_tup_bool, vf_is_lst_bool, vf_is_scr_bool, vf_is_non_bool, vf_is_int_str, vf_is_bl_str, vf_is_str_str, vf_is_tup_str, vf_is_lst_str, vf_is_scr_str, vf_is_non_str, vf_is_int_tuple, vf_is_bl_tuple, vf_is_str_tuple, vf_is_tup_tuple, vf_is_lst_tuple, vf_is_scr_tuple, vf_is_non_tuple, vf_is_int_list, vf_is_bl_list, vf_is_str_list, vf_is_tup_list, vf_is_lst_list, vf_is_scr_list, vf_is_non_list, vf_eqI, vf_neI, vf_eqB, Option.map_some, Option.bind_some, List.map_cons, List.map_nil, Nat.reduceAdd, Nat.reducePow, Int.reducePow, hPow18, Int.reduceMul, Int.reduceSub, Int.reduceFDiv, Int.reduceFMod, Nat.reduceLT, Nat.reduceLeDiff, Nat.reduceSub, Int.reduceLE, Int.reduceLT, Int.reduceNeg, Int.reduceAdd, Int.reduceToNat, Int.reduceEq, Int.ofNat_eq_coe, ↓reduceIte, reduceCtorEq, decide_true, decide_false, Int.cast_ofNat_Int, and_true, true_and, Bool.not_true, Bool.not_false, outsF]
        exact ⟨by decide, _, hp, rfl⟩
end HD
set_option Elab.async false
set_option linter.all false
set_option maxRecDepth 100000
set_option maxHeartbeats 8000000
namespace HD
open PySem L2 EV
theorem DB.congr {v : Val} {b : Nat} {f g : Int → Int} (h : DB v b f) (e : ∀ n, f n = g n) : DB v b g := by
  obtain ⟨ns, cs, e1, l, nd, hk, hf⟩ := h
  exact ⟨ns, cs, e1, l, nd, hk, fun n => (hf n).trans (e n)⟩
theorem DB.mono {v : Val} {b c : Nat} {f : Int → Int} (h : DB v b f) (e : b ≤ c) : DB v c f := by
  obtain ⟨ns, cs, e1, l, nd, hk, hf⟩ := h
  exact ⟨ns, cs, e1, l, nd, fun n hn => by have := hk n hn; omega, hf⟩
theorem kvs_map {g : Int → Int} : ∀ {ns : List Int}, kvsOf (ns.map fun n => Val.tup [.int n, .int (g n)]) = some (ns.map fun n => (Sum.inl n, Val.int (g n)))
  | [] => rfl
  | n :: ns => by
    show (kvsOf (ns.map fun n => Val.tup [.int n, .int (g n)])).map ((Sum.inl n, Val.int (g n)) :: ·) = _
    rw [kvs_map]; rfl
theorem merge_new {g : Int → Int} : ∀ {ns ks : List Int} {cs : List Int}, ns.Nodup → (∀ n ∈ ns, n ∉ ks) → mergeD (ks.map .inl) (cs.map Val.int) (ns.map fun n => (Sum.inl n, Val.int (g n))) = ((ks ++ ns).map .inl, (cs ++ ns.map g).map Val.int)
  | [], ks, cs, _, _ => by simp [mergeD]
  | n :: ns, ks, cs, nd, h => by
    rw [List.nodup_cons] at nd
    have e : putK' (ks.map .inl) (cs.map Val.int) (.inl n) (.int (g n)) = ((ks ++ [n]).map .inl, (cs ++ [g n]).map Val.int) := by
      unfold putK'
      rw [any_in, decide_eq_false (h n List.mem_cons_self)]
      simp
    show mergeD (putK' (ks.map .inl) (cs.map Val.int) (.inl n) (.int (g n))).1 (putK' (ks.map .inl) (cs.map Val.int) (.inl n) (.int (g n))).2 (ns.map fun n => (Sum.inl n, Val.int (g n))) = _
    rw [e]
    have := merge_new (g := g) (ns := ns) (ks := ks ++ [n]) (cs := cs ++ [g n]) nd.2 fun m hm q => by
      rcases List.mem_append.mp q with q | q
      · exact h m (List.mem_cons_of_mem _ hm) q
      · rw [List.mem_singleton] at q
        subst q
        exact nd.1 hm
    rw [this]
    simp
theorem coef_map {g : Int → Int} : ∀ {ns : List Int} {n : Int}, coef (ns.map .inl) (ns.map g) n = if n ∈ ns then g n else 0
  | [], _ => rfl
  | m :: ns, n => by
    have ih := coef_map (g := g) (ns := ns) (n := n)
    unfold coef at ih ⊢
    show (match (if (Sum.inl m : Key) = .inl n then some (Val.int (g m)) else lookK (ns.map .inl) ((ns.map g).map Val.int) (.inl n)) with | some (.int c) => c | _ => 0) = _
    by_cases e : m = n
    · subst e; simp
    · have e2 : ¬ n = m := fun q => e q.symm
      rw [if_neg (fun q => e (Sum.inl.inj q))]
      refine Eq.trans ih ?_
      simp [e2]
theorem DB.dict {g : Int → Int} {ns : List Int} {b : Nat} (nd : ns.Nodup) (hk : ∀ n ∈ ns, 0 ≤ n ∧ n ≤ b) : DB (.dic (mergeD [] [] (ns.map fun n => (Sum.inl n, Val.int (g n)))).1 (mergeD [] [] (ns.map fun n => (Sum.inl n, Val.int (g n)))).2) b (fun n => if n ∈ ns then g n else 0) := by
  have := merge_new (g := g) (ns := ns) (ks := []) (cs := []) nd (fun _ _ => List.not_mem_nil)
  rw [List.map_nil, List.map_nil] at this
  rw [this]
  exact ⟨ns, ns.map g, rfl, by simp, nd, hk, fun n => coef_map⟩
theorem vf_dict {xs : List Val} : biV .dict [.lst xs] = (kvsOf xs).map fun ps => (.dic (mergeD [] [] ps).1 (mergeD [] [] ps).2, true) := rfl
theorem gst_sum_of : g__law_sum_of.stab = [true, true] := by kernel_rfl
theorem stab12 : D.prg.stab 12 = [true, true] := by kernel_rfl
theorem outsS2 (a b : Sl) (ρ : Ro) (hb : ∀ v, b ≠ .ow v) : ∃ o, outsL [true, true] [a, b] ρ = [o, .no] := by
  cases b with
  | ow v => exact absurd rfl (hb v)
  | fz v => exact ⟨_, rfl⟩
  | no => exact ⟨_, rfl⟩
/-- the items that pass a test, turned -/
theorem loop_fm {f : Val → Ro → EV.R (List Val × Ro)} {ρ : Ro} {pr : Val → Bool} {g : Val → Val} {X : XP} {Ql : List Val × Ro → Prop} {items : List Val} (h : ∀ x ∈ items, Rw (f x ρ) (fun z => z = (if pr x then [g x] else [], ρ)) X) (q : Ql ((items.filter pr).map g, ρ)) : Rw (loopL f items ρ) Ql X := by
  refine loop_inv (I := fun n acc ρ' => acc = ((items.take n).filter pr).map g ∧ ρ' = ρ) (n := 0) (acc := []) ⟨rfl, rfl⟩ (fun j x acc ρ' e ⟨e1, e2⟩ => ?_) fun acc' ρ' ⟨e1, e2⟩ => ?_
  · subst e2
    refine Rw_mono (h x (List.mem_of_getElem? e)) ?_ fun _ _ z => z
    rintro z rfl
    refine ⟨?_, rfl⟩
    rw [e1, Nat.zero_add, List.take_succ, e, List.filter_append, List.map_append]
    by_cases hp : pr x <;> simp [List.filter_cons, hp]
  · subst e2
    rw [List.nil_append, Nat.zero_add, List.take_length] at e1
    rw [e1]
    exact q
/-- the slot of v, own or not -/
def Slot (s : Sl) (v : Val) : Prop := s = .fz v ∨ s = .ow v
theorem Slot.out {s : Sl} {v w : Val} (h : Slot s v) (a t0 t1 : Sl) : ∃ o, outsL [true, true] [s, .fz w] [.fz v, a, t0, t1] = [o, .no] := by
  rcases h with rfl | rfl <;> exact ⟨_, rfl⟩
theorem Slot.rd {s : Sl} {v : Val} (h : Slot s v) {ρ : Ro} : rdV (s :: ρ) 0 = .got ((v, false), .fz v :: ρ) := by
  rcases h with rfl | rfl <;> rfl
theorem vf_dicM {g : Int → Int} {ns : List Int} : biV .dict [.lst (ns.map fun n => Val.tup [.int n, .int (g n)])] = some (.dic (mergeD [] [] (ns.map fun n => (Sum.inl n, Val.int (g n)))).1 (mergeD [] [] (ns.map fun n => (Sum.inl n, Val.int (g n)))).2, true) := by
  rw [vf_dict, kvs_map]; rfl
theorem sum_of_ok {d : Nat} {s : Sl} {v w : Val} {b : Nat} {f g : Int → Int} (hs : Slot s v) (h : DB v b f) (h2 : DB w b g) (hb : b ≤ 100) : Rw (D.prg.den (d + 2) 12 [s, .fz w]) (fun z => ∃ u o, z = ((u, true), [o, .no]) ∧ DB u b (fun n => f n + g n)) NX := by
  obtain ⟨ns, cs, rfl, l, nd, hk, hf⟩ := h
  obtain ⟨ms, ds, rfl, l2, nd2, hk2, hg⟩ := h2
  rw [den_succ (g := g__law_sum_of) rfl, w_run rfl, gst_sum_of]
  have hl : ns.length ≤ sizeLine := Nat.le_trans (DB.len nd hk) (Nat.le_trans (by omega : b + 1 ≤ 101) (by decide))
  show Ow (evSs _ _ g__law_sum_of.body [s, _, .no, .no]) _
  simp only [g__law_sum_of, ↓w_cons, ↓w_asgN, ↓w_bi, ↓w_bcons, iv_lcK, ↓w_bnv, w_lcK, w_keys, hs.rd, Rw_got, kyv, Ov_some, keyvals, hl, List.length_map, true_and]
  refine loop_map (g := fun x => match x with | .int n => .tup [.int n, .int (coef (ns.map .inl) cs n)] | v => v) (fun x hx => ?_) ?_
  · obtain ⟨n, hn, rfl⟩ := List.mem_map.mp hx
    unfold lcF
    simp only [↓w_bvar, ↓w_bnv, ↓w_var, ↓w_non, ↓w_bl, ↓w_int, ↓w_str, ↓w_val, ↓w_one, ↓w_bin, ↓w_neg, ↓w_test, ↓w_not, ↓w_and, ↓w_or, ↓w_ife, ↓w_cmp, ↓w_chain, ↓w_call, ↓w_bi, ↓w_isi, ↓w_isis, ↓w_ix, ↓w_sl, ↓w_rev, ↓w_tup, ↓w_lst, ↓w_snil, ↓w_scons, ↓w_bnil, ↓w_bcons, ↓w_anil, ↓w_aconsN, ↓w_aconsF, ↓w_aconsT, ↓w_prnop, ↓w_pr, ↓w_nil, ↓w_cons, ↓w_put, ↓w_asgN, ↓w_asgT, ↓w_par, ↓w_ifs, ↓w_ret, ↓w_retn, ↓w_raise, ↓w_brk, ↓w_cont, ↓w_expr, ↓w_seti, ↓w_turn, ↓w_cnop, ↓w_cond, ↓w_lc, ↓w_forF, iv_non, iv_bl, iv_int, np_int, iv_str, iv_glob, iv_bin, np_bin, iv_neg, np_neg, iv_not, iv_and, iv_or, iv_one, iv_ife, np_ife, iv_cmp, iv_chain, iv_call, np_call, iv_bi, np_bi, iv_isi, iv_isis, iv_ix, np_ix, iv_sl, iv_rev, iv_tup, iv_lst, iv_lc, iv_disp, iv_get, iv_lcK, iv_val, np_var, np_cmp, np_chain, np_not, np_and, np_or, np_isi, np_isis, np_one, Rw_got, Ov_some, Ob_true, Ob_false, rdB, rdV, Rw_got, List.getElem?_cons_zero, List.getElem?_cons_succ, List.set_cons_zero, List.set_cons_succ, List.length_cons, List.length_nil, List.length_set, at0, at1, at2, at3, ix0, ix1, ix2, ix3, vf_add, vf_sub, vf_mul, vf_fdiv, vf_mod, vf_pow, vf_addT, vf_addL, vf_lt, vf_le, vf_gt, vf_ge, vf_lt2, vf_le2, vf_gt2, vf_ge2, vf_isN, vf_notN, vf_nn_int, vf_nn_bl, vf_nn_tup, vf_nn_lst, vf_nn_str, vf_nn_non, vf_tr_bl, vf_tr_int, vf_tr_non, vf_tr_tup, vf_tr_lst, vf_lenT, vf_lenL, vf_abs, vf_int, vf_tupL, vf_tupT, vf_lstL, vf_lstT, vf_gcd, vf_ixL, vf_ixT, vf_ixS, vf_setL, vf_appL, vf_neg, vf_ow, vf_mkT, vf_mkF, vf_part, vf_revL, vf_revT, vf_is_int_int, vf_is_bl_int, vf_is_str_int, vf_is_tup_int, vf_is_lst_int, vf_is_scr_int, vf_is_non_int, vf_is_int_bool, vf_is_bl_bool, vf_is_str_bool, vf_is_tup_bool, vf_is_lst_bool, vf_is_scr_bool, vf_is_non_bool, vf_is_int_str, vf_is_bl_str, vf_is_str_str, vf_is_tup_str, vf_is_lst_str, vf_is_scr_str, vf_is_non_str, vf_is_int_tuple, vf_is_bl_tuple, vf_is_str_tuple, vf_is_tup_tuple, vf_is_lst_tuple, vf_is_scr_tuple, vf_is_non_tuple, vf_is_int_list, vf_is_bl_list, vf_is_str_list, vf_is_tup_list, vf_is_lst_list, vf_is_scr_list, vf_is_non_list, vf_eqI, vf_neI, vf_eqB, Option.map_some, Option.bind_some, List.map_cons, List.map_nil, Nat.reduceAdd, Nat.reducePow, Int.reducePow, hPow18, Int.reduceMul, Int.reduceSub, Int.reduceFDiv, Int.reduceFMod, Nat.reduceLT, Nat.reduceLeDiff, Nat.reduceSub, Int.reduceLE, Int.reduceLT, Int.reduceNeg, Int.reduceAdd, Int.reduceToNat, Int.reduceEq, Int.ofNat_eq_coe, ↓reduceIte, reduceCtorEq, decide_true, decide_false, Int.cast_ofNat_Int, and_true, true_and, Bool.not_true, Bool.not_false, w_cnop, wipeR, bindT, ixD, kv_int, look_coef l hn, backR, Option.getD_some]
    decide
  · have e0 : ((ns.map Val.int).map fun x => match x with | .int n => Val.tup [.int n, .int (coef (ns.map .inl) cs n)] | v => v) = ns.map fun n => Val.tup [.int n, .int (coef (ns.map .inl) cs n)] := by rw [List.map_map]; rfl
    rw [e0]
    have hd := (DB.dict (g := coef (ns.map .inl) cs) nd hk).congr (g := f) fun n => by
      show (if n ∈ ns then _ else _) = _
      by_cases q : n ∈ ns
      · rw [if_pos q, hf]
      · rw [if_neg q, ← hf]
        unfold coef
        rw [look_none q]
    simp only [↓w_bvar, ↓w_bnv, ↓w_var, ↓w_non, ↓w_bl, ↓w_int, ↓w_str, ↓w_val, ↓w_one, ↓w_bin, ↓w_neg, ↓w_test, ↓w_not, ↓w_and, ↓w_or, ↓w_ife, ↓w_cmp, ↓w_chain, ↓w_call, ↓w_bi, ↓w_isi, ↓w_isis, ↓w_ix, ↓w_sl, ↓w_rev, ↓w_tup, ↓w_lst, ↓w_snil, ↓w_scons, ↓w_bnil, ↓w_bcons, ↓w_anil, ↓w_aconsN, ↓w_aconsF, ↓w_aconsT, ↓w_prnop, ↓w_pr, ↓w_nil, ↓w_cons, ↓w_put, ↓w_asgN, ↓w_asgT, ↓w_par, ↓w_ifs, ↓w_ret, ↓w_retn, ↓w_raise, ↓w_brk, ↓w_cont, ↓w_expr, ↓w_seti, ↓w_turn, ↓w_cnop, ↓w_cond, ↓w_lc, ↓w_forF, iv_non, iv_bl, iv_int, np_int, iv_str, iv_glob, iv_bin, np_bin, iv_neg, np_neg, iv_not, iv_and, iv_or, iv_one, iv_ife, np_ife, iv_cmp, iv_chain, iv_call, np_call, iv_bi, np_bi, iv_isi, iv_isis, iv_ix, np_ix, iv_sl, iv_rev, iv_tup, iv_lst, iv_lc, iv_disp, iv_get, iv_lcK, iv_val, np_var, np_cmp, np_chain, np_not, np_and, np_or, np_isi, np_isis, np_one, Rw_got, Ov_some, Ob_true, Ob_false, rdB, rdV, Rw_got, List.getElem?_cons_zero, List.getElem?_cons_succ, List.set_cons_zero, List.set_cons_succ, List.length_cons, List.length_nil, List.length_set, at0, at1, at2, at3, ix0, ix1, ix2, ix3, vf_add, vf_sub, vf_mul, vf_fdiv, vf_mod, vf_pow, vf_addT, vf_addL, vf_lt, vf_le, vf_gt, vf_ge, vf_lt2, vf_le2, vf_gt2, vf_ge2, vf_isN, vf_notN, vf_nn_int, vf_nn_bl, vf_nn_tup, vf_nn_lst, vf_nn_str, vf_nn_non, vf_tr_bl, vf_tr_int, vf_tr_non, vf_tr_tup, vf_tr_lst, vf_lenT, vf_lenL, vf_abs, vf_int, vf_tupL, vf_tupT, vf_lstL, vf_lstT, vf_gcd, vf_ixL, vf_ixT, vf_ixS, vf_setL, vf_appL, vf_neg, vf_ow, vf_mkT, vf_mkF, vf_part, vf_revL, vf_revT, vf_is_int_int, vf_is_bl_int, vf_is_str_int, vf_is_tup_int, vf_is_lst_int, vf_is_scr_int, vf_is_non_int, vf_is_int_bool, vf_is_bl_bool, vf_is_str_bool, vf_is_tup_bool, vf_is_lst_bool, vf_is_scr_bool, vf_is_non_bool, vf_is_int_str, vf_is_bl_str, vf_is_str_str, vf_is_tup_str, vf_is_lst_str, vf_is_scr_str, vf_is_non_str, vf_is_int_tuple, vf_is_bl_tuple, vf_is_str_tuple, vf_is_tup_tuple, vf_is_lst_tuple, vf_is_scr_tuple, vf_is_non_tuple, vf_is_int_list, vf_is_bl_list, vf_is_str_list, vf_is_tup_list, vf_is_lst_list, vf_is_scr_list, vf_is_non_list, vf_eqI, vf_neI, vf_eqB, Option.map_some, Option.bind_some, List.map_cons, List.map_nil, Nat.reduceAdd, Nat.reducePow, Int.reducePow, hPow18, Int.reduceMul, Int.reduceSub, Int.reduceFDiv, Int.reduceFMod, Nat.reduceLT, Nat.reduceLeDiff, Nat.reduceSub, Int.reduceLE, Int.reduceLT, Int.reduceNeg, Int.reduceAdd, Int.reduceToNat, Int.reduceEq, Int.ofNat_eq_coe, ↓reduceIte, reduceCtorEq, decide_true, decide_false, Int.cast_ofNat_Int, and_true, true_and, Bool.not_true, Bool.not_false, vf_dicM, w_forK, w_keys, kyv, keyvals]
    generalize Val.dic (mergeD [] [] (ns.map fun n => (Sum.inl n, Val.int (coef (ns.map .inl) cs n)))).1 (mergeD [] [] (ns.map fun n => (Sum.inl n, Val.int (coef (ns.map .inl) cs n)))).2 = D0 at hd
    refine for_inv (n := 0) (I := fun j ρ => ∃ u t, ρ = [.fz (.dic (ns.map .inl) (cs.map .int)), .fz (.dic (ms.map .inl) (ds.map .int)), .ow u, t] ∧ DB u b fun m => f m + if m ∈ ms.take j then g m else 0) ?_ (fun j x ρ hx => ?_) ?_
    · exact ⟨D0, .no, rfl, hd.congr fun n => by simp⟩
    · rintro ⟨u, t, rfl, hu⟩
      rw [List.getElem?_map] at hx
      cases hm : ms[j]? with
      | none => rw [hm] at hx; cases hx
      | some m =>
        rw [hm] at hx
        cases hx
        have hin : m ∈ ms := List.mem_of_getElem? hm
        have hb2 := hk2 m hin
        rw [Nat.zero_add] at hu
        have hnot : m ∉ ms.take j := by
          intro q
          obtain ⟨i, hi, e⟩ := List.getElem_of_mem q
          rw [List.length_take] at hi
          rw [List.getElem_take] at e
          have hj := (List.getElem?_eq_some_iff.mp hm)
          obtain ⟨hj1, hj2⟩ := hj
          exact (List.pairwise_iff_getElem.mp nd2) i j (by omega) hj1 (by omega) (e.trans hj2.symm)
        rw [w_forF]
        simp only [↓w_bvar, ↓w_bnv, ↓w_var, ↓w_non, ↓w_bl, ↓w_int, ↓w_str, ↓w_val, ↓w_one, ↓w_bin, ↓w_neg, ↓w_test, ↓w_not, ↓w_and, ↓w_or, ↓w_ife, ↓w_cmp, ↓w_chain, ↓w_call, ↓w_bi, ↓w_isi, ↓w_isis, ↓w_ix, ↓w_sl, ↓w_rev, ↓w_tup, ↓w_lst, ↓w_snil, ↓w_scons, ↓w_bnil, ↓w_bcons, ↓w_anil, ↓w_aconsN, ↓w_aconsF, ↓w_aconsT, ↓w_prnop, ↓w_pr, ↓w_nil, ↓w_cons, ↓w_put, ↓w_asgN, ↓w_asgT, ↓w_par, ↓w_ifs, ↓w_ret, ↓w_retn, ↓w_raise, ↓w_brk, ↓w_cont, ↓w_expr, ↓w_seti, ↓w_turn, ↓w_cnop, ↓w_cond, ↓w_lc, ↓w_forF, iv_non, iv_bl, iv_int, np_int, iv_str, iv_glob, iv_bin, np_bin, iv_neg, np_neg, iv_not, iv_and, iv_or, iv_one, iv_ife, np_ife, iv_cmp, iv_chain, iv_call, np_call, iv_bi, np_bi, iv_isi, iv_isis, iv_ix, np_ix, iv_sl, iv_rev, iv_tup, iv_lst, iv_lc, iv_disp, iv_get, iv_lcK, iv_val, np_var, np_cmp, np_chain, np_not, np_and, np_or, np_isi, np_isis, np_one, Rw_got, Ov_some, Ob_true, Ob_false, rdB, rdV, Rw_got, List.getElem?_cons_zero, List.getElem?_cons_succ, List.set_cons_zero, List.set_cons_succ, List.length_cons, List.length_nil, List.length_set, at0, at1, at2, at3, ix0, ix1, ix2, ix3, vf_add, vf_sub, vf_mul, vf_fdiv, vf_mod, vf_pow, vf_addT, vf_addL, vf_lt, vf_le, vf_gt, vf_ge, vf_lt2, vf_le2, vf_gt2, vf_ge2, vf_isN, vf_notN, vf_nn_int, vf_nn_bl, vf_nn_tup, vf_nn_lst, vf_nn_str, vf_nn_non, vf_tr_bl, vf_tr_int, vf_tr_non, vf_tr_tup, vf_tr_lst, vf_lenT, vf_lenL, vf_abs, vf_int, vf_tupL, vf_tupT, vf_lstL, vf_lstT, vf_gcd, vf_ixL, vf_ixT, vf_ixS, vf_setL, vf_appL, vf_neg, vf_ow, vf_mkT, vf_mkF, vf_part, vf_revL, vf_revT, vf_is_int_int, vf_is_bl_int, vf_is_str_int, vf_is_tup_int, vf_is_lst_int, vf_is_scr_int, vf_is_non_int, vf_is_int_bool, vf_is_bl_bool, vf_is_str_bool, vf_is_tup_bool, vf_is_lst_bool, vf_is_scr_bool, vf_is_non_bool, vf_is_int_str, vf_is_bl_str, vf_is_str_str, vf_is_tup_str, vf_is_lst_str, vf_is_scr_str, vf_is_non_str, vf_is_int_tuple, vf_is_bl_tuple, vf_is_str_tuple, vf_is_tup_tuple, vf_is_lst_tuple, vf_is_scr_tuple, vf_is_non_tuple, vf_is_int_list, vf_is_bl_list, vf_is_str_list, vf_is_tup_list, vf_is_lst_list, vf_is_scr_list, vf_is_non_list, vf_eqI, vf_neI, vf_eqB, Option.map_some, Option.bind_some, List.map_cons, List.map_nil, Nat.reduceAdd, Nat.reducePow, Int.reducePow, hPow18, Int.reduceMul, Int.reduceSub, Int.reduceFDiv, Int.reduceFMod, Nat.reduceLT, Nat.reduceLeDiff, Nat.reduceSub, Int.reduceLE, Int.reduceLT, Int.reduceNeg, Int.reduceAdd, Int.reduceToNat, Int.reduceEq, Int.ofNat_eq_coe, ↓reduceIte, reduceCtorEq, decide_true, decide_false, Int.cast_ofNat_Int, and_true, true_and, Bool.not_true, Bool.not_false, bindT, stab11, ixD, kv_int, look_coef l2 hin]
        refine Rw_mono (put_ok (d := d) (n := m) (c := coef (ms.map .inl) ds m) hu hb hb2.1 hb2.2) ?_ fun _ _ z => z
        rintro z ⟨v', rfl, hv⟩
        simp only [↓w_bvar, ↓w_bnv, ↓w_var, ↓w_non, ↓w_bl, ↓w_int, ↓w_str, ↓w_val, ↓w_one, ↓w_bin, ↓w_neg, ↓w_test, ↓w_not, ↓w_and, ↓w_or, ↓w_ife, ↓w_cmp, ↓w_chain, ↓w_call, ↓w_bi, ↓w_isi, ↓w_isis, ↓w_ix, ↓w_sl, ↓w_rev, ↓w_tup, ↓w_lst, ↓w_snil, ↓w_scons, ↓w_bnil, ↓w_bcons, ↓w_anil, ↓w_aconsN, ↓w_aconsF, ↓w_aconsT, ↓w_prnop, ↓w_pr, ↓w_nil, ↓w_cons, ↓w_put, ↓w_asgN, ↓w_asgT, ↓w_par, ↓w_ifs, ↓w_ret, ↓w_retn, ↓w_raise, ↓w_brk, ↓w_cont, ↓w_expr, ↓w_seti, ↓w_turn, ↓w_cnop, ↓w_cond, ↓w_lc, ↓w_forF, iv_non, iv_bl, iv_int, np_int, iv_str, iv_glob, iv_bin, np_bin, iv_neg, np_neg, iv_not, iv_and, iv_or, iv_one, iv_ife, np_ife, iv_cmp, iv_chain, iv_call, np_call, iv_bi, np_bi, iv_isi, iv_isis, iv_ix, np_ix, iv_sl, iv_rev, iv_tup, iv_lst, iv_lc, iv_disp, iv_get, iv_lcK, iv_val, np_var, np_cmp, np_chain, np_not, np_and, np_or, np_isi, np_isis, np_one, Rw_got, Ov_some, Ob_true, Ob_false, rdB, rdV, Rw_got, List.getElem?_cons_zero, List.getElem?_cons_succ, List.set_cons_zero, List.set_cons_succ, List.length_cons, List.length_nil, List.length_set, at0, at1, at2, at3, ix0, ix1, ix2, ix3, vf_add, vf_sub, vf_mul, vf_fdiv, vf_mod, vf_pow, vf_addT, vf_addL, vf_lt, vf_le, vf_gt, vf_ge, vf_lt2, vf_le2, vf_gt2, vf_ge2, vf_isN, vf_notN, vf_nn_int, vf_nn_bl, vf_nn_tup, vf_nn_lst, vf_nn_str, vf_nn_non, vf_tr_bl, vf_tr_int, vf_tr_non, vf_tr_tup, vf_tr_lst, vf_lenT, vf_lenL, vf_abs, vf_int, vf_tupL, vf_tupT, vf_lstL, vf_lstT, vf_gcd, vf_ixL, vf_ixT, vf_ixS, vf_setL, vf_appL, vf_neg, vf_ow, vf_mkT, vf_mkF, vf_part, vf_revL, vf_revT, vf_is_int_int, vf_is_bl_int, vf_is_str_int, vf_is_tup_int, vf_is_lst_int, vf_is_scr_int, vf_is_non_int, vf_is_int_bool, vf_is_bl_bool, vf_is_str_bool, vf_is_tup_bool, vf_is_lst_bool, vf_is_scr_bool, vf_is_non_bool, vf_is_int_str, vf_is_bl_str, vf_is_str_str, vf_is_tup_str, vf_is_lst_str, vf_is_scr_str, vf_is_non_str, vf_is_int_tuple, vf_is_bl_tuple, vf_is_str_tuple, vf_is_tup_tuple, vf_is_lst_tuple, vf_is_scr_tuple, vf_is_non_tuple, vf_is_int_list, vf_is_bl_list, vf_is_str_list, vf_is_tup_list, vf_is_lst_list, vf_is_scr_list, vf_is_non_list, vf_eqI, vf_neI, vf_eqB, Option.map_some, Option.bind_some, List.map_cons, List.map_nil, Nat.reduceAdd, Nat.reducePow, Int.reducePow, hPow18, Int.reduceMul, Int.reduceSub, Int.reduceFDiv, Int.reduceFMod, Nat.reduceLT, Nat.reduceLeDiff, Nat.reduceSub, Int.reduceLE, Int.reduceLT, Int.reduceNeg, Int.reduceAdd, Int.reduceToNat, Int.reduceEq, Int.ofNat_eq_coe, ↓reduceIte, reduceCtorEq, decide_true, decide_false, Int.cast_ofNat_Int, and_true, true_and, Bool.not_true, Bool.not_false, giveR]
        refine ⟨v', _, rfl, hv.congr fun n => ?_⟩
        rw [Nat.zero_add, List.take_succ, hm]
        show (if n = m then (f m + if m ∈ ms.take j then g m else 0) + coef (ms.map .inl) ds m else f n + if n ∈ ms.take j then g n else 0) = _
        rw [if_neg hnot, hg]
        by_cases e : n = m
        · subst e; simp
        · simp [e]
    · rintro ρ ⟨u, t, rfl, hu⟩
      have hu2 : DB u b fun n => f n + g n := hu.congr fun n => by
        rw [Nat.zero_add, List.length_map, List.take_length]
        by_cases q : n ∈ ms
        · rw [if_pos q]
        · rw [if_neg q, ← hg n]
          unfold coef
          rw [look_none q]
      obtain ⟨ks, es, rfl, l3, nd3, hk3, hs3⟩ := hu2
      have hl3 : ks.length ≤ sizeLine := Nat.le_trans (DB.len nd3 hk3) (Nat.le_trans (by omega : b + 1 ≤ 101) (by decide))
      simp only [↓w_bvar, ↓w_bnv, ↓w_var, ↓w_non, ↓w_bl, ↓w_int, ↓w_str, ↓w_val, ↓w_one, ↓w_bin, ↓w_neg, ↓w_test, ↓w_not, ↓w_and, ↓w_or, ↓w_ife, ↓w_cmp, ↓w_chain, ↓w_call, ↓w_bi, ↓w_isi, ↓w_isis, ↓w_ix, ↓w_sl, ↓w_rev, ↓w_tup, ↓w_lst, ↓w_snil, ↓w_scons, ↓w_bnil, ↓w_bcons, ↓w_anil, ↓w_aconsN, ↓w_aconsF, ↓w_aconsT, ↓w_prnop, ↓w_pr, ↓w_nil, ↓w_cons, ↓w_put, ↓w_asgN, ↓w_asgT, ↓w_par, ↓w_ifs, ↓w_ret, ↓w_retn, ↓w_raise, ↓w_brk, ↓w_cont, ↓w_expr, ↓w_seti, ↓w_turn, ↓w_cnop, ↓w_cond, ↓w_lc, ↓w_forF, iv_non, iv_bl, iv_int, np_int, iv_str, iv_glob, iv_bin, np_bin, iv_neg, np_neg, iv_not, iv_and, iv_or, iv_one, iv_ife, np_ife, iv_cmp, iv_chain, iv_call, np_call, iv_bi, np_bi, iv_isi, iv_isis, iv_ix, np_ix, iv_sl, iv_rev, iv_tup, iv_lst, iv_lc, iv_disp, iv_get, iv_lcK, iv_val, np_var, np_cmp, np_chain, np_not, np_and, np_or, np_isi, np_isis, np_one, Rw_got, Ov_some, Ob_true, Ob_false, rdB, rdV, Rw_got, List.getElem?_cons_zero, List.getElem?_cons_succ, List.set_cons_zero, List.set_cons_succ, List.length_cons, List.length_nil, List.length_set, at0, at1, at2, at3, ix0, ix1, ix2, ix3, vf_add, vf_sub, vf_mul, vf_fdiv, vf_mod, vf_pow, vf_addT, vf_addL, vf_lt, vf_le, vf_gt, vf_ge, vf_lt2, vf_le2, vf_gt2, vf_ge2, vf_isN, vf_notN, vf_nn_int, vf_nn_bl, vf_nn_tup, vf_nn_lst, vf_nn_str, vf_nn_non, vf_tr_bl, vf_tr_int, vf_tr_non, vf_tr_tup, vf_tr_lst, vf_lenT, vf_lenL, vf_abs, vf_int, vf_tupL, vf_tupT, vf_lstL, vf_lstT, vf_gcd, vf_ixL, vf_ixT, vf_ixS, vf_setL, vf_appL, vf_neg, vf_ow, vf_mkT, vf_mkF, vf_part, vf_revL, vf_revT, vf_is_int_int, vf_is_bl_int, vf_is_str_int, vf_is_tup_int, vf_is_lst_int, vf_is_scr_int, vf_is_non_int, vf_is_int_bool, vf_is_bl_bool, vf_is_str_bool, vf_is_tup_bool, vf_is_lst_bool, vf_is_scr_bool, vf_is_non_bool, vf_is_int_str, vf_is_bl_str, vf_is_str_str, vf_is_tup_str, vf_is_lst_str, vf_is_scr_str, vf_is_non_str, vf_is_int_tuple, vf_is_bl_tuple, vf_is_str_tuple, vf_is_tup_tuple, vf_is_lst_tuple, vf_is_scr_tuple, vf_is_non_tuple, vf_is_int_list, vf_is_bl_list, vf_is_str_list, vf_is_tup_list, vf_is_lst_list, vf_is_scr_list, vf_is_non_list, vf_eqI, vf_neI, vf_eqB, Option.map_some, Option.bind_some, List.map_cons, List.map_nil, Nat.reduceAdd, Nat.reducePow, Int.reducePow, hPow18, Int.reduceMul, Int.reduceSub, Int.reduceFDiv, Int.reduceFMod, Nat.reduceLT, Nat.reduceLeDiff, Nat.reduceSub, Int.reduceLE, Int.reduceLT, Int.reduceNeg, Int.reduceAdd, Int.reduceToNat, Int.reduceEq, Int.ofNat_eq_coe, ↓reduceIte, reduceCtorEq, decide_true, decide_false, Int.cast_ofNat_Int, and_true, true_and, Bool.not_true, Bool.not_false, w_lcK, w_keys, kyv, keyvals, hl3, List.length_map]
      refine loop_fm (pr := fun x => match x with | .int n => decide (coef (ks.map .inl) es n ≠ 0) | _ => false) (g := fun x => match x with | .int n => .tup [.int n, .int (coef (ks.map .inl) es n)] | v => v) (fun x hx => ?_) ?_
      · obtain ⟨n, hn, rfl⟩ := List.mem_map.mp hx
        unfold lcF
        have z2 : 2 ≤ sizeLine := by decide
        by_cases hc : coef (ks.map .inl) es n = 0 <;> simp only [↓w_bvar, ↓w_bnv, ↓w_var, ↓w_non, ↓w_bl, ↓w_int, ↓w_str, ↓w_val, ↓w_one, ↓w_bin, ↓w_neg, ↓w_test, ↓w_not, ↓w_and, ↓w_or, ↓w_ife, ↓w_cmp, ↓w_chain, ↓w_call, ↓w_bi, ↓w_isi, ↓w_isis, ↓w_ix, ↓w_sl, ↓w_rev, ↓w_tup, ↓w_lst, ↓w_snil, ↓w_scons, ↓w_bnil, ↓w_bcons, ↓w_anil, ↓w_aconsN, ↓w_aconsF, ↓w_aconsT, ↓w_prnop, ↓w_pr, ↓w_nil, ↓w_cons, ↓w_put, ↓w_asgN, ↓w_asgT, ↓w_par, ↓w_ifs, ↓w_ret, ↓w_retn, ↓w_raise, ↓w_brk, ↓w_cont, ↓w_expr, ↓w_seti, ↓w_turn, ↓w_cnop, ↓w_cond, ↓w_lc, ↓w_forF, iv_non, iv_bl, iv_int, np_int, iv_str, iv_glob, iv_bin, np_bin, iv_neg, np_neg, iv_not, iv_and, iv_or, iv_one, iv_ife, np_ife, iv_cmp, iv_chain, iv_call, np_call, iv_bi, np_bi, iv_isi, iv_isis, iv_ix, np_ix, iv_sl, iv_rev, iv_tup, iv_lst, iv_lc, iv_disp, iv_get, iv_lcK, iv_val, np_var, np_cmp, np_chain, np_not, np_and, np_or, np_isi, np_isis, np_one, Rw_got, Ov_some, Ob_true, Ob_false, rdB, rdV, Rw_got, List.getElem?_cons_zero, List.getElem?_cons_succ, List.set_cons_zero, List.set_cons_succ, List.length_cons, List.length_nil, List.length_set, at0, at1, at2, at3, ix0, ix1, ix2, ix3, vf_add, vf_sub, vf_mul, vf_fdiv, vf_mod, vf_pow, vf_addT, vf_addL, vf_lt, vf_le, vf_gt, vf_ge, vf_lt2, vf_le2, vf_gt2, vf_ge2, vf_isN, vf_notN, vf_nn_int, vf_nn_bl, vf_nn_tup, vf_nn_lst, vf_nn_str, vf_nn_non, vf_tr_bl, vf_tr_int, vf_tr_non, vf_tr_tup, vf_tr_lst, vf_lenT, vf_lenL, vf_abs, vf_int, vf_tupL, vf_tupT, vf_lstL, vf_lstT, vf_gcd, vf_ixL, vf_ixT, vf_ixS, vf_setL, vf_appL, vf_neg, vf_ow, vf_mkT, vf_mkF, vf_part, vf_revL, vf_revT, vf_is_int_int, vf_is_bl_int, vf_is_str_int, vf_is_tup_int, vf_is_lst_int, vf_is_scr_int, vf_is_non_int, vf_is_int_bool, vf_is_bl_bool, vf_is_str_bool, vf_is_tup_bool, vf_is_lst_bool, vf_is_scr_bool, vf_is_non_bool, vf_is_int_str, vf_is_bl_str, vf_is_str_str, vf_is_tup_str, vf_is_lst_str, vf_is_scr_str, vf_is_non_str, vf_is_int_tuple, vf_is_bl_tuple, vf_is_str_tuple, vf_is_tup_tuple, vf_is_lst_tuple, vf_is_scr_tuple, vf_is_non_tuple, vf_is_int_list, vf_is_bl_list, vf_is_str_list, vf_is_tup_list, vf_is_lst_list, vf_is_scr_list, vf_is_non_list, vf_eqI, vf_neI, vf_eqB, Option.map_some, Option.bind_some, List.map_cons, List.map_nil, Nat.reduceAdd, Nat.reducePow, Int.reducePow, hPow18, Int.reduceMul, Int.reduceSub, Int.reduceFDiv, Int.reduceFMod, Nat.reduceLT, Nat.reduceLeDiff, Nat.reduceSub, Int.reduceLE, Int.reduceLT, Int.reduceNeg, Int.reduceAdd, Int.reduceToNat, Int.reduceEq, Int.ofNat_eq_coe, ↓reduceIte, reduceCtorEq, decide_true, decide_false, Int.cast_ofNat_Int, and_true, true_and, Bool.not_true, Bool.not_false, w_cond, wipeR, bindT, ixD, kv_int, look_coef l3 hn, hc, ne_eq, not_true_eq_false, not_false_eq_true, backR, Option.getD_some, Bool.false_eq_true, z2]
      · have e1 : (((ks.map Val.int).filter fun x => match x with | .int n => decide (coef (ks.map .inl) es n ≠ 0) | _ => false).map fun x => match x with | .int n => Val.tup [.int n, .int (coef (ks.map .inl) es n)] | v => v) = (ks.filter fun n => decide (coef (ks.map .inl) es n ≠ 0)).map fun n => Val.tup [.int n, .int (coef (ks.map .inl) es n)] := by
          refine (congrArg (List.map _) (filt_int (ns := ks) (p := fun n => decide (coef (ks.map .inl) es n ≠ 0)))).trans ?_
          rw [List.map_map]; rfl
        rw [e1]
        simp only [↓w_bvar, ↓w_bnv, ↓w_var, ↓w_non, ↓w_bl, ↓w_int, ↓w_str, ↓w_val, ↓w_one, ↓w_bin, ↓w_neg, ↓w_test, ↓w_not, ↓w_and, ↓w_or, ↓w_ife, ↓w_cmp, ↓w_chain, ↓w_call, ↓w_bi, ↓w_isi, ↓w_isis, ↓w_ix, ↓w_sl, ↓w_rev, ↓w_tup, ↓w_lst, ↓w_snil, ↓w_scons, ↓w_bnil, ↓w_bcons, ↓w_anil, ↓w_aconsN, ↓w_aconsF, ↓w_aconsT, ↓w_prnop, ↓w_pr, ↓w_nil, ↓w_cons, ↓w_put, ↓w_asgN, ↓w_asgT, ↓w_par, ↓w_ifs, ↓w_ret, ↓w_retn, ↓w_raise, ↓w_brk, ↓w_cont, ↓w_expr, ↓w_seti, ↓w_turn, ↓w_cnop, ↓w_cond, ↓w_lc, ↓w_forF, iv_non, iv_bl, iv_int, np_int, iv_str, iv_glob, iv_bin, np_bin, iv_neg, np_neg, iv_not, iv_and, iv_or, iv_one, iv_ife, np_ife, iv_cmp, iv_chain, iv_call, np_call, iv_bi, np_bi, iv_isi, iv_isis, iv_ix, np_ix, iv_sl, iv_rev, iv_tup, iv_lst, iv_lc, iv_disp, iv_get, iv_lcK, iv_val, np_var, np_cmp, np_chain, np_not, np_and, np_or, np_isi, np_isis, np_one, Rw_got, Ov_some, Ob_true, Ob_false, rdB, rdV, Rw_got, List.getElem?_cons_zero, List.getElem?_cons_succ, List.set_cons_zero, List.set_cons_succ, List.length_cons, List.length_nil, List.length_set, at0, at1, at2, at3, ix0, ix1, ix2, ix3, vf_add, vf_sub, vf_mul, vf_fdiv, vf_mod, vf_pow, vf_addT, vf_addL, vf_lt, vf_le, vf_gt, vf_ge, vf_lt2, vf_le2, vf_gt2, vf_ge2, vf_isN, vf_notN, vf_nn_int, vf_nn_bl, vf_nn_tup, vf_nn_lst, vf_nn_str, vf_nn_non, vf_tr_bl, vf_tr_int, vf_tr_non, vf_tr_tup, vf_tr_lst, vf_lenT, vf_lenL, vf_abs, vf_int, vf_tupL, vf_tupT, vf_lstL, vf_lstT, vf_gcd, vf_ixL, vf_ixT, vf_ixS, vf_setL, vf_appL, vf_neg, vf_ow, vf_mkT, vf_mkF, vf_part, vf_revL, vf_revT, vf_is_int_int, vf_is_bl_int, vf_is_str_int, vf_is_tup_int, vf_is_lst_int, vf_is_scr_int, vf_is_non_int, vf_is_int_bool, vf_is_bl_bool, vf_is_str_bool, vf_is_tup_bool, vf_is_lst_bool, vf_is_scr_bool, vf_is_non_bool, vf_is_int_str, vf_is_bl_str, vf_is_str_str, vf_is_tup_str, vf_is_lst_str, vf_is_scr_str, vf_is_non_str, vf_is_int_tuple, vf_is_bl_tuple, vf_is_str_tuple, vf_is_tup_tuple, vf_is_lst_tuple, vf_is_scr_tuple, vf_is_non_tuple, vf_is_int_list, vf_is_bl_list, vf_is_str_list, vf_is_tup_list, vf_is_lst_list, vf_is_scr_list, vf_is_non_list, vf_eqI, vf_neI, vf_eqB, Option.map_some, Option.bind_some, List.map_cons, List.map_nil, Nat.reduceAdd, Nat.reducePow, Int.reducePow, hPow18, Int.reduceMul, Int.reduceSub, Int.reduceFDiv, Int.reduceFMod, Nat.reduceLT, Nat.reduceLeDiff, Nat.reduceSub, Int.reduceLE, Int.reduceLT, Int.reduceNeg, Int.reduceAdd, Int.reduceToNat, Int.reduceEq, Int.ofNat_eq_coe, ↓reduceIte, reduceCtorEq, decide_true, decide_false, Int.cast_ofNat_Int, and_true, true_and, Bool.not_true, Bool.not_false, vf_dicM]
        obtain ⟨o, ho⟩ := hs.out (w := .dic (ms.map .inl) (ds.map .int)) (.fz (.dic (ms.map .inl) (ds.map .int))) (.fz (.dic (ks.map .inl) (es.map .int))) t
        rw [ho]
        refine ⟨_, o, rfl, (DB.dict (nd3.filter _) fun n q => hk3 n (List.mem_filter.mp q).1).congr fun n => ?_⟩
        refine Eq.trans ?_ (hs3 n)
        by_cases q : n ∈ ks.filter fun n => decide (coef (ks.map .inl) es n ≠ 0)
        · rw [if_pos q]
        · rw [if_neg q]
          by_cases hc : coef (ks.map .inl) es n = 0
          · exact hc.symm
          · exact absurd (List.mem_filter.mpr ⟨coef_in hc, decide_eq_true hc⟩) q
end HD
set_option Elab.async false
set_option linter.all false
set_option maxRecDepth 100000
set_option maxHeartbeats 8000000
namespace HD
open PySem L2 EV
/-! even rows: the row of the inverse is the row read backwards; the numbers of Conway's polynomial are the same read backwards -/
structure M4 where
  a : Int
  b : Int
  c : Int
  d : Int
def M : List Int → M4
  | [] => ⟨1, 0, 0, 1⟩
  | x :: r => ⟨x * (M r).a + (M r).c, x * (M r).b + (M r).d, (M r).a, (M r).b⟩
theorem M_snoc (x : Int) : ∀ r : List Int, M (r ++ [x]) = ⟨(M r).a * x + (M r).b, (M r).a, (M r).c * x + (M r).d, (M r).c⟩
  | [] => by simp [M]
  | y :: r => by
    have := M_snoc x r
    simp only [List.cons_append, M, this, M4.mk.injEq]
    refine ⟨by grind, trivial, by trivial, trivial⟩
theorem M_rev : ∀ r : List Int, M r.reverse = ⟨(M r).a, (M r).c, (M r).b, (M r).d⟩
  | [] => rfl
  | x :: r => by
    rw [List.reverse_cons, M_snoc, M_rev r]
    simp only [M, M4.mk.injEq]
    refine ⟨by grind, trivial, by grind, trivial⟩
def sg : List Int → Int
  | [] => 1
  | _ :: r => - sg r
theorem M_det : ∀ r : List Int, (M r).a * (M r).d - (M r).b * (M r).c = sg r
  | [] => rfl
  | x :: r => by
    have := M_det r
    simp only [M, sg]
    grind
theorem M_neg : ∀ r : List Int, M (r.map (- ·)) = ⟨sg r * (M r).a, - sg r * (M r).b, - sg r * (M r).c, sg r * (M r).d⟩
  | [] => rfl
  | x :: r => by
    have := M_neg r
    simp only [List.map_cons, M, this, sg, M4.mk.injEq]
    refine ⟨by grind, by grind, by grind, by grind⟩
/-- even and not nought -/
def Evn (l : List Int) : Prop := ∀ b ∈ l, b % 2 = 0 ∧ b ≠ 0
theorem Evn.tail {b : Int} {l : List Int} (h : Evn (b :: l)) : Evn l := fun c m => h c (List.mem_cons_of_mem _ m)
theorem M_grow : ∀ {r : List Int}, Evn r → (M r).c.natAbs < (M r).a.natAbs
  | [], _ => by decide
  | x :: r, h => by
    have ih := M_grow h.tail
    have hx := h x List.mem_cons_self
    show (M r).a.natAbs < (x * (M r).a + (M r).c).natAbs
    have h2 : 2 * (M r).a.natAbs ≤ (x * (M r).a).natAbs := by
      rw [Int.natAbs_mul]
      exact Nat.mul_le_mul_right _ (by omega)
    omega
theorem mul_even {x y : Int} (h : x % 2 = 0) : (x * y) % 2 = 0 := by rw [Int.mul_emod, h]; simp
theorem M_par : ∀ {r : List Int}, Evn r → ((M r).a + (M r).c) % 2 = 1 ∧ ((M r).a + (M r).b) % 2 = 1 ∧ ((M r).d + (M r).c) % 2 = 1 ∧ (sg r = 1 ∧ (M r).a % 2 = 1 ∧ (M r).d % 2 = 1 ∨ sg r = -1 ∧ (M r).a % 2 = 0 ∧ (M r).d % 2 = 0)
  | [], _ => by decide
  | x :: r, h => by
    have ih := M_par h.tail
    have hx := h x List.mem_cons_self
    have e1 := mul_even (y := (M r).a) hx.1
    have e2 := mul_even (y := (M r).b) hx.1
    simp only [M, sg]
    obtain ⟨i1, i2, i3, i4⟩ := ih
    omega
theorem ev2_uniq {p e b : Int} (he : e ≠ 0) (ho : (p + e).fmod 2 = 1) (hb : b % 2 = 0) (hl : (p - b * e).natAbs < e.natAbs) : ev2 p e = b := by
  have h1 := (ev2_rest he ho).1
  have h2 := ev2_even (p := p) (e := e)
  rw [Int.fmod_eq_emod_of_nonneg _ (by decide)] at h2
  obtain ⟨k, hk⟩ : ∃ k, b - ev2 p e = k := ⟨_, rfl⟩
  have e1 : k * e = (p - ev2 p e * e) - (p - b * e) := by rw [← hk]; grind
  have e2 : (k * e).natAbs < 2 * e.natAbs := by omega
  rw [Int.natAbs_mul] at e2
  have e3 : k.natAbs < 2 := Nat.lt_of_mul_lt_mul_right e2
  omega
theorem even_of : ∀ {n : Nat} {bs : List Int} {s : Int}, Evn bs → (s = 1 ∨ s = -1) → bs.length < n → evenL n (s * (M bs).a) (s * (M bs).c) = bs
  | 0, _, _, _, _, h => by omega
  | n + 1, [], s, _, _, _ => by simp [evenL, M]
  | n + 1, b :: r, s, h, hs, hl => by
    have hb := h b List.mem_cons_self
    have hg := M_grow h
    have hg2 := M_grow h.tail
    have hp := (M_par h).1
    simp only [M] at hg hp ⊢
    have hne : s * (M r).a ≠ 0 := by rcases hs with rfl | rfl <;> omega
    have e1 : ev2 (s * (b * (M r).a + (M r).c)) (s * (M r).a) = b := by
      refine ev2_uniq hne ?_ hb.1 ?_
      · rw [Int.fmod_eq_emod_of_nonneg _ (by decide)]
        rcases hs with rfl | rfl <;> omega
      · rw [show s * (b * (M r).a + (M r).c) - b * (s * (M r).a) = s * (M r).c by grind]
        rcases hs with rfl | rfl <;> omega
    simp only [evenL]
    rw [if_neg hne, e1, show s * (b * (M r).a + (M r).c) - b * (s * (M r).a) = s * (M r).c by grind, even_of h.tail hs (by simpa using hl)]
theorem gcd_down {p e b : Int} (h : Nat.gcd p.natAbs e.natAbs = 1) : Nat.gcd e.natAbs (p - b * e).natAbs = 1 := by
  have h1 : Int.gcd p e = 1 := h
  show Int.gcd e (p - b * e) = 1
  rw [Int.gcd_comm, ← h1]
  simp [Int.gcd_sub_mul_right_left] 
theorem row_of : ∀ {n : Nat} {p e : Int}, e.natAbs < n → e.natAbs < p.natAbs → (p + e).fmod 2 = 1 → Nat.gcd p.natAbs e.natAbs = 1 → ∃ s : Int, (s = 1 ∨ s = -1) ∧ Evn (evenL n p e) ∧ p = s * (M (evenL n p e)).a ∧ e = s * (M (evenL n p e)).c ∧ (evenL n p e).length < n
  | 0, _, _, h, _, _, _ => by omega
  | n + 1, p, e, hn, hl, ho, hg => by
    by_cases he : e = 0
    · subst he
      have hp : p.natAbs = 1 := by simpa using hg
      refine ⟨p, by omega, ?_, ?_, ?_, ?_⟩ <;> simp [evenL, M, Evn]
    · obtain ⟨r1, r2⟩ := ev2_rest he ho
      obtain ⟨s, hs, h1, h2, h3, h4⟩ := row_of (n := n) (p := e) (e := p - ev2 p e * e) (by omega) r1 r2 (gcd_down hg)
      have h0 : evenL (n + 1) p e = ev2 p e :: evenL n e (p - ev2 p e * e) := by
        show (if e = 0 then [] else _) = _
        rw [if_neg he]
      rw [h0]
      refine ⟨s, hs, fun b m => ?_, ?_, ?_, by simpa using h4⟩
      · rcases List.mem_cons.mp m with rfl | m
        · have h2 := ev2_even (p := p) (e := e)
          rw [Int.fmod_eq_emod_of_nonneg _ (by decide)] at h2
          refine ⟨h2, fun hz => ?_⟩
          rw [hz] at r1
          omega
        · exact h1 b m
      · simp only [M]
        generalize evenL n e (p - ev2 p e * e) = L at h2 h3
        rw [Int.mul_add, ← h3, show s * (ev2 p e * (M L).a) = ev2 p e * (s * (M L).a) by grind, ← h2]
        omega
      · simp only [M]
        exact h2
/-- signs: the numbers of a row -/
def byL : Bool → List Int → List Int
  | _, [] => []
  | s, b :: r => b.fdiv 2 * (if s then -1 else 1) :: byL (!s) r
def par : List Int → Bool
  | [] => false
  | _ :: r => !par r
theorem byL_snoc (b : Int) : ∀ (r : List Int) (s : Bool), byL s (r ++ [b]) = byL s r ++ [b.fdiv 2 * (if (xor s (par r)) then -1 else 1)]
  | [], s => by cases s <;> rfl
  | x :: r, s => by
    show _ :: byL (!s) (r ++ [b]) = _
    rw [byL_snoc b r]
    cases s <;> simp [byL, par] <;> cases par r <;> simp
theorem par_rev : ∀ r : List Int, par r.reverse = par r := by
  have h : ∀ (r : List Int) (b : Int), par (r ++ [b]) = !par r := by
    intro r b
    induction r with
    | nil => rfl
    | cons x r ih => simp [par, ih]
  intro r
  induction r with
  | nil => rfl
  | cons x r ih => rw [List.reverse_cons, h, ih]; rfl
theorem byL_rev : ∀ (r : List Int) (s : Bool), byL (xor s (!par r)) r.reverse = (byL s r).reverse
  | [], s => rfl
  | x :: r, s => by
    rw [List.reverse_cons, byL_snoc, par_rev]
    have := byL_rev r (!s)
    simp only [byL, List.reverse_cons]
    rw [← this]
    have e1 : xor s (!par (x :: r)) = xor (!s) (!par r) := by cases s <;> simp [par]
    have e2 : xor (xor s (!par (x :: r))) (par r) = s := by cases s <;> cases h : par r <;> simp [par, h]
    rw [e2, e1]
theorem byL_neg : ∀ (r : List Int) (s : Bool), (∀ b ∈ r, b % 2 = 0) → byL s (r.map (- ·)) = byL (!s) r
  | [], _, _ => rfl
  | x :: r, s, h => by
    simp only [List.map_cons, byL]
    rw [byL_neg r _ fun b m => h b (List.mem_cons_of_mem _ m)]
    have hx := h x List.mem_cons_self
    congr 1
    rw [Int.fdiv_eq_ediv_of_nonneg _ (by decide), Int.fdiv_eq_ediv_of_nonneg _ (by decide)]
    cases s <;> simp <;> omega
/-! polynomials -/
structure P4 where
  a : Int → Int
  b : Int → Int
  c : Int → Int
  d : Int → Int
def dl : Int → Int := fun n => if n = 0 then 1 else 0
def zr : Int → Int := fun _ => 0
def N : List Int → P4
  | [] => ⟨dl, zr, zr, dl⟩
  | x :: r => ⟨fun n => (N r).c n + x * (N r).a (n - 1), fun n => (N r).d n + x * (N r).b (n - 1), (N r).a, (N r).b⟩
theorem N_snoc (x : Int) : ∀ r : List Int, N (r ++ [x]) = ⟨fun n => (N r).b n + x * (N r).a (n - 1), (N r).a, fun n => (N r).d n + x * (N r).c (n - 1), (N r).c⟩
  | [] => by
    have h : (fun n => dl n + x * zr (n - 1)) = dl := by funext n; simp [zr]
    simp only [List.nil_append, N, h]
  | y :: r => by
    have := N_snoc x r
    simp only [List.cons_append, N, this, P4.mk.injEq]
    refine ⟨?_, trivial, trivial, trivial⟩
    funext n
    grind
theorem N_rev : ∀ r : List Int, N r.reverse = ⟨(N r).a, (N r).c, (N r).b, (N r).d⟩
  | [] => rfl
  | x :: r => by
    rw [List.reverse_cons, N_snoc, N_rev r]
    simp only [N]
/-- the program's runR along a row: last and here -/
def runR : List Int → (Int → Int) → (Int → Int) → (Int → Int) × (Int → Int)
  | [], l, h => (l, h)
  | b :: r, l, h => runR r h (fun n => l n + b * h (n - 1))
theorem runR_snoc (b : Int) : ∀ (r : List Int) (l h : Int → Int), runR (r ++ [b]) l h = ((runR r l h).2, fun n => (runR r l h).1 n + b * (runR r l h).2 (n - 1))
  | [], l, h => rfl
  | x :: r, l, h => runR_snoc b r _ _
theorem runR_N : ∀ r : List Int, runR r.reverse zr dl = ((N r.reverse).b, (N r.reverse).a)
  | [] => rfl
  | x :: r => by
    rw [List.reverse_cons, runR_snoc, N_snoc, runR_N r]
theorem runR_rev (r : List Int) : (runR r.reverse zr dl).2 = (runR r zr dl).2 := by
  have h1 := runR_N r
  have h2 := runR_N r.reverse
  rw [List.reverse_reverse] at h2
  rw [h1, h2, N_rev]

theorem sg_par : ∀ r : List Int, sg r = bif par r then -1 else 1
  | [] => rfl
  | x :: r => by
    show - sg r = bif !par r then -1 else 1
    rw [sg_par r]
    cases par r <;> rfl
theorem Evn.rev {r : List Int} (h : Evn r) : Evn r.reverse := fun b m => h b (List.mem_reverse.mp m)
theorem Evn.neg {r : List Int} (h : Evn r) : Evn (r.map (- ·)) := fun b m => by
  obtain ⟨c, hc, rfl⟩ := List.mem_map.mp m
  have := h c hc
  omega
theorem dvd_small {x k : Int} (hk : 0 < k) (h : k ∣ x) (h1 : -k < x) (h2 : x < k) : x = 0 := by
  obtain ⟨c, rfl⟩ := h
  rcases Int.lt_trichotomy c 0 with hc | hc | hc
  · have : k * c ≤ k * (-1) := Int.mul_le_mul_of_nonneg_left (by omega) (by omega)
    omega
  · rw [hc, Int.mul_zero]
  · have : k * 1 ≤ k * c := Int.mul_le_mul_of_nonneg_left (by omega) (by omega)
    omega
theorem inv_uniq {k e e2 c : Int} (h1 : k ∣ e * e2 - 1) (h2 : k ∣ e * c - 1) : k ∣ e2 - c := by
  obtain ⟨x, hx⟩ := h1
  obtain ⟨y, hy⟩ := h2
  refine ⟨e2 * -y + c * x, ?_⟩
  grind
theorem two_dvd {p x c : Int} (hp : p % 2 = 1) (hx : x % 2 = 0) (h : x = p * c) : 2 * p ∣ x := by
  rw [h, Int.mul_emod, hp] at hx
  refine ⟨c / 2, ?_⟩
  have hc : c = 2 * (c / 2) := by omega
  rw [h]
  generalize c / 2 = k at hc
  subst hc
  grind
theorem rows_same {p e e2 : Int} (hp : 0 < p) (hp2 : p < 300) (he : (e.natAbs : Int) < p) (he2 : (e2.natAbs : Int) < p) (ho : (p + e).fmod 2 = 1) (ho2 : (p + e2).fmod 2 = 1) (hg : Nat.gcd p.natAbs e.natAbs = 1)
    (h : (if p.fmod 2 = 1 then p else 2 * p) ∣ e * e2 - 1) : (runR (byL true (evenL 300 p e)) zr dl).2 = (runR (byL true (evenL 300 p e2)) zr dl).2 := by
  obtain ⟨s, hs, hev, h1, h2, h3⟩ := row_of (n := 300) (p := p) (e := e) (by omega) (by omega) ho hg
  generalize evenL 300 p e = r at hev h1 h2 h3
  have hd := M_det r
  have hpar := M_par hev
  have hgr := M_grow hev.rev
  rw [M_rev] at hgr
  simp only at hgr
  rw [Int.fmod_eq_emod_of_nonneg _ (by decide)] at ho ho2 h
  have ss : s * s = 1 := by rcases hs with rfl | rfl <;> rfl
  have hb : (s * (M r).b).natAbs < (s * (M r).a).natAbs := by rcases hs with rfl | rfl <;> omega
  have hsg := sg_par r
  cases hr : par r with
  | false =>
    -- an even number of parts: p is odd
    rw [hr] at hsg
    simp only [cond_false] at hsg
    rw [hsg] at hd hpar
    have hpo : p % 2 = 1 := by rcases hs with rfl | rfl <;> omega
    rw [if_pos hpo] at h
    have hc : p ∣ e * -(s * (M r).b) - 1 := ⟨- s * (M r).d, by rw [h1, h2]; grind⟩
    have hz := inv_uniq h hc
    have hz2 : e2 = -(s * (M r).b) := by
      obtain ⟨c, hc2⟩ := hz
      have hq : (e2 - -(s * (M r).b)) % 2 = 0 := by
        generalize evenL 300 p e2 = L
        clear hc2 hc h hd
        rcases hs with rfl | rfl <;> omega
      have := dvd_small (by omega) (two_dvd hpo hq hc2) (by omega) (by omega)
      omega
    have hrow : evenL 300 p e2 = (r.reverse).map (- ·) := by
      have hm := M_neg r.reverse
      rw [M_rev] at hm
      have hsr : sg r.reverse = 1 := by rw [sg_par, par_rev, hr]; rfl
      rw [hsr] at hm
      have := even_of (n := 300) (bs := (r.reverse).map (- ·)) (s := s) hev.rev.neg hs (by simpa using h3)
      rw [hm] at this
      simp only at this
      rw [← this]
      congr 1
      · rw [h1]; grind
      · rw [hz2]; grind
    rw [hrow, byL_neg _ _ (fun b m => (hev.rev b m).1)]
    have := byL_rev r true
    rw [hr] at this
    rw [show (!true) = (xor true (!false)) from rfl, this, runR_rev]
  | true =>
    rw [hr] at hsg
    simp only [cond_true] at hsg
    rw [hsg] at hd hpar
    have hpo : ¬ p % 2 = 1 := by rcases hs with rfl | rfl <;> omega
    rw [if_neg hpo] at h
    have hc : 2 * p ∣ e * (s * (M r).b) - 1 := by
      have hdd : (M r).d = 2 * ((M r).d / 2) := by omega
      refine ⟨s * ((M r).d / 2), ?_⟩
      rw [h1, h2]
      have : s * (M r).c * (s * (M r).b) - 1 = (M r).a * (M r).d := by
        have : s * (M r).c * (s * (M r).b) = (s * s) * ((M r).b * (M r).c) := by grind
        rw [this, ss]
        omega
      rw [this]
      have : 2 * (s * (M r).a) * (s * ((M r).d / 2)) = (s * s) * ((M r).a * (2 * ((M r).d / 2))) := by grind
      rw [this, ss, ← hdd]
      omega
    have hz2 : e2 = s * (M r).b := by
      have := dvd_small (by omega) (inv_uniq h hc) (by omega) (by omega)
      omega
    have hrow : evenL 300 p e2 = r.reverse := by
      have := even_of (n := 300) (bs := r.reverse) (s := s) hev.rev hs (by simpa using h3)
      rw [M_rev] at this
      simp only at this
      rw [← this, ← h1, hz2]
    have := byL_rev r true
    rw [hr] at this
    rw [hrow, show byL true r.reverse = byL (xor true (!true)) r.reverse from rfl, this, runR_rev]
end HD
set_option Elab.async false
set_option linter.all false
set_option maxRecDepth 100000
set_option maxHeartbeats 8000000
namespace HD
open PySem L2 EV
theorem gst_product : g__law_product.stab = [true, true] := by kernel_rfl
theorem stab13 : D.prg.stab 13 = [true, true] := by kernel_rfl
theorem take_not {ns : List Int} {j : Nat} {m : Int} (nd : ns.Nodup) (hm : ns[j]? = some m) : m ∉ ns.take j := by
  intro q
  obtain ⟨i, hi, e⟩ := List.getElem_of_mem q
  rw [List.length_take] at hi
  rw [List.getElem_take] at e
  obtain ⟨hj1, hj2⟩ := List.getElem?_eq_some_iff.mp hm
  exact (List.pairwise_iff_getElem.mp nd) i j (by omega) hj1 (by omega) (e.trans hj2.symm)
theorem product_ok {d : Nat} {v : Val} {b : Nat} {f : Int → Int} {y : Int} (h : DB v b f) (hb : b + 1 ≤ 100) (h1 : -(2 ^ 64) < y) (h2 : y < 2 ^ 64) : Rw (D.prg.den (d + 2) 13 [.fz v, .fz (.dic [.inl 1] [.int y])]) (fun z => ∃ u, z = ((u, false), [.no, .no]) ∧ DB u (b + 1) (fun n => y * f (n - 1))) NX := by
  obtain ⟨ns, cs, rfl, l, nd, hk, hf⟩ := h
  rw [den_succ (g := g__law_product) rfl, w_run rfl, gst_product]
  show Ow (evSs _ _ g__law_product.body [_, _, .no, .no, .no]) _
  have hl : ns.length ≤ sizeLine := Nat.le_trans (DB.len nd hk) (Nat.le_trans (by omega : b + 1 ≤ 101) (by decide))
  have lk : lookK [(Sum.inl 1 : Key)] [Val.int y] (.inl 1) = some (.int y) := rfl
  simp only [g__law_product, ↓w_bvar, ↓w_bnv, ↓w_var, ↓w_non, ↓w_bl, ↓w_int, ↓w_str, ↓w_val, ↓w_one, ↓w_bin, ↓w_neg, ↓w_test, ↓w_not, ↓w_and, ↓w_or, ↓w_ife, ↓w_cmp, ↓w_chain, ↓w_call, ↓w_bi, ↓w_isi, ↓w_isis, ↓w_ix, ↓w_sl, ↓w_rev, ↓w_tup, ↓w_lst, ↓w_snil, ↓w_scons, ↓w_bnil, ↓w_bcons, ↓w_anil, ↓w_aconsN, ↓w_aconsF, ↓w_aconsT, ↓w_prnop, ↓w_pr, ↓w_nil, ↓w_cons, ↓w_put, ↓w_asgN, ↓w_asgT, ↓w_par, ↓w_ifs, ↓w_ret, ↓w_retn, ↓w_raise, ↓w_brk, ↓w_cont, ↓w_expr, ↓w_seti, ↓w_turn, ↓w_cnop, ↓w_cond, ↓w_lc, ↓w_forF, iv_non, iv_bl, iv_int, np_int, iv_str, iv_glob, iv_bin, np_bin, iv_neg, np_neg, iv_not, iv_and, iv_or, iv_one, iv_ife, np_ife, iv_cmp, iv_chain, iv_call, np_call, iv_bi, np_bi, iv_isi, iv_isis, iv_ix, np_ix, iv_sl, iv_rev, iv_tup, iv_lst, iv_lc, iv_disp, iv_get, iv_lcK, iv_val, np_var, np_cmp, np_chain, np_not, np_and, np_or, np_isi, np_isis, np_one, Rw_got, Ov_some, Ob_true, Ob_false, rdB, rdV, Rw_got, List.getElem?_cons_zero, List.getElem?_cons_succ, List.set_cons_zero, List.set_cons_succ, List.length_cons, List.length_nil, List.length_set, at0, at1, at2, at3, ix0, ix1, ix2, ix3, vf_add, vf_sub, vf_mul, vf_fdiv, vf_mod, vf_pow, vf_addT, vf_addL, vf_lt, vf_le, vf_gt, vf_ge, vf_lt2, vf_le2, vf_gt2, vf_ge2, vf_isN, vf_notN, vf_nn_int, vf_nn_bl, vf_nn_tup, vf_nn_lst, vf_nn_str, vf_nn_non, vf_tr_bl, vf_tr_int, vf_tr_non, vf_tr_tup, vf_tr_lst, vf_lenT, vf_lenL, vf_abs, vf_int, vf_tupL, vf_tupT, vf_lstL, vf_lstT, vf_gcd, vf_ixL, vf_ixT, vf_ixS, vf_setL, vf_appL, vf_neg, vf_ow, vf_mkT, vf_mkF, vf_part, vf_revL, vf_revT, vf_is_int_int, vf_is_bl_int, vf_is_str_int, vf_is_tup_int, vf_is_lst_int, vf_is_scr_int, vf_is_non_int, vf_is_int_bool, vf_is_bl_bool, vf_is_str_bool, vf_is_tup_bool, vf_is_lst_bool, vf_is_scr_bool, vf_is_non_bool, vf_is_int_str, vf_is_bl_str, vf_is_str_str, vf_is_tup_str, vf_is_lst_str, vf_is_scr_str, vf_is_non_str, vf_is_int_tuple, vf_is_bl_tuple, vf_is_str_tuple, vf_is_tup_tuple, vf_is_lst_tuple, vf_is_scr_tuple, vf_is_non_tuple, vf_is_int_list, vf_is_bl_list, vf_is_str_list, vf_is_tup_list, vf_is_lst_list, vf_is_scr_list, vf_is_non_list, vf_eqI, vf_neI, vf_eqB, Option.map_some, Option.bind_some, List.map_cons, List.map_nil, Nat.reduceAdd, Nat.reducePow, Int.reducePow, hPow18, Int.reduceMul, Int.reduceSub, Int.reduceFDiv, Int.reduceFMod, Nat.reduceLT, Nat.reduceLeDiff, Nat.reduceSub, Int.reduceLE, Int.reduceLT, Int.reduceNeg, Int.reduceAdd, Int.reduceToNat, Int.reduceEq, Int.ofNat_eq_coe, ↓reduceIte, reduceCtorEq, decide_true, decide_false, Int.cast_ofNat_Int, and_true, true_and, Bool.not_true, Bool.not_false, w_disp, w_forK, w_keys, kyv, keyvals, List.zip_nil_left, mergeD]
  refine for_inv (n := 0) (I := fun j ρ => ∃ u t t2, ρ = [.fz (.dic (ns.map .inl) (cs.map .int)), .fz (.dic [.inl 1] [.int y]), .ow u, t, t2] ∧ DB u (b + 1) fun m => if m - 1 ∈ ns.take j then y * f (m - 1) else 0) ?_ (fun j x ρ hx => ?_) ?_
  · exact ⟨_, _, _, rfl, DB.nil.congr fun n => by simp⟩
  · rintro ⟨u, t, t2, rfl, hu⟩
    rw [List.getElem?_map] at hx
    cases hm : ns[j]? with
    | none => rw [hm] at hx; cases hx
    | some m =>
      rw [hm] at hx
      cases hx
      have hin : m ∈ ns := List.mem_of_getElem? hm
      have hb2 := hk m hin
      rw [Nat.zero_add] at hu
      have hnot := take_not nd hm
      have mo : mulOk (coef (ns.map .inl) cs m) y = true := mulOkR h1 h2
      rw [w_forF]
      simp only [↓w_bvar, ↓w_bnv, ↓w_var, ↓w_non, ↓w_bl, ↓w_int, ↓w_str, ↓w_val, ↓w_one, ↓w_bin, ↓w_neg, ↓w_test, ↓w_not, ↓w_and, ↓w_or, ↓w_ife, ↓w_cmp, ↓w_chain, ↓w_call, ↓w_bi, ↓w_isi, ↓w_isis, ↓w_ix, ↓w_sl, ↓w_rev, ↓w_tup, ↓w_lst, ↓w_snil, ↓w_scons, ↓w_bnil, ↓w_bcons, ↓w_anil, ↓w_aconsN, ↓w_aconsF, ↓w_aconsT, ↓w_prnop, ↓w_pr, ↓w_nil, ↓w_cons, ↓w_put, ↓w_asgN, ↓w_asgT, ↓w_par, ↓w_ifs, ↓w_ret, ↓w_retn, ↓w_raise, ↓w_brk, ↓w_cont, ↓w_expr, ↓w_seti, ↓w_turn, ↓w_cnop, ↓w_cond, ↓w_lc, ↓w_forF, iv_non, iv_bl, iv_int, np_int, iv_str, iv_glob, iv_bin, np_bin, iv_neg, np_neg, iv_not, iv_and, iv_or, iv_one, iv_ife, np_ife, iv_cmp, iv_chain, iv_call, np_call, iv_bi, np_bi, iv_isi, iv_isis, iv_ix, np_ix, iv_sl, iv_rev, iv_tup, iv_lst, iv_lc, iv_disp, iv_get, iv_lcK, iv_val, np_var, np_cmp, np_chain, np_not, np_and, np_or, np_isi, np_isis, np_one, Rw_got, Ov_some, Ob_true, Ob_false, rdB, rdV, Rw_got, List.getElem?_cons_zero, List.getElem?_cons_succ, List.set_cons_zero, List.set_cons_succ, List.length_cons, List.length_nil, List.length_set, at0, at1, at2, at3, ix0, ix1, ix2, ix3, vf_add, vf_sub, vf_mul, vf_fdiv, vf_mod, vf_pow, vf_addT, vf_addL, vf_lt, vf_le, vf_gt, vf_ge, vf_lt2, vf_le2, vf_gt2, vf_ge2, vf_isN, vf_notN, vf_nn_int, vf_nn_bl, vf_nn_tup, vf_nn_lst, vf_nn_str, vf_nn_non, vf_tr_bl, vf_tr_int, vf_tr_non, vf_tr_tup, vf_tr_lst, vf_lenT, vf_lenL, vf_abs, vf_int, vf_tupL, vf_tupT, vf_lstL, vf_lstT, vf_gcd, vf_ixL, vf_ixT, vf_ixS, vf_setL, vf_appL, vf_neg, vf_ow, vf_mkT, vf_mkF, vf_part, vf_revL, vf_revT, vf_is_int_int, vf_is_bl_int, vf_is_str_int, vf_is_tup_int, vf_is_lst_int, vf_is_scr_int, vf_is_non_int, vf_is_int_bool, vf_is_bl_bool, vf_is_str_bool, vf_is_tup_bool, vf_is_lst_bool, vf_is_scr_bool, vf_is_non_bool, vf_is_int_str, vf_is_bl_str, vf_is_str_str, vf_is_tup_str, vf_is_lst_str, vf_is_scr_str, vf_is_non_str, vf_is_int_tuple, vf_is_bl_tuple, vf_is_str_tuple, vf_is_tup_tuple, vf_is_lst_tuple, vf_is_scr_tuple, vf_is_non_tuple, vf_is_int_list, vf_is_bl_list, vf_is_str_list, vf_is_tup_list, vf_is_lst_list, vf_is_scr_list, vf_is_non_list, vf_eqI, vf_neI, vf_eqB, Option.map_some, Option.bind_some, List.map_cons, List.map_nil, Nat.reduceAdd, Nat.reducePow, Int.reducePow, hPow18, Int.reduceMul, Int.reduceSub, Int.reduceFDiv, Int.reduceFMod, Nat.reduceLT, Nat.reduceLeDiff, Nat.reduceSub, Int.reduceLE, Int.reduceLT, Int.reduceNeg, Int.reduceAdd, Int.reduceToNat, Int.reduceEq, Int.ofNat_eq_coe, ↓reduceIte, reduceCtorEq, decide_true, decide_false, Int.cast_ofNat_Int, and_true, true_and, Bool.not_true, Bool.not_false, bindT, w_forK, w_keys, kyv, keyVal, w_forcons, w_fornil, w_forF, stab11, ixD, kv_int, look_coef l hin, lk, mo]
      refine Rw_mono (put_ok (d := d) (n := m + 1) (c := coef (ns.map .inl) cs m * y) hu hb (by omega) (by omega)) ?_ fun _ _ z => z
      rintro z ⟨v', rfl, hv⟩
      simp only [↓w_bvar, ↓w_bnv, ↓w_var, ↓w_non, ↓w_bl, ↓w_int, ↓w_str, ↓w_val, ↓w_one, ↓w_bin, ↓w_neg, ↓w_test, ↓w_not, ↓w_and, ↓w_or, ↓w_ife, ↓w_cmp, ↓w_chain, ↓w_call, ↓w_bi, ↓w_isi, ↓w_isis, ↓w_ix, ↓w_sl, ↓w_rev, ↓w_tup, ↓w_lst, ↓w_snil, ↓w_scons, ↓w_bnil, ↓w_bcons, ↓w_anil, ↓w_aconsN, ↓w_aconsF, ↓w_aconsT, ↓w_prnop, ↓w_pr, ↓w_nil, ↓w_cons, ↓w_put, ↓w_asgN, ↓w_asgT, ↓w_par, ↓w_ifs, ↓w_ret, ↓w_retn, ↓w_raise, ↓w_brk, ↓w_cont, ↓w_expr, ↓w_seti, ↓w_turn, ↓w_cnop, ↓w_cond, ↓w_lc, ↓w_forF, iv_non, iv_bl, iv_int, np_int, iv_str, iv_glob, iv_bin, np_bin, iv_neg, np_neg, iv_not, iv_and, iv_or, iv_one, iv_ife, np_ife, iv_cmp, iv_chain, iv_call, np_call, iv_bi, np_bi, iv_isi, iv_isis, iv_ix, np_ix, iv_sl, iv_rev, iv_tup, iv_lst, iv_lc, iv_disp, iv_get, iv_lcK, iv_val, np_var, np_cmp, np_chain, np_not, np_and, np_or, np_isi, np_isis, np_one, Rw_got, Ov_some, Ob_true, Ob_false, rdB, rdV, Rw_got, List.getElem?_cons_zero, List.getElem?_cons_succ, List.set_cons_zero, List.set_cons_succ, List.length_cons, List.length_nil, List.length_set, at0, at1, at2, at3, ix0, ix1, ix2, ix3, vf_add, vf_sub, vf_mul, vf_fdiv, vf_mod, vf_pow, vf_addT, vf_addL, vf_lt, vf_le, vf_gt, vf_ge, vf_lt2, vf_le2, vf_gt2, vf_ge2, vf_isN, vf_notN, vf_nn_int, vf_nn_bl, vf_nn_tup, vf_nn_lst, vf_nn_str, vf_nn_non, vf_tr_bl, vf_tr_int, vf_tr_non, vf_tr_tup, vf_tr_lst, vf_lenT, vf_lenL, vf_abs, vf_int, vf_tupL, vf_tupT, vf_lstL, vf_lstT, vf_gcd, vf_ixL, vf_ixT, vf_ixS, vf_setL, vf_appL, vf_neg, vf_ow, vf_mkT, vf_mkF, vf_part, vf_revL, vf_revT, vf_is_int_int, vf_is_bl_int, vf_is_str_int, vf_is_tup_int, vf_is_lst_int, vf_is_scr_int, vf_is_non_int, vf_is_int_bool, vf_is_bl_bool, vf_is_str_bool, vf_is_tup_bool, vf_is_lst_bool, vf_is_scr_bool, vf_is_non_bool, vf_is_int_str, vf_is_bl_str, vf_is_str_str, vf_is_tup_str, vf_is_lst_str, vf_is_scr_str, vf_is_non_str, vf_is_int_tuple, vf_is_bl_tuple, vf_is_str_tuple, vf_is_tup_tuple, vf_is_lst_tuple, vf_is_scr_tuple, vf_is_non_tuple, vf_is_int_list, vf_is_bl_list, vf_is_str_list, vf_is_tup_list, vf_is_lst_list, vf_is_scr_list, vf_is_non_list, vf_eqI, vf_neI, vf_eqB, Option.map_some, Option.bind_some, List.map_cons, List.map_nil, Nat.reduceAdd, Nat.reducePow, Int.reducePow, hPow18, Int.reduceMul, Int.reduceSub, Int.reduceFDiv, Int.reduceFMod, Nat.reduceLT, Nat.reduceLeDiff, Nat.reduceSub, Int.reduceLE, Int.reduceLT, Int.reduceNeg, Int.reduceAdd, Int.reduceToNat, Int.reduceEq, Int.ofNat_eq_coe, ↓reduceIte, reduceCtorEq, decide_true, decide_false, Int.cast_ofNat_Int, and_true, true_and, Bool.not_true, Bool.not_false, giveR]
      refine ⟨v', _, _, rfl, hv.congr fun n => ?_⟩
      rw [Nat.zero_add, List.take_succ, hm]
      show (if n = m + 1 then (if m + 1 - 1 ∈ ns.take j then y * f (m + 1 - 1) else 0) + coef (ns.map .inl) cs m * y else if n - 1 ∈ ns.take j then y * f (n - 1) else 0) = _
      rw [show m + 1 - 1 = m by omega, if_neg hnot, hf]
      by_cases e : n = m + 1
      · subst e
        simp [show m + 1 - 1 = m by omega]
        exact Int.mul_comm _ _
      · have e2 : ¬ n - 1 = m := by omega
        simp [e, e2]
  · rintro ρ ⟨u, t, t2, rfl, hu⟩
    simp only [↓w_bvar, ↓w_bnv, ↓w_var, ↓w_non, ↓w_bl, ↓w_int, ↓w_str, ↓w_val, ↓w_one, ↓w_bin, ↓w_neg, ↓w_test, ↓w_not, ↓w_and, ↓w_or, ↓w_ife, ↓w_cmp, ↓w_chain, ↓w_call, ↓w_bi, ↓w_isi, ↓w_isis, ↓w_ix, ↓w_sl, ↓w_rev, ↓w_tup, ↓w_lst, ↓w_snil, ↓w_scons, ↓w_bnil, ↓w_bcons, ↓w_anil, ↓w_aconsN, ↓w_aconsF, ↓w_aconsT, ↓w_prnop, ↓w_pr, ↓w_nil, ↓w_cons, ↓w_put, ↓w_asgN, ↓w_asgT, ↓w_par, ↓w_ifs, ↓w_ret, ↓w_retn, ↓w_raise, ↓w_brk, ↓w_cont, ↓w_expr, ↓w_seti, ↓w_turn, ↓w_cnop, ↓w_cond, ↓w_lc, ↓w_forF, iv_non, iv_bl, iv_int, np_int, iv_str, iv_glob, iv_bin, np_bin, iv_neg, np_neg, iv_not, iv_and, iv_or, iv_one, iv_ife, np_ife, iv_cmp, iv_chain, iv_call, np_call, iv_bi, np_bi, iv_isi, iv_isis, iv_ix, np_ix, iv_sl, iv_rev, iv_tup, iv_lst, iv_lc, iv_disp, iv_get, iv_lcK, iv_val, np_var, np_cmp, np_chain, np_not, np_and, np_or, np_isi, np_isis, np_one, Rw_got, Ov_some, Ob_true, Ob_false, rdB, rdV, Rw_got, List.getElem?_cons_zero, List.getElem?_cons_succ, List.set_cons_zero, List.set_cons_succ, List.length_cons, List.length_nil, List.length_set, at0, at1, at2, at3, ix0, ix1, ix2, ix3, vf_add, vf_sub, vf_mul, vf_fdiv, vf_mod, vf_pow, vf_addT, vf_addL, vf_lt, vf_le, vf_gt, vf_ge, vf_lt2, vf_le2, vf_gt2, vf_ge2, vf_isN, vf_notN, vf_nn_int, vf_nn_bl, vf_nn_tup, vf_nn_lst, vf_nn_str, vf_nn_non, vf_tr_bl, vf_tr_int, vf_tr_non, vf_tr_tup, vf_tr_lst, vf_lenT, vf_lenL, vf_abs, vf_int, vf_tupL, vf_tupT, vf_lstL, vf_lstT, vf_gcd, vf_ixL, vf_ixT, vf_ixS, vf_setL, vf_appL, vf_neg, vf_ow, vf_mkT, vf_mkF, vf_part, vf_revL, vf_revT, vf_is_int_int, vf_is_bl_int, vf_is_str_int, vf_is_tup_int, vf_is_lst_int, vf_is_scr_int, vf_is_non_int, vf_is_int_bool, vf_is_bl_bool, vf_is_str_bool, vf_is_tup_bool, vf_is_lst_bool, vf_is_scr_bool, vf_is_non_bool, vf_is_int_str, vf_is_bl_str, vf_is_str_str, vf_is_tup_str, vf_is_lst_str, vf_is_scr_str, vf_is_non_str, vf_is_int_tuple, vf_is_bl_tuple, vf_is_str_tuple, vf_is_tup_tuple, vf_is_lst_tuple, vf_is_scr_tuple, vf_is_non_tuple, vf_is_int_list, vf_is_bl_list, vf_is_str_list, vf_is_tup_list, vf_is_lst_list, vf_is_scr_list, vf_is_non_list, vf_eqI, vf_neI, vf_eqB, Option.map_some, Option.bind_some, List.map_cons, List.map_nil, Nat.reduceAdd, Nat.reducePow, Int.reducePow, hPow18, Int.reduceMul, Int.reduceSub, Int.reduceFDiv, Int.reduceFMod, Nat.reduceLT, Nat.reduceLeDiff, Nat.reduceSub, Int.reduceLE, Int.reduceLT, Int.reduceNeg, Int.reduceAdd, Int.reduceToNat, Int.reduceEq, Int.ofNat_eq_coe, ↓reduceIte, reduceCtorEq, decide_true, decide_false, Int.cast_ofNat_Int, and_true, true_and, Bool.not_true, Bool.not_false, outsT2]
    refine ⟨_, rfl, hu.congr fun n => ?_⟩
    rw [Nat.zero_add, List.length_map, List.take_length]
    by_cases q : n - 1 ∈ ns
    · rw [if_pos q]
    · rw [if_neg q, ← hf (n - 1)]
      unfold coef
      rw [look_none q]
      simp
end HD
set_option Elab.async false
set_option linter.all false
set_option maxRecDepth 100000
set_option maxHeartbeats 8000000
namespace HD
open PySem L2 EV
theorem gst_by_row : g__law_by_row.stab = [true] := by kernel_rfl
theorem stab14 : D.prg.stab 14 = [true] := by kernel_rfl
theorem rngL_get : ∀ {n j : Nat} {a : Int}, j < n → (rngL a n)[j]? = some (.int (a + j))
  | 0, _, _, h => by omega
  | n + 1, 0, a, _ => by simp [rngL]
  | n + 1, j + 1, a, h => by
    show (rngL (a + 1) n)[j]? = _
    rw [rngL_get (by omega)]
    congr 2
    omega
theorem DB.one {b : Nat} : DB (.dic [.inl 0] [.int 1]) b dl := ⟨[0], [1], rfl, rfl, by simp, fun n hn => by simp at hn; omega, fun n => by
  unfold coef dl
  show (match (if (Sum.inl 0 : Key) = .inl n then some (Val.int 1) else none) with | some (.int c) => c | _ => 0) = _
  by_cases e : n = 0
  · subst e; rfl
  · have : ¬ (Sum.inl 0 : Key) = .inl n := fun q => e (Sum.inl.inj q).symm
    rw [if_neg this, if_neg e]⟩
inductive RngP : Val → List Val → Prop
  | mk (n : Int) (h : rngOk n = true) : RngP (.int n) (rngL 0 n.toNat)
theorem RngP.nat {n : Nat} (h : n < 4611686018427387904) : RngP (.int n) (rngL 0 n) := by
  have h1 : rngOk (n : Int) = true := decide_eq_true (by constructor <;> omega)
  have := RngP.mk n h1
  rw [Int.toNat_natCast] at this
  exact this
theorem w_rngP {Γ : Env'} {ρ : Ro} {a : E} {Qv : (Val × Bool) × Ro → Prop} {X : XP} : Rw (ev Γ (.rng1 a) ρ) Qv X = Rw (ev Γ a ρ) (fun x => ∃ xs, RngP x.1.1 xs ∧ Qv ((.lst xs, false), x.2)) X := by
  rw [w_rng1]
  congr 1
  funext x
  obtain ⟨⟨v, f⟩, ρ⟩ := x
  apply propext
  constructor
  · intro h
    cases v with
    | int n =>
      by_cases q : rngOk n = true
      · refine ⟨_, .mk n q, ?_⟩
        simpa [Ov, q] using h
      · simp [Ov, q] at h
    | _ => exact h.elim
  · rintro ⟨xs, h, q⟩
    cases h with
    | mk n h => simpa [Ov, h] using q
theorem by_row_ok {d : Nat} {r : List Int} (hl : r.length < 40) (hr : ∀ b ∈ r, b.natAbs < 1000) : ∃ u, D.prg.den (d + 3) 14 [.fz (.tup (r.map .int))] = .got ((u, false), [.no]) ∧ DB u 40 (runR (byL true r) zr dl).2 := by
  have key : Rw (D.prg.den (d + 3) 14 [.fz (.tup (r.map .int))]) (fun z => ∃ u, z = ((u, false), [.no]) ∧ DB u 40 (runR (byL true r) zr dl).2) NX := by
    rw [den_succ (g := g__law_by_row) rfl, w_run rfl, gst_by_row]
    show Ow (evSs _ _ g__law_by_row.body [_, .no, .no, .no, .no]) _
    have hlm : (r.map Val.int).length = r.length := List.length_map _
    have o2 : divOk 2 = true := by decide
    have m1 : (mergeD [] [] (([] : List Key).zip ([] : List Val))) = ([], []) := rfl
    have m2 : (mergeD [] [] ([(Sum.inl 0 : Key)].zip [Val.int 1])) = ([.inl 0], [.int 1]) := rfl
    have m3 : ∀ y : Int, (mergeD [] [] ([(Sum.inl 1 : Key)].zip [Val.int y])) = ([.inl 1], [.int y]) := fun _ => rfl
    simp only [g__law_by_row, ↓w_bvar, ↓w_bnv, ↓w_var, ↓w_non, ↓w_bl, ↓w_int, ↓w_str, ↓w_val, ↓w_one, ↓w_bin, ↓w_neg, ↓w_test, ↓w_not, ↓w_and, ↓w_or, ↓w_ife, ↓w_cmp, ↓w_chain, ↓w_call, ↓w_bi, ↓w_isi, ↓w_isis, ↓w_ix, ↓w_sl, ↓w_rev, ↓w_tup, ↓w_lst, ↓w_snil, ↓w_scons, ↓w_bnil, ↓w_bcons, ↓w_anil, ↓w_aconsN, ↓w_aconsF, ↓w_aconsT, ↓w_prnop, ↓w_pr, ↓w_nil, ↓w_cons, ↓w_put, ↓w_asgN, ↓w_asgT, ↓w_par, ↓w_ifs, ↓w_ret, ↓w_retn, ↓w_raise, ↓w_brk, ↓w_cont, ↓w_expr, ↓w_seti, ↓w_turn, ↓w_cnop, ↓w_cond, ↓w_lc, ↓w_forF, iv_non, iv_bl, iv_int, np_int, iv_str, iv_glob, iv_bin, np_bin, iv_neg, np_neg, iv_not, iv_and, iv_or, iv_one, iv_ife, np_ife, iv_cmp, iv_chain, iv_call, np_call, iv_bi, np_bi, iv_isi, iv_isis, iv_ix, np_ix, iv_sl, iv_rev, iv_tup, iv_lst, iv_lc, iv_disp, iv_get, iv_lcK, iv_val, np_var, np_cmp, np_chain, np_not, np_and, np_or, np_isi, np_isis, np_one, Rw_got, Ov_some, Ob_true, Ob_false, rdB, rdV, Rw_got, List.getElem?_cons_zero, List.getElem?_cons_succ, List.set_cons_zero, List.set_cons_succ, List.length_cons, List.length_nil, List.length_set, at0, at1, at2, at3, ix0, ix1, ix2, ix3, vf_add, vf_sub, vf_mul, vf_fdiv, vf_mod, vf_pow, vf_addT, vf_addL, vf_lt, vf_le, vf_gt, vf_ge, vf_lt2, vf_le2, vf_gt2, vf_ge2, vf_isN, vf_notN, vf_nn_int, vf_nn_bl, vf_nn_tup, vf_nn_lst, vf_nn_str, vf_nn_non, vf_tr_bl, vf_tr_int, vf_tr_non, vf_tr_tup, vf_tr_lst, vf_lenT, vf_lenL, vf_abs, vf_int, vf_tupL, vf_tupT, vf_lstL, vf_lstT, vf_gcd, vf_ixL, vf_ixT, vf_ixS, vf_setL, vf_appL, vf_neg, vf_ow, vf_mkT, vf_mkF, vf_part, vf_revL, vf_revT, vf_is_int_int, vf_is_bl_int, vf_is_str_int, vf_is_tup_int, vf_is_lst_int, vf_is_scr_int, vf_is_non_int, vf_is_int_bool, vf_is_bl_bool, vf_is_str_bool, vf_is_tup_bool, vf_is_lst_bool, vf_is_scr_bool, vf_is_non_bool, vf_is_int_str, vf_is_bl_str, vf_is_str_str, vf_is_tup_str, vf_is_lst_str, vf_is_scr_str, vf_is_non_str, vf_is_int_tuple, vf_is_bl_tuple, vf_is_str_tuple, vf_is_tup_tuple, vf_is_lst_tuple, vf_is_scr_tuple, vf_is_non_tuple, vf_is_int_list, vf_is_bl_list, vf_is_str_list, vf_is_tup_list, vf_is_lst_list, vf_is_scr_list, vf_is_non_list, vf_eqI, vf_neI, vf_eqB, Option.map_some, Option.bind_some, List.map_cons, List.map_nil, Nat.reduceAdd, Nat.reducePow, Int.reducePow, hPow18, Int.reduceMul, Int.reduceSub, Int.reduceFDiv, Int.reduceFMod, Nat.reduceLT, Nat.reduceLeDiff, Nat.reduceSub, Int.reduceLE, Int.reduceLT, Int.reduceNeg, Int.reduceAdd, Int.reduceToNat, Int.reduceEq, Int.ofNat_eq_coe, ↓reduceIte, reduceCtorEq, decide_true, decide_false, Int.cast_ofNat_Int, and_true, true_and, Bool.not_true, Bool.not_false, w_disp, w_for, w_rngP, m1, m2]
    refine ⟨_, .nat (by rw [hlm]; omega), ?_⟩
    rw [hlm]
    simp only [itemsV, Ov_some]
    refine for_inv (n := 0) (I := fun j ρ => ∃ u v t s t4 l h, ρ = [.fz (.tup (r.map .int)), t, s, .ow u, t4] ∧ Slot s v ∧ DB v j l ∧ DB u j h ∧ j ≤ r.length ∧ runR (byL (decide (j % 2 = 0)) (r.drop j)) l h = runR (byL true r) zr dl) ?_ (fun j x ρ hx => ?_) ?_
    · refine ⟨.dic [.inl 0] [.int 1], .dic [] [], _, _, _, zr, dl, rfl, .inr rfl, DB.nil, DB.one, Nat.zero_le _, ?_⟩
      rw [List.drop_zero]
      rfl
    · rintro ⟨u, v, t, s, t4, l, h, rfl, hs, hv, hu, hj, hrun⟩
      have hj2 : j < r.length := by
        have := (List.getElem?_eq_some_iff.mp hx).1
        rw [rngL_len] at this
        omega
      have hx2 : x = .int j := by
        have e := rngL_get (n := r.length) (j := j) (a := 0) (by omega)
        rw [Int.zero_add] at e
        exact (Option.some.inj (e.symm.trans hx)).symm
      subst hx2
      have hat : atI (r.map Val.int) (j : Int) = some (.int r[j]) := by
        unfold L2.atI ixN
        rw [if_pos (by omega), List.length_map, if_pos (by omega)]
        show (r.map Val.int)[(j : Int).toNat]? = _
        rw [List.getElem?_map, Int.toNat_natCast, List.getElem?_eq_getElem hj2]
        rfl
      have hbd := hr _ (List.getElem_mem hj2)
      rw [Nat.zero_add] at hv hu hrun
      have hy : ∀ c : Int, c = 1 ∨ c = -1 → (r[j].fdiv 2 * c).natAbs < 1000 := fun c hc => by
        rw [Int.fdiv_eq_ediv_of_nonneg _ (by decide)]
        rcases hc with rfl | rfl <;> omega
      have mo : ∀ c : Int, c = 1 ∨ c = -1 → mulOk (r[j].fdiv 2) c = true := fun c hc => mulOkR (by omega) (by omega)
      rw [List.drop_eq_getElem_cons hj2] at hrun
      have fin : ∀ c : Int, c = (if (j : Int).fmod 2 = 0 then -1 else 1) → Rw (D.prg.den (d + 2) 13 [.fz u, .fz (.dic [.inl 1] [.int (r[j].fdiv 2 * c)])]) (fun z => ∃ w, z = ((w, false), [.no, .no]) ∧ Rw (D.prg.den (d + 2) 12 [s, .fz w]) (fun z => ∃ u' o, z = ((u', true), [o, .no]) ∧ ∃ l' h', DB u (j + 1) l' ∧ DB u' (j + 1) h' ∧ runR (byL (decide ((j + 1) % 2 = 0)) (r.drop (j + 1))) l' h' = runR (byL true r) zr dl) NX) NX := fun c hc => by
        have hc2 : c = 1 ∨ c = -1 := by rw [hc]; split <;> simp
        have hyc := hy c hc2
        refine Rw_mono (product_ok (d := d) hu (by omega) (by omega) (by omega)) ?_ fun _ _ z => z
        rintro z ⟨w, rfl, hw⟩
        refine ⟨w, rfl, Rw_mono (sum_of_ok (d := d) hs (hv.mono (by omega)) hw (by omega)) ?_ fun _ _ z => z⟩
        rintro z ⟨u', o, rfl, hu'⟩
        refine ⟨u', o, rfl, h, _, hu.mono (by omega), hu', ?_⟩
        rw [← hrun]
        have e1 : (if (decide (j % 2 = 0)) = true then (-1 : Int) else 1) = c := by
          rw [hc, Int.fmod_eq_emod_of_nonneg _ (by decide)]
          by_cases q : j % 2 = 0
          · rw [if_pos (by simpa using q), if_pos (by omega)]
          · rw [if_neg (by simpa using q), if_neg (by omega)]
        have e2 : (!decide (j % 2 = 0)) = decide ((j + 1) % 2 = 0) := by
          by_cases q : j % 2 = 0
          · have q2 : ¬ (j + 1) % 2 = 0 := by omega
            simp [q, q2]
          · have q2 : (j + 1) % 2 = 0 := by omega
            simp [q, q2]
        simp only [byL, runR, e1, e2]
      rw [w_forF]
      by_cases hpar : (j : Int).fmod 2 = 0
      · have q := fin (-1) (by rw [if_pos hpar])
        have mo1 := mo (-1) (.inr rfl)
        rcases hs with rfl | rfl
        all_goals
          simp only [↓w_bvar, ↓w_bnv, ↓w_var, ↓w_non, ↓w_bl, ↓w_int, ↓w_str, ↓w_val, ↓w_one, ↓w_bin, ↓w_neg, ↓w_test, ↓w_not, ↓w_and, ↓w_or, ↓w_ife, ↓w_cmp, ↓w_chain, ↓w_call, ↓w_bi, ↓w_isi, ↓w_isis, ↓w_ix, ↓w_sl, ↓w_rev, ↓w_tup, ↓w_lst, ↓w_snil, ↓w_scons, ↓w_bnil, ↓w_bcons, ↓w_anil, ↓w_aconsN, ↓w_aconsF, ↓w_aconsT, ↓w_prnop, ↓w_pr, ↓w_nil, ↓w_cons, ↓w_put, ↓w_asgN, ↓w_asgT, ↓w_par, ↓w_ifs, ↓w_ret, ↓w_retn, ↓w_raise, ↓w_brk, ↓w_cont, ↓w_expr, ↓w_seti, ↓w_turn, ↓w_cnop, ↓w_cond, ↓w_lc, ↓w_forF, iv_non, iv_bl, iv_int, np_int, iv_str, iv_glob, iv_bin, np_bin, iv_neg, np_neg, iv_not, iv_and, iv_or, iv_one, iv_ife, np_ife, iv_cmp, iv_chain, iv_call, np_call, iv_bi, np_bi, iv_isi, iv_isis, iv_ix, np_ix, iv_sl, iv_rev, iv_tup, iv_lst, iv_lc, iv_disp, iv_get, iv_lcK, iv_val, np_var, np_cmp, np_chain, np_not, np_and, np_or, np_isi, np_isis, np_one, Rw_got, Ov_some, Ob_true, Ob_false, rdB, rdV, Rw_got, List.getElem?_cons_zero, List.getElem?_cons_succ, List.set_cons_zero, List.set_cons_succ, List.length_cons, List.length_nil, List.length_set, at0, at1, at2, at3, ix0, ix1, ix2, ix3, vf_add, vf_sub, vf_mul, vf_fdiv, vf_mod, vf_pow, vf_addT, vf_addL, vf_lt, vf_le, vf_gt, vf_ge, vf_lt2, vf_le2, vf_gt2, vf_ge2, vf_isN, vf_notN, vf_nn_int, vf_nn_bl, vf_nn_tup, vf_nn_lst, vf_nn_str, vf_nn_non, vf_tr_bl, vf_tr_int, vf_tr_non, vf_tr_tup, vf_tr_lst, vf_lenT, vf_lenL, vf_abs, vf_int, vf_tupL, vf_tupT, vf_lstL, vf_lstT, vf_gcd, vf_ixL, vf_ixT, vf_ixS, vf_setL, vf_appL, vf_neg, vf_ow, vf_mkT, vf_mkF, vf_part, vf_revL, vf_revT, vf_is_int_int, vf_is_bl_int, vf_is_str_int, vf_is_tup_int, vf_is_lst_int, vf_is_scr_int, vf_is_non_int, vf_is_int_bool, vf_is_bl_bool, vf_is_str_bool, vf_is_tup_bool, vf_is_lst_bool, vf_is_scr_bool, vf_is_non_bool, vf_is_int_str, vf_is_bl_str, vf_is_str_str, vf_is_tup_str, vf_is_lst_str, vf_is_scr_str, vf_is_non_str, vf_is_int_tuple, vf_is_bl_tuple, vf_is_str_tuple, vf_is_tup_tuple, vf_is_lst_tuple, vf_is_scr_tuple, vf_is_non_tuple, vf_is_int_list, vf_is_bl_list, vf_is_str_list, vf_is_tup_list, vf_is_lst_list, vf_is_scr_list, vf_is_non_list, vf_eqI, vf_neI, vf_eqB, Option.map_some, Option.bind_some, List.map_cons, List.map_nil, Nat.reduceAdd, Nat.reducePow, Int.reducePow, hPow18, Int.reduceMul, Int.reduceSub, Int.reduceFDiv, Int.reduceFMod, Nat.reduceLT, Nat.reduceLeDiff, Nat.reduceSub, Int.reduceLE, Int.reduceLT, Int.reduceNeg, Int.reduceAdd, Int.reduceToNat, Int.reduceEq, Int.ofNat_eq_coe, ↓reduceIte, reduceCtorEq, decide_true, decide_false, Int.cast_ofNat_Int, and_true, true_and, Bool.not_true, Bool.not_false, bindT, hat, o2, hpar, mo1, w_disp, m3, stab12, stab13]
          refine Rw_mono q ?_ fun _ _ z => z
          rintro z ⟨w, rfl, q2⟩
          simp only [giveR]
          refine Rw_mono q2 ?_ fun _ _ z => z
          rintro z ⟨u', o, rfl, l', h', d1, d2, e1⟩
          simp only [↓w_bvar, ↓w_bnv, ↓w_var, ↓w_non, ↓w_bl, ↓w_int, ↓w_str, ↓w_val, ↓w_one, ↓w_bin, ↓w_neg, ↓w_test, ↓w_not, ↓w_and, ↓w_or, ↓w_ife, ↓w_cmp, ↓w_chain, ↓w_call, ↓w_bi, ↓w_isi, ↓w_isis, ↓w_ix, ↓w_sl, ↓w_rev, ↓w_tup, ↓w_lst, ↓w_snil, ↓w_scons, ↓w_bnil, ↓w_bcons, ↓w_anil, ↓w_aconsN, ↓w_aconsF, ↓w_aconsT, ↓w_prnop, ↓w_pr, ↓w_nil, ↓w_cons, ↓w_put, ↓w_asgN, ↓w_asgT, ↓w_par, ↓w_ifs, ↓w_ret, ↓w_retn, ↓w_raise, ↓w_brk, ↓w_cont, ↓w_expr, ↓w_seti, ↓w_turn, ↓w_cnop, ↓w_cond, ↓w_lc, ↓w_forF, iv_non, iv_bl, iv_int, np_int, iv_str, iv_glob, iv_bin, np_bin, iv_neg, np_neg, iv_not, iv_and, iv_or, iv_one, iv_ife, np_ife, iv_cmp, iv_chain, iv_call, np_call, iv_bi, np_bi, iv_isi, iv_isis, iv_ix, np_ix, iv_sl, iv_rev, iv_tup, iv_lst, iv_lc, iv_disp, iv_get, iv_lcK, iv_val, np_var, np_cmp, np_chain, np_not, np_and, np_or, np_isi, np_isis, np_one, Rw_got, Ov_some, Ob_true, Ob_false, rdB, rdV, Rw_got, List.getElem?_cons_zero, List.getElem?_cons_succ, List.set_cons_zero, List.set_cons_succ, List.length_cons, List.length_nil, List.length_set, at0, at1, at2, at3, ix0, ix1, ix2, ix3, vf_add, vf_sub, vf_mul, vf_fdiv, vf_mod, vf_pow, vf_addT, vf_addL, vf_lt, vf_le, vf_gt, vf_ge, vf_lt2, vf_le2, vf_gt2, vf_ge2, vf_isN, vf_notN, vf_nn_int, vf_nn_bl, vf_nn_tup, vf_nn_lst, vf_nn_str, vf_nn_non, vf_tr_bl, vf_tr_int, vf_tr_non, vf_tr_tup, vf_tr_lst, vf_lenT, vf_lenL, vf_abs, vf_int, vf_tupL, vf_tupT, vf_lstL, vf_lstT, vf_gcd, vf_ixL, vf_ixT, vf_ixS, vf_setL, vf_appL, vf_neg, vf_ow, vf_mkT, vf_mkF, vf_part, vf_revL, vf_revT, vf_is_int_int, vf_is_bl_int, vf_is_str_int, vf_is_tup_int, vf_is_lst_int, vf_is_scr_int, vf_is_non_int, vf_is_int_bool, vf_is_bl_bool, vf_is_str_bool, vf_is_tup_bool, vf_is_lst_bool, vf_is_scr_bool, vf_is_non_bool, vf_is_int_str, vf_is_bl_str, vf_is_str_str, vf_is_tup_str, vf_is_lst_str, vf_is_scr_str, vf_is_non_str, vf_is_int_tuple, vf_is_bl_tuple, vf_is_str_tuple, vf_is_tup_tuple, vf_is_lst_tuple, vf_is_scr_tuple, vf_is_non_tuple, vf_is_int_list, vf_is_bl_list, vf_is_str_list, vf_is_tup_list, vf_is_lst_list, vf_is_scr_list, vf_is_non_list, vf_eqI, vf_neI, vf_eqB, Option.map_some, Option.bind_some, List.map_cons, List.map_nil, Nat.reduceAdd, Nat.reducePow, Int.reducePow, hPow18, Int.reduceMul, Int.reduceSub, Int.reduceFDiv, Int.reduceFMod, Nat.reduceLT, Nat.reduceLeDiff, Nat.reduceSub, Int.reduceLE, Int.reduceLT, Int.reduceNeg, Int.reduceAdd, Int.reduceToNat, Int.reduceEq, Int.ofNat_eq_coe, ↓reduceIte, reduceCtorEq, decide_true, decide_false, Int.cast_ofNat_Int, and_true, true_and, Bool.not_true, Bool.not_false, giveR]
          refine ⟨u', u, _, _, _, l', h', rfl, .inl rfl, ?_, ?_, by omega, ?_⟩
          · rw [Nat.zero_add]; exact d1
          · rw [Nat.zero_add]; exact d2
          · rw [Nat.zero_add]; exact e1
      · have q := fin 1 (by rw [if_neg hpar])
        have mo1 := mo 1 (.inl rfl)
        rcases hs with rfl | rfl
        all_goals
          simp only [↓w_bvar, ↓w_bnv, ↓w_var, ↓w_non, ↓w_bl, ↓w_int, ↓w_str, ↓w_val, ↓w_one, ↓w_bin, ↓w_neg, ↓w_test, ↓w_not, ↓w_and, ↓w_or, ↓w_ife, ↓w_cmp, ↓w_chain, ↓w_call, ↓w_bi, ↓w_isi, ↓w_isis, ↓w_ix, ↓w_sl, ↓w_rev, ↓w_tup, ↓w_lst, ↓w_snil, ↓w_scons, ↓w_bnil, ↓w_bcons, ↓w_anil, ↓w_aconsN, ↓w_aconsF, ↓w_aconsT, ↓w_prnop, ↓w_pr, ↓w_nil, ↓w_cons, ↓w_put, ↓w_asgN, ↓w_asgT, ↓w_par, ↓w_ifs, ↓w_ret, ↓w_retn, ↓w_raise, ↓w_brk, ↓w_cont, ↓w_expr, ↓w_seti, ↓w_turn, ↓w_cnop, ↓w_cond, ↓w_lc, ↓w_forF, iv_non, iv_bl, iv_int, np_int, iv_str, iv_glob, iv_bin, np_bin, iv_neg, np_neg, iv_not, iv_and, iv_or, iv_one, iv_ife, np_ife, iv_cmp, iv_chain, iv_call, np_call, iv_bi, np_bi, iv_isi, iv_isis, iv_ix, np_ix, iv_sl, iv_rev, iv_tup, iv_lst, iv_lc, iv_disp, iv_get, iv_lcK, iv_val, np_var, np_cmp, np_chain, np_not, np_and, np_or, np_isi, np_isis, np_one, Rw_got, Ov_some, Ob_true, Ob_false, rdB, rdV, Rw_got, List.getElem?_cons_zero, List.getElem?_cons_succ, List.set_cons_zero, List.set_cons_succ, List.length_cons, List.length_nil, List.length_set, at0, at1, at2, at3, ix0, ix1, ix2, ix3, vf_add, vf_sub, vf_mul, vf_fdiv, vf_mod, vf_pow, vf_addT, vf_addL, vf_lt, vf_le, vf_gt, vf_ge, vf_lt2, vf_le2, vf_gt2, vf_ge2, vf_isN, vf_notN, vf_nn_int, vf_nn_bl, vf_nn_tup, vf_nn_lst, vf_nn_str, vf_nn_non, vf_tr_bl, vf_tr_int, vf_tr_non, vf_tr_tup, vf_tr_lst, vf_lenT, vf_lenL, vf_abs, vf_int, vf_tupL, vf_tupT, vf_lstL, vf_lstT, vf_gcd, vf_ixL, vf_ixT, vf_ixS, vf_setL, vf_appL, vf_neg, vf_ow, vf_mkT, vf_mkF, vf_part, vf_revL, vf_revT, vf_is_int_int, vf_is_bl_int, vf_is_str_int, vf_is_tup_int, vf_is_lst_int, vf_is_scr_int, vf_is_non_int, vf_is_int_bool, vf_is_bl_bool, vf_is_str_bool, vf_is_tup_bool, vf_is_lst_bool, vf_is_scr_bool, vf_is_non_bool, vf_is_int_str, vf_is_bl_str, vf_is_str_str, vf_is_tup_str, vf_is_lst_str, vf_is_scr_str, vf_is_non_str, vf_is_int_tuple, vf_is_bl_tuple, vf_is_str_tuple, vf_is_tup_tuple, vf_is_lst_tuple, vf_is_scr_tuple, vf_is_non_tuple, vf_is_int_list, vf_is_bl_list, vf_is_str_list, vf_is_tup_list, vf_is_lst_list, vf_is_scr_list, vf_is_non_list, vf_eqI, vf_neI, vf_eqB, Option.map_some, Option.bind_some, List.map_cons, List.map_nil, Nat.reduceAdd, Nat.reducePow, Int.reducePow, hPow18, Int.reduceMul, Int.reduceSub, Int.reduceFDiv, Int.reduceFMod, Nat.reduceLT, Nat.reduceLeDiff, Nat.reduceSub, Int.reduceLE, Int.reduceLT, Int.reduceNeg, Int.reduceAdd, Int.reduceToNat, Int.reduceEq, Int.ofNat_eq_coe, ↓reduceIte, reduceCtorEq, decide_true, decide_false, Int.cast_ofNat_Int, and_true, true_and, Bool.not_true, Bool.not_false, bindT, hat, o2, hpar, mo1, w_disp, m3, stab12, stab13]
          refine Rw_mono q ?_ fun _ _ z => z
          rintro z ⟨w, rfl, q2⟩
          simp only [giveR]
          refine Rw_mono q2 ?_ fun _ _ z => z
          rintro z ⟨u', o, rfl, l', h', d1, d2, e1⟩
          simp only [↓w_bvar, ↓w_bnv, ↓w_var, ↓w_non, ↓w_bl, ↓w_int, ↓w_str, ↓w_val, ↓w_one, ↓w_bin, ↓w_neg, ↓w_test, ↓w_not, ↓w_and, ↓w_or, ↓w_ife, ↓w_cmp, ↓w_chain, ↓w_call, ↓w_bi, ↓w_isi, ↓w_isis, ↓w_ix, ↓w_sl, ↓w_rev, ↓w_tup, ↓w_lst, ↓w_snil, ↓w_scons, ↓w_bnil, ↓w_bcons, ↓w_anil, ↓w_aconsN, ↓w_aconsF, ↓w_aconsT, ↓w_prnop, ↓w_pr, ↓w_nil, ↓w_cons, ↓w_put, ↓w_asgN, ↓w_asgT, ↓w_par, ↓w_ifs, ↓w_ret, ↓w_retn, ↓w_raise, ↓w_brk, ↓w_cont, ↓w_expr, ↓w_seti, ↓w_turn, ↓w_cnop, ↓w_cond, ↓w_lc, ↓w_forF, iv_non, iv_bl, iv_int, np_int, iv_str, iv_glob, iv_bin, np_bin, iv_neg, np_neg, iv_not, iv_and, iv_or, iv_one, iv_ife, np_ife, iv_cmp, iv_chain, iv_call, np_call, iv_bi, np_bi, iv_isi, iv_isis, iv_ix, np_ix, iv_sl, iv_rev, iv_tup, iv_lst, iv_lc, iv_disp, iv_get, iv_lcK, iv_val, np_var, np_cmp, np_chain, np_not, np_and, np_or, np_isi, np_isis, np_one, Rw_got, Ov_some, Ob_true, Ob_false, rdB, rdV, Rw_got, List.getElem?_cons_zero, List.getElem?_cons_succ, List.set_cons_zero, List.set_cons_succ, List.length_cons, List.length_nil, List.length_set, at0, at1, at2, at3, ix0, ix1, ix2, ix3, vf_add, vf_sub, vf_mul, vf_fdiv, vf_mod, vf_pow, vf_addT, vf_addL, vf_lt, vf_le, vf_gt, vf_ge, vf_lt2, vf_le2, vf_gt2, vf_ge2, vf_isN, vf_notN, vf_nn_int, vf_nn_bl, vf_nn_tup, vf_nn_lst, vf_nn_str, vf_nn_non, vf_tr_bl, vf_tr_int, vf_tr_non, vf_tr_tup, vf_tr_lst, vf_lenT, vf_lenL, vf_abs, vf_int, vf_tupL, vf_tupT, vf_lstL, vf_lstT, vf_gcd, vf_ixL, vf_ixT, vf_ixS, vf_setL, vf_appL, vf_neg, vf_ow, vf_mkT, vf_mkF, vf_part, vf_revL, vf_revT, vf_is_int_int, vf_is_bl_int, vf_is_str_int, vf_is_tup_int, vf_is_lst_int, vf_is_scr_int, vf_is_non_int, vf_is_int_bool, vf_is_bl_bool, vf_is_str_bool, vf_is_tup_bool, vf_is_lst_bool, vf_is_scr_bool, vf_is_non_bool, vf_is_int_str, vf_is_bl_str, vf_is_str_str, vf_is_tup_str, vf_is_lst_str, vf_is_scr_str, vf_is_non_str, vf_is_int_tuple, vf_is_bl_tuple, vf_is_str_tuple, vf_is_tup_tuple, vf_is_lst_tuple, vf_is_scr_tuple, vf_is_non_tuple, vf_is_int_list, vf_is_bl_list, vf_is_str_list, vf_is_tup_list, vf_is_lst_list, vf_is_scr_list, vf_is_non_list, vf_eqI, vf_neI, vf_eqB, Option.map_some, Option.bind_some, List.map_cons, List.map_nil, Nat.reduceAdd, Nat.reducePow, Int.reducePow, hPow18, Int.reduceMul, Int.reduceSub, Int.reduceFDiv, Int.reduceFMod, Nat.reduceLT, Nat.reduceLeDiff, Nat.reduceSub, Int.reduceLE, Int.reduceLT, Int.reduceNeg, Int.reduceAdd, Int.reduceToNat, Int.reduceEq, Int.ofNat_eq_coe, ↓reduceIte, reduceCtorEq, decide_true, decide_false, Int.cast_ofNat_Int, and_true, true_and, Bool.not_true, Bool.not_false, giveR]
          refine ⟨u', u, _, _, _, l', h', rfl, .inl rfl, ?_, ?_, by omega, ?_⟩
          · rw [Nat.zero_add]; exact d1
          · rw [Nat.zero_add]; exact d2
          · rw [Nat.zero_add]; exact e1
    · rintro ρ ⟨u, v, t, s, t4, l, h, rfl, hs, hv, hu, hj, hrun⟩
      have hjl : 0 + (rngL 0 r.length).length = r.length := by rw [rngL_len]; omega
      rw [hjl] at hu hrun
      rw [List.drop_length] at hrun
      simp only [↓w_bvar, ↓w_bnv, ↓w_var, ↓w_non, ↓w_bl, ↓w_int, ↓w_str, ↓w_val, ↓w_one, ↓w_bin, ↓w_neg, ↓w_test, ↓w_not, ↓w_and, ↓w_or, ↓w_ife, ↓w_cmp, ↓w_chain, ↓w_call, ↓w_bi, ↓w_isi, ↓w_isis, ↓w_ix, ↓w_sl, ↓w_rev, ↓w_tup, ↓w_lst, ↓w_snil, ↓w_scons, ↓w_bnil, ↓w_bcons, ↓w_anil, ↓w_aconsN, ↓w_aconsF, ↓w_aconsT, ↓w_prnop, ↓w_pr, ↓w_nil, ↓w_cons, ↓w_put, ↓w_asgN, ↓w_asgT, ↓w_par, ↓w_ifs, ↓w_ret, ↓w_retn, ↓w_raise, ↓w_brk, ↓w_cont, ↓w_expr, ↓w_seti, ↓w_turn, ↓w_cnop, ↓w_cond, ↓w_lc, ↓w_forF, iv_non, iv_bl, iv_int, np_int, iv_str, iv_glob, iv_bin, np_bin, iv_neg, np_neg, iv_not, iv_and, iv_or, iv_one, iv_ife, np_ife, iv_cmp, iv_chain, iv_call, np_call, iv_bi, np_bi, iv_isi, iv_isis, iv_ix, np_ix, iv_sl, iv_rev, iv_tup, iv_lst, iv_lc, iv_disp, iv_get, iv_lcK, iv_val, np_var, np_cmp, np_chain, np_not, np_and, np_or, np_isi, np_isis, np_one, Rw_got, Ov_some, Ob_true, Ob_false, rdB, rdV, Rw_got, List.getElem?_cons_zero, List.getElem?_cons_succ, List.set_cons_zero, List.set_cons_succ, List.length_cons, List.length_nil, List.length_set, at0, at1, at2, at3, ix0, ix1, ix2, ix3, vf_add, vf_sub, vf_mul, vf_fdiv, vf_mod, vf_pow, vf_addT, vf_addL, vf_lt, vf_le, vf_gt, vf_ge, vf_lt2, vf_le2, vf_gt2, vf_ge2, vf_isN, vf_notN, vf_nn_int, vf_nn_bl, vf_nn_tup, vf_nn_lst, vf_nn_str, vf_nn_non, vf_tr_bl, vf_tr_int, vf_tr_non, vf_tr_tup, vf_tr_lst, vf_lenT, vf_lenL, vf_abs, vf_int, vf_tupL, vf_tupT, vf_lstL, vf_lstT, vf_gcd, vf_ixL, vf_ixT, vf_ixS, vf_setL, vf_appL, vf_neg, vf_ow, vf_mkT, vf_mkF, vf_part, vf_revL, vf_revT, vf_is_int_int, vf_is_bl_int, vf_is_str_int, vf_is_tup_int, vf_is_lst_int, vf_is_scr_int, vf_is_non_int, vf_is_int_bool, vf_is_bl_bool, vf_is_str_bool, vf_is_tup_bool, vf_is_lst_bool, vf_is_scr_bool, vf_is_non_bool, vf_is_int_str, vf_is_bl_str, vf_is_str_str, vf_is_tup_str, vf_is_lst_str, vf_is_scr_str, vf_is_non_str, vf_is_int_tuple, vf_is_bl_tuple, vf_is_str_tuple, vf_is_tup_tuple, vf_is_lst_tuple, vf_is_scr_tuple, vf_is_non_tuple, vf_is_int_list, vf_is_bl_list, vf_is_str_list, vf_is_tup_list, vf_is_lst_list, vf_is_scr_list, vf_is_non_list, vf_eqI, vf_neI, vf_eqB, Option.map_some, Option.bind_some, List.map_cons, List.map_nil, Nat.reduceAdd, Nat.reducePow, Int.reducePow, hPow18, Int.reduceMul, Int.reduceSub, Int.reduceFDiv, Int.reduceFMod, Nat.reduceLT, Nat.reduceLeDiff, Nat.reduceSub, Int.reduceLE, Int.reduceLT, Int.reduceNeg, Int.reduceAdd, Int.reduceToNat, Int.reduceEq, Int.ofNat_eq_coe, ↓reduceIte, reduceCtorEq, decide_true, decide_false, Int.cast_ofNat_Int, and_true, true_and, Bool.not_true, Bool.not_false, outsF]
      refine ⟨u, rfl, (hu.mono (by omega)).congr fun n => ?_⟩
      rw [← hrun]
      rfl
  generalize D.prg.den (d + 3) 14 [.fz (.tup (r.map .int))] = rr at key ⊢
  obtain ⟨a, h, u, rfl, hu⟩ := Rw_iff.mp key
  exact ⟨u, h, hu⟩
end HD
set_option Elab.async false
set_option linter.all false
set_option maxRecDepth 100000
set_option maxHeartbeats 8000000
namespace HD
open PySem L2 EV
theorem toDs_ints : ∀ l : List Int, toDs (l.map .int) = some (l.map .int)
  | [] => rfl
  | i :: r => by
    show (match toD (.int i), toDs (r.map .int) with
      | some d, some ds => some (d :: ds)
      | _, _ => none) = _
    rw [toDs_ints r]
    rfl
theorem lay_ints : ∀ l : List Int, PyData.canLayAll0 (l.map .int) = true
  | [] => rfl
  | i :: r => by
    show (PyData.canLay0 (.int i) && PyData.canLayAll0 (r.map .int)) = true
    rw [lay_ints r]
    rfl
theorem depth_ints : ∀ l : List Int, PyData.depthAll (l.map .int) = 0
  | [] => rfl
  | i :: r => by
    show max (PyData.depth (.int i)) (PyData.depthAll (r.map .int)) = 0
    rw [depth_ints r]
    rfl
theorem eqV_self {v : Val} {d : PyData} (h : toD v = some d) (hs : SeqAt.shaped d = true) : EV.eqV v v = some true := by
  unfold EV.eqV dataV
  rw [h]
  simp only [hs, if_true]
  rw [SeqAt.eqv_refl d (SeqAt.canLay_of_shaped hs)]
theorem eqV_told {f : Int → Int} {l : List Int} : EV.eqV (toldV f l) (toldV f l) = some true := by
  have key : ∀ (a : Int) (m : List Int), EV.eqV (.tup [.int a, .tup (m.map .int)]) (.tup [.int a, .tup (m.map .int)]) = some true := fun a m => by
    refine eqV_self (d := .tuple [.int a, .tuple (m.map .int)]) ?_ ?_
    · simp only [toD, toDs, toDs_ints]
    · have h1 : PyData.canLay0 (.tuple [.int a, .tuple (m.map .int)]) = true := by
        simp only [PyData.canLay0, PyData.canLayAll0, lay_ints, Bool.and_self]
      have h2 : PyData.depth (.tuple [.int a, .tuple (m.map .int)]) = 2 := by
        simp only [PyData.depth, PyData.depthAll, depth_ints]
        rfl
      unfold SeqAt.shaped
      rw [h1, h2]
      rfl
  cases l with
  | nil => exact key 0 []
  | cons a r =>
    have e : ∀ (g : Val → Val), (∀ n, ∃ m, g (.int n) = .int m) → ∀ (n : Nat) (b : Int), ∃ m : List Int, (rngL b n).map g = m.map Val.int := by
      intro g hg n
      induction n with
      | zero => intro b; exact ⟨[], rfl⟩
      | succ n ih =>
        intro b
        obtain ⟨m, hm⟩ := ih (b + 1)
        obtain ⟨c, hc⟩ := hg b
        exact ⟨c :: m, by rw [rngL, List.map_cons, hm, hc]; rfl⟩
    unfold toldV
    obtain ⟨m, hm⟩ := e (fun x => match x with | .int n => .int (f n) | v => v) (fun n => ⟨f n, rfl⟩) (lastI r a + 1 - a).toNat a
    refine Eq.trans ?_ (key a m)
    exact congrArg (fun z => EV.eqV (.tup [.int a, .tup z]) (.tup [.int a, .tup z])) hm
theorem ev2_bd {p e : Int} (he : e ≠ 0) (ho : (p + e).fmod 2 = 1) (hp : p.natAbs ≤ 300) (hb : e.natAbs ≤ 300) : (ev2 p e).natAbs < 1000 := by
  have h1 := (ev2_rest he ho).1
  have h2 : (ev2 p e * e).natAbs < 600 := by omega
  rw [Int.natAbs_mul] at h2
  have h3 : (ev2 p e).natAbs * 1 ≤ (ev2 p e).natAbs * e.natAbs := Nat.mul_le_mul_left _ (by omega)
  omega
theorem evenL_bd : ∀ (n : Nat) {p e : Int}, (p + e).fmod 2 = 1 → p.natAbs ≤ 300 → e.natAbs ≤ 300 → ∀ b ∈ evenL n p e, b.natAbs < 1000
  | 0, _, _, _, _, _, b, m => by cases m
  | n + 1, p, e, ho, hp, he, b, m => by
    by_cases h : e = 0
    · subst h
      have : evenL (n + 1) p 0 = [] := rfl
      rw [this] at m
      cases m
    · have : evenL (n + 1) p e = ev2 p e :: evenL n e (p - ev2 p e * e) := by
        show (if e = 0 then [] else _) = _
        rw [if_neg h]
      rw [this] at m
      obtain ⟨r1, r2⟩ := ev2_rest h ho
      rcases List.mem_cons.mp m with rfl | m
      · exact ev2_bd h ho hp he
      · exact evenL_bd n r2 he (by omega) b m
theorem due_rows {p e e2 : Int} (h : Valid p e) (h' : Valid p e2) (hd : dueB p e p e2 = true) (hp : p < 300) : (runR (byL true (evenL 300 p e)) zr dl).2 = (runR (byL true (evenL 300 p e2)) zr dl).2 := by
  have p1 := h.p1
  have l1 := h.lt
  have l2 := h'.lt
  have o1 := h.o
  have o2 := h'.o
  unfold dueB at hd
  rw [if_pos rfl, Bool.or_eq_true, decide_eq_true_eq, decide_eq_true_eq] at hd
  have hk : 0 < (if p.fmod 2 = 1 then p else 2 * p) := by split <;> omega
  have dv : ∀ x : Int, x.fmod (if p.fmod 2 = 1 then p else 2 * p) = 0 → (if p.fmod 2 = 1 then p else 2 * p) ∣ x := fun x q => by
    rw [Int.fmod_eq_emod_of_nonneg _ (by omega)] at q
    exact Int.dvd_of_emod_eq_zero q
  rcases hd with q | q
  · have q := dv _ q
    have e0 : e - e2 = 0 := by
      by_cases ho : p.fmod 2 = 1
      · rw [if_pos ho] at q
        obtain ⟨c, hc⟩ := q
        rw [Int.fmod_eq_emod_of_nonneg _ (by decide)] at ho o1 o2
        exact dvd_small (by omega) (two_dvd ho (by omega) hc) (by omega) (by omega)
      · rw [if_neg ho] at q
        exact dvd_small (by omega) q (by omega) (by omega)
    rw [show e2 = e by omega]
  · exact rows_same (by omega) hp l1 l2 o1 o2 h.g (dv _ q)
theorem dueB_p {p e p2 e2 : Int} (hd : dueB p e p2 e2 = true) : p = p2 := by
  unfold dueB at hd
  by_cases h : p = p2
  · exact h
  · rw [if_neg h] at hd
    cases hd
theorem even_eq {d : Nat} {p e : Int} (hp : p.natAbs ≤ 300) (he : e.natAbs ≤ 300) (ho : (p + e).fmod 2 = 1) : D.prg.den (d + 1) 9 [.fz (.int p), .fz (.int e)] = .got ((.tup ((evenL 300 p e).map .int), false), [.no, .no]) := by
  obtain ⟨a, h, rfl⟩ := Rw_iff.mp (even_ok (d := d) hp he ho)
  exact h
theorem evens_ex {d : Nat} {p e e2 : Int} (h : Valid p e) (h' : Valid p e2) (hd : dueB p e p e2 = true) (hp : p < 300) : ∃ r r2 : List Int, D.prg.den (d + 1) 9 [.fz (.int p), .fz (.int e)] = .got ((.tup (r.map .int), false), [.no, .no]) ∧ D.prg.den (d + 1) 9 [.fz (.int p), .fz (.int e2)] = .got ((.tup (r2.map .int), false), [.no, .no]) ∧ (∀ b ∈ r, b.natAbs < 1000) ∧ (∀ b ∈ r2, b.natAbs < 1000) ∧ (runR (byL true r) zr dl).2 = (runR (byL true r2) zr dl).2 := by
  have p1 := h.p1
  have l1 := h.lt
  have l2 := h'.lt
  exact ⟨_, _, even_eq (by omega) (by omega) h.o, even_eq (by omega) (by omega) h'.o, evenL_bd 300 h.o (by omega) (by omega), evenL_bd 300 h'.o (by omega) (by omega), due_rows h h' hd hp⟩
theorem told_eq {d : Nat} {v : Val} {b : Nat} {f : Int → Int} (h : DB v b f) (hb : b ≤ 100) : ∃ l, Pows l f ∧ D.prg.den (d + 1) 10 [.fz v] = .got ((toldV f l, false), [.no]) := by
  have key := told_ok (d := d) h hb
  generalize D.prg.den (d + 1) 10 [.fz v] = rr at key ⊢
  obtain ⟨a, e, l, hl, rfl⟩ := Rw_iff.mp key
  exact ⟨l, hl, e⟩
theorem eq_told {f g : Int → Int} {l m : List Int} (e : f = g) (hl : Pows l f) (hm : Pows m g) : cmpW .eq (toldV f l) (toldV g m) = some true := by
  subst e
  rw [hl.uniq hm]
  show EV.eqV _ _ = _
  exact eqV_told
theorem gst_so : g__law_so.stab = [true, true] := by kernel_rfl
theorem stab15 : D.prg.stab 15 = [true, true] := by kernel_rfl
theorem so_ok {d : Nat} {p e p2 e2 : Int} (h : Valid p e) (h' : Valid p2 e2) : D.prg.den (d + 4) 15 [.fz (.tup [.int p, .int e]), .fz (.tup [.int p2, .int e2])] = .got ((.bl true, false), [.no, .no]) := by
  have : Rw (D.prg.den (d + 4) 15 [.fz (.tup [.int p, .int e]), .fz (.tup [.int p2, .int e2])]) (fun z => z = ((.bl true, false), [.no, .no])) NX := by
    rw [den_succ (g := g__law_so) rfl, w_run rfl, gst_so]
    show Ow (evSs _ _ g__law_so.body [_, _, .no, .no, .no]) _
    have a1 := due_ok (d := d + 2) h h'
    have a2 := same_ok (d := d) h h'
    have a3 := same_bl (d := d + 2) (b := dueB p e p2 e2) (c := dueB p e p2 e2)
    rw [beq_self_eq_true] at a3
    by_cases hd : dueB p e p2 e2 = true
    · have hpp := dueB_p hd
      subst hpp
      rw [hd] at a1 a2 a3
      by_cases hp : p < 300
      · obtain ⟨r, r2, a4, a5, bd1, bd2, hrun⟩ := evens_ex (d := d + 2) h h' hd hp
        have c1 : ((r.map Val.int).length : Int) = r.length := by rw [List.length_map]
        have c2 : ((r2.map Val.int).length : Int) = r2.length := by rw [List.length_map]
        by_cases q1 : (r.length : Int) < 40
        · by_cases q2 : (r2.length : Int) < 40
          · obtain ⟨u, b1, hu⟩ := by_row_ok (d := d) (r := r) (by omega) bd1
            obtain ⟨u2, b2, hu2⟩ := by_row_ok (d := d) (r := r2) (by omega) bd2
            obtain ⟨l, hl, t1⟩ := told_eq (d := d + 2) hu (by omega)
            obtain ⟨l2, hl2, t2⟩ := told_eq (d := d + 2) hu2 (by omega)
            have ee := eq_told hrun hl hl2
            generalize toldV _ l = o1 at t1 ee
            generalize toldV _ l2 = o2 at t2 ee
            simp only [g__law_so, ↓w_bvar, ↓w_bnv, ↓w_var, ↓w_non, ↓w_bl, ↓w_int, ↓w_str, ↓w_val, ↓w_one, ↓w_bin, ↓w_neg, ↓w_test, ↓w_not, ↓w_and, ↓w_or, ↓w_ife, ↓w_cmp, ↓w_chain, ↓w_call, ↓w_bi, ↓w_isi, ↓w_isis, ↓w_ix, ↓w_sl, ↓w_rev, ↓w_tup, ↓w_lst, ↓w_snil, ↓w_scons, ↓w_bnil, ↓w_bcons, ↓w_anil, ↓w_aconsN, ↓w_aconsF, ↓w_aconsT, ↓w_prnop, ↓w_pr, ↓w_nil, ↓w_cons, ↓w_put, ↓w_asgN, ↓w_asgT, ↓w_par, ↓w_ifs, ↓w_ret, ↓w_retn, ↓w_raise, ↓w_brk, ↓w_cont, ↓w_expr, ↓w_seti, ↓w_turn, ↓w_cnop, ↓w_cond, ↓w_lc, ↓w_forF, iv_non, iv_bl, iv_int, np_int, iv_str, iv_glob, iv_bin, np_bin, iv_neg, np_neg, iv_not, iv_and, iv_or, iv_one, iv_ife, np_ife, iv_cmp, iv_chain, iv_call, np_call, iv_bi, np_bi, iv_isi, iv_isis, iv_ix, np_ix, iv_sl, iv_rev, iv_tup, iv_lst, iv_lc, iv_disp, iv_get, iv_lcK, iv_val, np_var, np_cmp, np_chain, np_not, np_and, np_or, np_isi, np_isis, np_one, Rw_got, Ov_some, Ob_true, Ob_false, rdB, rdV, Rw_got, List.getElem?_cons_zero, List.getElem?_cons_succ, List.set_cons_zero, List.set_cons_succ, List.length_cons, List.length_nil, List.length_set, at0, at1, at2, at3, ix0, ix1, ix2, ix3, vf_add, vf_sub, vf_mul, vf_fdiv, vf_mod, vf_pow, vf_addT, vf_addL, vf_lt, vf_le, vf_gt, vf_ge, vf_lt2, vf_le2, vf_gt2, vf_ge2, vf_isN, vf_notN, vf_nn_int, vf_nn_bl, vf_nn_tup, vf_nn_lst, vf_nn_str, vf_nn_non, vf_tr_bl, vf_tr_int, vf_tr_non, vf_tr_tup, vf_tr_lst, vf_lenT, vf_lenL, vf_abs, vf_int, vf_tupL, vf_tupT, vf_lstL, vf_lstT, vf_gcd, vf_ixL, vf_ixT, vf_ixS, vf_setL, vf_appL, vf_neg, vf_ow, vf_mkT, vf_mkF, vf_part, vf_revL, vf_revT, vf_is_int_int, vf_is_bl_int, vf_is_str_int, vf_is_tup_int, vf_is_lst_int, vf_is_scr_int, vf_is_non_int, vf_is_int_bool, vf_is_bl_bool, vf_is_str_bool, vf_is_tup_bool, vf_is_lst_bool, vf_is_scr_bool, vf_is_non_bool, vf_is_int_str, vf_is_bl_str, vf_is_str_str, vf_is_tup_str, vf_is_lst_str, vf_is_scr_str, vf_is_non_str, vf_is_int_tuple, vf_is_bl_tuple, vf_is_str_tuple, vf_is_tup_tuple, vf_is_lst_tuple, vf_is_scr_tuple, vf_is_non_tuple, vf_is_int_list, vf_is_bl_list, vf_is_str_list, vf_is_tup_list, vf_is_lst_list, vf_is_scr_list, vf_is_non_list, vf_eqI, vf_neI, vf_eqB, Option.map_some, Option.bind_some, List.map_cons, List.map_nil, Nat.reduceAdd, Nat.reducePow, Int.reducePow, hPow18, Int.reduceMul, Int.reduceSub, Int.reduceFDiv, Int.reduceFMod, Nat.reduceLT, Nat.reduceLeDiff, Nat.reduceSub, Int.reduceLE, Int.reduceLT, Int.reduceNeg, Int.reduceAdd, Int.reduceToNat, Int.reduceEq, Int.ofNat_eq_coe, ↓reduceIte, reduceCtorEq, decide_true, decide_false, Int.cast_ofNat_Int, and_true, true_and, Bool.not_true, Bool.not_false, stab8, stab7, stab4, stab9, stab14, stab10, a1, a2, a3, giveR, hp, a4, a5, c1, c2, q1, q2, b1, b2, t1, t2, ee, outsT2]
          · simp only [g__law_so, ↓w_bvar, ↓w_bnv, ↓w_var, ↓w_non, ↓w_bl, ↓w_int, ↓w_str, ↓w_val, ↓w_one, ↓w_bin, ↓w_neg, ↓w_test, ↓w_not, ↓w_and, ↓w_or, ↓w_ife, ↓w_cmp, ↓w_chain, ↓w_call, ↓w_bi, ↓w_isi, ↓w_isis, ↓w_ix, ↓w_sl, ↓w_rev, ↓w_tup, ↓w_lst, ↓w_snil, ↓w_scons, ↓w_bnil, ↓w_bcons, ↓w_anil, ↓w_aconsN, ↓w_aconsF, ↓w_aconsT, ↓w_prnop, ↓w_pr, ↓w_nil, ↓w_cons, ↓w_put, ↓w_asgN, ↓w_asgT, ↓w_par, ↓w_ifs, ↓w_ret, ↓w_retn, ↓w_raise, ↓w_brk, ↓w_cont, ↓w_expr, ↓w_seti, ↓w_turn, ↓w_cnop, ↓w_cond, ↓w_lc, ↓w_forF, iv_non, iv_bl, iv_int, np_int, iv_str, iv_glob, iv_bin, np_bin, iv_neg, np_neg, iv_not, iv_and, iv_or, iv_one, iv_ife, np_ife, iv_cmp, iv_chain, iv_call, np_call, iv_bi, np_bi, iv_isi, iv_isis, iv_ix, np_ix, iv_sl, iv_rev, iv_tup, iv_lst, iv_lc, iv_disp, iv_get, iv_lcK, iv_val, np_var, np_cmp, np_chain, np_not, np_and, np_or, np_isi, np_isis, np_one, Rw_got, Ov_some, Ob_true, Ob_false, rdB, rdV, Rw_got, List.getElem?_cons_zero, List.getElem?_cons_succ, List.set_cons_zero, List.set_cons_succ, List.length_cons, List.length_nil, List.length_set, at0, at1, at2, at3, ix0, ix1, ix2, ix3, vf_add, vf_sub, vf_mul, vf_fdiv, vf_mod, vf_pow, vf_addT, vf_addL, vf_lt, vf_le, vf_gt, vf_ge, vf_lt2, vf_le2, vf_gt2, vf_ge2, vf_isN, vf_notN, vf_nn_int, vf_nn_bl, vf_nn_tup, vf_nn_lst, vf_nn_str, vf_nn_non, vf_tr_bl, vf_tr_int, vf_tr_non, vf_tr_tup, vf_tr_lst, vf_lenT, vf_lenL, vf_abs, vf_int, vf_tupL, vf_tupT, vf_lstL, vf_lstT, vf_gcd, vf_ixL, vf_ixT, vf_ixS, vf_setL, vf_appL, vf_neg, vf_ow, vf_mkT, vf_mkF, vf_part, vf_revL, vf_revT, vf_is_int_int, vf_is_bl_int, vf_is_str_int, vf_is_tup_int, vf_is_lst_int, vf_is_scr_int, vf_is_non_int, vf_is_int_bool, vf_is_bl_bool, vf_is_str_bool, vf_is_tup_bool, vf_is_lst_bool, vf_is_scr_bool, vf_is_non_bool, vf_is_int_str, vf_is_bl_str, vf_is_str_str, vf_is_tup_str, vf_is_lst_str, vf_is_scr_str, vf_is_non_str, vf_is_int_tuple, vf_is_bl_tuple, vf_is_str_tuple, vf_is_tup_tuple, vf_is_lst_tuple, vf_is_scr_tuple, vf_is_non_tuple, vf_is_int_list, vf_is_bl_list, vf_is_str_list, vf_is_tup_list, vf_is_lst_list, vf_is_scr_list, vf_is_non_list, vf_eqI, vf_neI, vf_eqB, Option.map_some, Option.bind_some, List.map_cons, List.map_nil, Nat.reduceAdd, Nat.reducePow, Int.reducePow, hPow18, Int.reduceMul, Int.reduceSub, Int.reduceFDiv, Int.reduceFMod, Nat.reduceLT, Nat.reduceLeDiff, Nat.reduceSub, Int.reduceLE, Int.reduceLT, Int.reduceNeg, Int.reduceAdd, Int.reduceToNat, Int.reduceEq, Int.ofNat_eq_coe, ↓reduceIte, reduceCtorEq, decide_true, decide_false, Int.cast_ofNat_Int, and_true, true_and, Bool.not_true, Bool.not_false, stab8, stab7, stab4, stab9, a1, a2, a3, giveR, hp, a4, a5, c1, c2, q1, q2, outsT2]
        · simp only [g__law_so, ↓w_bvar, ↓w_bnv, ↓w_var, ↓w_non, ↓w_bl, ↓w_int, ↓w_str, ↓w_val, ↓w_one, ↓w_bin, ↓w_neg, ↓w_test, ↓w_not, ↓w_and, ↓w_or, ↓w_ife, ↓w_cmp, ↓w_chain, ↓w_call, ↓w_bi, ↓w_isi, ↓w_isis, ↓w_ix, ↓w_sl, ↓w_rev, ↓w_tup, ↓w_lst, ↓w_snil, ↓w_scons, ↓w_bnil, ↓w_bcons, ↓w_anil, ↓w_aconsN, ↓w_aconsF, ↓w_aconsT, ↓w_prnop, ↓w_pr, ↓w_nil, ↓w_cons, ↓w_put, ↓w_asgN, ↓w_asgT, ↓w_par, ↓w_ifs, ↓w_ret, ↓w_retn, ↓w_raise, ↓w_brk, ↓w_cont, ↓w_expr, ↓w_seti, ↓w_turn, ↓w_cnop, ↓w_cond, ↓w_lc, ↓w_forF, iv_non, iv_bl, iv_int, np_int, iv_str, iv_glob, iv_bin, np_bin, iv_neg, np_neg, iv_not, iv_and, iv_or, iv_one, iv_ife, np_ife, iv_cmp, iv_chain, iv_call, np_call, iv_bi, np_bi, iv_isi, iv_isis, iv_ix, np_ix, iv_sl, iv_rev, iv_tup, iv_lst, iv_lc, iv_disp, iv_get, iv_lcK, iv_val, np_var, np_cmp, np_chain, np_not, np_and, np_or, np_isi, np_isis, np_one, Rw_got, Ov_some, Ob_true, Ob_false, rdB, rdV, Rw_got, List.getElem?_cons_zero, List.getElem?_cons_succ, List.set_cons_zero, List.set_cons_succ, List.length_cons, List.length_nil, List.length_set, at0, at1, at2, at3, ix0, ix1, ix2, ix3, vf_add, vf_sub, vf_mul, vf_fdiv, vf_mod, vf_pow, vf_addT, vf_addL, vf_lt, vf_le, vf_gt, vf_ge, vf_lt2, vf_le2, vf_gt2, vf_ge2, vf_isN, vf_notN, vf_nn_int, vf_nn_bl, vf_nn_tup, vf_nn_lst, vf_nn_str, vf_nn_non, vf_tr_bl, vf_tr_int, vf_tr_non, vf_tr_tup, vf_tr_lst, vf_lenT, vf_lenL, vf_abs, vf_int, vf_tupL, vf_tupT, vf_lstL, vf_lstT, vf_gcd, vf_ixL, vf_ixT, vf_ixS, vf_setL, vf_appL, vf_neg, vf_ow, vf_mkT, vf_mkF, vf_part, vf_revL, vf_revT, vf_is_int_int, vf_is_bl_int, vf_is_str_int, vf_is_tup_int, vf_is_lst_int, vf_is_scr_int, vf_is_non_int, vf_is_int_bool, vf_is_bl_bool, vf_is_str_bool, vf_is_tup_bool, vf_is_lst_bool, vf_is_scr_bool, vf_is_non_bool, vf_is_int_str, vf_is_bl_str, vf_is_str_str, vf_is_tup_str, vf_is_lst_str, vf_is_scr_str, vf_is_non_str, vf_is_int_tuple, vf_is_bl_tuple, vf_is_str_tuple, vf_is_tup_tuple, vf_is_lst_tuple, vf_is_scr_tuple, vf_is_non_tuple, vf_is_int_list, vf_is_bl_list, vf_is_str_list, vf_is_tup_list, vf_is_lst_list, vf_is_scr_list, vf_is_non_list, vf_eqI, vf_neI, vf_eqB, Option.map_some, Option.bind_some, List.map_cons, List.map_nil, Nat.reduceAdd, Nat.reducePow, Int.reducePow, hPow18, Int.reduceMul, Int.reduceSub, Int.reduceFDiv, Int.reduceFMod, Nat.reduceLT, Nat.reduceLeDiff, Nat.reduceSub, Int.reduceLE, Int.reduceLT, Int.reduceNeg, Int.reduceAdd, Int.reduceToNat, Int.reduceEq, Int.ofNat_eq_coe, ↓reduceIte, reduceCtorEq, decide_true, decide_false, Int.cast_ofNat_Int, and_true, true_and, Bool.not_true, Bool.not_false, stab8, stab7, stab4, stab9, a1, a2, a3, giveR, hp, a4, a5, c1, c2, q1, outsT2]
      · simp only [g__law_so, ↓w_bvar, ↓w_bnv, ↓w_var, ↓w_non, ↓w_bl, ↓w_int, ↓w_str, ↓w_val, ↓w_one, ↓w_bin, ↓w_neg, ↓w_test, ↓w_not, ↓w_and, ↓w_or, ↓w_ife, ↓w_cmp, ↓w_chain, ↓w_call, ↓w_bi, ↓w_isi, ↓w_isis, ↓w_ix, ↓w_sl, ↓w_rev, ↓w_tup, ↓w_lst, ↓w_snil, ↓w_scons, ↓w_bnil, ↓w_bcons, ↓w_anil, ↓w_aconsN, ↓w_aconsF, ↓w_aconsT, ↓w_prnop, ↓w_pr, ↓w_nil, ↓w_cons, ↓w_put, ↓w_asgN, ↓w_asgT, ↓w_par, ↓w_ifs, ↓w_ret, ↓w_retn, ↓w_raise, ↓w_brk, ↓w_cont, ↓w_expr, ↓w_seti, ↓w_turn, ↓w_cnop, ↓w_cond, ↓w_lc, ↓w_forF, iv_non, iv_bl, iv_int, np_int, iv_str, iv_glob, iv_bin, np_bin, iv_neg, np_neg, iv_not, iv_and, iv_or, iv_one, iv_ife, np_ife, iv_cmp, iv_chain, iv_call, np_call, iv_bi, np_bi, iv_isi, iv_isis, iv_ix, np_ix, iv_sl, iv_rev, iv_tup, iv_lst, iv_lc, iv_disp, iv_get, iv_lcK, iv_val, np_var, np_cmp, np_chain, np_not, np_and, np_or, np_isi, np_isis, np_one, Rw_got, Ov_some, Ob_true, Ob_false, rdB, rdV, Rw_got, List.getElem?_cons_zero, List.getElem?_cons_succ, List.set_cons_zero, List.set_cons_succ, List.length_cons, List.length_nil, List.length_set, at0, at1, at2, at3, ix0, ix1, ix2, ix3, vf_add, vf_sub, vf_mul, vf_fdiv, vf_mod, vf_pow, vf_addT, vf_addL, vf_lt, vf_le, vf_gt, vf_ge, vf_lt2, vf_le2, vf_gt2, vf_ge2, vf_isN, vf_notN, vf_nn_int, vf_nn_bl, vf_nn_tup, vf_nn_lst, vf_nn_str, vf_nn_non, vf_tr_bl, vf_tr_int, vf_tr_non, vf_tr_tup, vf_tr_lst, vf_lenT, vf_lenL, vf_abs, vf_int, vf_tupL, vf_tupT, vf_lstL, vf_lstT, vf_gcd, vf_ixL, vf_ixT, vf_ixS, vf_setL, vf_appL, vf_neg, vf_ow, vf_mkT, vf_mkF, vf_part, vf_revL, vf_revT, vf_is_int_int, vf_is_bl_int, vf_is_str_int, vf_is_tup_int, vf_is_lst_int, vf_is_scr_int, vf_is_non_int, vf_is_int_bool, vf_is_bl_bool, vf_is_str_bool, vf_is_tup_bool, vf_is_lst_bool, vf_is_scr_bool, vf_is_non_bool, vf_is_int_str, vf_is_bl_str, vf_is_str_str, vf_is_tup_str, vf_is_lst_str, vf_is_scr_str, vf_is_non_str, vf_is_int_tuple, vf_is_bl_tuple, vf_is_str_tuple, vf_is_tup_tuple, vf_is_lst_tuple, vf_is_scr_tuple, vf_is_non_tuple, vf_is_int_list, vf_is_bl_list, vf_is_str_list, vf_is_tup_list, vf_is_lst_list, vf_is_scr_list, vf_is_non_list, vf_eqI, vf_neI, vf_eqB, Option.map_some, Option.bind_some, List.map_cons, List.map_nil, Nat.reduceAdd, Nat.reducePow, Int.reducePow, hPow18, Int.reduceMul, Int.reduceSub, Int.reduceFDiv, Int.reduceFMod, Nat.reduceLT, Nat.reduceLeDiff, Nat.reduceSub, Int.reduceLE, Int.reduceLT, Int.reduceNeg, Int.reduceAdd, Int.reduceToNat, Int.reduceEq, Int.ofNat_eq_coe, ↓reduceIte, reduceCtorEq, decide_true, decide_false, Int.cast_ofNat_Int, and_true, true_and, Bool.not_true, Bool.not_false, stab8, stab7, stab4, a1, a2, a3, giveR, hp, outsT2]
    · rw [Bool.not_eq_true] at hd
      rw [hd] at a1 a2 a3
      simp only [g__law_so, ↓w_bvar, ↓w_bnv, ↓w_var, ↓w_non, ↓w_bl, ↓w_int, ↓w_str, ↓w_val, ↓w_one, ↓w_bin, ↓w_neg, ↓w_test, ↓w_not, ↓w_and, ↓w_or, ↓w_ife, ↓w_cmp, ↓w_chain, ↓w_call, ↓w_bi, ↓w_isi, ↓w_isis, ↓w_ix, ↓w_sl, ↓w_rev, ↓w_tup, ↓w_lst, ↓w_snil, ↓w_scons, ↓w_bnil, ↓w_bcons, ↓w_anil, ↓w_aconsN, ↓w_aconsF, ↓w_aconsT, ↓w_prnop, ↓w_pr, ↓w_nil, ↓w_cons, ↓w_put, ↓w_asgN, ↓w_asgT, ↓w_par, ↓w_ifs, ↓w_ret, ↓w_retn, ↓w_raise, ↓w_brk, ↓w_cont, ↓w_expr, ↓w_seti, ↓w_turn, ↓w_cnop, ↓w_cond, ↓w_lc, ↓w_forF, iv_non, iv_bl, iv_int, np_int, iv_str, iv_glob, iv_bin, np_bin, iv_neg, np_neg, iv_not, iv_and, iv_or, iv_one, iv_ife, np_ife, iv_cmp, iv_chain, iv_call, np_call, iv_bi, np_bi, iv_isi, iv_isis, iv_ix, np_ix, iv_sl, iv_rev, iv_tup, iv_lst, iv_lc, iv_disp, iv_get, iv_lcK, iv_val, np_var, np_cmp, np_chain, np_not, np_and, np_or, np_isi, np_isis, np_one, Rw_got, Ov_some, Ob_true, Ob_false, rdB, rdV, Rw_got, List.getElem?_cons_zero, List.getElem?_cons_succ, List.set_cons_zero, List.set_cons_succ, List.length_cons, List.length_nil, List.length_set, at0, at1, at2, at3, ix0, ix1, ix2, ix3, vf_add, vf_sub, vf_mul, vf_fdiv, vf_mod, vf_pow, vf_addT, vf_addL, vf_lt, vf_le, vf_gt, vf_ge, vf_lt2, vf_le2, vf_gt2, vf_ge2, vf_isN, vf_notN, vf_nn_int, vf_nn_bl, vf_nn_tup, vf_nn_lst, vf_nn_str, vf_nn_non, vf_tr_bl, vf_tr_int, vf_tr_non, vf_tr_tup, vf_tr_lst, vf_lenT, vf_lenL, vf_abs, vf_int, vf_tupL, vf_tupT, vf_lstL, vf_lstT, vf_gcd, vf_ixL, vf_ixT, vf_ixS, vf_setL, vf_appL, vf_neg, vf_ow, vf_mkT, vf_mkF, vf_part, vf_revL, vf_revT, vf_is_int_int, vf_is_bl_int, vf_is_str_int, vf_is_tup_int, vf_is_lst_int, vf_is_scr_int, vf_is_non_int, vf_is_int_bool, vf_is_bl_bool, vf_is_str_bool, vf_is_tup_bool, vf_is_lst_bool, vf_is_scr_bool, vf_is_non_bool, vf_is_int_str, vf_is_bl_str, vf_is_str_str, vf_is_tup_str, vf_is_lst_str, vf_is_scr_str, vf_is_non_str, vf_is_int_tuple, vf_is_bl_tuple, vf_is_str_tuple, vf_is_tup_tuple, vf_is_lst_tuple, vf_is_scr_tuple, vf_is_non_tuple, vf_is_int_list, vf_is_bl_list, vf_is_str_list, vf_is_tup_list, vf_is_lst_list, vf_is_scr_list, vf_is_non_list, vf_eqI, vf_neI, vf_eqB, Option.map_some, Option.bind_some, List.map_cons, List.map_nil, Nat.reduceAdd, Nat.reducePow, Int.reducePow, hPow18, Int.reduceMul, Int.reduceSub, Int.reduceFDiv, Int.reduceFMod, Nat.reduceLT, Nat.reduceLeDiff, Nat.reduceSub, Int.reduceLE, Int.reduceLT, Int.reduceNeg, Int.reduceAdd, Int.reduceToNat, Int.reduceEq, Int.ofNat_eq_coe, ↓reduceIte, reduceCtorEq, decide_true, decide_false, Int.cast_ofNat_Int, and_true, true_and, Bool.not_true, Bool.not_false, stab8, stab7, stab4, a1, a2, a3, giveR, outsT2]
  obtain ⟨a, h, rfl⟩ := Rw_iff.mp this
  exact h
end HD
set_option Elab.async false
set_option linter.all false
set_option maxRecDepth 100000
set_option maxHeartbeats 8000000
namespace HD
open PySem L2 EV
/-- the law's frame: its pool, and what it draws -/
def LI (sc : Val) (ρ : Ro) : Prop := ∃ v t2 t3 t4 t5 t6 t7 t8 t9 t10 t11, ρ = [.fz sc, .ow v, t2, t3, t4, t5, t6, t7, t8, t9, t10, t11] ∧ PoolOk v
theorem stab0 : D.prg.stab 0 = [true] := by kernel_rfl
theorem stab16 : D.prg.stab 16 = [] := by kernel_rfl
theorem stab20 : D.prg.stab 20 = [true, true] := by kernel_rfl
def bodyT : List EV.S := match g_law.body with
  | [_, _, .for_ _ _ b, _, _, _, _, _, _] => b
  | _ => []
theorem outsO (a : Val) (ρ : Ro) (b : Val) : outsL [true, true] [.ow a, .ow b] ρ = [ρ.headD .no, ρ.tail.headD .no] := rfl
theorem pick_sub {d : Nat} {v : Val} {xs : List Val} (h : PoolOk v) (hn : xs ≠ []) (hl : xs.length < 1073741824) {Q : _ → Prop} (q : ∀ x ∈ xs, ∀ v', PoolOk v' → Q ((x, false), [.ow v', .no])) : Rw (D.prg.den (d + 3) 2 [.ow v, .fz (.lst xs)]) Q NX :=
  Rw_mono (pick_ok (d := d) (.inl rfl) h hn hl) (fun z ⟨x, mx, v', e, hv⟩ => by rw [e]; exact q x mx v' hv) fun _ _ z => z
theorem take_sub {d : Nat} {v : Val} {many : Int} (h : PoolOk v) (hm : 0 < many) (hm2 : many < 1073741824) {Q : _ → Prop} (q : ∀ t v', PoolOk v' → 0 ≤ t → t < many → Q ((.int t, false), [.ow v', .no])) : Rw (D.prg.den (d + 2) 1 [.ow v, .fz (.int many)]) Q NX :=
  Rw_mono (take_ok (d := d) h hm hm2) (fun z ⟨t, v', e, hv, t0, t1⟩ => by rw [e]; exact q t v' hv t0 t1) fun _ _ z => z
theorem signed_sub {d : Nat} {v : Val} {most : Int} (h : PoolOk v) (hm : 2 ≤ most) (hm2 : most ≤ 1000) {Q : _ → Prop} (q : ∀ p e v', PoolOk v' → 2 ≤ p → p ≤ most → Valid p e → Q ((.tup [.int p, .int e], false), [.ow v', .no])) : Rw (D.prg.den (d + 5) 19 [.ow v, .fz (.int most)]) Q NX :=
  Rw_mono (signed_ok (d := d) h hm hm2) (fun z ⟨p, e, v', ez, hv, p1, p2, hV⟩ => by rw [ez]; exact q p e v' hv p1 p2 hV) fun _ _ z => z
theorem w_seq {Γ : Env'} {sub : Nat → Nat → Bool} {s : EV.S} {ss : List EV.S} {ρ : Ro} {k : En} {I : Ro → Prop} (h1 : Ow (evS Γ sub s ρ) { k with nx := I }) (h2 : ∀ ρ', I ρ' → Ow (evSs Γ sub ss ρ') k) : Ow (evSs Γ sub (s :: ss) ρ) k := by
  rw [w_cons]
  cases e : evS Γ sub s ρ with
  | nx ρ' => rw [e] at h1; exact h2 ρ' h1
  | rt z ρ' => rw [e] at h1; exact h1
  | bk ρ' => rw [e] at h1; exact h1
  | ct ρ' => rw [e] at h1; exact h1
  | ex c p => rw [e] at h1; exact h1
  | bad => rw [e] at h1; exact h1
inductive RngQ : Val → Val → List Val → Prop
  | mk (m n : Int) (h1 : rngOk m = true) (h2 : rngOk n = true) : RngQ (.int m) (.int n) (rngL m (n - m).toNat)
theorem w_rngQ {Γ : Env'} {ρ : Ro} {a b : E} {Qv : (Val × Bool) × Ro → Prop} {X : XP} : Rw (ev Γ (.rng2 a b) ρ) Qv X = Rw (ev Γ a ρ) (fun x => Rw (ev Γ b x.2) (fun y => ∃ xs, RngQ x.1.1 y.1.1 xs ∧ Qv ((.lst xs, false), y.2)) X) X := by
  rw [w_rng2]
  congr 1
  funext x
  congr 1
  funext y
  obtain ⟨⟨v, f⟩, ρ⟩ := x
  obtain ⟨⟨w, f2⟩, ρ2⟩ := y
  apply propext
  constructor
  · intro h
    cases v with
    | int m =>
      cases w with
      | int n =>
        by_cases q : rngOk m = true
        · by_cases q2 : rngOk n = true
          · refine ⟨_, .mk m n q q2, ?_⟩
            simpa [Ov, q, q2] using h
          · simp [Ov, q, q2] at h
        · simp [Ov, q] at h
      | _ => exact h.elim
    | _ => exact h.elim
  · rintro ⟨xs, h, q⟩
    cases h with
    | mk m n h1 h2 => simpa [Ov, h1, h2] using q
theorem valid_inv {p e r : Int} (hp : 2 ≤ p) (hp2 : p ≤ 1000000000) (h1 : 1 - p ≤ r) (h2 : r < p) (hi : (e * r - 1).fmod p = 0) (ho : (p + r).fmod 2 = 1) : Valid p r := by
  refine ⟨by omega, hp2, by omega, ?_, ho⟩
  rw [Int.fmod_eq_emod_of_nonneg _ (by omega)] at hi
  obtain ⟨c, hc⟩ := Int.dvd_of_emod_eq_zero hi
  have h3 : Int.gcd p r = 1 := by
    have d1 : ((Int.gcd p r : Nat) : Int) ∣ p := Int.gcd_dvd_left ..
    have d2 : ((Int.gcd p r : Nat) : Int) ∣ r := Int.gcd_dvd_right ..
    have d3 : ((Int.gcd p r : Nat) : Int) ∣ 1 := by
      have : (1 : Int) = e * r - p * c := by omega
      rw [this]
      exact Int.dvd_sub (Int.dvd_mul_of_dvd_right d2) (Int.dvd_mul_of_dvd_left d1)
    have := Int.le_of_dvd (by decide) d3
    have h0 : Int.gcd p r ≠ 0 := by
      intro hz
      have := Int.gcd_eq_zero_iff.mp hz
      omega
    omega
  exact h3
theorem common_eq {d : Nat} {a b : Int} (ha : a.natAbs < 20000) (hb : b.natAbs < 20000) : D.prg.den (d + 1) 17 [.fz (.int a), .fz (.int b)] = .got ((.int ((Nat.gcd a.natAbs b.natAbs : Nat) : Int), false), [.no, .no]) := by
  have key := common_ok (d := d) ha hb
  generalize D.prg.den (d + 1) 17 [.fz (.int a), .fz (.int b)] = rr at key ⊢
  obtain ⟨a, e, rfl⟩ := Rw_iff.mp key
  exact e
theorem turn_if {d : Nat} {sc v t2 t7 t9 t10 t11 t4 t5 : Sl} {vp : Val} {p e kd p' e' : Int} {k : En} (hv : PoolOk vp) (hp : 2 ≤ p) (hp2 : p ≤ 1000) (hV : Valid p e) (hV' : Valid p' e')
    {I : Ro → Prop} (hk : ∀ v' t9 t10 t11 p' e', PoolOk v' → Valid p' e' → I [sc, .ow v', t2, .fz (.int p), t4, t5, .fz (.tup [.int p, .int e]), .fz (.int kd), .fz (.tup [.int p', .int e']), t9, t10, t11])
    {ct : EV.S} (hct : bodyT[4]? = some ct) : Ow (evS ⟨D.prg.den (d + 6), D.prg.stab, D.prg.gl⟩ D.prg.sub ct [sc, .ow vp, t2, .fz (.int p), t4, t5, .fz (.tup [.int p, .int e]), .fz (.int kd), .fz (.tup [.int p', .int e']), .fz (.int e), t10, t11]) { k with nx := I, ex := NX } := by
  simp only [bodyT, g_law, List.getElem?_cons_succ, List.getElem?_cons_zero, Option.some.injEq] at hct
  subst hct
  have z0 : ¬ p = 0 := by omega
  have o1 : rngOk (1 - p) = true := decide_eq_true (by constructor <;> omega)
  have o2 : rngOk p = true := decide_eq_true (by constructor <;> omega)
  have e1 : (p - (1 - p)).toNat ≤ sizeLine := Nat.le_trans (by omega : (p - (1 - p)).toNat ≤ 10000) (by decide)
  have hlt : ∀ f : Val → Bool, ((rngL (1 - p) (p - (1 - p)).toNat).filter f).length < 1073741824 := fun f => Nat.lt_of_le_of_lt (List.length_filter_le _ _) (by rw [rngL_len]; omega)
  by_cases k0 : kd = 0
  · simp only [↓w_bvar, ↓w_bnv, ↓w_var, ↓w_non, ↓w_bl, ↓w_int, ↓w_str, ↓w_val, ↓w_one, ↓w_bin, ↓w_neg, ↓w_test, ↓w_not, ↓w_and, ↓w_or, ↓w_ife, ↓w_cmp, ↓w_chain, ↓w_call, ↓w_bi, ↓w_isi, ↓w_isis, ↓w_ix, ↓w_sl, ↓w_rev, ↓w_tup, ↓w_lst, ↓w_snil, ↓w_scons, ↓w_bnil, ↓w_bcons, ↓w_anil, ↓w_aconsN, ↓w_aconsF, ↓w_aconsT, ↓w_prnop, ↓w_pr, ↓w_nil, ↓w_cons, ↓w_put, ↓w_asgN, ↓w_asgT, ↓w_par, ↓w_ifs, ↓w_ret, ↓w_retn, ↓w_raise, ↓w_brk, ↓w_cont, ↓w_expr, ↓w_seti, ↓w_turn, ↓w_cnop, ↓w_cond, ↓w_lc, ↓w_forF, iv_non, iv_bl, iv_int, np_int, iv_str, iv_glob, iv_bin, np_bin, iv_neg, np_neg, iv_not, iv_and, iv_or, iv_one, iv_ife, np_ife, iv_cmp, iv_chain, iv_call, np_call, iv_bi, np_bi, iv_isi, iv_isis, iv_ix, np_ix, iv_sl, iv_rev, iv_tup, iv_lst, iv_lc, iv_disp, iv_get, iv_lcK, iv_val, np_var, np_cmp, np_chain, np_not, np_and, np_or, np_isi, np_isis, np_one, Rw_got, Ov_some, Ob_true, Ob_false, rdB, rdV, Rw_got, List.getElem?_cons_zero, List.getElem?_cons_succ, List.set_cons_zero, List.set_cons_succ, List.length_cons, List.length_nil, List.length_set, at0, at1, at2, at3, ix0, ix1, ix2, ix3, vf_add, vf_sub, vf_mul, vf_fdiv, vf_mod, vf_pow, vf_addT, vf_addL, vf_lt, vf_le, vf_gt, vf_ge, vf_lt2, vf_le2, vf_gt2, vf_ge2, vf_isN, vf_notN, vf_nn_int, vf_nn_bl, vf_nn_tup, vf_nn_lst, vf_nn_str, vf_nn_non, vf_tr_bl, vf_tr_int, vf_tr_non, vf_tr_tup, vf_tr_lst, vf_lenT, vf_lenL, vf_abs, vf_int, vf_tupL, vf_tupT, vf_lstL, vf_lstT, vf_gcd, vf_ixL, vf_ixT, vf_ixS, vf_setL, vf_appL, vf_neg, vf_ow, vf_mkT, vf_mkF, vf_part, vf_revL, vf_revT, vf_is_int_int, vf_is_bl_int, vf_is_str_int, vf_is_tup_int, vf_is_lst_int, vf_is_scr_int, vf_is_non_int, vf_is_int_bool, vf_is_bl_bool, vf_is_str_bool, vf_is_tup_bool, vf_is_lst_bool, vf_is_scr_bool, vf_is_non_bool, vf_is_int_str, vf_is_bl_str, vf_is_str_str, vf_is_tup_str, vf_is_lst_str, vf_is_scr_str, vf_is_non_str, vf_is_int_tuple, vf_is_bl_tuple, vf_is_str_tuple, vf_is_tup_tuple, vf_is_lst_tuple, vf_is_scr_tuple, vf_is_non_tuple, vf_is_int_list, vf_is_bl_list, vf_is_str_list, vf_is_tup_list, vf_is_lst_list, vf_is_scr_list, vf_is_non_list, vf_eqI, vf_neI, vf_eqB, Option.map_some, Option.bind_some, List.map_cons, List.map_nil, Nat.reduceAdd, Nat.reducePow, Int.reducePow, hPow18, Int.reduceMul, Int.reduceSub, Int.reduceFDiv, Int.reduceFMod, Nat.reduceLT, Nat.reduceLeDiff, Nat.reduceSub, Int.reduceLE, Int.reduceLT, Int.reduceNeg, Int.reduceAdd, Int.reduceToNat, Int.reduceEq, Int.ofNat_eq_coe, ↓reduceIte, reduceCtorEq, decide_true, decide_false, Int.cast_ofNat_Int, and_true, true_and, Bool.not_true, Bool.not_false, k0]
    subst k0
    exact hk _ _ _ _ _ _ hv hV
  · by_cases k1 : kd = 1
    · simp only [↓w_bvar, ↓w_bnv, ↓w_var, ↓w_non, ↓w_bl, ↓w_int, ↓w_str, ↓w_val, ↓w_one, ↓w_bin, ↓w_neg, ↓w_test, ↓w_not, ↓w_and, ↓w_or, ↓w_ife, ↓w_cmp, ↓w_chain, ↓w_call, ↓w_bi, ↓w_isi, ↓w_isis, ↓w_ix, ↓w_sl, ↓w_rev, ↓w_tup, ↓w_lst, ↓w_snil, ↓w_scons, ↓w_bnil, ↓w_bcons, ↓w_anil, ↓w_aconsN, ↓w_aconsF, ↓w_aconsT, ↓w_prnop, ↓w_pr, ↓w_nil, ↓w_cons, ↓w_put, ↓w_asgN, ↓w_asgT, ↓w_par, ↓w_ifs, ↓w_ret, ↓w_retn, ↓w_raise, ↓w_brk, ↓w_cont, ↓w_expr, ↓w_seti, ↓w_turn, ↓w_cnop, ↓w_cond, ↓w_lc, ↓w_forF, iv_non, iv_bl, iv_int, np_int, iv_str, iv_glob, iv_bin, np_bin, iv_neg, np_neg, iv_not, iv_and, iv_or, iv_one, iv_ife, np_ife, iv_cmp, iv_chain, iv_call, np_call, iv_bi, np_bi, iv_isi, iv_isis, iv_ix, np_ix, iv_sl, iv_rev, iv_tup, iv_lst, iv_lc, iv_disp, iv_get, iv_lcK, iv_val, np_var, np_cmp, np_chain, np_not, np_and, np_or, np_isi, np_isis, np_one, Rw_got, Ov_some, Ob_true, Ob_false, rdB, rdV, Rw_got, List.getElem?_cons_zero, List.getElem?_cons_succ, List.set_cons_zero, List.set_cons_succ, List.length_cons, List.length_nil, List.length_set, at0, at1, at2, at3, ix0, ix1, ix2, ix3, vf_add, vf_sub, vf_mul, vf_fdiv, vf_mod, vf_pow, vf_addT, vf_addL, vf_lt, vf_le, vf_gt, vf_ge, vf_lt2, vf_le2, vf_gt2, vf_ge2, vf_isN, vf_notN, vf_nn_int, vf_nn_bl, vf_nn_tup, vf_nn_lst, vf_nn_str, vf_nn_non, vf_tr_bl, vf_tr_int, vf_tr_non, vf_tr_tup, vf_tr_lst, vf_lenT, vf_lenL, vf_abs, vf_int, vf_tupL, vf_tupT, vf_lstL, vf_lstT, vf_gcd, vf_ixL, vf_ixT, vf_ixS, vf_setL, vf_appL, vf_neg, vf_ow, vf_mkT, vf_mkF, vf_part, vf_revL, vf_revT, vf_is_int_int, vf_is_bl_int, vf_is_str_int, vf_is_tup_int, vf_is_lst_int, vf_is_scr_int, vf_is_non_int, vf_is_int_bool, vf_is_bl_bool, vf_is_str_bool, vf_is_tup_bool, vf_is_lst_bool, vf_is_scr_bool, vf_is_non_bool, vf_is_int_str, vf_is_bl_str, vf_is_str_str, vf_is_tup_str, vf_is_lst_str, vf_is_scr_str, vf_is_non_str, vf_is_int_tuple, vf_is_bl_tuple, vf_is_str_tuple, vf_is_tup_tuple, vf_is_lst_tuple, vf_is_scr_tuple, vf_is_non_tuple, vf_is_int_list, vf_is_bl_list, vf_is_str_list, vf_is_tup_list, vf_is_lst_list, vf_is_scr_list, vf_is_non_list, vf_eqI, vf_neI, vf_eqB, Option.map_some, Option.bind_some, List.map_cons, List.map_nil, Nat.reduceAdd, Nat.reducePow, Int.reducePow, hPow18, Int.reduceMul, Int.reduceSub, Int.reduceFDiv, Int.reduceFMod, Nat.reduceLT, Nat.reduceLeDiff, Nat.reduceSub, Int.reduceLE, Int.reduceLT, Int.reduceNeg, Int.reduceAdd, Int.reduceToNat, Int.reduceEq, Int.ofNat_eq_coe, ↓reduceIte, reduceCtorEq, decide_true, decide_false, Int.cast_ofNat_Int, and_true, true_and, Bool.not_true, Bool.not_false, k0, k1, w_rngQ]
      refine ⟨_, .mk _ _ o1 o2, ?_⟩
      simp only [itemsV, Ov_some, rngL_len, e1, true_and]
      refine loop_filter (pr := fun x => match x with | .int r => decide ((e * r - 1).fmod p = 0) && decide ((p + r).fmod 2 = 1) | _ => false) (fun x hx => ?_) ?_
      · obtain ⟨r, rfl, q1, q2⟩ := mem_rngL hx
        unfold lcF
        have lt := hV.lt
        have mo : mulOk e r = true := mulOkL (by omega) (by omega)
        by_cases c1 : (e * r - 1).fmod p = 0
        · by_cases c2 : (p + r).fmod 2 = 1 <;> simp only [↓w_bvar, ↓w_bnv, ↓w_var, ↓w_non, ↓w_bl, ↓w_int, ↓w_str, ↓w_val, ↓w_one, ↓w_bin, ↓w_neg, ↓w_test, ↓w_not, ↓w_and, ↓w_or, ↓w_ife, ↓w_cmp, ↓w_chain, ↓w_call, ↓w_bi, ↓w_isi, ↓w_isis, ↓w_ix, ↓w_sl, ↓w_rev, ↓w_tup, ↓w_lst, ↓w_snil, ↓w_scons, ↓w_bnil, ↓w_bcons, ↓w_anil, ↓w_aconsN, ↓w_aconsF, ↓w_aconsT, ↓w_prnop, ↓w_pr, ↓w_nil, ↓w_cons, ↓w_put, ↓w_asgN, ↓w_asgT, ↓w_par, ↓w_ifs, ↓w_ret, ↓w_retn, ↓w_raise, ↓w_brk, ↓w_cont, ↓w_expr, ↓w_seti, ↓w_turn, ↓w_cnop, ↓w_cond, ↓w_lc, ↓w_forF, iv_non, iv_bl, iv_int, np_int, iv_str, iv_glob, iv_bin, np_bin, iv_neg, np_neg, iv_not, iv_and, iv_or, iv_one, iv_ife, np_ife, iv_cmp, iv_chain, iv_call, np_call, iv_bi, np_bi, iv_isi, iv_isis, iv_ix, np_ix, iv_sl, iv_rev, iv_tup, iv_lst, iv_lc, iv_disp, iv_get, iv_lcK, iv_val, np_var, np_cmp, np_chain, np_not, np_and, np_or, np_isi, np_isis, np_one, Rw_got, Ov_some, Ob_true, Ob_false, rdB, rdV, Rw_got, List.getElem?_cons_zero, List.getElem?_cons_succ, List.set_cons_zero, List.set_cons_succ, List.length_cons, List.length_nil, List.length_set, at0, at1, at2, at3, ix0, ix1, ix2, ix3, vf_add, vf_sub, vf_mul, vf_fdiv, vf_mod, vf_pow, vf_addT, vf_addL, vf_lt, vf_le, vf_gt, vf_ge, vf_lt2, vf_le2, vf_gt2, vf_ge2, vf_isN, vf_notN, vf_nn_int, vf_nn_bl, vf_nn_tup, vf_nn_lst, vf_nn_str, vf_nn_non, vf_tr_bl, vf_tr_int, vf_tr_non, vf_tr_tup, vf_tr_lst, vf_lenT, vf_lenL, vf_abs, vf_int, vf_tupL, vf_tupT, vf_lstL, vf_lstT, vf_gcd, vf_ixL, vf_ixT, vf_ixS, vf_setL, vf_appL, vf_neg, vf_ow, vf_mkT, vf_mkF, vf_part, vf_revL, vf_revT, vf_is_int_int, vf_is_bl_int, vf_is_str_int, vf_is_tup_int, vf_is_lst_int, vf_is_scr_int, vf_is_non_int, vf_is_int_bool, vf_is_bl_bool, vf_is_str_bool, vf_is_tup_bool, vf_is_lst_bool, vf_is_scr_bool, vf_is_non_bool, vf_is_int_str, vf_is_bl_str, vf_is_str_str, vf_is_tup_str, vf_is_lst_str, vf_is_scr_str, vf_is_non_str, vf_is_int_tuple, vf_is_bl_tuple, vf_is_str_tuple, vf_is_tup_tuple, vf_is_lst_tuple, vf_is_scr_tuple, vf_is_non_tuple, vf_is_int_list, vf_is_bl_list, vf_is_str_list, vf_is_tup_list, vf_is_lst_list, vf_is_scr_list, vf_is_non_list, vf_eqI, vf_neI, vf_eqB, Option.map_some, Option.bind_some, List.map_cons, List.map_nil, Nat.reduceAdd, Nat.reducePow, Int.reducePow, hPow18, Int.reduceMul, Int.reduceSub, Int.reduceFDiv, Int.reduceFMod, Nat.reduceLT, Nat.reduceLeDiff, Nat.reduceSub, Int.reduceLE, Int.reduceLT, Int.reduceNeg, Int.reduceAdd, Int.reduceToNat, Int.reduceEq, Int.ofNat_eq_coe, ↓reduceIte, reduceCtorEq, decide_true, decide_false, Int.cast_ofNat_Int, and_true, true_and, Bool.not_true, Bool.not_false, w_cond, wipeR, bindT, backR, Option.getD_some, mo, z0, c1, c2, Bool.and_self, Bool.and_false, Bool.false_eq_true]
        · simp only [↓w_bvar, ↓w_bnv, ↓w_var, ↓w_non, ↓w_bl, ↓w_int, ↓w_str, ↓w_val, ↓w_one, ↓w_bin, ↓w_neg, ↓w_test, ↓w_not, ↓w_and, ↓w_or, ↓w_ife, ↓w_cmp, ↓w_chain, ↓w_call, ↓w_bi, ↓w_isi, ↓w_isis, ↓w_ix, ↓w_sl, ↓w_rev, ↓w_tup, ↓w_lst, ↓w_snil, ↓w_scons, ↓w_bnil, ↓w_bcons, ↓w_anil, ↓w_aconsN, ↓w_aconsF, ↓w_aconsT, ↓w_prnop, ↓w_pr, ↓w_nil, ↓w_cons, ↓w_put, ↓w_asgN, ↓w_asgT, ↓w_par, ↓w_ifs, ↓w_ret, ↓w_retn, ↓w_raise, ↓w_brk, ↓w_cont, ↓w_expr, ↓w_seti, ↓w_turn, ↓w_cnop, ↓w_cond, ↓w_lc, ↓w_forF, iv_non, iv_bl, iv_int, np_int, iv_str, iv_glob, iv_bin, np_bin, iv_neg, np_neg, iv_not, iv_and, iv_or, iv_one, iv_ife, np_ife, iv_cmp, iv_chain, iv_call, np_call, iv_bi, np_bi, iv_isi, iv_isis, iv_ix, np_ix, iv_sl, iv_rev, iv_tup, iv_lst, iv_lc, iv_disp, iv_get, iv_lcK, iv_val, np_var, np_cmp, np_chain, np_not, np_and, np_or, np_isi, np_isis, np_one, Rw_got, Ov_some, Ob_true, Ob_false, rdB, rdV, Rw_got, List.getElem?_cons_zero, List.getElem?_cons_succ, List.set_cons_zero, List.set_cons_succ, List.length_cons, List.length_nil, List.length_set, at0, at1, at2, at3, ix0, ix1, ix2, ix3, vf_add, vf_sub, vf_mul, vf_fdiv, vf_mod, vf_pow, vf_addT, vf_addL, vf_lt, vf_le, vf_gt, vf_ge, vf_lt2, vf_le2, vf_gt2, vf_ge2, vf_isN, vf_notN, vf_nn_int, vf_nn_bl, vf_nn_tup, vf_nn_lst, vf_nn_str, vf_nn_non, vf_tr_bl, vf_tr_int, vf_tr_non, vf_tr_tup, vf_tr_lst, vf_lenT, vf_lenL, vf_abs, vf_int, vf_tupL, vf_tupT, vf_lstL, vf_lstT, vf_gcd, vf_ixL, vf_ixT, vf_ixS, vf_setL, vf_appL, vf_neg, vf_ow, vf_mkT, vf_mkF, vf_part, vf_revL, vf_revT, vf_is_int_int, vf_is_bl_int, vf_is_str_int, vf_is_tup_int, vf_is_lst_int, vf_is_scr_int, vf_is_non_int, vf_is_int_bool, vf_is_bl_bool, vf_is_str_bool, vf_is_tup_bool, vf_is_lst_bool, vf_is_scr_bool, vf_is_non_bool, vf_is_int_str, vf_is_bl_str, vf_is_str_str, vf_is_tup_str, vf_is_lst_str, vf_is_scr_str, vf_is_non_str, vf_is_int_tuple, vf_is_bl_tuple, vf_is_str_tuple, vf_is_tup_tuple, vf_is_lst_tuple, vf_is_scr_tuple, vf_is_non_tuple, vf_is_int_list, vf_is_bl_list, vf_is_str_list, vf_is_tup_list, vf_is_lst_list, vf_is_scr_list, vf_is_non_list, vf_eqI, vf_neI, vf_eqB, Option.map_some, Option.bind_some, List.map_cons, List.map_nil, Nat.reduceAdd, Nat.reducePow, Int.reducePow, hPow18, Int.reduceMul, Int.reduceSub, Int.reduceFDiv, Int.reduceFMod, Nat.reduceLT, Nat.reduceLeDiff, Nat.reduceSub, Int.reduceLE, Int.reduceLT, Int.reduceNeg, Int.reduceAdd, Int.reduceToNat, Int.reduceEq, Int.ofNat_eq_coe, ↓reduceIte, reduceCtorEq, decide_true, decide_false, Int.cast_ofNat_Int, and_true, true_and, Bool.not_true, Bool.not_false, w_cond, wipeR, bindT, backR, Option.getD_some, mo, z0, c1, Bool.false_and, Bool.false_eq_true]
      · have hmem : ∀ x ∈ (rngL (1 - p) (p - (1 - p)).toNat).filter (fun x => match x with | .int r => decide ((e * r - 1).fmod p = 0) && decide ((p + r).fmod 2 = 1) | _ => false), ∃ r, x = .int r ∧ Valid p r := fun x hx => by
          obtain ⟨hx1, hx2⟩ := List.mem_filter.mp hx
          obtain ⟨r, rfl, q1, q2⟩ := mem_rngL hx1
          simp only [Bool.and_eq_true, decide_eq_true_eq] at hx2
          exact ⟨r, rfl, valid_inv hp (by omega) (by omega) (by omega) hx2.1 hx2.2⟩
        have hl2 := hlt (fun x => match x with | .int r => decide ((e * r - 1).fmod p = 0) && decide ((p + r).fmod 2 = 1) | _ => false)
        generalize (rngL (1 - p) (p - (1 - p)).toNat).filter (fun x => match x with | .int r => decide ((e * r - 1).fmod p = 0) && decide ((p + r).fmod 2 = 1) | _ => false) = L at hmem hl2
        cases L with
        | nil =>
          simp only [↓w_bvar, ↓w_bnv, ↓w_var, ↓w_non, ↓w_bl, ↓w_int, ↓w_str, ↓w_val, ↓w_one, ↓w_bin, ↓w_neg, ↓w_test, ↓w_not, ↓w_and, ↓w_or, ↓w_ife, ↓w_cmp, ↓w_chain, ↓w_call, ↓w_bi, ↓w_isi, ↓w_isis, ↓w_ix, ↓w_sl, ↓w_rev, ↓w_tup, ↓w_lst, ↓w_snil, ↓w_scons, ↓w_bnil, ↓w_bcons, ↓w_anil, ↓w_aconsN, ↓w_aconsF, ↓w_aconsT, ↓w_prnop, ↓w_pr, ↓w_nil, ↓w_cons, ↓w_put, ↓w_asgN, ↓w_asgT, ↓w_par, ↓w_ifs, ↓w_ret, ↓w_retn, ↓w_raise, ↓w_brk, ↓w_cont, ↓w_expr, ↓w_seti, ↓w_turn, ↓w_cnop, ↓w_cond, ↓w_lc, ↓w_forF, iv_non, iv_bl, iv_int, np_int, iv_str, iv_glob, iv_bin, np_bin, iv_neg, np_neg, iv_not, iv_and, iv_or, iv_one, iv_ife, np_ife, iv_cmp, iv_chain, iv_call, np_call, iv_bi, np_bi, iv_isi, iv_isis, iv_ix, np_ix, iv_sl, iv_rev, iv_tup, iv_lst, iv_lc, iv_disp, iv_get, iv_lcK, iv_val, np_var, np_cmp, np_chain, np_not, np_and, np_or, np_isi, np_isis, np_one, Rw_got, Ov_some, Ob_true, Ob_false, rdB, rdV, Rw_got, List.getElem?_cons_zero, List.getElem?_cons_succ, List.set_cons_zero, List.set_cons_succ, List.length_cons, List.length_nil, List.length_set, at0, at1, at2, at3, ix0, ix1, ix2, ix3, vf_add, vf_sub, vf_mul, vf_fdiv, vf_mod, vf_pow, vf_addT, vf_addL, vf_lt, vf_le, vf_gt, vf_ge, vf_lt2, vf_le2, vf_gt2, vf_ge2, vf_isN, vf_notN, vf_nn_int, vf_nn_bl, vf_nn_tup, vf_nn_lst, vf_nn_str, vf_nn_non, vf_tr_bl, vf_tr_int, vf_tr_non, vf_tr_tup, vf_tr_lst, vf_lenT, vf_lenL, vf_abs, vf_int, vf_tupL, vf_tupT, vf_lstL, vf_lstT, vf_gcd, vf_ixL, vf_ixT, vf_ixS, vf_setL, vf_appL, vf_neg, vf_ow, vf_mkT, vf_mkF, vf_part, vf_revL, vf_revT, vf_is_int_int, vf_is_bl_int, vf_is_str_int, vf_is_tup_int, vf_is_lst_int, vf_is_scr_int, vf_is_non_int, vf_is_int_bool, vf_is_bl_bool, vf_is_str_bool, vf_is_tup_bool, vf_is_lst_bool, vf_is_scr_bool, vf_is_non_bool, vf_is_int_str, vf_is_bl_str, vf_is_str_str, vf_is_tup_str, vf_is_lst_str, vf_is_scr_str, vf_is_non_str, vf_is_int_tuple, vf_is_bl_tuple, vf_is_str_tuple, vf_is_tup_tuple, vf_is_lst_tuple, vf_is_scr_tuple, vf_is_non_tuple, vf_is_int_list, vf_is_bl_list, vf_is_str_list, vf_is_tup_list, vf_is_lst_list, vf_is_scr_list, vf_is_non_list, vf_eqI, vf_neI, vf_eqB, Option.map_some, Option.bind_some, List.map_cons, List.map_nil, Nat.reduceAdd, Nat.reducePow, Int.reducePow, hPow18, Int.reduceMul, Int.reduceSub, Int.reduceFDiv, Int.reduceFMod, Nat.reduceLT, Nat.reduceLeDiff, Nat.reduceSub, Int.reduceLE, Int.reduceLT, Int.reduceNeg, Int.reduceAdd, Int.reduceToNat, Int.reduceEq, Int.ofNat_eq_coe, ↓reduceIte, reduceCtorEq, decide_true, decide_false, Int.cast_ofNat_Int, and_true, true_and, Bool.not_true, Bool.not_false, List.isEmpty_nil]
          subst k1
          exact hk _ _ _ _ _ _ hv hV
        | cons a L =>
          simp only [↓w_bvar, ↓w_bnv, ↓w_var, ↓w_non, ↓w_bl, ↓w_int, ↓w_str, ↓w_val, ↓w_one, ↓w_bin, ↓w_neg, ↓w_test, ↓w_not, ↓w_and, ↓w_or, ↓w_ife, ↓w_cmp, ↓w_chain, ↓w_call, ↓w_bi, ↓w_isi, ↓w_isis, ↓w_ix, ↓w_sl, ↓w_rev, ↓w_tup, ↓w_lst, ↓w_snil, ↓w_scons, ↓w_bnil, ↓w_bcons, ↓w_anil, ↓w_aconsN, ↓w_aconsF, ↓w_aconsT, ↓w_prnop, ↓w_pr, ↓w_nil, ↓w_cons, ↓w_put, ↓w_asgN, ↓w_asgT, ↓w_par, ↓w_ifs, ↓w_ret, ↓w_retn, ↓w_raise, ↓w_brk, ↓w_cont, ↓w_expr, ↓w_seti, ↓w_turn, ↓w_cnop, ↓w_cond, ↓w_lc, ↓w_forF, iv_non, iv_bl, iv_int, np_int, iv_str, iv_glob, iv_bin, np_bin, iv_neg, np_neg, iv_not, iv_and, iv_or, iv_one, iv_ife, np_ife, iv_cmp, iv_chain, iv_call, np_call, iv_bi, np_bi, iv_isi, iv_isis, iv_ix, np_ix, iv_sl, iv_rev, iv_tup, iv_lst, iv_lc, iv_disp, iv_get, iv_lcK, iv_val, np_var, np_cmp, np_chain, np_not, np_and, np_or, np_isi, np_isis, np_one, Rw_got, Ov_some, Ob_true, Ob_false, rdB, rdV, Rw_got, List.getElem?_cons_zero, List.getElem?_cons_succ, List.set_cons_zero, List.set_cons_succ, List.length_cons, List.length_nil, List.length_set, at0, at1, at2, at3, ix0, ix1, ix2, ix3, vf_add, vf_sub, vf_mul, vf_fdiv, vf_mod, vf_pow, vf_addT, vf_addL, vf_lt, vf_le, vf_gt, vf_ge, vf_lt2, vf_le2, vf_gt2, vf_ge2, vf_isN, vf_notN, vf_nn_int, vf_nn_bl, vf_nn_tup, vf_nn_lst, vf_nn_str, vf_nn_non, vf_tr_bl, vf_tr_int, vf_tr_non, vf_tr_tup, vf_tr_lst, vf_lenT, vf_lenL, vf_abs, vf_int, vf_tupL, vf_tupT, vf_lstL, vf_lstT, vf_gcd, vf_ixL, vf_ixT, vf_ixS, vf_setL, vf_appL, vf_neg, vf_ow, vf_mkT, vf_mkF, vf_part, vf_revL, vf_revT, vf_is_int_int, vf_is_bl_int, vf_is_str_int, vf_is_tup_int, vf_is_lst_int, vf_is_scr_int, vf_is_non_int, vf_is_int_bool, vf_is_bl_bool, vf_is_str_bool, vf_is_tup_bool, vf_is_lst_bool, vf_is_scr_bool, vf_is_non_bool, vf_is_int_str, vf_is_bl_str, vf_is_str_str, vf_is_tup_str, vf_is_lst_str, vf_is_scr_str, vf_is_non_str, vf_is_int_tuple, vf_is_bl_tuple, vf_is_str_tuple, vf_is_tup_tuple, vf_is_lst_tuple, vf_is_scr_tuple, vf_is_non_tuple, vf_is_int_list, vf_is_bl_list, vf_is_str_list, vf_is_tup_list, vf_is_lst_list, vf_is_scr_list, vf_is_non_list, vf_eqI, vf_neI, vf_eqB, Option.map_some, Option.bind_some, List.map_cons, List.map_nil, Nat.reduceAdd, Nat.reducePow, Int.reducePow, hPow18, Int.reduceMul, Int.reduceSub, Int.reduceFDiv, Int.reduceFMod, Nat.reduceLT, Nat.reduceLeDiff, Nat.reduceSub, Int.reduceLE, Int.reduceLT, Int.reduceNeg, Int.reduceAdd, Int.reduceToNat, Int.reduceEq, Int.ofNat_eq_coe, ↓reduceIte, reduceCtorEq, decide_true, decide_false, Int.cast_ofNat_Int, and_true, true_and, Bool.not_true, Bool.not_false, List.isEmpty_cons, stab2]
          refine pick_sub (d := d + 3) hv (by simp) hl2 fun x mx v1 hv1 => ?_
          obtain ⟨r, rfl, hr⟩ := hmem x mx
          simp only [↓w_bvar, ↓w_bnv, ↓w_var, ↓w_non, ↓w_bl, ↓w_int, ↓w_str, ↓w_val, ↓w_one, ↓w_bin, ↓w_neg, ↓w_test, ↓w_not, ↓w_and, ↓w_or, ↓w_ife, ↓w_cmp, ↓w_chain, ↓w_call, ↓w_bi, ↓w_isi, ↓w_isis, ↓w_ix, ↓w_sl, ↓w_rev, ↓w_tup, ↓w_lst, ↓w_snil, ↓w_scons, ↓w_bnil, ↓w_bcons, ↓w_anil, ↓w_aconsN, ↓w_aconsF, ↓w_aconsT, ↓w_prnop, ↓w_pr, ↓w_nil, ↓w_cons, ↓w_put, ↓w_asgN, ↓w_asgT, ↓w_par, ↓w_ifs, ↓w_ret, ↓w_retn, ↓w_raise, ↓w_brk, ↓w_cont, ↓w_expr, ↓w_seti, ↓w_turn, ↓w_cnop, ↓w_cond, ↓w_lc, ↓w_forF, iv_non, iv_bl, iv_int, np_int, iv_str, iv_glob, iv_bin, np_bin, iv_neg, np_neg, iv_not, iv_and, iv_or, iv_one, iv_ife, np_ife, iv_cmp, iv_chain, iv_call, np_call, iv_bi, np_bi, iv_isi, iv_isis, iv_ix, np_ix, iv_sl, iv_rev, iv_tup, iv_lst, iv_lc, iv_disp, iv_get, iv_lcK, iv_val, np_var, np_cmp, np_chain, np_not, np_and, np_or, np_isi, np_isis, np_one, Rw_got, Ov_some, Ob_true, Ob_false, rdB, rdV, Rw_got, List.getElem?_cons_zero, List.getElem?_cons_succ, List.set_cons_zero, List.set_cons_succ, List.length_cons, List.length_nil, List.length_set, at0, at1, at2, at3, ix0, ix1, ix2, ix3, vf_add, vf_sub, vf_mul, vf_fdiv, vf_mod, vf_pow, vf_addT, vf_addL, vf_lt, vf_le, vf_gt, vf_ge, vf_lt2, vf_le2, vf_gt2, vf_ge2, vf_isN, vf_notN, vf_nn_int, vf_nn_bl, vf_nn_tup, vf_nn_lst, vf_nn_str, vf_nn_non, vf_tr_bl, vf_tr_int, vf_tr_non, vf_tr_tup, vf_tr_lst, vf_lenT, vf_lenL, vf_abs, vf_int, vf_tupL, vf_tupT, vf_lstL, vf_lstT, vf_gcd, vf_ixL, vf_ixT, vf_ixS, vf_setL, vf_appL, vf_neg, vf_ow, vf_mkT, vf_mkF, vf_part, vf_revL, vf_revT, vf_is_int_int, vf_is_bl_int, vf_is_str_int, vf_is_tup_int, vf_is_lst_int, vf_is_scr_int, vf_is_non_int, vf_is_int_bool, vf_is_bl_bool, vf_is_str_bool, vf_is_tup_bool, vf_is_lst_bool, vf_is_scr_bool, vf_is_non_bool, vf_is_int_str, vf_is_bl_str, vf_is_str_str, vf_is_tup_str, vf_is_lst_str, vf_is_scr_str, vf_is_non_str, vf_is_int_tuple, vf_is_bl_tuple, vf_is_str_tuple, vf_is_tup_tuple, vf_is_lst_tuple, vf_is_scr_tuple, vf_is_non_tuple, vf_is_int_list, vf_is_bl_list, vf_is_str_list, vf_is_tup_list, vf_is_lst_list, vf_is_scr_list, vf_is_non_list, vf_eqI, vf_neI, vf_eqB, Option.map_some, Option.bind_some, List.map_cons, List.map_nil, Nat.reduceAdd, Nat.reducePow, Int.reducePow, hPow18, Int.reduceMul, Int.reduceSub, Int.reduceFDiv, Int.reduceFMod, Nat.reduceLT, Nat.reduceLeDiff, Nat.reduceSub, Int.reduceLE, Int.reduceLT, Int.reduceNeg, Int.reduceAdd, Int.reduceToNat, Int.reduceEq, Int.ofNat_eq_coe, ↓reduceIte, reduceCtorEq, decide_true, decide_false, Int.cast_ofNat_Int, and_true, true_and, Bool.not_true, Bool.not_false, giveR]
          subst k1
          exact ⟨by decide, hk _ _ _ _ _ _ hv1 hr⟩
    · by_cases k2 : kd = 2
      · simp only [↓w_bvar, ↓w_bnv, ↓w_var, ↓w_non, ↓w_bl, ↓w_int, ↓w_str, ↓w_val, ↓w_one, ↓w_bin, ↓w_neg, ↓w_test, ↓w_not, ↓w_and, ↓w_or, ↓w_ife, ↓w_cmp, ↓w_chain, ↓w_call, ↓w_bi, ↓w_isi, ↓w_isis, ↓w_ix, ↓w_sl, ↓w_rev, ↓w_tup, ↓w_lst, ↓w_snil, ↓w_scons, ↓w_bnil, ↓w_bcons, ↓w_anil, ↓w_aconsN, ↓w_aconsF, ↓w_aconsT, ↓w_prnop, ↓w_pr, ↓w_nil, ↓w_cons, ↓w_put, ↓w_asgN, ↓w_asgT, ↓w_par, ↓w_ifs, ↓w_ret, ↓w_retn, ↓w_raise, ↓w_brk, ↓w_cont, ↓w_expr, ↓w_seti, ↓w_turn, ↓w_cnop, ↓w_cond, ↓w_lc, ↓w_forF, iv_non, iv_bl, iv_int, np_int, iv_str, iv_glob, iv_bin, np_bin, iv_neg, np_neg, iv_not, iv_and, iv_or, iv_one, iv_ife, np_ife, iv_cmp, iv_chain, iv_call, np_call, iv_bi, np_bi, iv_isi, iv_isis, iv_ix, np_ix, iv_sl, iv_rev, iv_tup, iv_lst, iv_lc, iv_disp, iv_get, iv_lcK, iv_val, np_var, np_cmp, np_chain, np_not, np_and, np_or, np_isi, np_isis, np_one, Rw_got, Ov_some, Ob_true, Ob_false, rdB, rdV, Rw_got, List.getElem?_cons_zero, List.getElem?_cons_succ, List.set_cons_zero, List.set_cons_succ, List.length_cons, List.length_nil, List.length_set, at0, at1, at2, at3, ix0, ix1, ix2, ix3, vf_add, vf_sub, vf_mul, vf_fdiv, vf_mod, vf_pow, vf_addT, vf_addL, vf_lt, vf_le, vf_gt, vf_ge, vf_lt2, vf_le2, vf_gt2, vf_ge2, vf_isN, vf_notN, vf_nn_int, vf_nn_bl, vf_nn_tup, vf_nn_lst, vf_nn_str, vf_nn_non, vf_tr_bl, vf_tr_int, vf_tr_non, vf_tr_tup, vf_tr_lst, vf_lenT, vf_lenL, vf_abs, vf_int, vf_tupL, vf_tupT, vf_lstL, vf_lstT, vf_gcd, vf_ixL, vf_ixT, vf_ixS, vf_setL, vf_appL, vf_neg, vf_ow, vf_mkT, vf_mkF, vf_part, vf_revL, vf_revT, vf_is_int_int, vf_is_bl_int, vf_is_str_int, vf_is_tup_int, vf_is_lst_int, vf_is_scr_int, vf_is_non_int, vf_is_int_bool, vf_is_bl_bool, vf_is_str_bool, vf_is_tup_bool, vf_is_lst_bool, vf_is_scr_bool, vf_is_non_bool, vf_is_int_str, vf_is_bl_str, vf_is_str_str, vf_is_tup_str, vf_is_lst_str, vf_is_scr_str, vf_is_non_str, vf_is_int_tuple, vf_is_bl_tuple, vf_is_str_tuple, vf_is_tup_tuple, vf_is_lst_tuple, vf_is_scr_tuple, vf_is_non_tuple, vf_is_int_list, vf_is_bl_list, vf_is_str_list, vf_is_tup_list, vf_is_lst_list, vf_is_scr_list, vf_is_non_list, vf_eqI, vf_neI, vf_eqB, Option.map_some, Option.bind_some, List.map_cons, List.map_nil, Nat.reduceAdd, Nat.reducePow, Int.reducePow, hPow18, Int.reduceMul, Int.reduceSub, Int.reduceFDiv, Int.reduceFMod, Nat.reduceLT, Nat.reduceLeDiff, Nat.reduceSub, Int.reduceLE, Int.reduceLT, Int.reduceNeg, Int.reduceAdd, Int.reduceToNat, Int.reduceEq, Int.ofNat_eq_coe, ↓reduceIte, reduceCtorEq, decide_true, decide_false, Int.cast_ofNat_Int, and_true, true_and, Bool.not_true, Bool.not_false, k0, k1, k2, w_rngQ]
        refine ⟨_, .mk _ _ o1 o2, ?_⟩
        simp only [itemsV, Ov_some, rngL_len, e1, true_and]
        refine loop_filter (pr := fun x => match x with | .int r => decide ((p + r).fmod 2 = 1) && decide (Nat.gcd p.natAbs r.natAbs = 1) | _ => false) (fun x hx => ?_) ?_
        · obtain ⟨r, rfl, q1, q2⟩ := mem_rngL hx
          unfold lcF
          have cm := common_eq (d := d + 5) (a := p) (b := r) (by omega) (by omega)
          by_cases c2 : (p + r).fmod 2 = 1
          · by_cases c1 : Nat.gcd p.natAbs r.natAbs = 1
            · have c1' : ((Nat.gcd p.natAbs r.natAbs : Nat) : Int) = 1 := by omega
              simp only [↓w_bvar, ↓w_bnv, ↓w_var, ↓w_non, ↓w_bl, ↓w_int, ↓w_str, ↓w_val, ↓w_one, ↓w_bin, ↓w_neg, ↓w_test, ↓w_not, ↓w_and, ↓w_or, ↓w_ife, ↓w_cmp, ↓w_chain, ↓w_call, ↓w_bi, ↓w_isi, ↓w_isis, ↓w_ix, ↓w_sl, ↓w_rev, ↓w_tup, ↓w_lst, ↓w_snil, ↓w_scons, ↓w_bnil, ↓w_bcons, ↓w_anil, ↓w_aconsN, ↓w_aconsF, ↓w_aconsT, ↓w_prnop, ↓w_pr, ↓w_nil, ↓w_cons, ↓w_put, ↓w_asgN, ↓w_asgT, ↓w_par, ↓w_ifs, ↓w_ret, ↓w_retn, ↓w_raise, ↓w_brk, ↓w_cont, ↓w_expr, ↓w_seti, ↓w_turn, ↓w_cnop, ↓w_cond, ↓w_lc, ↓w_forF, iv_non, iv_bl, iv_int, np_int, iv_str, iv_glob, iv_bin, np_bin, iv_neg, np_neg, iv_not, iv_and, iv_or, iv_one, iv_ife, np_ife, iv_cmp, iv_chain, iv_call, np_call, iv_bi, np_bi, iv_isi, iv_isis, iv_ix, np_ix, iv_sl, iv_rev, iv_tup, iv_lst, iv_lc, iv_disp, iv_get, iv_lcK, iv_val, np_var, np_cmp, np_chain, np_not, np_and, np_or, np_isi, np_isis, np_one, Rw_got, Ov_some, Ob_true, Ob_false, rdB, rdV, Rw_got, List.getElem?_cons_zero, List.getElem?_cons_succ, List.set_cons_zero, List.set_cons_succ, List.length_cons, List.length_nil, List.length_set, at0, at1, at2, at3, ix0, ix1, ix2, ix3, vf_add, vf_sub, vf_mul, vf_fdiv, vf_mod, vf_pow, vf_addT, vf_addL, vf_lt, vf_le, vf_gt, vf_ge, vf_lt2, vf_le2, vf_gt2, vf_ge2, vf_isN, vf_notN, vf_nn_int, vf_nn_bl, vf_nn_tup, vf_nn_lst, vf_nn_str, vf_nn_non, vf_tr_bl, vf_tr_int, vf_tr_non, vf_tr_tup, vf_tr_lst, vf_lenT, vf_lenL, vf_abs, vf_int, vf_tupL, vf_tupT, vf_lstL, vf_lstT, vf_gcd, vf_ixL, vf_ixT, vf_ixS, vf_setL, vf_appL, vf_neg, vf_ow, vf_mkT, vf_mkF, vf_part, vf_revL, vf_revT, vf_is_int_int, vf_is_bl_int, vf_is_str_int, vf_is_tup_int, vf_is_lst_int, vf_is_scr_int, vf_is_non_int, vf_is_int_bool, vf_is_bl_bool, vf_is_str_bool, vf_is_tup_bool, vf_is_lst_bool, vf_is_scr_bool, vf_is_non_bool, vf_is_int_str, vf_is_bl_str, vf_is_str_str, vf_is_tup_str, vf_is_lst_str, vf_is_scr_str, vf_is_non_str, vf_is_int_tuple, vf_is_bl_tuple, vf_is_str_tuple, vf_is_tup_tuple, vf_is_lst_tuple, vf_is_scr_tuple, vf_is_non_tuple, vf_is_int_list, vf_is_bl_list, vf_is_str_list, vf_is_tup_list, vf_is_lst_list, vf_is_scr_list, vf_is_non_list, vf_eqI, vf_neI, vf_eqB, Option.map_some, Option.bind_some, List.map_cons, List.map_nil, Nat.reduceAdd, Nat.reducePow, Int.reducePow, hPow18, Int.reduceMul, Int.reduceSub, Int.reduceFDiv, Int.reduceFMod, Nat.reduceLT, Nat.reduceLeDiff, Nat.reduceSub, Int.reduceLE, Int.reduceLT, Int.reduceNeg, Int.reduceAdd, Int.reduceToNat, Int.reduceEq, Int.ofNat_eq_coe, ↓reduceIte, reduceCtorEq, decide_true, decide_false, Int.cast_ofNat_Int, and_true, true_and, Bool.not_true, Bool.not_false, w_cond, wipeR, bindT, backR, Option.getD_some, stab17, cm, giveR, c2, c1, c1', Bool.and_self]
            · have c1' : ¬ ((Nat.gcd p.natAbs r.natAbs : Nat) : Int) = 1 := by omega
              simp only [↓w_bvar, ↓w_bnv, ↓w_var, ↓w_non, ↓w_bl, ↓w_int, ↓w_str, ↓w_val, ↓w_one, ↓w_bin, ↓w_neg, ↓w_test, ↓w_not, ↓w_and, ↓w_or, ↓w_ife, ↓w_cmp, ↓w_chain, ↓w_call, ↓w_bi, ↓w_isi, ↓w_isis, ↓w_ix, ↓w_sl, ↓w_rev, ↓w_tup, ↓w_lst, ↓w_snil, ↓w_scons, ↓w_bnil, ↓w_bcons, ↓w_anil, ↓w_aconsN, ↓w_aconsF, ↓w_aconsT, ↓w_prnop, ↓w_pr, ↓w_nil, ↓w_cons, ↓w_put, ↓w_asgN, ↓w_asgT, ↓w_par, ↓w_ifs, ↓w_ret, ↓w_retn, ↓w_raise, ↓w_brk, ↓w_cont, ↓w_expr, ↓w_seti, ↓w_turn, ↓w_cnop, ↓w_cond, ↓w_lc, ↓w_forF, iv_non, iv_bl, iv_int, np_int, iv_str, iv_glob, iv_bin, np_bin, iv_neg, np_neg, iv_not, iv_and, iv_or, iv_one, iv_ife, np_ife, iv_cmp, iv_chain, iv_call, np_call, iv_bi, np_bi, iv_isi, iv_isis, iv_ix, np_ix, iv_sl, iv_rev, iv_tup, iv_lst, iv_lc, iv_disp, iv_get, iv_lcK, iv_val, np_var, np_cmp, np_chain, np_not, np_and, np_or, np_isi, np_isis, np_one, Rw_got, Ov_some, Ob_true, Ob_false, rdB, rdV, Rw_got, List.getElem?_cons_zero, List.getElem?_cons_succ, List.set_cons_zero, List.set_cons_succ, List.length_cons, List.length_nil, List.length_set, at0, at1, at2, at3, ix0, ix1, ix2, ix3, vf_add, vf_sub, vf_mul, vf_fdiv, vf_mod, vf_pow, vf_addT, vf_addL, vf_lt, vf_le, vf_gt, vf_ge, vf_lt2, vf_le2, vf_gt2, vf_ge2, vf_isN, vf_notN, vf_nn_int, vf_nn_bl, vf_nn_tup, vf_nn_lst, vf_nn_str, vf_nn_non, vf_tr_bl, vf_tr_int, vf_tr_non, vf_tr_tup, vf_tr_lst, vf_lenT, vf_lenL, vf_abs, vf_int, vf_tupL, vf_tupT, vf_lstL, vf_lstT, vf_gcd, vf_ixL, vf_ixT, vf_ixS, vf_setL, vf_appL, vf_neg, vf_ow, vf_mkT, vf_mkF, vf_part, vf_revL, vf_revT, vf_is_int_int, vf_is_bl_int, vf_is_str_int, vf_is_tup_int, vf_is_lst_int, vf_is_scr_int, vf_is_non_int, vf_is_int_bool, vf_is_bl_bool, vf_is_str_bool, vf_is_tup_bool, vf_is_lst_bool, vf_is_scr_bool, vf_is_non_bool, vf_is_int_str, vf_is_bl_str, vf_is_str_str, vf_is_tup_str, vf_is_lst_str, vf_is_scr_str, vf_is_non_str, vf_is_int_tuple, vf_is_bl_tuple, vf_is_str_tuple, vf_is_tup_tuple, vf_is_lst_tuple, vf_is_scr_tuple, vf_is_non_tuple, vf_is_int_list, vf_is_bl_list, vf_is_str_list, vf_is_tup_list, vf_is_lst_list, vf_is_scr_list, vf_is_non_list, vf_eqI, vf_neI, vf_eqB, Option.map_some, Option.bind_some, List.map_cons, List.map_nil, Nat.reduceAdd, Nat.reducePow, Int.reducePow, hPow18, Int.reduceMul, Int.reduceSub, Int.reduceFDiv, Int.reduceFMod, Nat.reduceLT, Nat.reduceLeDiff, Nat.reduceSub, Int.reduceLE, Int.reduceLT, Int.reduceNeg, Int.reduceAdd, Int.reduceToNat, Int.reduceEq, Int.ofNat_eq_coe, ↓reduceIte, reduceCtorEq, decide_true, decide_false, Int.cast_ofNat_Int, and_true, true_and, Bool.not_true, Bool.not_false, w_cond, wipeR, bindT, backR, Option.getD_some, stab17, cm, giveR, c2, c1, c1', Bool.and_false, Bool.false_eq_true]
          · simp only [↓w_bvar, ↓w_bnv, ↓w_var, ↓w_non, ↓w_bl, ↓w_int, ↓w_str, ↓w_val, ↓w_one, ↓w_bin, ↓w_neg, ↓w_test, ↓w_not, ↓w_and, ↓w_or, ↓w_ife, ↓w_cmp, ↓w_chain, ↓w_call, ↓w_bi, ↓w_isi, ↓w_isis, ↓w_ix, ↓w_sl, ↓w_rev, ↓w_tup, ↓w_lst, ↓w_snil, ↓w_scons, ↓w_bnil, ↓w_bcons, ↓w_anil, ↓w_aconsN, ↓w_aconsF, ↓w_aconsT, ↓w_prnop, ↓w_pr, ↓w_nil, ↓w_cons, ↓w_put, ↓w_asgN, ↓w_asgT, ↓w_par, ↓w_ifs, ↓w_ret, ↓w_retn, ↓w_raise, ↓w_brk, ↓w_cont, ↓w_expr, ↓w_seti, ↓w_turn, ↓w_cnop, ↓w_cond, ↓w_lc, ↓w_forF, iv_non, iv_bl, iv_int, np_int, iv_str, iv_glob, iv_bin, np_bin, iv_neg, np_neg, iv_not, iv_and, iv_or, iv_one, iv_ife, np_ife, iv_cmp, iv_chain, iv_call, np_call, iv_bi, np_bi, iv_isi, iv_isis, iv_ix, np_ix, iv_sl, iv_rev, iv_tup, iv_lst, iv_lc, iv_disp, iv_get, iv_lcK, iv_val, np_var, np_cmp, np_chain, np_not, np_and, np_or, np_isi, np_isis, np_one, Rw_got, Ov_some, Ob_true, Ob_false, rdB, rdV, Rw_got, List.getElem?_cons_zero, List.getElem?_cons_succ, List.set_cons_zero, List.set_cons_succ, List.length_cons, List.length_nil, List.length_set, at0, at1, at2, at3, ix0, ix1, ix2, ix3, vf_add, vf_sub, vf_mul, vf_fdiv, vf_mod, vf_pow, vf_addT, vf_addL, vf_lt, vf_le, vf_gt, vf_ge, vf_lt2, vf_le2, vf_gt2, vf_ge2, vf_isN, vf_notN, vf_nn_int, vf_nn_bl, vf_nn_tup, vf_nn_lst, vf_nn_str, vf_nn_non, vf_tr_bl, vf_tr_int, vf_tr_non, vf_tr_tup, vf_tr_lst, vf_lenT, vf_lenL, vf_abs, vf_int, vf_tupL, vf_tupT, vf_lstL, vf_lstT, vf_gcd, vf_ixL, vf_ixT, vf_ixS, vf_setL, vf_appL, vf_neg, vf_ow, vf_mkT, vf_mkF, vf_part, vf_revL, vf_revT, vf_is_int_int, vf_is_bl_int, vf_is_str_int, vf_is_tup_int, vf_is_lst_int, vf_is_scr_int, vf_is_non_int, vf_is_int_bool, vf_is_bl_bool, vf_is_str_bool, vf_is_tup_bool, vf_is_lst_bool, vf_is_scr_bool, vf_is_non_bool, vf_is_int_str, vf_is_bl_str, vf_is_str_str, vf_is_tup_str, vf_is_lst_str, vf_is_scr_str, vf_is_non_str, vf_is_int_tuple, vf_is_bl_tuple, vf_is_str_tuple, vf_is_tup_tuple, vf_is_lst_tuple, vf_is_scr_tuple, vf_is_non_tuple, vf_is_int_list, vf_is_bl_list, vf_is_str_list, vf_is_tup_list, vf_is_lst_list, vf_is_scr_list, vf_is_non_list, vf_eqI, vf_neI, vf_eqB, Option.map_some, Option.bind_some, List.map_cons, List.map_nil, Nat.reduceAdd, Nat.reducePow, Int.reducePow, hPow18, Int.reduceMul, Int.reduceSub, Int.reduceFDiv, Int.reduceFMod, Nat.reduceLT, Nat.reduceLeDiff, Nat.reduceSub, Int.reduceLE, Int.reduceLT, Int.reduceNeg, Int.reduceAdd, Int.reduceToNat, Int.reduceEq, Int.ofNat_eq_coe, ↓reduceIte, reduceCtorEq, decide_true, decide_false, Int.cast_ofNat_Int, and_true, true_and, Bool.not_true, Bool.not_false, w_cond, wipeR, bindT, backR, Option.getD_some, c2, Bool.false_and, Bool.false_eq_true]
        · have hmem : ∀ x ∈ (rngL (1 - p) (p - (1 - p)).toNat).filter (fun x => match x with | .int r => decide ((p + r).fmod 2 = 1) && decide (Nat.gcd p.natAbs r.natAbs = 1) | _ => false), ∃ r, x = .int r ∧ Valid p r := fun x hx => by
            obtain ⟨hx1, hx2⟩ := List.mem_filter.mp hx
            obtain ⟨r, rfl, q1, q2⟩ := mem_rngL hx1
            simp only [Bool.and_eq_true, decide_eq_true_eq] at hx2
            exact ⟨r, rfl, by omega, by omega, by omega, hx2.2, hx2.1⟩
          have hne : (rngL (1 - p) (p - (1 - p)).toNat).filter (fun x => match x with | .int r => decide ((p + r).fmod 2 = 1) && decide (Nat.gcd p.natAbs r.natAbs = 1) | _ => false) ≠ [] := by
            intro hz
            obtain ⟨r, r1, r2, r3, r4⟩ : ∃ r : Int, 1 - p ≤ r ∧ r < p ∧ (p + r).fmod 2 = 1 ∧ Nat.gcd p.natAbs r.natAbs = 1 := by
              by_cases hpar : p % 2 = 0
              · exact ⟨1, by omega, by omega, by rw [Int.fmod_eq_emod_of_nonneg _ (by decide)]; omega, by simp⟩
              · refine ⟨1 - p, by omega, by omega, by rw [Int.fmod_eq_emod_of_nonneg _ (by decide)]; omega, gcd_less (by omega) (by omega) (by simp)⟩
            have : Val.int r ∈ (rngL (1 - p) (p - (1 - p)).toNat).filter (fun x => match x with | .int r => decide ((p + r).fmod 2 = 1) && decide (Nat.gcd p.natAbs r.natAbs = 1) | _ => false) := List.mem_filter.mpr ⟨rngL_mem (by omega) (by omega), by simp only [Bool.and_eq_true, decide_eq_true_eq]; exact ⟨r3, r4⟩⟩
            rw [hz] at this
            cases this
          have hl2 := hlt (fun x => match x with | .int r => decide ((p + r).fmod 2 = 1) && decide (Nat.gcd p.natAbs r.natAbs = 1) | _ => false)
          generalize (rngL (1 - p) (p - (1 - p)).toNat).filter (fun x => match x with | .int r => decide ((p + r).fmod 2 = 1) && decide (Nat.gcd p.natAbs r.natAbs = 1) | _ => false) = L at hmem hl2 hne
          simp only [↓w_bvar, ↓w_bnv, ↓w_var, ↓w_non, ↓w_bl, ↓w_int, ↓w_str, ↓w_val, ↓w_one, ↓w_bin, ↓w_neg, ↓w_test, ↓w_not, ↓w_and, ↓w_or, ↓w_ife, ↓w_cmp, ↓w_chain, ↓w_call, ↓w_bi, ↓w_isi, ↓w_isis, ↓w_ix, ↓w_sl, ↓w_rev, ↓w_tup, ↓w_lst, ↓w_snil, ↓w_scons, ↓w_bnil, ↓w_bcons, ↓w_anil, ↓w_aconsN, ↓w_aconsF, ↓w_aconsT, ↓w_prnop, ↓w_pr, ↓w_nil, ↓w_cons, ↓w_put, ↓w_asgN, ↓w_asgT, ↓w_par, ↓w_ifs, ↓w_ret, ↓w_retn, ↓w_raise, ↓w_brk, ↓w_cont, ↓w_expr, ↓w_seti, ↓w_turn, ↓w_cnop, ↓w_cond, ↓w_lc, ↓w_forF, iv_non, iv_bl, iv_int, np_int, iv_str, iv_glob, iv_bin, np_bin, iv_neg, np_neg, iv_not, iv_and, iv_or, iv_one, iv_ife, np_ife, iv_cmp, iv_chain, iv_call, np_call, iv_bi, np_bi, iv_isi, iv_isis, iv_ix, np_ix, iv_sl, iv_rev, iv_tup, iv_lst, iv_lc, iv_disp, iv_get, iv_lcK, iv_val, np_var, np_cmp, np_chain, np_not, np_and, np_or, np_isi, np_isis, np_one, Rw_got, Ov_some, Ob_true, Ob_false, rdB, rdV, Rw_got, List.getElem?_cons_zero, List.getElem?_cons_succ, List.set_cons_zero, List.set_cons_succ, List.length_cons, List.length_nil, List.length_set, at0, at1, at2, at3, ix0, ix1, ix2, ix3, vf_add, vf_sub, vf_mul, vf_fdiv, vf_mod, vf_pow, vf_addT, vf_addL, vf_lt, vf_le, vf_gt, vf_ge, vf_lt2, vf_le2, vf_gt2, vf_ge2, vf_isN, vf_notN, vf_nn_int, vf_nn_bl, vf_nn_tup, vf_nn_lst, vf_nn_str, vf_nn_non, vf_tr_bl, vf_tr_int, vf_tr_non, vf_tr_tup, vf_tr_lst, vf_lenT, vf_lenL, vf_abs, vf_int, vf_tupL, vf_tupT, vf_lstL, vf_lstT, vf_gcd, vf_ixL, vf_ixT, vf_ixS, vf_setL, vf_appL, vf_neg, vf_ow, vf_mkT, vf_mkF, vf_part, vf_revL, vf_revT, vf_is_int_int, vf_is_bl_int, vf_is_str_int, vf_is_tup_int, vf_is_lst_int, vf_is_scr_int, vf_is_non_int, vf_is_int_bool, vf_is_bl_bool, vf_is_str_bool, vf_is_tup_bool, vf_is_lst_bool, vf_is_scr_bool, vf_is_non_bool, vf_is_int_str, vf_is_bl_str, vf_is_str_str, vf_is_tup_str, vf_is_lst_str, vf_is_scr_str, vf_is_non_str, vf_is_int_tuple, vf_is_bl_tuple, vf_is_str_tuple, vf_is_tup_tuple, vf_is_lst_tuple, vf_is_scr_tuple, vf_is_non_tuple, vf_is_int_list, vf_is_bl_list, vf_is_str_list, vf_is_tup_list, vf_is_lst_list, vf_is_scr_list, vf_is_non_list, vf_eqI, vf_neI, vf_eqB, Option.map_some, Option.bind_some, List.map_cons, List.map_nil, Nat.reduceAdd, Nat.reducePow, Int.reducePow, hPow18, Int.reduceMul, Int.reduceSub, Int.reduceFDiv, Int.reduceFMod, Nat.reduceLT, Nat.reduceLeDiff, Nat.reduceSub, Int.reduceLE, Int.reduceLT, Int.reduceNeg, Int.reduceAdd, Int.reduceToNat, Int.reduceEq, Int.ofNat_eq_coe, ↓reduceIte, reduceCtorEq, decide_true, decide_false, Int.cast_ofNat_Int, and_true, true_and, Bool.not_true, Bool.not_false, stab2]
          refine Rw_mono (pick_okO (d := d + 3) hv hne hl2) ?_ fun _ _ z => z
          rintro z ⟨x, mx, v1, rfl, hv1⟩
          obtain ⟨r, rfl, hr⟩ := hmem x mx
          simp only [↓w_bvar, ↓w_bnv, ↓w_var, ↓w_non, ↓w_bl, ↓w_int, ↓w_str, ↓w_val, ↓w_one, ↓w_bin, ↓w_neg, ↓w_test, ↓w_not, ↓w_and, ↓w_or, ↓w_ife, ↓w_cmp, ↓w_chain, ↓w_call, ↓w_bi, ↓w_isi, ↓w_isis, ↓w_ix, ↓w_sl, ↓w_rev, ↓w_tup, ↓w_lst, ↓w_snil, ↓w_scons, ↓w_bnil, ↓w_bcons, ↓w_anil, ↓w_aconsN, ↓w_aconsF, ↓w_aconsT, ↓w_prnop, ↓w_pr, ↓w_nil, ↓w_cons, ↓w_put, ↓w_asgN, ↓w_asgT, ↓w_par, ↓w_ifs, ↓w_ret, ↓w_retn, ↓w_raise, ↓w_brk, ↓w_cont, ↓w_expr, ↓w_seti, ↓w_turn, ↓w_cnop, ↓w_cond, ↓w_lc, ↓w_forF, iv_non, iv_bl, iv_int, np_int, iv_str, iv_glob, iv_bin, np_bin, iv_neg, np_neg, iv_not, iv_and, iv_or, iv_one, iv_ife, np_ife, iv_cmp, iv_chain, iv_call, np_call, iv_bi, np_bi, iv_isi, iv_isis, iv_ix, np_ix, iv_sl, iv_rev, iv_tup, iv_lst, iv_lc, iv_disp, iv_get, iv_lcK, iv_val, np_var, np_cmp, np_chain, np_not, np_and, np_or, np_isi, np_isis, np_one, Rw_got, Ov_some, Ob_true, Ob_false, rdB, rdV, Rw_got, List.getElem?_cons_zero, List.getElem?_cons_succ, List.set_cons_zero, List.set_cons_succ, List.length_cons, List.length_nil, List.length_set, at0, at1, at2, at3, ix0, ix1, ix2, ix3, vf_add, vf_sub, vf_mul, vf_fdiv, vf_mod, vf_pow, vf_addT, vf_addL, vf_lt, vf_le, vf_gt, vf_ge, vf_lt2, vf_le2, vf_gt2, vf_ge2, vf_isN, vf_notN, vf_nn_int, vf_nn_bl, vf_nn_tup, vf_nn_lst, vf_nn_str, vf_nn_non, vf_tr_bl, vf_tr_int, vf_tr_non, vf_tr_tup, vf_tr_lst, vf_lenT, vf_lenL, vf_abs, vf_int, vf_tupL, vf_tupT, vf_lstL, vf_lstT, vf_gcd, vf_ixL, vf_ixT, vf_ixS, vf_setL, vf_appL, vf_neg, vf_ow, vf_mkT, vf_mkF, vf_part, vf_revL, vf_revT, vf_is_int_int, vf_is_bl_int, vf_is_str_int, vf_is_tup_int, vf_is_lst_int, vf_is_scr_int, vf_is_non_int, vf_is_int_bool, vf_is_bl_bool, vf_is_str_bool, vf_is_tup_bool, vf_is_lst_bool, vf_is_scr_bool, vf_is_non_bool, vf_is_int_str, vf_is_bl_str, vf_is_str_str, vf_is_tup_str, vf_is_lst_str, vf_is_scr_str, vf_is_non_str, vf_is_int_tuple, vf_is_bl_tuple, vf_is_str_tuple, vf_is_tup_tuple, vf_is_lst_tuple, vf_is_scr_tuple, vf_is_non_tuple, vf_is_int_list, vf_is_bl_list, vf_is_str_list, vf_is_tup_list, vf_is_lst_list, vf_is_scr_list, vf_is_non_list, vf_eqI, vf_neI, vf_eqB, Option.map_some, Option.bind_some, List.map_cons, List.map_nil, Nat.reduceAdd, Nat.reducePow, Int.reducePow, hPow18, Int.reduceMul, Int.reduceSub, Int.reduceFDiv, Int.reduceFMod, Nat.reduceLT, Nat.reduceLeDiff, Nat.reduceSub, Int.reduceLE, Int.reduceLT, Int.reduceNeg, Int.reduceAdd, Int.reduceToNat, Int.reduceEq, Int.ofNat_eq_coe, ↓reduceIte, reduceCtorEq, decide_true, decide_false, Int.cast_ofNat_Int, and_true, true_and, Bool.not_true, Bool.not_false, giveR]
          subst k2
          exact ⟨by decide, hk _ _ _ _ _ _ hv1 hr⟩
      · simp only [↓w_bvar, ↓w_bnv, ↓w_var, ↓w_non, ↓w_bl, ↓w_int, ↓w_str, ↓w_val, ↓w_one, ↓w_bin, ↓w_neg, ↓w_test, ↓w_not, ↓w_and, ↓w_or, ↓w_ife, ↓w_cmp, ↓w_chain, ↓w_call, ↓w_bi, ↓w_isi, ↓w_isis, ↓w_ix, ↓w_sl, ↓w_rev, ↓w_tup, ↓w_lst, ↓w_snil, ↓w_scons, ↓w_bnil, ↓w_bcons, ↓w_anil, ↓w_aconsN, ↓w_aconsF, ↓w_aconsT, ↓w_prnop, ↓w_pr, ↓w_nil, ↓w_cons, ↓w_put, ↓w_asgN, ↓w_asgT, ↓w_par, ↓w_ifs, ↓w_ret, ↓w_retn, ↓w_raise, ↓w_brk, ↓w_cont, ↓w_expr, ↓w_seti, ↓w_turn, ↓w_cnop, ↓w_cond, ↓w_lc, ↓w_forF, iv_non, iv_bl, iv_int, np_int, iv_str, iv_glob, iv_bin, np_bin, iv_neg, np_neg, iv_not, iv_and, iv_or, iv_one, iv_ife, np_ife, iv_cmp, iv_chain, iv_call, np_call, iv_bi, np_bi, iv_isi, iv_isis, iv_ix, np_ix, iv_sl, iv_rev, iv_tup, iv_lst, iv_lc, iv_disp, iv_get, iv_lcK, iv_val, np_var, np_cmp, np_chain, np_not, np_and, np_or, np_isi, np_isis, np_one, Rw_got, Ov_some, Ob_true, Ob_false, rdB, rdV, Rw_got, List.getElem?_cons_zero, List.getElem?_cons_succ, List.set_cons_zero, List.set_cons_succ, List.length_cons, List.length_nil, List.length_set, at0, at1, at2, at3, ix0, ix1, ix2, ix3, vf_add, vf_sub, vf_mul, vf_fdiv, vf_mod, vf_pow, vf_addT, vf_addL, vf_lt, vf_le, vf_gt, vf_ge, vf_lt2, vf_le2, vf_gt2, vf_ge2, vf_isN, vf_notN, vf_nn_int, vf_nn_bl, vf_nn_tup, vf_nn_lst, vf_nn_str, vf_nn_non, vf_tr_bl, vf_tr_int, vf_tr_non, vf_tr_tup, vf_tr_lst, vf_lenT, vf_lenL, vf_abs, vf_int, vf_tupL, vf_tupT, vf_lstL, vf_lstT, vf_gcd, vf_ixL, vf_ixT, vf_ixS, vf_setL, vf_appL, vf_neg, vf_ow, vf_mkT, vf_mkF, vf_part, vf_revL, vf_revT, vf_is_int_int, vf_is_bl_int, vf_is_str_int, vf_is_tup_int, vf_is_lst_int, vf_is_scr_int, vf_is_non_int, vf_is_int_bool, vf_is_bl_bool, vf_is_str_bool, vf_is_tup_bool, vf_is_lst_bool, vf_is_scr_bool, vf_is_non_bool, vf_is_int_str, vf_is_bl_str, vf_is_str_str, vf_is_tup_str, vf_is_lst_str, vf_is_scr_str, vf_is_non_str, vf_is_int_tuple, vf_is_bl_tuple, vf_is_str_tuple, vf_is_tup_tuple, vf_is_lst_tuple, vf_is_scr_tuple, vf_is_non_tuple, vf_is_int_list, vf_is_bl_list, vf_is_str_list, vf_is_tup_list, vf_is_lst_list, vf_is_scr_list, vf_is_non_list, vf_eqI, vf_neI, vf_eqB, Option.map_some, Option.bind_some, List.map_cons, List.map_nil, Nat.reduceAdd, Nat.reducePow, Int.reducePow, hPow18, Int.reduceMul, Int.reduceSub, Int.reduceFDiv, Int.reduceFMod, Nat.reduceLT, Nat.reduceLeDiff, Nat.reduceSub, Int.reduceLE, Int.reduceLT, Int.reduceNeg, Int.reduceAdd, Int.reduceToNat, Int.reduceEq, Int.ofNat_eq_coe, ↓reduceIte, reduceCtorEq, decide_true, decide_false, Int.cast_ofNat_Int, and_true, true_and, Bool.not_true, Bool.not_false, k0, k1, k2]
        exact hk _ _ _ _ _ _ hv hV'
theorem turn_ok {d : Nat} {sc : Val} {ρ : Ro} {k : En} (hi : LI sc ρ) (hk : ∀ ρ', LI sc ρ' → k.nx ρ') : Ow (evSs ⟨D.prg.den (d + 6), D.prg.stab, D.prg.gl⟩ D.prg.sub bodyT ρ) { k with ex := NX } := by
  obtain ⟨v, t2, t3, t4, t5, t6, t7, t8, t9, t10, t11, rfl, hv⟩ := hi
  have hb : bodyT = _ :: _ :: _ :: _ :: _ :: [_] := rfl
  obtain ⟨ct, hct⟩ : ∃ ct, bodyT[4]? = some ct := ⟨_, rfl⟩
  have tif := fun v' t2 t4 t5 p e kd p' e' t10 t11 hv hp hp2 hV hV' => turn_if (d := d) (sc := .fz sc) (v := .no) (t2 := t2) (t7 := .no) (t9 := .no) (t10 := t10) (t11 := t11) (t4 := t4) (t5 := t5) (vp := v') (p := p) (e := e) (kd := kd) (p' := p') (e' := e') (k := k) hv hp hp2 hV hV' (I := fun ρ => ∃ v' t9 t10 t11 p' e', ρ = [.fz sc, .ow v', t2, .fz (.int p), t4, t5, .fz (.tup [.int p, .int e]), .fz (.int kd), .fz (.tup [.int p', .int e']), t9, t10, t11] ∧ PoolOk v' ∧ Valid p' e') (fun v' t9 t10 t11 p' e' h1 h2 => ⟨v', t9, t10, t11, p', e', rfl, h1, h2⟩) hct
  simp only [bodyT, g_law, List.getElem?_cons_succ, List.getElem?_cons_zero, Option.some.injEq] at hct
  simp only [bodyT, g_law]
  rw [hct]
  clear hb hct
  rw [w_cons]
  simp only [↓w_bvar, ↓w_bnv, ↓w_var, ↓w_non, ↓w_bl, ↓w_int, ↓w_str, ↓w_val, ↓w_one, ↓w_bin, ↓w_neg, ↓w_test, ↓w_not, ↓w_and, ↓w_or, ↓w_ife, ↓w_cmp, ↓w_chain, ↓w_call, ↓w_bi, ↓w_isi, ↓w_isis, ↓w_ix, ↓w_sl, ↓w_rev, ↓w_tup, ↓w_lst, ↓w_snil, ↓w_scons, ↓w_bnil, ↓w_bcons, ↓w_anil, ↓w_aconsN, ↓w_aconsF, ↓w_aconsT, ↓w_prnop, ↓w_pr, ↓w_put, ↓w_asgN, ↓w_asgT, ↓w_par, ↓w_ifs, ↓w_ret, ↓w_retn, ↓w_raise, ↓w_brk, ↓w_cont, ↓w_expr, ↓w_seti, ↓w_turn, ↓w_cnop, ↓w_cond, ↓w_lc, ↓w_forF, iv_non, iv_bl, iv_int, np_int, iv_str, iv_glob, iv_bin, np_bin, iv_neg, np_neg, iv_not, iv_and, iv_or, iv_one, iv_ife, np_ife, iv_cmp, iv_chain, iv_call, np_call, iv_bi, np_bi, iv_isi, iv_isis, iv_ix, np_ix, iv_sl, iv_rev, iv_tup, iv_lst, iv_lc, iv_disp, iv_get, iv_lcK, iv_val, np_var, np_cmp, np_chain, np_not, np_and, np_or, np_isi, np_isis, np_one, Rw_got, Ov_some, Ob_true, Ob_false, rdB, rdV, Rw_got, List.getElem?_cons_zero, List.getElem?_cons_succ, List.set_cons_zero, List.set_cons_succ, List.length_cons, List.length_nil, List.length_set, at0, at1, at2, at3, ix0, ix1, ix2, ix3, vf_add, vf_sub, vf_mul, vf_fdiv, vf_mod, vf_pow, vf_addT, vf_addL, vf_lt, vf_le, vf_gt, vf_ge, vf_lt2, vf_le2, vf_gt2, vf_ge2, vf_isN, vf_notN, vf_nn_int, vf_nn_bl, vf_nn_tup, vf_nn_lst, vf_nn_str, vf_nn_non, vf_tr_bl, vf_tr_int, vf_tr_non, vf_tr_tup, vf_tr_lst, vf_lenT, vf_lenL, vf_abs, vf_int, vf_tupL, vf_tupT, vf_lstL, vf_lstT, vf_gcd, vf_ixL, vf_ixT, vf_ixS, vf_setL, vf_appL, vf_neg, vf_ow, vf_mkT, vf_mkF, vf_part, vf_revL, vf_revT, vf_is_int_int, vf_is_bl_int, vf_is_str_int, vf_is_tup_int, vf_is_lst_int, vf_is_scr_int, vf_is_non_int, vf_is_int_bool, vf_is_bl_bool, vf_is_str_bool, vf_is_tup_bool, vf_is_lst_bool, vf_is_scr_bool, vf_is_non_bool, vf_is_int_str, vf_is_bl_str, vf_is_str_str, vf_is_tup_str, vf_is_lst_str, vf_is_scr_str, vf_is_non_str, vf_is_int_tuple, vf_is_bl_tuple, vf_is_str_tuple, vf_is_tup_tuple, vf_is_lst_tuple, vf_is_scr_tuple, vf_is_non_tuple, vf_is_int_list, vf_is_bl_list, vf_is_str_list, vf_is_tup_list, vf_is_lst_list, vf_is_scr_list, vf_is_non_list, vf_eqI, vf_neI, vf_eqB, Option.map_some, Option.bind_some, List.map_cons, List.map_nil, Nat.reduceAdd, Nat.reducePow, Int.reducePow, hPow18, Int.reduceMul, Int.reduceSub, Int.reduceFDiv, Int.reduceFMod, Nat.reduceLT, Nat.reduceLeDiff, Nat.reduceSub, Int.reduceLE, Int.reduceLT, Int.reduceNeg, Int.reduceAdd, Int.reduceToNat, Int.reduceEq, Int.ofNat_eq_coe, ↓reduceIte, reduceCtorEq, decide_true, decide_false, Int.cast_ofNat_Int, and_true, true_and, Bool.not_true, Bool.not_false, stab19, stab2]
  refine ⟨by decide, pick_sub (d := d + 3) hv (by simp) (by simp) fun x mx v1 hv1 => ?_⟩
  have hmost : ∃ m : Int, x = .int m ∧ 2 ≤ m ∧ m ≤ 1000 := by
    simp only [List.mem_cons, List.not_mem_nil, _root_.or_false] at mx
    rcases mx with rfl | rfl | rfl <;> exact ⟨_, rfl, by decide, by decide⟩
  obtain ⟨m, rfl, m1, m2⟩ := hmost
  simp only [↓w_bvar, ↓w_bnv, ↓w_var, ↓w_non, ↓w_bl, ↓w_int, ↓w_str, ↓w_val, ↓w_one, ↓w_bin, ↓w_neg, ↓w_test, ↓w_not, ↓w_and, ↓w_or, ↓w_ife, ↓w_cmp, ↓w_chain, ↓w_call, ↓w_bi, ↓w_isi, ↓w_isis, ↓w_ix, ↓w_sl, ↓w_rev, ↓w_tup, ↓w_lst, ↓w_snil, ↓w_scons, ↓w_bnil, ↓w_bcons, ↓w_anil, ↓w_aconsN, ↓w_aconsF, ↓w_aconsT, ↓w_prnop, ↓w_pr, ↓w_put, ↓w_asgN, ↓w_asgT, ↓w_par, ↓w_ifs, ↓w_ret, ↓w_retn, ↓w_raise, ↓w_brk, ↓w_cont, ↓w_expr, ↓w_seti, ↓w_turn, ↓w_cnop, ↓w_cond, ↓w_lc, ↓w_forF, iv_non, iv_bl, iv_int, np_int, iv_str, iv_glob, iv_bin, np_bin, iv_neg, np_neg, iv_not, iv_and, iv_or, iv_one, iv_ife, np_ife, iv_cmp, iv_chain, iv_call, np_call, iv_bi, np_bi, iv_isi, iv_isis, iv_ix, np_ix, iv_sl, iv_rev, iv_tup, iv_lst, iv_lc, iv_disp, iv_get, iv_lcK, iv_val, np_var, np_cmp, np_chain, np_not, np_and, np_or, np_isi, np_isis, np_one, Rw_got, Ov_some, Ob_true, Ob_false, rdB, rdV, Rw_got, List.getElem?_cons_zero, List.getElem?_cons_succ, List.set_cons_zero, List.set_cons_succ, List.length_cons, List.length_nil, List.length_set, at0, at1, at2, at3, ix0, ix1, ix2, ix3, vf_add, vf_sub, vf_mul, vf_fdiv, vf_mod, vf_pow, vf_addT, vf_addL, vf_lt, vf_le, vf_gt, vf_ge, vf_lt2, vf_le2, vf_gt2, vf_ge2, vf_isN, vf_notN, vf_nn_int, vf_nn_bl, vf_nn_tup, vf_nn_lst, vf_nn_str, vf_nn_non, vf_tr_bl, vf_tr_int, vf_tr_non, vf_tr_tup, vf_tr_lst, vf_lenT, vf_lenL, vf_abs, vf_int, vf_tupL, vf_tupT, vf_lstL, vf_lstT, vf_gcd, vf_ixL, vf_ixT, vf_ixS, vf_setL, vf_appL, vf_neg, vf_ow, vf_mkT, vf_mkF, vf_part, vf_revL, vf_revT, vf_is_int_int, vf_is_bl_int, vf_is_str_int, vf_is_tup_int, vf_is_lst_int, vf_is_scr_int, vf_is_non_int, vf_is_int_bool, vf_is_bl_bool, vf_is_str_bool, vf_is_tup_bool, vf_is_lst_bool, vf_is_scr_bool, vf_is_non_bool, vf_is_int_str, vf_is_bl_str, vf_is_str_str, vf_is_tup_str, vf_is_lst_str, vf_is_scr_str, vf_is_non_str, vf_is_int_tuple, vf_is_bl_tuple, vf_is_str_tuple, vf_is_tup_tuple, vf_is_lst_tuple, vf_is_scr_tuple, vf_is_non_tuple, vf_is_int_list, vf_is_bl_list, vf_is_str_list, vf_is_tup_list, vf_is_lst_list, vf_is_scr_list, vf_is_non_list, vf_eqI, vf_neI, vf_eqB, Option.map_some, Option.bind_some, List.map_cons, List.map_nil, Nat.reduceAdd, Nat.reducePow, Int.reducePow, hPow18, Int.reduceMul, Int.reduceSub, Int.reduceFDiv, Int.reduceFMod, Nat.reduceLT, Nat.reduceLeDiff, Nat.reduceSub, Int.reduceLE, Int.reduceLT, Int.reduceNeg, Int.reduceAdd, Int.reduceToNat, Int.reduceEq, Int.ofNat_eq_coe, ↓reduceIte, reduceCtorEq, decide_true, decide_false, Int.cast_ofNat_Int, and_true, true_and, Bool.not_true, Bool.not_false, giveR]
  refine signed_sub (d := d + 1) hv1 m1 m2 fun p e v2 hv2 p1 p2 hV => ?_
  simp only [↓w_bvar, ↓w_bnv, ↓w_var, ↓w_non, ↓w_bl, ↓w_int, ↓w_str, ↓w_val, ↓w_one, ↓w_bin, ↓w_neg, ↓w_test, ↓w_not, ↓w_and, ↓w_or, ↓w_ife, ↓w_cmp, ↓w_chain, ↓w_call, ↓w_bi, ↓w_isi, ↓w_isis, ↓w_ix, ↓w_sl, ↓w_rev, ↓w_tup, ↓w_lst, ↓w_snil, ↓w_scons, ↓w_bnil, ↓w_bcons, ↓w_anil, ↓w_aconsN, ↓w_aconsF, ↓w_aconsT, ↓w_prnop, ↓w_pr, ↓w_put, ↓w_asgN, ↓w_asgT, ↓w_par, ↓w_ifs, ↓w_ret, ↓w_retn, ↓w_raise, ↓w_brk, ↓w_cont, ↓w_expr, ↓w_seti, ↓w_turn, ↓w_cnop, ↓w_cond, ↓w_lc, ↓w_forF, iv_non, iv_bl, iv_int, np_int, iv_str, iv_glob, iv_bin, np_bin, iv_neg, np_neg, iv_not, iv_and, iv_or, iv_one, iv_ife, np_ife, iv_cmp, iv_chain, iv_call, np_call, iv_bi, np_bi, iv_isi, iv_isis, iv_ix, np_ix, iv_sl, iv_rev, iv_tup, iv_lst, iv_lc, iv_disp, iv_get, iv_lcK, iv_val, np_var, np_cmp, np_chain, np_not, np_and, np_or, np_isi, np_isis, np_one, Rw_got, Ov_some, Ob_true, Ob_false, rdB, rdV, Rw_got, List.getElem?_cons_zero, List.getElem?_cons_succ, List.set_cons_zero, List.set_cons_succ, List.length_cons, List.length_nil, List.length_set, at0, at1, at2, at3, ix0, ix1, ix2, ix3, vf_add, vf_sub, vf_mul, vf_fdiv, vf_mod, vf_pow, vf_addT, vf_addL, vf_lt, vf_le, vf_gt, vf_ge, vf_lt2, vf_le2, vf_gt2, vf_ge2, vf_isN, vf_notN, vf_nn_int, vf_nn_bl, vf_nn_tup, vf_nn_lst, vf_nn_str, vf_nn_non, vf_tr_bl, vf_tr_int, vf_tr_non, vf_tr_tup, vf_tr_lst, vf_lenT, vf_lenL, vf_abs, vf_int, vf_tupL, vf_tupT, vf_lstL, vf_lstT, vf_gcd, vf_ixL, vf_ixT, vf_ixS, vf_setL, vf_appL, vf_neg, vf_ow, vf_mkT, vf_mkF, vf_part, vf_revL, vf_revT, vf_is_int_int, vf_is_bl_int, vf_is_str_int, vf_is_tup_int, vf_is_lst_int, vf_is_scr_int, vf_is_non_int, vf_is_int_bool, vf_is_bl_bool, vf_is_str_bool, vf_is_tup_bool, vf_is_lst_bool, vf_is_scr_bool, vf_is_non_bool, vf_is_int_str, vf_is_bl_str, vf_is_str_str, vf_is_tup_str, vf_is_lst_str, vf_is_scr_str, vf_is_non_str, vf_is_int_tuple, vf_is_bl_tuple, vf_is_str_tuple, vf_is_tup_tuple, vf_is_lst_tuple, vf_is_scr_tuple, vf_is_non_tuple, vf_is_int_list, vf_is_bl_list, vf_is_str_list, vf_is_tup_list, vf_is_lst_list, vf_is_scr_list, vf_is_non_list, vf_eqI, vf_neI, vf_eqB, Option.map_some, Option.bind_some, List.map_cons, List.map_nil, Nat.reduceAdd, Nat.reducePow, Int.reducePow, hPow18, Int.reduceMul, Int.reduceSub, Int.reduceFDiv, Int.reduceFMod, Nat.reduceLT, Nat.reduceLeDiff, Nat.reduceSub, Int.reduceLE, Int.reduceLT, Int.reduceNeg, Int.reduceAdd, Int.reduceToNat, Int.reduceEq, Int.ofNat_eq_coe, ↓reduceIte, reduceCtorEq, decide_true, decide_false, Int.cast_ofNat_Int, and_true, true_and, Bool.not_true, Bool.not_false, giveR]
  rw [w_cons]
  simp only [↓w_bvar, ↓w_bnv, ↓w_var, ↓w_non, ↓w_bl, ↓w_int, ↓w_str, ↓w_val, ↓w_one, ↓w_bin, ↓w_neg, ↓w_test, ↓w_not, ↓w_and, ↓w_or, ↓w_ife, ↓w_cmp, ↓w_chain, ↓w_call, ↓w_bi, ↓w_isi, ↓w_isis, ↓w_ix, ↓w_sl, ↓w_rev, ↓w_tup, ↓w_lst, ↓w_snil, ↓w_scons, ↓w_bnil, ↓w_bcons, ↓w_anil, ↓w_aconsN, ↓w_aconsF, ↓w_aconsT, ↓w_prnop, ↓w_pr, ↓w_put, ↓w_asgN, ↓w_asgT, ↓w_par, ↓w_ifs, ↓w_ret, ↓w_retn, ↓w_raise, ↓w_brk, ↓w_cont, ↓w_expr, ↓w_seti, ↓w_turn, ↓w_cnop, ↓w_cond, ↓w_lc, ↓w_forF, iv_non, iv_bl, iv_int, np_int, iv_str, iv_glob, iv_bin, np_bin, iv_neg, np_neg, iv_not, iv_and, iv_or, iv_one, iv_ife, np_ife, iv_cmp, iv_chain, iv_call, np_call, iv_bi, np_bi, iv_isi, iv_isis, iv_ix, np_ix, iv_sl, iv_rev, iv_tup, iv_lst, iv_lc, iv_disp, iv_get, iv_lcK, iv_val, np_var, np_cmp, np_chain, np_not, np_and, np_or, np_isi, np_isis, np_one, Rw_got, Ov_some, Ob_true, Ob_false, rdB, rdV, Rw_got, List.getElem?_cons_zero, List.getElem?_cons_succ, List.set_cons_zero, List.set_cons_succ, List.length_cons, List.length_nil, List.length_set, at0, at1, at2, at3, ix0, ix1, ix2, ix3, vf_add, vf_sub, vf_mul, vf_fdiv, vf_mod, vf_pow, vf_addT, vf_addL, vf_lt, vf_le, vf_gt, vf_ge, vf_lt2, vf_le2, vf_gt2, vf_ge2, vf_isN, vf_notN, vf_nn_int, vf_nn_bl, vf_nn_tup, vf_nn_lst, vf_nn_str, vf_nn_non, vf_tr_bl, vf_tr_int, vf_tr_non, vf_tr_tup, vf_tr_lst, vf_lenT, vf_lenL, vf_abs, vf_int, vf_tupL, vf_tupT, vf_lstL, vf_lstT, vf_gcd, vf_ixL, vf_ixT, vf_ixS, vf_setL, vf_appL, vf_neg, vf_ow, vf_mkT, vf_mkF, vf_part, vf_revL, vf_revT, vf_is_int_int, vf_is_bl_int, vf_is_str_int, vf_is_tup_int, vf_is_lst_int, vf_is_scr_int, vf_is_non_int, vf_is_int_bool, vf_is_bl_bool, vf_is_str_bool, vf_is_tup_bool, vf_is_lst_bool, vf_is_scr_bool, vf_is_non_bool, vf_is_int_str, vf_is_bl_str, vf_is_str_str, vf_is_tup_str, vf_is_lst_str, vf_is_scr_str, vf_is_non_str, vf_is_int_tuple, vf_is_bl_tuple, vf_is_str_tuple, vf_is_tup_tuple, vf_is_lst_tuple, vf_is_scr_tuple, vf_is_non_tuple, vf_is_int_list, vf_is_bl_list, vf_is_str_list, vf_is_tup_list, vf_is_lst_list, vf_is_scr_list, vf_is_non_list, vf_eqI, vf_neI, vf_eqB, Option.map_some, Option.bind_some, List.map_cons, List.map_nil, Nat.reduceAdd, Nat.reducePow, Int.reducePow, hPow18, Int.reduceMul, Int.reduceSub, Int.reduceFDiv, Int.reduceFMod, Nat.reduceLT, Nat.reduceLeDiff, Nat.reduceSub, Int.reduceLE, Int.reduceLT, Int.reduceNeg, Int.reduceAdd, Int.reduceToNat, Int.reduceEq, Int.ofNat_eq_coe, ↓reduceIte, reduceCtorEq, decide_true, decide_false, Int.cast_ofNat_Int, and_true, true_and, Bool.not_true, Bool.not_false, bindT, bindTs]
  rw [w_cons]
  simp only [↓w_bvar, ↓w_bnv, ↓w_var, ↓w_non, ↓w_bl, ↓w_int, ↓w_str, ↓w_val, ↓w_one, ↓w_bin, ↓w_neg, ↓w_test, ↓w_not, ↓w_and, ↓w_or, ↓w_ife, ↓w_cmp, ↓w_chain, ↓w_call, ↓w_bi, ↓w_isi, ↓w_isis, ↓w_ix, ↓w_sl, ↓w_rev, ↓w_tup, ↓w_lst, ↓w_snil, ↓w_scons, ↓w_bnil, ↓w_bcons, ↓w_anil, ↓w_aconsN, ↓w_aconsF, ↓w_aconsT, ↓w_prnop, ↓w_pr, ↓w_put, ↓w_asgN, ↓w_asgT, ↓w_par, ↓w_ifs, ↓w_ret, ↓w_retn, ↓w_raise, ↓w_brk, ↓w_cont, ↓w_expr, ↓w_seti, ↓w_turn, ↓w_cnop, ↓w_cond, ↓w_lc, ↓w_forF, iv_non, iv_bl, iv_int, np_int, iv_str, iv_glob, iv_bin, np_bin, iv_neg, np_neg, iv_not, iv_and, iv_or, iv_one, iv_ife, np_ife, iv_cmp, iv_chain, iv_call, np_call, iv_bi, np_bi, iv_isi, iv_isis, iv_ix, np_ix, iv_sl, iv_rev, iv_tup, iv_lst, iv_lc, iv_disp, iv_get, iv_lcK, iv_val, np_var, np_cmp, np_chain, np_not, np_and, np_or, np_isi, np_isis, np_one, Rw_got, Ov_some, Ob_true, Ob_false, rdB, rdV, Rw_got, List.getElem?_cons_zero, List.getElem?_cons_succ, List.set_cons_zero, List.set_cons_succ, List.length_cons, List.length_nil, List.length_set, at0, at1, at2, at3, ix0, ix1, ix2, ix3, vf_add, vf_sub, vf_mul, vf_fdiv, vf_mod, vf_pow, vf_addT, vf_addL, vf_lt, vf_le, vf_gt, vf_ge, vf_lt2, vf_le2, vf_gt2, vf_ge2, vf_isN, vf_notN, vf_nn_int, vf_nn_bl, vf_nn_tup, vf_nn_lst, vf_nn_str, vf_nn_non, vf_tr_bl, vf_tr_int, vf_tr_non, vf_tr_tup, vf_tr_lst, vf_lenT, vf_lenL, vf_abs, vf_int, vf_tupL, vf_tupT, vf_lstL, vf_lstT, vf_gcd, vf_ixL, vf_ixT, vf_ixS, vf_setL, vf_appL, vf_neg, vf_ow, vf_mkT, vf_mkF, vf_part, vf_revL, vf_revT, vf_is_int_int, vf_is_bl_int, vf_is_str_int, vf_is_tup_int, vf_is_lst_int, vf_is_scr_int, vf_is_non_int, vf_is_int_bool, vf_is_bl_bool, vf_is_str_bool, vf_is_tup_bool, vf_is_lst_bool, vf_is_scr_bool, vf_is_non_bool, vf_is_int_str, vf_is_bl_str, vf_is_str_str, vf_is_tup_str, vf_is_lst_str, vf_is_scr_str, vf_is_non_str, vf_is_int_tuple, vf_is_bl_tuple, vf_is_str_tuple, vf_is_tup_tuple, vf_is_lst_tuple, vf_is_scr_tuple, vf_is_non_tuple, vf_is_int_list, vf_is_bl_list, vf_is_str_list, vf_is_tup_list, vf_is_lst_list, vf_is_scr_list, vf_is_non_list, vf_eqI, vf_neI, vf_eqB, Option.map_some, Option.bind_some, List.map_cons, List.map_nil, Nat.reduceAdd, Nat.reducePow, Int.reducePow, hPow18, Int.reduceMul, Int.reduceSub, Int.reduceFDiv, Int.reduceFMod, Nat.reduceLT, Nat.reduceLeDiff, Nat.reduceSub, Int.reduceLE, Int.reduceLT, Int.reduceNeg, Int.reduceAdd, Int.reduceToNat, Int.reduceEq, Int.ofNat_eq_coe, ↓reduceIte, reduceCtorEq, decide_true, decide_false, Int.cast_ofNat_Int, and_true, true_and, Bool.not_true, Bool.not_false, stab1]
  refine take_sub (d := d + 4) hv2 (by decide) (by decide) fun kd v3 hv3 k1 k2 => ?_
  simp only [↓w_bvar, ↓w_bnv, ↓w_var, ↓w_non, ↓w_bl, ↓w_int, ↓w_str, ↓w_val, ↓w_one, ↓w_bin, ↓w_neg, ↓w_test, ↓w_not, ↓w_and, ↓w_or, ↓w_ife, ↓w_cmp, ↓w_chain, ↓w_call, ↓w_bi, ↓w_isi, ↓w_isis, ↓w_ix, ↓w_sl, ↓w_rev, ↓w_tup, ↓w_lst, ↓w_snil, ↓w_scons, ↓w_bnil, ↓w_bcons, ↓w_anil, ↓w_aconsN, ↓w_aconsF, ↓w_aconsT, ↓w_prnop, ↓w_pr, ↓w_put, ↓w_asgN, ↓w_asgT, ↓w_par, ↓w_ifs, ↓w_ret, ↓w_retn, ↓w_raise, ↓w_brk, ↓w_cont, ↓w_expr, ↓w_seti, ↓w_turn, ↓w_cnop, ↓w_cond, ↓w_lc, ↓w_forF, iv_non, iv_bl, iv_int, np_int, iv_str, iv_glob, iv_bin, np_bin, iv_neg, np_neg, iv_not, iv_and, iv_or, iv_one, iv_ife, np_ife, iv_cmp, iv_chain, iv_call, np_call, iv_bi, np_bi, iv_isi, iv_isis, iv_ix, np_ix, iv_sl, iv_rev, iv_tup, iv_lst, iv_lc, iv_disp, iv_get, iv_lcK, iv_val, np_var, np_cmp, np_chain, np_not, np_and, np_or, np_isi, np_isis, np_one, Rw_got, Ov_some, Ob_true, Ob_false, rdB, rdV, Rw_got, List.getElem?_cons_zero, List.getElem?_cons_succ, List.set_cons_zero, List.set_cons_succ, List.length_cons, List.length_nil, List.length_set, at0, at1, at2, at3, ix0, ix1, ix2, ix3, vf_add, vf_sub, vf_mul, vf_fdiv, vf_mod, vf_pow, vf_addT, vf_addL, vf_lt, vf_le, vf_gt, vf_ge, vf_lt2, vf_le2, vf_gt2, vf_ge2, vf_isN, vf_notN, vf_nn_int, vf_nn_bl, vf_nn_tup, vf_nn_lst, vf_nn_str, vf_nn_non, vf_tr_bl, vf_tr_int, vf_tr_non, vf_tr_tup, vf_tr_lst, vf_lenT, vf_lenL, vf_abs, vf_int, vf_tupL, vf_tupT, vf_lstL, vf_lstT, vf_gcd, vf_ixL, vf_ixT, vf_ixS, vf_setL, vf_appL, vf_neg, vf_ow, vf_mkT, vf_mkF, vf_part, vf_revL, vf_revT, vf_is_int_int, vf_is_bl_int, vf_is_str_int, vf_is_tup_int, vf_is_lst_int, vf_is_scr_int, vf_is_non_int, vf_is_int_bool, vf_is_bl_bool, vf_is_str_bool, vf_is_tup_bool, vf_is_lst_bool, vf_is_scr_bool, vf_is_non_bool, vf_is_int_str, vf_is_bl_str, vf_is_str_str, vf_is_tup_str, vf_is_lst_str, vf_is_scr_str, vf_is_non_str, vf_is_int_tuple, vf_is_bl_tuple, vf_is_str_tuple, vf_is_tup_tuple, vf_is_lst_tuple, vf_is_scr_tuple, vf_is_non_tuple, vf_is_int_list, vf_is_bl_list, vf_is_str_list, vf_is_tup_list, vf_is_lst_list, vf_is_scr_list, vf_is_non_list, vf_eqI, vf_neI, vf_eqB, Option.map_some, Option.bind_some, List.map_cons, List.map_nil, Nat.reduceAdd, Nat.reducePow, Int.reducePow, hPow18, Int.reduceMul, Int.reduceSub, Int.reduceFDiv, Int.reduceFMod, Nat.reduceLT, Nat.reduceLeDiff, Nat.reduceSub, Int.reduceLE, Int.reduceLT, Int.reduceNeg, Int.reduceAdd, Int.reduceToNat, Int.reduceEq, Int.ofNat_eq_coe, ↓reduceIte, reduceCtorEq, decide_true, decide_false, Int.cast_ofNat_Int, and_true, true_and, Bool.not_true, Bool.not_false, giveR]
  rw [w_cons]
  simp only [↓w_bvar, ↓w_bnv, ↓w_var, ↓w_non, ↓w_bl, ↓w_int, ↓w_str, ↓w_val, ↓w_one, ↓w_bin, ↓w_neg, ↓w_test, ↓w_not, ↓w_and, ↓w_or, ↓w_ife, ↓w_cmp, ↓w_chain, ↓w_call, ↓w_bi, ↓w_isi, ↓w_isis, ↓w_ix, ↓w_sl, ↓w_rev, ↓w_tup, ↓w_lst, ↓w_snil, ↓w_scons, ↓w_bnil, ↓w_bcons, ↓w_anil, ↓w_aconsN, ↓w_aconsF, ↓w_aconsT, ↓w_prnop, ↓w_pr, ↓w_put, ↓w_asgN, ↓w_asgT, ↓w_par, ↓w_ifs, ↓w_ret, ↓w_retn, ↓w_raise, ↓w_brk, ↓w_cont, ↓w_expr, ↓w_seti, ↓w_turn, ↓w_cnop, ↓w_cond, ↓w_lc, ↓w_forF, iv_non, iv_bl, iv_int, np_int, iv_str, iv_glob, iv_bin, np_bin, iv_neg, np_neg, iv_not, iv_and, iv_or, iv_one, iv_ife, np_ife, iv_cmp, iv_chain, iv_call, np_call, iv_bi, np_bi, iv_isi, iv_isis, iv_ix, np_ix, iv_sl, iv_rev, iv_tup, iv_lst, iv_lc, iv_disp, iv_get, iv_lcK, iv_val, np_var, np_cmp, np_chain, np_not, np_and, np_or, np_isi, np_isis, np_one, Rw_got, Ov_some, Ob_true, Ob_false, rdB, rdV, Rw_got, List.getElem?_cons_zero, List.getElem?_cons_succ, List.set_cons_zero, List.set_cons_succ, List.length_cons, List.length_nil, List.length_set, at0, at1, at2, at3, ix0, ix1, ix2, ix3, vf_add, vf_sub, vf_mul, vf_fdiv, vf_mod, vf_pow, vf_addT, vf_addL, vf_lt, vf_le, vf_gt, vf_ge, vf_lt2, vf_le2, vf_gt2, vf_ge2, vf_isN, vf_notN, vf_nn_int, vf_nn_bl, vf_nn_tup, vf_nn_lst, vf_nn_str, vf_nn_non, vf_tr_bl, vf_tr_int, vf_tr_non, vf_tr_tup, vf_tr_lst, vf_lenT, vf_lenL, vf_abs, vf_int, vf_tupL, vf_tupT, vf_lstL, vf_lstT, vf_gcd, vf_ixL, vf_ixT, vf_ixS, vf_setL, vf_appL, vf_neg, vf_ow, vf_mkT, vf_mkF, vf_part, vf_revL, vf_revT, vf_is_int_int, vf_is_bl_int, vf_is_str_int, vf_is_tup_int, vf_is_lst_int, vf_is_scr_int, vf_is_non_int, vf_is_int_bool, vf_is_bl_bool, vf_is_str_bool, vf_is_tup_bool, vf_is_lst_bool, vf_is_scr_bool, vf_is_non_bool, vf_is_int_str, vf_is_bl_str, vf_is_str_str, vf_is_tup_str, vf_is_lst_str, vf_is_scr_str, vf_is_non_str, vf_is_int_tuple, vf_is_bl_tuple, vf_is_str_tuple, vf_is_tup_tuple, vf_is_lst_tuple, vf_is_scr_tuple, vf_is_non_tuple, vf_is_int_list, vf_is_bl_list, vf_is_str_list, vf_is_tup_list, vf_is_lst_list, vf_is_scr_list, vf_is_non_list, vf_eqI, vf_neI, vf_eqB, Option.map_some, Option.bind_some, List.map_cons, List.map_nil, Nat.reduceAdd, Nat.reducePow, Int.reducePow, hPow18, Int.reduceMul, Int.reduceSub, Int.reduceFDiv, Int.reduceFMod, Nat.reduceLT, Nat.reduceLeDiff, Nat.reduceSub, Int.reduceLE, Int.reduceLT, Int.reduceNeg, Int.reduceAdd, Int.reduceToNat, Int.reduceEq, Int.ofNat_eq_coe, ↓reduceIte, reduceCtorEq, decide_true, decide_false, Int.cast_ofNat_Int, and_true, true_and, Bool.not_true, Bool.not_false, stab19]
  refine signed_sub (d := d + 1) hv3 (by decide) (by decide) fun p' e' v4 hv4 p1' p2' hV' => ?_
  simp only [↓w_bvar, ↓w_bnv, ↓w_var, ↓w_non, ↓w_bl, ↓w_int, ↓w_str, ↓w_val, ↓w_one, ↓w_bin, ↓w_neg, ↓w_test, ↓w_not, ↓w_and, ↓w_or, ↓w_ife, ↓w_cmp, ↓w_chain, ↓w_call, ↓w_bi, ↓w_isi, ↓w_isis, ↓w_ix, ↓w_sl, ↓w_rev, ↓w_tup, ↓w_lst, ↓w_snil, ↓w_scons, ↓w_bnil, ↓w_bcons, ↓w_anil, ↓w_aconsN, ↓w_aconsF, ↓w_aconsT, ↓w_prnop, ↓w_pr, ↓w_put, ↓w_asgN, ↓w_asgT, ↓w_par, ↓w_ifs, ↓w_ret, ↓w_retn, ↓w_raise, ↓w_brk, ↓w_cont, ↓w_expr, ↓w_seti, ↓w_turn, ↓w_cnop, ↓w_cond, ↓w_lc, ↓w_forF, iv_non, iv_bl, iv_int, np_int, iv_str, iv_glob, iv_bin, np_bin, iv_neg, np_neg, iv_not, iv_and, iv_or, iv_one, iv_ife, np_ife, iv_cmp, iv_chain, iv_call, np_call, iv_bi, np_bi, iv_isi, iv_isis, iv_ix, np_ix, iv_sl, iv_rev, iv_tup, iv_lst, iv_lc, iv_disp, iv_get, iv_lcK, iv_val, np_var, np_cmp, np_chain, np_not, np_and, np_or, np_isi, np_isis, np_one, Rw_got, Ov_some, Ob_true, Ob_false, rdB, rdV, Rw_got, List.getElem?_cons_zero, List.getElem?_cons_succ, List.set_cons_zero, List.set_cons_succ, List.length_cons, List.length_nil, List.length_set, at0, at1, at2, at3, ix0, ix1, ix2, ix3, vf_add, vf_sub, vf_mul, vf_fdiv, vf_mod, vf_pow, vf_addT, vf_addL, vf_lt, vf_le, vf_gt, vf_ge, vf_lt2, vf_le2, vf_gt2, vf_ge2, vf_isN, vf_notN, vf_nn_int, vf_nn_bl, vf_nn_tup, vf_nn_lst, vf_nn_str, vf_nn_non, vf_tr_bl, vf_tr_int, vf_tr_non, vf_tr_tup, vf_tr_lst, vf_lenT, vf_lenL, vf_abs, vf_int, vf_tupL, vf_tupT, vf_lstL, vf_lstT, vf_gcd, vf_ixL, vf_ixT, vf_ixS, vf_setL, vf_appL, vf_neg, vf_ow, vf_mkT, vf_mkF, vf_part, vf_revL, vf_revT, vf_is_int_int, vf_is_bl_int, vf_is_str_int, vf_is_tup_int, vf_is_lst_int, vf_is_scr_int, vf_is_non_int, vf_is_int_bool, vf_is_bl_bool, vf_is_str_bool, vf_is_tup_bool, vf_is_lst_bool, vf_is_scr_bool, vf_is_non_bool, vf_is_int_str, vf_is_bl_str, vf_is_str_str, vf_is_tup_str, vf_is_lst_str, vf_is_scr_str, vf_is_non_str, vf_is_int_tuple, vf_is_bl_tuple, vf_is_str_tuple, vf_is_tup_tuple, vf_is_lst_tuple, vf_is_scr_tuple, vf_is_non_tuple, vf_is_int_list, vf_is_bl_list, vf_is_str_list, vf_is_tup_list, vf_is_lst_list, vf_is_scr_list, vf_is_non_list, vf_eqI, vf_neI, vf_eqB, Option.map_some, Option.bind_some, List.map_cons, List.map_nil, Nat.reduceAdd, Nat.reducePow, Int.reducePow, hPow18, Int.reduceMul, Int.reduceSub, Int.reduceFDiv, Int.reduceFMod, Nat.reduceLT, Nat.reduceLeDiff, Nat.reduceSub, Int.reduceLE, Int.reduceLT, Int.reduceNeg, Int.reduceAdd, Int.reduceToNat, Int.reduceEq, Int.ofNat_eq_coe, ↓reduceIte, reduceCtorEq, decide_true, decide_false, Int.cast_ofNat_Int, and_true, true_and, Bool.not_true, Bool.not_false, giveR]
  refine w_seq (tif _ _ _ _ _ _ _ _ _ _ _ hv4 p1 (by omega) hV hV') ?_
  rintro _ ⟨v5, t9, t10, t11, p', e', rfl, hv5, hV'⟩
  have so := so_ok (d := d + 2) hV hV'
  simp only [↓w_bvar, ↓w_bnv, ↓w_var, ↓w_non, ↓w_bl, ↓w_int, ↓w_str, ↓w_val, ↓w_one, ↓w_bin, ↓w_neg, ↓w_test, ↓w_not, ↓w_and, ↓w_or, ↓w_ife, ↓w_cmp, ↓w_chain, ↓w_call, ↓w_bi, ↓w_isi, ↓w_isis, ↓w_ix, ↓w_sl, ↓w_rev, ↓w_tup, ↓w_lst, ↓w_snil, ↓w_scons, ↓w_bnil, ↓w_bcons, ↓w_anil, ↓w_aconsN, ↓w_aconsF, ↓w_aconsT, ↓w_prnop, ↓w_pr, ↓w_nil, ↓w_cons, ↓w_put, ↓w_asgN, ↓w_asgT, ↓w_par, ↓w_ifs, ↓w_ret, ↓w_retn, ↓w_raise, ↓w_brk, ↓w_cont, ↓w_expr, ↓w_seti, ↓w_turn, ↓w_cnop, ↓w_cond, ↓w_lc, ↓w_forF, iv_non, iv_bl, iv_int, np_int, iv_str, iv_glob, iv_bin, np_bin, iv_neg, np_neg, iv_not, iv_and, iv_or, iv_one, iv_ife, np_ife, iv_cmp, iv_chain, iv_call, np_call, iv_bi, np_bi, iv_isi, iv_isis, iv_ix, np_ix, iv_sl, iv_rev, iv_tup, iv_lst, iv_lc, iv_disp, iv_get, iv_lcK, iv_val, np_var, np_cmp, np_chain, np_not, np_and, np_or, np_isi, np_isis, np_one, Rw_got, Ov_some, Ob_true, Ob_false, rdB, rdV, Rw_got, List.getElem?_cons_zero, List.getElem?_cons_succ, List.set_cons_zero, List.set_cons_succ, List.length_cons, List.length_nil, List.length_set, at0, at1, at2, at3, ix0, ix1, ix2, ix3, vf_add, vf_sub, vf_mul, vf_fdiv, vf_mod, vf_pow, vf_addT, vf_addL, vf_lt, vf_le, vf_gt, vf_ge, vf_lt2, vf_le2, vf_gt2, vf_ge2, vf_isN, vf_notN, vf_nn_int, vf_nn_bl, vf_nn_tup, vf_nn_lst, vf_nn_str, vf_nn_non, vf_tr_bl, vf_tr_int, vf_tr_non, vf_tr_tup, vf_tr_lst, vf_lenT, vf_lenL, vf_abs, vf_int, vf_tupL, vf_tupT, vf_lstL, vf_lstT, vf_gcd, vf_ixL, vf_ixT, vf_ixS, vf_setL, vf_appL, vf_neg, vf_ow, vf_mkT, vf_mkF, vf_part, vf_revL, vf_revT, vf_is_int_int, vf_is_bl_int, vf_is_str_int, vf_is_tup_int, vf_is_lst_int, vf_is_scr_int, vf_is_non_int, vf_is_int_bool, vf_is_bl_bool, vf_is_str_bool, vf_is_tup_bool, vf_is_lst_bool, vf_is_scr_bool, vf_is_non_bool, vf_is_int_str, vf_is_bl_str, vf_is_str_str, vf_is_tup_str, vf_is_lst_str, vf_is_scr_str, vf_is_non_str, vf_is_int_tuple, vf_is_bl_tuple, vf_is_str_tuple, vf_is_tup_tuple, vf_is_lst_tuple, vf_is_scr_tuple, vf_is_non_tuple, vf_is_int_list, vf_is_bl_list, vf_is_str_list, vf_is_tup_list, vf_is_lst_list, vf_is_scr_list, vf_is_non_list, vf_eqI, vf_neI, vf_eqB, Option.map_some, Option.bind_some, List.map_cons, List.map_nil, Nat.reduceAdd, Nat.reducePow, Int.reducePow, hPow18, Int.reduceMul, Int.reduceSub, Int.reduceFDiv, Int.reduceFMod, Nat.reduceLT, Nat.reduceLeDiff, Nat.reduceSub, Int.reduceLE, Int.reduceLT, Int.reduceNeg, Int.reduceAdd, Int.reduceToNat, Int.reduceEq, Int.ofNat_eq_coe, ↓reduceIte, reduceCtorEq, decide_true, decide_false, Int.cast_ofNat_Int, and_true, true_and, Bool.not_true, Bool.not_false, stab15, so, giveR]
  exact hk _ ⟨_, _, _, _, _, _, _, _, _, _, _, rfl, hv5⟩
end HD
set_option Elab.async false
set_option linter.all false
set_option maxRecDepth 100000
set_option maxHeartbeats 8000000
namespace HD
open PySem L2 EV
theorem pool_sub {d : Nat} {ns : List Int} (hl : ns.length ≤ 63) {Q : _ → Prop} (q : ∀ v o, PoolOk v → Q ((v, true), o)) : Rw (D.prg.den (d + 1) 0 [.fz (.scr (ns.map .int))]) Q NX :=
  Rw_mono (pool_ok (d := d) hl) (fun z ⟨v, o, e, hv⟩ => by rw [e]; exact q v o hv) fun _ _ z => z
theorem gcd_next {p : Int} (h : 2 ≤ p) : Nat.gcd p.natAbs (p - 1).natAbs = 1 := by
  obtain ⟨n, rfl⟩ := Int.eq_ofNat_of_zero_le (by omega : 0 ≤ p)
  have e : ((n : Int) - 1).natAbs = n - 1 := by omega
  rw [e, Int.natAbs_natCast]
  have : Nat.gcd n (n - 1) = Nat.gcd (n - 1 + 1) (n - 1) := by congr 1; omega
  rw [this]
  simp
theorem turn_k {d : Nat} {sc : Val} {ρ : Ro} {k : En} (hx : k.ex = NX) (hi : LI sc ρ) (hk : ∀ ρ', LI sc ρ' → k.nx ρ') : Ow (evSs ⟨D.prg.den (d + 6), D.prg.stab, D.prg.gl⟩ D.prg.sub bodyT ρ) k := by
  have := turn_ok (d := d) (k := k) hi hk
  obtain ⟨a, b, c, e, x⟩ := k
  cases hx
  exact this
theorem dueB_self {p e : Int} : dueB p e p e = true := by
  unfold dueB
  rw [if_pos rfl, Int.sub_self, Int.zero_fmod]
  rfl
theorem gst_law : g_law.stab = [true] := by kernel_rfl
theorem env_den {F : Nat → List Sl → EV.R ((Val × Bool) × List Sl)} {S : Nat → List Bool} {G : List (Str × Val)} : (Env'.mk F S G).den = F := rfl
theorem env_stab {F : Nat → List Sl → EV.R ((Val × Bool) × List Sl)} {S : Nat → List Bool} {G : List (Str × Val)} : (Env'.mk F S G).stab = S := rfl
def wrongs : List Val := [Val.tup [.int 0, .int 1], .tup [.int 3, .int 1], .tup [.int 4, .int 2], .tup [.int 9, .int 6], .tup [.int 5, .int 6], .tup [.int (-3), .int 2], .tup [.int 1000000001, .int 2], .tup [.non, .int 0], .tup [.int 5, .non], .tup [.bl true, .int 0], .tup [.int 5, .bl false], .tup [.str "5", .int 2], .tup [.lst [], .dic [] []]]
def sgd : Val := .tup [.str "signed", .bl true, .bl false]
theorem law_body {Γ : Env'} {sub : Nat → Nat → Bool} {sc : Val} {k : En} (hx : k.ex = NX) (hk : ∀ ρ, k.rt (.bl true, false) ρ)
    (s0 : Γ.stab 0 = [true]) (s1 : Γ.stab 1 = [true, true]) (s2 : Γ.stab 2 = [true, true]) (s4 : Γ.stab 4 = [true, true]) (s7 : Γ.stab 7 = [true, true, true, true]) (s16 : Γ.stab 16 = []) (s20 : Γ.stab 20 = [true, true])
    (ht : ∀ {ρ : Ro} {k : En}, k.ex = NX → LI sc ρ → (∀ ρ', LI sc ρ' → k.nx ρ') → Ow (evSs Γ sub bodyT ρ) k)
    (f0 : ∀ {Q : _ → Prop}, (∀ v o, PoolOk v → Q ((v, true), o)) → Rw (Γ.den 0 [.fz sc]) Q NX)
    (f1 : ∀ {v : Val} {many : Int} {Q : _ → Prop}, PoolOk v → 0 < many → many < 1073741824 → (∀ t v', PoolOk v' → 0 ≤ t → t < many → Q ((.int t, false), [.ow v', .no])) → Rw (Γ.den 1 [.ow v, .fz (.int many)]) Q NX)
    (f2 : ∀ {v : Val} {xs : List Val} {Q : _ → Prop}, PoolOk v → xs ≠ [] → xs.length < 1073741824 → (∀ x ∈ xs, ∀ v', PoolOk v' → Q ((x, false), [.ow v', .no])) → Rw (Γ.den 2 [.ow v, .fz (.lst xs)]) Q NX)
    (f4 : Γ.den 4 [.fz (.bl true), .fz (.bl true)] = .got ((.bl true, false), [.no, .no])) (f4s : Γ.den 4 [.fz sgd, .fz sgd] = .got ((.bl true, false), [.no, .no]))
    (f7 : ∀ {p e : Int}, Valid p e → Γ.den 7 [.fz (.int p), .fz (.int e), .fz (.int p), .fz (.int e)] = .got ((.bl true, false), [.no, .no, .no, .no]))
    (f16 : Γ.den 16 [] = .got ((.bl true, false), []))
    (f20 : ∀ x ∈ wrongs, Γ.den 20 [.fz x, .fz (.tup [.int 3, .int 1])] = .got ((sgd, false), [.no, .no]) ∧ Γ.den 20 [.fz (.tup [.int 3, .int 2]), .fz x] = .got ((sgd, false), [.no, .no])) :
    Ow (evSs Γ sub g_law.body [.fz sc, .no, .no, .no, .no, .no, .no, .no, .no, .no, .no, .no]) k := by
  obtain ⟨kn, kr, kb, kc, kx⟩ := k
  cases hx
  have hb : g_law.body = [_, _, .for_ (.nm 2) (.rng1 (.int 6)) bodyT, _, _, _, _, _, _] := rfl
  generalize bodyT = bT at hb ht
  rw [hb, w_cons]
  simp only [↓w_bvar, ↓w_bnv, ↓w_var, ↓w_non, ↓w_bl, ↓w_int, ↓w_str, ↓w_val, ↓w_one, ↓w_bin, ↓w_neg, ↓w_test, ↓w_not, ↓w_and, ↓w_or, ↓w_ife, ↓w_cmp, ↓w_chain, ↓w_call, ↓w_bi, ↓w_isi, ↓w_isis, ↓w_ix, ↓w_sl, ↓w_rev, ↓w_tup, ↓w_lst, ↓w_snil, ↓w_scons, ↓w_bnil, ↓w_bcons, ↓w_anil, ↓w_aconsN, ↓w_aconsF, ↓w_aconsT, ↓w_prnop, ↓w_pr, ↓w_put, ↓w_asgN, ↓w_asgT, ↓w_par, ↓w_ifs, ↓w_ret, ↓w_retn, ↓w_raise, ↓w_brk, ↓w_cont, ↓w_expr, ↓w_seti, ↓w_turn, ↓w_cnop, ↓w_cond, ↓w_lc, ↓w_forF, iv_non, iv_bl, iv_int, np_int, iv_str, iv_glob, iv_bin, np_bin, iv_neg, np_neg, iv_not, iv_and, iv_or, iv_one, iv_ife, np_ife, iv_cmp, iv_chain, iv_call, np_call, iv_bi, np_bi, iv_isi, iv_isis, iv_ix, np_ix, iv_sl, iv_rev, iv_tup, iv_lst, iv_lc, iv_disp, iv_get, iv_lcK, iv_val, np_var, np_cmp, np_chain, np_not, np_and, np_or, np_isi, np_isis, np_one, Rw_got, Ov_some, Ob_true, Ob_false, rdB, rdV, Rw_got, List.getElem?_cons_zero, List.getElem?_cons_succ, List.set_cons_zero, List.set_cons_succ, List.length_cons, List.length_nil, List.length_set, at0, at1, at2, at3, ix0, ix1, ix2, ix3, vf_add, vf_sub, vf_mul, vf_fdiv, vf_mod, vf_pow, vf_addT, vf_addL, vf_lt, vf_le, vf_gt, vf_ge, vf_lt2, vf_le2, vf_gt2, vf_ge2, vf_isN, vf_notN, vf_nn_int, vf_nn_bl, vf_nn_tup, vf_nn_lst, vf_nn_str, vf_nn_non, vf_tr_bl, vf_tr_int, vf_tr_non, vf_tr_tup, vf_tr_lst, vf_lenT, vf_lenL, vf_abs, vf_int, vf_tupL, vf_tupT, vf_lstL, vf_lstT, vf_gcd, vf_ixL, vf_ixT, vf_ixS, vf_setL, vf_appL, vf_neg, vf_ow, vf_mkT, vf_mkF, vf_part, vf_revL, vf_revT, vf_is_int_int, vf_is_bl_int, vf_is_str_int, vf_is_tup_int, vf_is_lst_int, vf_is_scr_int, vf_is_non_int, vf_is_int_bool, vf_is_bl_bool, vf_is_str_bool, vf_is_tup_bool, vf_is_lst_bool, vf_is_scr_bool, vf_is_non_bool, vf_is_int_str, vf_is_bl_str, vf_is_str_str, vf_is_tup_str, vf_is_lst_str, vf_is_scr_str, vf_is_non_str, vf_is_int_tuple, vf_is_bl_tuple, vf_is_str_tuple, vf_is_tup_tuple, vf_is_lst_tuple, vf_is_scr_tuple, vf_is_non_tuple, vf_is_int_list, vf_is_bl_list, vf_is_str_list, vf_is_tup_list, vf_is_lst_list, vf_is_scr_list, vf_is_non_list, vf_eqI, vf_neI, vf_eqB, Option.map_some, Option.bind_some, List.map_cons, List.map_nil, Nat.reduceAdd, Nat.reducePow, Int.reducePow, hPow18, Int.reduceMul, Int.reduceSub, Int.reduceFDiv, Int.reduceFMod, Nat.reduceLT, Nat.reduceLeDiff, Nat.reduceSub, Int.reduceLE, Int.reduceLT, Int.reduceNeg, Int.reduceAdd, Int.reduceToNat, Int.reduceEq, Int.ofNat_eq_coe, ↓reduceIte, reduceCtorEq, decide_true, decide_false, Int.cast_ofNat_Int, and_true, true_and, Bool.not_true, Bool.not_false, s0]
  refine f0 fun v o hv => ?_
  have gn : ∀ ρ : Ro, giveR [none] o ρ = ρ := fun ρ => by cases o <;> rfl
  simp only [↓w_bvar, ↓w_bnv, ↓w_var, ↓w_non, ↓w_bl, ↓w_int, ↓w_str, ↓w_val, ↓w_one, ↓w_bin, ↓w_neg, ↓w_test, ↓w_not, ↓w_and, ↓w_or, ↓w_ife, ↓w_cmp, ↓w_chain, ↓w_call, ↓w_bi, ↓w_isi, ↓w_isis, ↓w_ix, ↓w_sl, ↓w_rev, ↓w_tup, ↓w_lst, ↓w_snil, ↓w_scons, ↓w_bnil, ↓w_bcons, ↓w_anil, ↓w_aconsN, ↓w_aconsF, ↓w_aconsT, ↓w_prnop, ↓w_pr, ↓w_put, ↓w_asgN, ↓w_asgT, ↓w_par, ↓w_ifs, ↓w_ret, ↓w_retn, ↓w_raise, ↓w_brk, ↓w_cont, ↓w_expr, ↓w_seti, ↓w_turn, ↓w_cnop, ↓w_cond, ↓w_lc, ↓w_forF, iv_non, iv_bl, iv_int, np_int, iv_str, iv_glob, iv_bin, np_bin, iv_neg, np_neg, iv_not, iv_and, iv_or, iv_one, iv_ife, np_ife, iv_cmp, iv_chain, iv_call, np_call, iv_bi, np_bi, iv_isi, iv_isis, iv_ix, np_ix, iv_sl, iv_rev, iv_tup, iv_lst, iv_lc, iv_disp, iv_get, iv_lcK, iv_val, np_var, np_cmp, np_chain, np_not, np_and, np_or, np_isi, np_isis, np_one, Rw_got, Ov_some, Ob_true, Ob_false, rdB, rdV, Rw_got, List.getElem?_cons_zero, List.getElem?_cons_succ, List.set_cons_zero, List.set_cons_succ, List.length_cons, List.length_nil, List.length_set, at0, at1, at2, at3, ix0, ix1, ix2, ix3, vf_add, vf_sub, vf_mul, vf_fdiv, vf_mod, vf_pow, vf_addT, vf_addL, vf_lt, vf_le, vf_gt, vf_ge, vf_lt2, vf_le2, vf_gt2, vf_ge2, vf_isN, vf_notN, vf_nn_int, vf_nn_bl, vf_nn_tup, vf_nn_lst, vf_nn_str, vf_nn_non, vf_tr_bl, vf_tr_int, vf_tr_non, vf_tr_tup, vf_tr_lst, vf_lenT, vf_lenL, vf_abs, vf_int, vf_tupL, vf_tupT, vf_lstL, vf_lstT, vf_gcd, vf_ixL, vf_ixT, vf_ixS, vf_setL, vf_appL, vf_neg, vf_ow, vf_mkT, vf_mkF, vf_part, vf_revL, vf_revT, vf_is_int_int, vf_is_bl_int, vf_is_str_int, vf_is_tup_int, vf_is_lst_int, vf_is_scr_int, vf_is_non_int, vf_is_int_bool, vf_is_bl_bool, vf_is_str_bool, vf_is_tup_bool, vf_is_lst_bool, vf_is_scr_bool, vf_is_non_bool, vf_is_int_str, vf_is_bl_str, vf_is_str_str, vf_is_tup_str, vf_is_lst_str, vf_is_scr_str, vf_is_non_str, vf_is_int_tuple, vf_is_bl_tuple, vf_is_str_tuple, vf_is_tup_tuple, vf_is_lst_tuple, vf_is_scr_tuple, vf_is_non_tuple, vf_is_int_list, vf_is_bl_list, vf_is_str_list, vf_is_tup_list, vf_is_lst_list, vf_is_scr_list, vf_is_non_list, vf_eqI, vf_neI, vf_eqB, Option.map_some, Option.bind_some, List.map_cons, List.map_nil, Nat.reduceAdd, Nat.reducePow, Int.reducePow, hPow18, Int.reduceMul, Int.reduceSub, Int.reduceFDiv, Int.reduceFMod, Nat.reduceLT, Nat.reduceLeDiff, Nat.reduceSub, Int.reduceLE, Int.reduceLT, Int.reduceNeg, Int.reduceAdd, Int.reduceToNat, Int.reduceEq, Int.ofNat_eq_coe, ↓reduceIte, reduceCtorEq, decide_true, decide_false, Int.cast_ofNat_Int, and_true, true_and, Bool.not_true, Bool.not_false, gn]
  rw [w_cons]
  simp only [↓w_bvar, ↓w_bnv, ↓w_var, ↓w_non, ↓w_bl, ↓w_int, ↓w_str, ↓w_val, ↓w_one, ↓w_bin, ↓w_neg, ↓w_test, ↓w_not, ↓w_and, ↓w_or, ↓w_ife, ↓w_cmp, ↓w_chain, ↓w_call, ↓w_bi, ↓w_isi, ↓w_isis, ↓w_ix, ↓w_sl, ↓w_rev, ↓w_tup, ↓w_lst, ↓w_snil, ↓w_scons, ↓w_bnil, ↓w_bcons, ↓w_anil, ↓w_aconsN, ↓w_aconsF, ↓w_aconsT, ↓w_prnop, ↓w_pr, ↓w_put, ↓w_asgN, ↓w_asgT, ↓w_par, ↓w_ifs, ↓w_ret, ↓w_retn, ↓w_raise, ↓w_brk, ↓w_cont, ↓w_expr, ↓w_seti, ↓w_turn, ↓w_cnop, ↓w_cond, ↓w_lc, ↓w_forF, iv_non, iv_bl, iv_int, np_int, iv_str, iv_glob, iv_bin, np_bin, iv_neg, np_neg, iv_not, iv_and, iv_or, iv_one, iv_ife, np_ife, iv_cmp, iv_chain, iv_call, np_call, iv_bi, np_bi, iv_isi, iv_isis, iv_ix, np_ix, iv_sl, iv_rev, iv_tup, iv_lst, iv_lc, iv_disp, iv_get, iv_lcK, iv_val, np_var, np_cmp, np_chain, np_not, np_and, np_or, np_isi, np_isis, np_one, Rw_got, Ov_some, Ob_true, Ob_false, rdB, rdV, Rw_got, List.getElem?_cons_zero, List.getElem?_cons_succ, List.set_cons_zero, List.set_cons_succ, List.length_cons, List.length_nil, List.length_set, at0, at1, at2, at3, ix0, ix1, ix2, ix3, vf_add, vf_sub, vf_mul, vf_fdiv, vf_mod, vf_pow, vf_addT, vf_addL, vf_lt, vf_le, vf_gt, vf_ge, vf_lt2, vf_le2, vf_gt2, vf_ge2, vf_isN, vf_notN, vf_nn_int, vf_nn_bl, vf_nn_tup, vf_nn_lst, vf_nn_str, vf_nn_non, vf_tr_bl, vf_tr_int, vf_tr_non, vf_tr_tup, vf_tr_lst, vf_lenT, vf_lenL, vf_abs, vf_int, vf_tupL, vf_tupT, vf_lstL, vf_lstT, vf_gcd, vf_ixL, vf_ixT, vf_ixS, vf_setL, vf_appL, vf_neg, vf_ow, vf_mkT, vf_mkF, vf_part, vf_revL, vf_revT, vf_is_int_int, vf_is_bl_int, vf_is_str_int, vf_is_tup_int, vf_is_lst_int, vf_is_scr_int, vf_is_non_int, vf_is_int_bool, vf_is_bl_bool, vf_is_str_bool, vf_is_tup_bool, vf_is_lst_bool, vf_is_scr_bool, vf_is_non_bool, vf_is_int_str, vf_is_bl_str, vf_is_str_str, vf_is_tup_str, vf_is_lst_str, vf_is_scr_str, vf_is_non_str, vf_is_int_tuple, vf_is_bl_tuple, vf_is_str_tuple, vf_is_tup_tuple, vf_is_lst_tuple, vf_is_scr_tuple, vf_is_non_tuple, vf_is_int_list, vf_is_bl_list, vf_is_str_list, vf_is_tup_list, vf_is_lst_list, vf_is_scr_list, vf_is_non_list, vf_eqI, vf_neI, vf_eqB, Option.map_some, Option.bind_some, List.map_cons, List.map_nil, Nat.reduceAdd, Nat.reducePow, Int.reducePow, hPow18, Int.reduceMul, Int.reduceSub, Int.reduceFDiv, Int.reduceFMod, Nat.reduceLT, Nat.reduceLeDiff, Nat.reduceSub, Int.reduceLE, Int.reduceLT, Int.reduceNeg, Int.reduceAdd, Int.reduceToNat, Int.reduceEq, Int.ofNat_eq_coe, ↓reduceIte, reduceCtorEq, decide_true, decide_false, Int.cast_ofNat_Int, and_true, true_and, Bool.not_true, Bool.not_false, s16, f16, giveR, w_nil]
  rw [w_cons, w_for]
  simp only [↓w_bvar, ↓w_bnv, ↓w_var, ↓w_non, ↓w_bl, ↓w_int, ↓w_str, ↓w_val, ↓w_one, ↓w_bin, ↓w_neg, ↓w_test, ↓w_not, ↓w_and, ↓w_or, ↓w_ife, ↓w_cmp, ↓w_chain, ↓w_call, ↓w_bi, ↓w_isi, ↓w_isis, ↓w_ix, ↓w_sl, ↓w_rev, ↓w_tup, ↓w_lst, ↓w_snil, ↓w_scons, ↓w_bnil, ↓w_bcons, ↓w_anil, ↓w_aconsN, ↓w_aconsF, ↓w_aconsT, ↓w_prnop, ↓w_pr, ↓w_put, ↓w_asgN, ↓w_asgT, ↓w_par, ↓w_ifs, ↓w_ret, ↓w_retn, ↓w_raise, ↓w_brk, ↓w_cont, ↓w_expr, ↓w_seti, ↓w_turn, ↓w_cnop, ↓w_cond, ↓w_lc, ↓w_forF, iv_non, iv_bl, iv_int, np_int, iv_str, iv_glob, iv_bin, np_bin, iv_neg, np_neg, iv_not, iv_and, iv_or, iv_one, iv_ife, np_ife, iv_cmp, iv_chain, iv_call, np_call, iv_bi, np_bi, iv_isi, iv_isis, iv_ix, np_ix, iv_sl, iv_rev, iv_tup, iv_lst, iv_lc, iv_disp, iv_get, iv_lcK, iv_val, np_var, np_cmp, np_chain, np_not, np_and, np_or, np_isi, np_isis, np_one, Rw_got, Ov_some, Ob_true, Ob_false, rdB, rdV, Rw_got, List.getElem?_cons_zero, List.getElem?_cons_succ, List.set_cons_zero, List.set_cons_succ, List.length_cons, List.length_nil, List.length_set, at0, at1, at2, at3, ix0, ix1, ix2, ix3, vf_add, vf_sub, vf_mul, vf_fdiv, vf_mod, vf_pow, vf_addT, vf_addL, vf_lt, vf_le, vf_gt, vf_ge, vf_lt2, vf_le2, vf_gt2, vf_ge2, vf_isN, vf_notN, vf_nn_int, vf_nn_bl, vf_nn_tup, vf_nn_lst, vf_nn_str, vf_nn_non, vf_tr_bl, vf_tr_int, vf_tr_non, vf_tr_tup, vf_tr_lst, vf_lenT, vf_lenL, vf_abs, vf_int, vf_tupL, vf_tupT, vf_lstL, vf_lstT, vf_gcd, vf_ixL, vf_ixT, vf_ixS, vf_setL, vf_appL, vf_neg, vf_ow, vf_mkT, vf_mkF, vf_part, vf_revL, vf_revT, vf_is_int_int, vf_is_bl_int, vf_is_str_int, vf_is_tup_int, vf_is_lst_int, vf_is_scr_int, vf_is_non_int, vf_is_int_bool, vf_is_bl_bool, vf_is_str_bool, vf_is_tup_bool, vf_is_lst_bool, vf_is_scr_bool, vf_is_non_bool, vf_is_int_str, vf_is_bl_str, vf_is_str_str, vf_is_tup_str, vf_is_lst_str, vf_is_scr_str, vf_is_non_str, vf_is_int_tuple, vf_is_bl_tuple, vf_is_str_tuple, vf_is_tup_tuple, vf_is_lst_tuple, vf_is_scr_tuple, vf_is_non_tuple, vf_is_int_list, vf_is_bl_list, vf_is_str_list, vf_is_tup_list, vf_is_lst_list, vf_is_scr_list, vf_is_non_list, vf_eqI, vf_neI, vf_eqB, Option.map_some, Option.bind_some, List.map_cons, List.map_nil, Nat.reduceAdd, Nat.reducePow, Int.reducePow, hPow18, Int.reduceMul, Int.reduceSub, Int.reduceFDiv, Int.reduceFMod, Nat.reduceLT, Nat.reduceLeDiff, Nat.reduceSub, Int.reduceLE, Int.reduceLT, Int.reduceNeg, Int.reduceAdd, Int.reduceToNat, Int.reduceEq, Int.ofNat_eq_coe, ↓reduceIte, reduceCtorEq, decide_true, decide_false, Int.cast_ofNat_Int, and_true, true_and, Bool.not_true, Bool.not_false, w_rngP]
  refine ⟨_, .mk 6 (by decide), ?_⟩
  simp only [itemsV, Ov_some]
  refine for_inv (n := 0) (I := fun _ ρ => LI sc ρ) ⟨_, _, _, _, _, _, _, _, _, _, _, rfl, hv⟩ (fun j x ρ hx => ?_) ?_
  · rintro ⟨v, t2, t3, t4, t5, t6, t7, t8, t9, t10, t11, rfl, hv⟩
    rw [w_forF]
    simp only [bindT, ↓w_bvar, ↓w_bnv, ↓w_var, ↓w_non, ↓w_bl, ↓w_int, ↓w_str, ↓w_val, ↓w_one, ↓w_bin, ↓w_neg, ↓w_test, ↓w_not, ↓w_and, ↓w_or, ↓w_ife, ↓w_cmp, ↓w_chain, ↓w_call, ↓w_bi, ↓w_isi, ↓w_isis, ↓w_ix, ↓w_sl, ↓w_rev, ↓w_tup, ↓w_lst, ↓w_snil, ↓w_scons, ↓w_bnil, ↓w_bcons, ↓w_anil, ↓w_aconsN, ↓w_aconsF, ↓w_aconsT, ↓w_prnop, ↓w_pr, ↓w_put, ↓w_asgN, ↓w_asgT, ↓w_par, ↓w_ifs, ↓w_ret, ↓w_retn, ↓w_raise, ↓w_brk, ↓w_cont, ↓w_expr, ↓w_seti, ↓w_turn, ↓w_cnop, ↓w_cond, ↓w_lc, ↓w_forF, iv_non, iv_bl, iv_int, np_int, iv_str, iv_glob, iv_bin, np_bin, iv_neg, np_neg, iv_not, iv_and, iv_or, iv_one, iv_ife, np_ife, iv_cmp, iv_chain, iv_call, np_call, iv_bi, np_bi, iv_isi, iv_isis, iv_ix, np_ix, iv_sl, iv_rev, iv_tup, iv_lst, iv_lc, iv_disp, iv_get, iv_lcK, iv_val, np_var, np_cmp, np_chain, np_not, np_and, np_or, np_isi, np_isis, np_one, Rw_got, Ov_some, Ob_true, Ob_false, rdB, rdV, Rw_got, List.getElem?_cons_zero, List.getElem?_cons_succ, List.set_cons_zero, List.set_cons_succ, List.length_cons, List.length_nil, List.length_set, at0, at1, at2, at3, ix0, ix1, ix2, ix3, vf_add, vf_sub, vf_mul, vf_fdiv, vf_mod, vf_pow, vf_addT, vf_addL, vf_lt, vf_le, vf_gt, vf_ge, vf_lt2, vf_le2, vf_gt2, vf_ge2, vf_isN, vf_notN, vf_nn_int, vf_nn_bl, vf_nn_tup, vf_nn_lst, vf_nn_str, vf_nn_non, vf_tr_bl, vf_tr_int, vf_tr_non, vf_tr_tup, vf_tr_lst, vf_lenT, vf_lenL, vf_abs, vf_int, vf_tupL, vf_tupT, vf_lstL, vf_lstT, vf_gcd, vf_ixL, vf_ixT, vf_ixS, vf_setL, vf_appL, vf_neg, vf_ow, vf_mkT, vf_mkF, vf_part, vf_revL, vf_revT, vf_is_int_int, vf_is_bl_int, vf_is_str_int, vf_is_tup_int, vf_is_lst_int, vf_is_scr_int, vf_is_non_int, vf_is_int_bool, vf_is_bl_bool, vf_is_str_bool, vf_is_tup_bool, vf_is_lst_bool, vf_is_scr_bool, vf_is_non_bool, vf_is_int_str, vf_is_bl_str, vf_is_str_str, vf_is_tup_str, vf_is_lst_str, vf_is_scr_str, vf_is_non_str, vf_is_int_tuple, vf_is_bl_tuple, vf_is_str_tuple, vf_is_tup_tuple, vf_is_lst_tuple, vf_is_scr_tuple, vf_is_non_tuple, vf_is_int_list, vf_is_bl_list, vf_is_str_list, vf_is_tup_list, vf_is_lst_list, vf_is_scr_list, vf_is_non_list, vf_eqI, vf_neI, vf_eqB, Option.map_some, Option.bind_some, List.map_cons, List.map_nil, Nat.reduceAdd, Nat.reducePow, Int.reducePow, hPow18, Int.reduceMul, Int.reduceSub, Int.reduceFDiv, Int.reduceFMod, Nat.reduceLT, Nat.reduceLeDiff, Nat.reduceSub, Int.reduceLE, Int.reduceLT, Int.reduceNeg, Int.reduceAdd, Int.reduceToNat, Int.reduceEq, Int.ofNat_eq_coe, ↓reduceIte, reduceCtorEq, decide_true, decide_false, Int.cast_ofNat_Int, and_true, true_and, Bool.not_true, Bool.not_false]
    exact ht rfl ⟨_, _, _, _, _, _, _, _, _, _, _, rfl, hv⟩ fun ρ' h => h
  · rintro ρ ⟨v, t2, t3, t4, t5, t6, t7, t8, t9, t10, t11, rfl, hv⟩
    have po1 : powOk 10 9 = true := by decide
    have po2 : powOk 10 6 = true := by decide
    simp only []
    rw [w_cons]
    simp only [↓w_bvar, ↓w_bnv, ↓w_var, ↓w_non, ↓w_bl, ↓w_int, ↓w_str, ↓w_val, ↓w_one, ↓w_bin, ↓w_neg, ↓w_test, ↓w_not, ↓w_and, ↓w_or, ↓w_ife, ↓w_cmp, ↓w_chain, ↓w_call, ↓w_bi, ↓w_isi, ↓w_isis, ↓w_ix, ↓w_sl, ↓w_rev, ↓w_tup, ↓w_lst, ↓w_snil, ↓w_scons, ↓w_bnil, ↓w_bcons, ↓w_anil, ↓w_aconsN, ↓w_aconsF, ↓w_aconsT, ↓w_prnop, ↓w_pr, ↓w_put, ↓w_asgN, ↓w_asgT, ↓w_par, ↓w_ifs, ↓w_ret, ↓w_retn, ↓w_raise, ↓w_brk, ↓w_cont, ↓w_expr, ↓w_seti, ↓w_turn, ↓w_cnop, ↓w_cond, ↓w_lc, ↓w_forF, iv_non, iv_bl, iv_int, np_int, iv_str, iv_glob, iv_bin, np_bin, iv_neg, np_neg, iv_not, iv_and, iv_or, iv_one, iv_ife, np_ife, iv_cmp, iv_chain, iv_call, np_call, iv_bi, np_bi, iv_isi, iv_isis, iv_ix, np_ix, iv_sl, iv_rev, iv_tup, iv_lst, iv_lc, iv_disp, iv_get, iv_lcK, iv_val, np_var, np_cmp, np_chain, np_not, np_and, np_or, np_isi, np_isis, np_one, Rw_got, Ov_some, Ob_true, Ob_false, rdB, rdV, Rw_got, List.getElem?_cons_zero, List.getElem?_cons_succ, List.set_cons_zero, List.set_cons_succ, List.length_cons, List.length_nil, List.length_set, at0, at1, at2, at3, ix0, ix1, ix2, ix3, vf_add, vf_sub, vf_mul, vf_fdiv, vf_mod, vf_pow, vf_addT, vf_addL, vf_lt, vf_le, vf_gt, vf_ge, vf_lt2, vf_le2, vf_gt2, vf_ge2, vf_isN, vf_notN, vf_nn_int, vf_nn_bl, vf_nn_tup, vf_nn_lst, vf_nn_str, vf_nn_non, vf_tr_bl, vf_tr_int, vf_tr_non, vf_tr_tup, vf_tr_lst, vf_lenT, vf_lenL, vf_abs, vf_int, vf_tupL, vf_tupT, vf_lstL, vf_lstT, vf_gcd, vf_ixL, vf_ixT, vf_ixS, vf_setL, vf_appL, vf_neg, vf_ow, vf_mkT, vf_mkF, vf_part, vf_revL, vf_revT, vf_is_int_int, vf_is_bl_int, vf_is_str_int, vf_is_tup_int, vf_is_lst_int, vf_is_scr_int, vf_is_non_int, vf_is_int_bool, vf_is_bl_bool, vf_is_str_bool, vf_is_tup_bool, vf_is_lst_bool, vf_is_scr_bool, vf_is_non_bool, vf_is_int_str, vf_is_bl_str, vf_is_str_str, vf_is_tup_str, vf_is_lst_str, vf_is_scr_str, vf_is_non_str, vf_is_int_tuple, vf_is_bl_tuple, vf_is_str_tuple, vf_is_tup_tuple, vf_is_lst_tuple, vf_is_scr_tuple, vf_is_non_tuple, vf_is_int_list, vf_is_bl_list, vf_is_str_list, vf_is_tup_list, vf_is_lst_list, vf_is_scr_list, vf_is_non_list, vf_eqI, vf_neI, vf_eqB, Option.map_some, Option.bind_some, List.map_cons, List.map_nil, Nat.reduceAdd, Nat.reducePow, Int.reducePow, hPow18, Int.reduceMul, Int.reduceSub, Int.reduceFDiv, Int.reduceFMod, Nat.reduceLT, Nat.reduceLeDiff, Nat.reduceSub, Int.reduceLE, Int.reduceLT, Int.reduceNeg, Int.reduceAdd, Int.reduceToNat, Int.reduceEq, Int.ofNat_eq_coe, ↓reduceIte, reduceCtorEq, decide_true, decide_false, Int.cast_ofNat_Int, and_true, true_and, Bool.not_true, Bool.not_false, s1, po1, po2]
    refine f1 hv (by decide) (by decide) fun t v1 hv1 h0 h1 => ?_
    simp only [↓w_bvar, ↓w_bnv, ↓w_var, ↓w_non, ↓w_bl, ↓w_int, ↓w_str, ↓w_val, ↓w_one, ↓w_bin, ↓w_neg, ↓w_test, ↓w_not, ↓w_and, ↓w_or, ↓w_ife, ↓w_cmp, ↓w_chain, ↓w_call, ↓w_bi, ↓w_isi, ↓w_isis, ↓w_ix, ↓w_sl, ↓w_rev, ↓w_tup, ↓w_lst, ↓w_snil, ↓w_scons, ↓w_bnil, ↓w_bcons, ↓w_anil, ↓w_aconsN, ↓w_aconsF, ↓w_aconsT, ↓w_prnop, ↓w_pr, ↓w_put, ↓w_asgN, ↓w_asgT, ↓w_par, ↓w_ifs, ↓w_ret, ↓w_retn, ↓w_raise, ↓w_brk, ↓w_cont, ↓w_expr, ↓w_seti, ↓w_turn, ↓w_cnop, ↓w_cond, ↓w_lc, ↓w_forF, iv_non, iv_bl, iv_int, np_int, iv_str, iv_glob, iv_bin, np_bin, iv_neg, np_neg, iv_not, iv_and, iv_or, iv_one, iv_ife, np_ife, iv_cmp, iv_chain, iv_call, np_call, iv_bi, np_bi, iv_isi, iv_isis, iv_ix, np_ix, iv_sl, iv_rev, iv_tup, iv_lst, iv_lc, iv_disp, iv_get, iv_lcK, iv_val, np_var, np_cmp, np_chain, np_not, np_and, np_or, np_isi, np_isis, np_one, Rw_got, Ov_some, Ob_true, Ob_false, rdB, rdV, Rw_got, List.getElem?_cons_zero, List.getElem?_cons_succ, List.set_cons_zero, List.set_cons_succ, List.length_cons, List.length_nil, List.length_set, at0, at1, at2, at3, ix0, ix1, ix2, ix3, vf_add, vf_sub, vf_mul, vf_fdiv, vf_mod, vf_pow, vf_addT, vf_addL, vf_lt, vf_le, vf_gt, vf_ge, vf_lt2, vf_le2, vf_gt2, vf_ge2, vf_isN, vf_notN, vf_nn_int, vf_nn_bl, vf_nn_tup, vf_nn_lst, vf_nn_str, vf_nn_non, vf_tr_bl, vf_tr_int, vf_tr_non, vf_tr_tup, vf_tr_lst, vf_lenT, vf_lenL, vf_abs, vf_int, vf_tupL, vf_tupT, vf_lstL, vf_lstT, vf_gcd, vf_ixL, vf_ixT, vf_ixS, vf_setL, vf_appL, vf_neg, vf_ow, vf_mkT, vf_mkF, vf_part, vf_revL, vf_revT, vf_is_int_int, vf_is_bl_int, vf_is_str_int, vf_is_tup_int, vf_is_lst_int, vf_is_scr_int, vf_is_non_int, vf_is_int_bool, vf_is_bl_bool, vf_is_str_bool, vf_is_tup_bool, vf_is_lst_bool, vf_is_scr_bool, vf_is_non_bool, vf_is_int_str, vf_is_bl_str, vf_is_str_str, vf_is_tup_str, vf_is_lst_str, vf_is_scr_str, vf_is_non_str, vf_is_int_tuple, vf_is_bl_tuple, vf_is_str_tuple, vf_is_tup_tuple, vf_is_lst_tuple, vf_is_scr_tuple, vf_is_non_tuple, vf_is_int_list, vf_is_bl_list, vf_is_str_list, vf_is_tup_list, vf_is_lst_list, vf_is_scr_list, vf_is_non_list, vf_eqI, vf_neI, vf_eqB, Option.map_some, Option.bind_some, List.map_cons, List.map_nil, Nat.reduceAdd, Nat.reducePow, Int.reducePow, hPow18, Int.reduceMul, Int.reduceSub, Int.reduceFDiv, Int.reduceFMod, Nat.reduceLT, Nat.reduceLeDiff, Nat.reduceSub, Int.reduceLE, Int.reduceLT, Int.reduceNeg, Int.reduceAdd, Int.reduceToNat, Int.reduceEq, Int.ofNat_eq_coe, ↓reduceIte, reduceCtorEq, decide_true, decide_false, Int.cast_ofNat_Int, and_true, true_and, Bool.not_true, Bool.not_false, giveR]
    obtain ⟨p, hp⟩ : ∃ p, (1000000000 : Int) - t = p := ⟨_, rfl⟩
    rw [hp]
    obtain ⟨e, hV, he⟩ : ∃ e, Valid p e ∧ e = (if p.fmod 2 = 1 then p - 1 else 1) := by
      refine ⟨_, ?_, rfl⟩
      by_cases hq : p.fmod 2 = 1
      · rw [if_pos hq]
        rw [Int.fmod_eq_emod_of_nonneg _ (by decide)] at hq
        exact ⟨by omega, by omega, by omega, gcd_next (by omega), by rw [Int.fmod_eq_emod_of_nonneg _ (by decide)]; omega⟩
      · rw [if_neg hq]
        rw [Int.fmod_eq_emod_of_nonneg _ (by decide)] at hq
        exact ⟨by omega, by omega, by omega, by simp, by rw [Int.fmod_eq_emod_of_nonneg _ (by decide)]; omega⟩
    have a7 := f7 hV
    have l2 : 2 ≤ sizeLine := by decide
    have l0 : 0 ≤ sizeLine := by decide
    have l3 : 3 ≤ sizeLine := by decide
    have l13 : 13 ≤ sizeLine := by decide
    refine w_seq (I := fun ρ => ρ = [.fz sc, .ow v1, t2, .fz (.int p), .fz (.tup [.int p, .int e]), t5, t6, t7, t8, t9, t10, t11]) ?_ ?_
    · by_cases hq : p.fmod 2 = 1
      · rw [if_pos hq] at he
        subst he
        simp only [↓w_bvar, ↓w_bnv, ↓w_var, ↓w_non, ↓w_bl, ↓w_int, ↓w_str, ↓w_val, ↓w_one, ↓w_bin, ↓w_neg, ↓w_test, ↓w_not, ↓w_and, ↓w_or, ↓w_ife, ↓w_cmp, ↓w_chain, ↓w_call, ↓w_bi, ↓w_isi, ↓w_isis, ↓w_ix, ↓w_sl, ↓w_rev, ↓w_tup, ↓w_lst, ↓w_snil, ↓w_scons, ↓w_bnil, ↓w_bcons, ↓w_anil, ↓w_aconsN, ↓w_aconsF, ↓w_aconsT, ↓w_prnop, ↓w_pr, ↓w_put, ↓w_asgN, ↓w_asgT, ↓w_par, ↓w_ifs, ↓w_ret, ↓w_retn, ↓w_raise, ↓w_brk, ↓w_cont, ↓w_expr, ↓w_seti, ↓w_turn, ↓w_cnop, ↓w_cond, ↓w_lc, ↓w_forF, iv_non, iv_bl, iv_int, np_int, iv_str, iv_glob, iv_bin, np_bin, iv_neg, np_neg, iv_not, iv_and, iv_or, iv_one, iv_ife, np_ife, iv_cmp, iv_chain, iv_call, np_call, iv_bi, np_bi, iv_isi, iv_isis, iv_ix, np_ix, iv_sl, iv_rev, iv_tup, iv_lst, iv_lc, iv_disp, iv_get, iv_lcK, iv_val, np_var, np_cmp, np_chain, np_not, np_and, np_or, np_isi, np_isis, np_one, Rw_got, Ov_some, Ob_true, Ob_false, rdB, rdV, Rw_got, List.getElem?_cons_zero, List.getElem?_cons_succ, List.set_cons_zero, List.set_cons_succ, List.length_cons, List.length_nil, List.length_set, at0, at1, at2, at3, ix0, ix1, ix2, ix3, vf_add, vf_sub, vf_mul, vf_fdiv, vf_mod, vf_pow, vf_addT, vf_addL, vf_lt, vf_le, vf_gt, vf_ge, vf_lt2, vf_le2, vf_gt2, vf_ge2, vf_isN, vf_notN, vf_nn_int, vf_nn_bl, vf_nn_tup, vf_nn_lst, vf_nn_str, vf_nn_non, vf_tr_bl, vf_tr_int, vf_tr_non, vf_tr_tup, vf_tr_lst, vf_lenT, vf_lenL, vf_abs, vf_int, vf_tupL, vf_tupT, vf_lstL, vf_lstT, vf_gcd, vf_ixL, vf_ixT, vf_ixS, vf_setL, vf_appL, vf_neg, vf_ow, vf_mkT, vf_mkF, vf_part, vf_revL, vf_revT, vf_is_int_int, vf_is_bl_int, vf_is_str_int, vf_is_tup_int, vf_is_lst_int, vf_is_scr_int, vf_is_non_int, vf_is_int_bool, vf_is_bl_bool, vf_is_str_bool, vf_is_tup_bool, vf_is_lst_bool, vf_is_scr_bool, vf_is_non_bool, vf_is_int_str, vf_is_bl_str, vf_is_str_str, vf_is_tup_str, vf_is_lst_str, vf_is_scr_str, vf_is_non_str, vf_is_int_tuple, vf_is_bl_tuple, vf_is_str_tuple, vf_is_tup_tuple, vf_is_lst_tuple, vf_is_scr_tuple, vf_is_non_tuple, vf_is_int_list, vf_is_bl_list, vf_is_str_list, vf_is_tup_list, vf_is_lst_list, vf_is_scr_list, vf_is_non_list, vf_eqI, vf_neI, vf_eqB, Option.map_some, Option.bind_some, List.map_cons, List.map_nil, Nat.reduceAdd, Nat.reducePow, Int.reducePow, hPow18, Int.reduceMul, Int.reduceSub, Int.reduceFDiv, Int.reduceFMod, Nat.reduceLT, Nat.reduceLeDiff, Nat.reduceSub, Int.reduceLE, Int.reduceLT, Int.reduceNeg, Int.reduceAdd, Int.reduceToNat, Int.reduceEq, Int.ofNat_eq_coe, ↓reduceIte, reduceCtorEq, decide_true, decide_false, Int.cast_ofNat_Int, and_true, true_and, Bool.not_true, Bool.not_false, hq, l2]
      · rw [if_neg hq] at he
        subst he
        simp only [↓w_bvar, ↓w_bnv, ↓w_var, ↓w_non, ↓w_bl, ↓w_int, ↓w_str, ↓w_val, ↓w_one, ↓w_bin, ↓w_neg, ↓w_test, ↓w_not, ↓w_and, ↓w_or, ↓w_ife, ↓w_cmp, ↓w_chain, ↓w_call, ↓w_bi, ↓w_isi, ↓w_isis, ↓w_ix, ↓w_sl, ↓w_rev, ↓w_tup, ↓w_lst, ↓w_snil, ↓w_scons, ↓w_bnil, ↓w_bcons, ↓w_anil, ↓w_aconsN, ↓w_aconsF, ↓w_aconsT, ↓w_prnop, ↓w_pr, ↓w_put, ↓w_asgN, ↓w_asgT, ↓w_par, ↓w_ifs, ↓w_ret, ↓w_retn, ↓w_raise, ↓w_brk, ↓w_cont, ↓w_expr, ↓w_seti, ↓w_turn, ↓w_cnop, ↓w_cond, ↓w_lc, ↓w_forF, iv_non, iv_bl, iv_int, np_int, iv_str, iv_glob, iv_bin, np_bin, iv_neg, np_neg, iv_not, iv_and, iv_or, iv_one, iv_ife, np_ife, iv_cmp, iv_chain, iv_call, np_call, iv_bi, np_bi, iv_isi, iv_isis, iv_ix, np_ix, iv_sl, iv_rev, iv_tup, iv_lst, iv_lc, iv_disp, iv_get, iv_lcK, iv_val, np_var, np_cmp, np_chain, np_not, np_and, np_or, np_isi, np_isis, np_one, Rw_got, Ov_some, Ob_true, Ob_false, rdB, rdV, Rw_got, List.getElem?_cons_zero, List.getElem?_cons_succ, List.set_cons_zero, List.set_cons_succ, List.length_cons, List.length_nil, List.length_set, at0, at1, at2, at3, ix0, ix1, ix2, ix3, vf_add, vf_sub, vf_mul, vf_fdiv, vf_mod, vf_pow, vf_addT, vf_addL, vf_lt, vf_le, vf_gt, vf_ge, vf_lt2, vf_le2, vf_gt2, vf_ge2, vf_isN, vf_notN, vf_nn_int, vf_nn_bl, vf_nn_tup, vf_nn_lst, vf_nn_str, vf_nn_non, vf_tr_bl, vf_tr_int, vf_tr_non, vf_tr_tup, vf_tr_lst, vf_lenT, vf_lenL, vf_abs, vf_int, vf_tupL, vf_tupT, vf_lstL, vf_lstT, vf_gcd, vf_ixL, vf_ixT, vf_ixS, vf_setL, vf_appL, vf_neg, vf_ow, vf_mkT, vf_mkF, vf_part, vf_revL, vf_revT, vf_is_int_int, vf_is_bl_int, vf_is_str_int, vf_is_tup_int, vf_is_lst_int, vf_is_scr_int, vf_is_non_int, vf_is_int_bool, vf_is_bl_bool, vf_is_str_bool, vf_is_tup_bool, vf_is_lst_bool, vf_is_scr_bool, vf_is_non_bool, vf_is_int_str, vf_is_bl_str, vf_is_str_str, vf_is_tup_str, vf_is_lst_str, vf_is_scr_str, vf_is_non_str, vf_is_int_tuple, vf_is_bl_tuple, vf_is_str_tuple, vf_is_tup_tuple, vf_is_lst_tuple, vf_is_scr_tuple, vf_is_non_tuple, vf_is_int_list, vf_is_bl_list, vf_is_str_list, vf_is_tup_list, vf_is_lst_list, vf_is_scr_list, vf_is_non_list, vf_eqI, vf_neI, vf_eqB, Option.map_some, Option.bind_some, List.map_cons, List.map_nil, Nat.reduceAdd, Nat.reducePow, Int.reducePow, hPow18, Int.reduceMul, Int.reduceSub, Int.reduceFDiv, Int.reduceFMod, Nat.reduceLT, Nat.reduceLeDiff, Nat.reduceSub, Int.reduceLE, Int.reduceLT, Int.reduceNeg, Int.reduceAdd, Int.reduceToNat, Int.reduceEq, Int.ofNat_eq_coe, ↓reduceIte, reduceCtorEq, decide_true, decide_false, Int.cast_ofNat_Int, and_true, true_and, Bool.not_true, Bool.not_false, hq, l2]
    · rintro ρ rfl
      rw [w_cons]
      simp only [↓w_bvar, ↓w_bnv, ↓w_var, ↓w_non, ↓w_bl, ↓w_int, ↓w_str, ↓w_val, ↓w_one, ↓w_bin, ↓w_neg, ↓w_test, ↓w_not, ↓w_and, ↓w_or, ↓w_ife, ↓w_cmp, ↓w_chain, ↓w_call, ↓w_bi, ↓w_isi, ↓w_isis, ↓w_ix, ↓w_sl, ↓w_rev, ↓w_tup, ↓w_lst, ↓w_snil, ↓w_scons, ↓w_bnil, ↓w_bcons, ↓w_anil, ↓w_aconsN, ↓w_aconsF, ↓w_aconsT, ↓w_prnop, ↓w_pr, ↓w_put, ↓w_asgN, ↓w_asgT, ↓w_par, ↓w_ifs, ↓w_ret, ↓w_retn, ↓w_raise, ↓w_brk, ↓w_cont, ↓w_expr, ↓w_seti, ↓w_turn, ↓w_cnop, ↓w_cond, ↓w_lc, ↓w_forF, iv_non, iv_bl, iv_int, np_int, iv_str, iv_glob, iv_bin, np_bin, iv_neg, np_neg, iv_not, iv_and, iv_or, iv_one, iv_ife, np_ife, iv_cmp, iv_chain, iv_call, np_call, iv_bi, np_bi, iv_isi, iv_isis, iv_ix, np_ix, iv_sl, iv_rev, iv_tup, iv_lst, iv_lc, iv_disp, iv_get, iv_lcK, iv_val, np_var, np_cmp, np_chain, np_not, np_and, np_or, np_isi, np_isis, np_one, Rw_got, Ov_some, Ob_true, Ob_false, rdB, rdV, Rw_got, List.getElem?_cons_zero, List.getElem?_cons_succ, List.set_cons_zero, List.set_cons_succ, List.length_cons, List.length_nil, List.length_set, at0, at1, at2, at3, ix0, ix1, ix2, ix3, vf_add, vf_sub, vf_mul, vf_fdiv, vf_mod, vf_pow, vf_addT, vf_addL, vf_lt, vf_le, vf_gt, vf_ge, vf_lt2, vf_le2, vf_gt2, vf_ge2, vf_isN, vf_notN, vf_nn_int, vf_nn_bl, vf_nn_tup, vf_nn_lst, vf_nn_str, vf_nn_non, vf_tr_bl, vf_tr_int, vf_tr_non, vf_tr_tup, vf_tr_lst, vf_lenT, vf_lenL, vf_abs, vf_int, vf_tupL, vf_tupT, vf_lstL, vf_lstT, vf_gcd, vf_ixL, vf_ixT, vf_ixS, vf_setL, vf_appL, vf_neg, vf_ow, vf_mkT, vf_mkF, vf_part, vf_revL, vf_revT, vf_is_int_int, vf_is_bl_int, vf_is_str_int, vf_is_tup_int, vf_is_lst_int, vf_is_scr_int, vf_is_non_int, vf_is_int_bool, vf_is_bl_bool, vf_is_str_bool, vf_is_tup_bool, vf_is_lst_bool, vf_is_scr_bool, vf_is_non_bool, vf_is_int_str, vf_is_bl_str, vf_is_str_str, vf_is_tup_str, vf_is_lst_str, vf_is_scr_str, vf_is_non_str, vf_is_int_tuple, vf_is_bl_tuple, vf_is_str_tuple, vf_is_tup_tuple, vf_is_lst_tuple, vf_is_scr_tuple, vf_is_non_tuple, vf_is_int_list, vf_is_bl_list, vf_is_str_list, vf_is_tup_list, vf_is_lst_list, vf_is_scr_list, vf_is_non_list, vf_eqI, vf_neI, vf_eqB, Option.map_some, Option.bind_some, List.map_cons, List.map_nil, Nat.reduceAdd, Nat.reducePow, Int.reducePow, hPow18, Int.reduceMul, Int.reduceSub, Int.reduceFDiv, Int.reduceFMod, Nat.reduceLT, Nat.reduceLeDiff, Nat.reduceSub, Int.reduceLE, Int.reduceLT, Int.reduceNeg, Int.reduceAdd, Int.reduceToNat, Int.reduceEq, Int.ofNat_eq_coe, ↓reduceIte, reduceCtorEq, decide_true, decide_false, Int.cast_ofNat_Int, and_true, true_and, Bool.not_true, Bool.not_false, s7, s4, a7, f4, giveR, w_nil]
      rw [w_cons]
      have m1 : (mergeD [] [] (([] : List Key).zip ([] : List Val))) = ([], []) := rfl
      simp only [↓w_bvar, ↓w_bnv, ↓w_var, ↓w_non, ↓w_bl, ↓w_int, ↓w_str, ↓w_val, ↓w_one, ↓w_bin, ↓w_neg, ↓w_test, ↓w_not, ↓w_and, ↓w_or, ↓w_ife, ↓w_cmp, ↓w_chain, ↓w_call, ↓w_bi, ↓w_isi, ↓w_isis, ↓w_ix, ↓w_sl, ↓w_rev, ↓w_tup, ↓w_lst, ↓w_snil, ↓w_scons, ↓w_bnil, ↓w_bcons, ↓w_anil, ↓w_aconsN, ↓w_aconsF, ↓w_aconsT, ↓w_prnop, ↓w_pr, ↓w_put, ↓w_asgN, ↓w_asgT, ↓w_par, ↓w_ifs, ↓w_ret, ↓w_retn, ↓w_raise, ↓w_brk, ↓w_cont, ↓w_expr, ↓w_seti, ↓w_turn, ↓w_cnop, ↓w_cond, ↓w_lc, ↓w_forF, iv_non, iv_bl, iv_int, np_int, iv_str, iv_glob, iv_bin, np_bin, iv_neg, np_neg, iv_not, iv_and, iv_or, iv_one, iv_ife, np_ife, iv_cmp, iv_chain, iv_call, np_call, iv_bi, np_bi, iv_isi, iv_isis, iv_ix, np_ix, iv_sl, iv_rev, iv_tup, iv_lst, iv_lc, iv_disp, iv_get, iv_lcK, iv_val, np_var, np_cmp, np_chain, np_not, np_and, np_or, np_isi, np_isis, np_one, Rw_got, Ov_some, Ob_true, Ob_false, rdB, rdV, Rw_got, List.getElem?_cons_zero, List.getElem?_cons_succ, List.set_cons_zero, List.set_cons_succ, List.length_cons, List.length_nil, List.length_set, at0, at1, at2, at3, ix0, ix1, ix2, ix3, vf_add, vf_sub, vf_mul, vf_fdiv, vf_mod, vf_pow, vf_addT, vf_addL, vf_lt, vf_le, vf_gt, vf_ge, vf_lt2, vf_le2, vf_gt2, vf_ge2, vf_isN, vf_notN, vf_nn_int, vf_nn_bl, vf_nn_tup, vf_nn_lst, vf_nn_str, vf_nn_non, vf_tr_bl, vf_tr_int, vf_tr_non, vf_tr_tup, vf_tr_lst, vf_lenT, vf_lenL, vf_abs, vf_int, vf_tupL, vf_tupT, vf_lstL, vf_lstT, vf_gcd, vf_ixL, vf_ixT, vf_ixS, vf_setL, vf_appL, vf_neg, vf_ow, vf_mkT, vf_mkF, vf_part, vf_revL, vf_revT, vf_is_int_int, vf_is_bl_int, vf_is_str_int, vf_is_tup_int, vf_is_lst_int, vf_is_scr_int, vf_is_non_int, vf_is_int_bool, vf_is_bl_bool, vf_is_str_bool, vf_is_tup_bool, vf_is_lst_bool, vf_is_scr_bool, vf_is_non_bool, vf_is_int_str, vf_is_bl_str, vf_is_str_str, vf_is_tup_str, vf_is_lst_str, vf_is_scr_str, vf_is_non_str, vf_is_int_tuple, vf_is_bl_tuple, vf_is_str_tuple, vf_is_tup_tuple, vf_is_lst_tuple, vf_is_scr_tuple, vf_is_non_tuple, vf_is_int_list, vf_is_bl_list, vf_is_str_list, vf_is_tup_list, vf_is_lst_list, vf_is_scr_list, vf_is_non_list, vf_eqI, vf_neI, vf_eqB, Option.map_some, Option.bind_some, List.map_cons, List.map_nil, Nat.reduceAdd, Nat.reducePow, Int.reducePow, hPow18, Int.reduceMul, Int.reduceSub, Int.reduceFDiv, Int.reduceFMod, Nat.reduceLT, Nat.reduceLeDiff, Nat.reduceSub, Int.reduceLE, Int.reduceLT, Int.reduceNeg, Int.reduceAdd, Int.reduceToNat, Int.reduceEq, Int.ofNat_eq_coe, ↓reduceIte, reduceCtorEq, decide_true, decide_false, Int.cast_ofNat_Int, and_true, true_and, Bool.not_true, Bool.not_false, s2, w_disp, m1, po1, l0, l2, l13]
      refine f2 hv1 (by simp) (by simp) fun x hx v2 hv2 => ?_
      obtain ⟨g1, g2⟩ := f20 x hx
      simp only [↓w_bvar, ↓w_bnv, ↓w_var, ↓w_non, ↓w_bl, ↓w_int, ↓w_str, ↓w_val, ↓w_one, ↓w_bin, ↓w_neg, ↓w_test, ↓w_not, ↓w_and, ↓w_or, ↓w_ife, ↓w_cmp, ↓w_chain, ↓w_call, ↓w_bi, ↓w_isi, ↓w_isis, ↓w_ix, ↓w_sl, ↓w_rev, ↓w_tup, ↓w_lst, ↓w_snil, ↓w_scons, ↓w_bnil, ↓w_bcons, ↓w_anil, ↓w_aconsN, ↓w_aconsF, ↓w_aconsT, ↓w_prnop, ↓w_pr, ↓w_put, ↓w_asgN, ↓w_asgT, ↓w_par, ↓w_ifs, ↓w_ret, ↓w_retn, ↓w_raise, ↓w_brk, ↓w_cont, ↓w_expr, ↓w_seti, ↓w_turn, ↓w_cnop, ↓w_cond, ↓w_lc, ↓w_forF, iv_non, iv_bl, iv_int, np_int, iv_str, iv_glob, iv_bin, np_bin, iv_neg, np_neg, iv_not, iv_and, iv_or, iv_one, iv_ife, np_ife, iv_cmp, iv_chain, iv_call, np_call, iv_bi, np_bi, iv_isi, iv_isis, iv_ix, np_ix, iv_sl, iv_rev, iv_tup, iv_lst, iv_lc, iv_disp, iv_get, iv_lcK, iv_val, np_var, np_cmp, np_chain, np_not, np_and, np_or, np_isi, np_isis, np_one, Rw_got, Ov_some, Ob_true, Ob_false, rdB, rdV, Rw_got, List.getElem?_cons_zero, List.getElem?_cons_succ, List.set_cons_zero, List.set_cons_succ, List.length_cons, List.length_nil, List.length_set, at0, at1, at2, at3, ix0, ix1, ix2, ix3, vf_add, vf_sub, vf_mul, vf_fdiv, vf_mod, vf_pow, vf_addT, vf_addL, vf_lt, vf_le, vf_gt, vf_ge, vf_lt2, vf_le2, vf_gt2, vf_ge2, vf_isN, vf_notN, vf_nn_int, vf_nn_bl, vf_nn_tup, vf_nn_lst, vf_nn_str, vf_nn_non, vf_tr_bl, vf_tr_int, vf_tr_non, vf_tr_tup, vf_tr_lst, vf_lenT, vf_lenL, vf_abs, vf_int, vf_tupL, vf_tupT, vf_lstL, vf_lstT, vf_gcd, vf_ixL, vf_ixT, vf_ixS, vf_setL, vf_appL, vf_neg, vf_ow, vf_mkT, vf_mkF, vf_part, vf_revL, vf_revT, vf_is_int_int, vf_is_bl_int, vf_is_str_int, vf_is_tup_int, vf_is_lst_int, vf_is_scr_int, vf_is_non_int, vf_is_int_bool, vf_is_bl_bool, vf_is_str_bool, vf_is_tup_bool, vf_is_lst_bool, vf_is_scr_bool, vf_is_non_bool, vf_is_int_str, vf_is_bl_str, vf_is_str_str, vf_is_tup_str, vf_is_lst_str, vf_is_scr_str, vf_is_non_str, vf_is_int_tuple, vf_is_bl_tuple, vf_is_str_tuple, vf_is_tup_tuple, vf_is_lst_tuple, vf_is_scr_tuple, vf_is_non_tuple, vf_is_int_list, vf_is_bl_list, vf_is_str_list, vf_is_tup_list, vf_is_lst_list, vf_is_scr_list, vf_is_non_list, vf_eqI, vf_neI, vf_eqB, Option.map_some, Option.bind_some, List.map_cons, List.map_nil, Nat.reduceAdd, Nat.reducePow, Int.reducePow, hPow18, Int.reduceMul, Int.reduceSub, Int.reduceFDiv, Int.reduceFMod, Nat.reduceLT, Nat.reduceLeDiff, Nat.reduceSub, Int.reduceLE, Int.reduceLT, Int.reduceNeg, Int.reduceAdd, Int.reduceToNat, Int.reduceEq, Int.ofNat_eq_coe, ↓reduceIte, reduceCtorEq, decide_true, decide_false, Int.cast_ofNat_Int, and_true, true_and, Bool.not_true, Bool.not_false, giveR]
      rw [w_cons]
      unfold sgd at g1 g2 f4s
      simp only [↓w_bvar, ↓w_bnv, ↓w_var, ↓w_non, ↓w_bl, ↓w_int, ↓w_str, ↓w_val, ↓w_one, ↓w_bin, ↓w_neg, ↓w_test, ↓w_not, ↓w_and, ↓w_or, ↓w_ife, ↓w_cmp, ↓w_chain, ↓w_call, ↓w_bi, ↓w_isi, ↓w_isis, ↓w_ix, ↓w_sl, ↓w_rev, ↓w_tup, ↓w_lst, ↓w_snil, ↓w_scons, ↓w_bnil, ↓w_bcons, ↓w_anil, ↓w_aconsN, ↓w_aconsF, ↓w_aconsT, ↓w_prnop, ↓w_pr, ↓w_put, ↓w_asgN, ↓w_asgT, ↓w_par, ↓w_ifs, ↓w_ret, ↓w_retn, ↓w_raise, ↓w_brk, ↓w_cont, ↓w_expr, ↓w_seti, ↓w_turn, ↓w_cnop, ↓w_cond, ↓w_lc, ↓w_forF, iv_non, iv_bl, iv_int, np_int, iv_str, iv_glob, iv_bin, np_bin, iv_neg, np_neg, iv_not, iv_and, iv_or, iv_one, iv_ife, np_ife, iv_cmp, iv_chain, iv_call, np_call, iv_bi, np_bi, iv_isi, iv_isis, iv_ix, np_ix, iv_sl, iv_rev, iv_tup, iv_lst, iv_lc, iv_disp, iv_get, iv_lcK, iv_val, np_var, np_cmp, np_chain, np_not, np_and, np_or, np_isi, np_isis, np_one, Rw_got, Ov_some, Ob_true, Ob_false, rdB, rdV, Rw_got, List.getElem?_cons_zero, List.getElem?_cons_succ, List.set_cons_zero, List.set_cons_succ, List.length_cons, List.length_nil, List.length_set, at0, at1, at2, at3, ix0, ix1, ix2, ix3, vf_add, vf_sub, vf_mul, vf_fdiv, vf_mod, vf_pow, vf_addT, vf_addL, vf_lt, vf_le, vf_gt, vf_ge, vf_lt2, vf_le2, vf_gt2, vf_ge2, vf_isN, vf_notN, vf_nn_int, vf_nn_bl, vf_nn_tup, vf_nn_lst, vf_nn_str, vf_nn_non, vf_tr_bl, vf_tr_int, vf_tr_non, vf_tr_tup, vf_tr_lst, vf_lenT, vf_lenL, vf_abs, vf_int, vf_tupL, vf_tupT, vf_lstL, vf_lstT, vf_gcd, vf_ixL, vf_ixT, vf_ixS, vf_setL, vf_appL, vf_neg, vf_ow, vf_mkT, vf_mkF, vf_part, vf_revL, vf_revT, vf_is_int_int, vf_is_bl_int, vf_is_str_int, vf_is_tup_int, vf_is_lst_int, vf_is_scr_int, vf_is_non_int, vf_is_int_bool, vf_is_bl_bool, vf_is_str_bool, vf_is_tup_bool, vf_is_lst_bool, vf_is_scr_bool, vf_is_non_bool, vf_is_int_str, vf_is_bl_str, vf_is_str_str, vf_is_tup_str, vf_is_lst_str, vf_is_scr_str, vf_is_non_str, vf_is_int_tuple, vf_is_bl_tuple, vf_is_str_tuple, vf_is_tup_tuple, vf_is_lst_tuple, vf_is_scr_tuple, vf_is_non_tuple, vf_is_int_list, vf_is_bl_list, vf_is_str_list, vf_is_tup_list, vf_is_lst_list, vf_is_scr_list, vf_is_non_list, vf_eqI, vf_neI, vf_eqB, Option.map_some, Option.bind_some, List.map_cons, List.map_nil, Nat.reduceAdd, Nat.reducePow, Int.reducePow, hPow18, Int.reduceMul, Int.reduceSub, Int.reduceFDiv, Int.reduceFMod, Nat.reduceLT, Nat.reduceLeDiff, Nat.reduceSub, Int.reduceLE, Int.reduceLT, Int.reduceNeg, Int.reduceAdd, Int.reduceToNat, Int.reduceEq, Int.ofNat_eq_coe, ↓reduceIte, reduceCtorEq, decide_true, decide_false, Int.cast_ofNat_Int, and_true, true_and, Bool.not_true, Bool.not_false, s4, s20, g1, f4s, giveR, w_nil, l2, l3]
      rw [w_cons]
      simp only [↓w_bvar, ↓w_bnv, ↓w_var, ↓w_non, ↓w_bl, ↓w_int, ↓w_str, ↓w_val, ↓w_one, ↓w_bin, ↓w_neg, ↓w_test, ↓w_not, ↓w_and, ↓w_or, ↓w_ife, ↓w_cmp, ↓w_chain, ↓w_call, ↓w_bi, ↓w_isi, ↓w_isis, ↓w_ix, ↓w_sl, ↓w_rev, ↓w_tup, ↓w_lst, ↓w_snil, ↓w_scons, ↓w_bnil, ↓w_bcons, ↓w_anil, ↓w_aconsN, ↓w_aconsF, ↓w_aconsT, ↓w_prnop, ↓w_pr, ↓w_put, ↓w_asgN, ↓w_asgT, ↓w_par, ↓w_ifs, ↓w_ret, ↓w_retn, ↓w_raise, ↓w_brk, ↓w_cont, ↓w_expr, ↓w_seti, ↓w_turn, ↓w_cnop, ↓w_cond, ↓w_lc, ↓w_forF, iv_non, iv_bl, iv_int, np_int, iv_str, iv_glob, iv_bin, np_bin, iv_neg, np_neg, iv_not, iv_and, iv_or, iv_one, iv_ife, np_ife, iv_cmp, iv_chain, iv_call, np_call, iv_bi, np_bi, iv_isi, iv_isis, iv_ix, np_ix, iv_sl, iv_rev, iv_tup, iv_lst, iv_lc, iv_disp, iv_get, iv_lcK, iv_val, np_var, np_cmp, np_chain, np_not, np_and, np_or, np_isi, np_isis, np_one, Rw_got, Ov_some, Ob_true, Ob_false, rdB, rdV, Rw_got, List.getElem?_cons_zero, List.getElem?_cons_succ, List.set_cons_zero, List.set_cons_succ, List.length_cons, List.length_nil, List.length_set, at0, at1, at2, at3, ix0, ix1, ix2, ix3, vf_add, vf_sub, vf_mul, vf_fdiv, vf_mod, vf_pow, vf_addT, vf_addL, vf_lt, vf_le, vf_gt, vf_ge, vf_lt2, vf_le2, vf_gt2, vf_ge2, vf_isN, vf_notN, vf_nn_int, vf_nn_bl, vf_nn_tup, vf_nn_lst, vf_nn_str, vf_nn_non, vf_tr_bl, vf_tr_int, vf_tr_non, vf_tr_tup, vf_tr_lst, vf_lenT, vf_lenL, vf_abs, vf_int, vf_tupL, vf_tupT, vf_lstL, vf_lstT, vf_gcd, vf_ixL, vf_ixT, vf_ixS, vf_setL, vf_appL, vf_neg, vf_ow, vf_mkT, vf_mkF, vf_part, vf_revL, vf_revT, vf_is_int_int, vf_is_bl_int, vf_is_str_int, vf_is_tup_int, vf_is_lst_int, vf_is_scr_int, vf_is_non_int, vf_is_int_bool, vf_is_bl_bool, vf_is_str_bool, vf_is_tup_bool, vf_is_lst_bool, vf_is_scr_bool, vf_is_non_bool, vf_is_int_str, vf_is_bl_str, vf_is_str_str, vf_is_tup_str, vf_is_lst_str, vf_is_scr_str, vf_is_non_str, vf_is_int_tuple, vf_is_bl_tuple, vf_is_str_tuple, vf_is_tup_tuple, vf_is_lst_tuple, vf_is_scr_tuple, vf_is_non_tuple, vf_is_int_list, vf_is_bl_list, vf_is_str_list, vf_is_tup_list, vf_is_lst_list, vf_is_scr_list, vf_is_non_list, vf_eqI, vf_neI, vf_eqB, Option.map_some, Option.bind_some, List.map_cons, List.map_nil, Nat.reduceAdd, Nat.reducePow, Int.reducePow, hPow18, Int.reduceMul, Int.reduceSub, Int.reduceFDiv, Int.reduceFMod, Nat.reduceLT, Nat.reduceLeDiff, Nat.reduceSub, Int.reduceLE, Int.reduceLT, Int.reduceNeg, Int.reduceAdd, Int.reduceToNat, Int.reduceEq, Int.ofNat_eq_coe, ↓reduceIte, reduceCtorEq, decide_true, decide_false, Int.cast_ofNat_Int, and_true, true_and, Bool.not_true, Bool.not_false, s4, s20, g2, f4s, giveR, l2, l3]
      exact hk _
theorem law_ok {d : Nat} {ns : List Int} (hl : ns.length ≤ 63) : ∃ o, D.prg.den (d + 7) 21 [.fz (.scr (ns.map .int))] = .got ((.bl true, false), o) := by
  have key : Rw (D.prg.den (d + 7) 21 [.fz (.scr (ns.map .int))]) (fun z => ∃ o, z = ((.bl true, false), o)) NX := by
    rw [den_succ (g := g_law) rfl, w_run rfl, gst_law]
    show Ow (evSs _ _ g_law.body [.fz (.scr (ns.map .int)), .no, .no, .no, .no, .no, .no, .no, .no, .no, .no, .no]) _
    refine law_body rfl (fun ρ => ⟨_, rfl⟩) ?_ ?_ ?_ ?_ ?_ ?_ ?_ (turn_k (d := d)) ?_ ?_ ?_ ?_ ?_ ?_ ?_ ?_
    · rw [env_stab]; exact stab0
    · rw [env_stab]; exact stab1
    · rw [env_stab]; exact stab2
    · rw [env_stab]; exact stab4
    · rw [env_stab]; exact stab7
    · rw [env_stab]; exact stab16
    · rw [env_stab]; exact stab20
    · rw [env_den]; exact fun q => pool_sub (d := d + 5) hl q
    · rw [env_den]; exact fun h a b q => take_sub (d := d + 4) h a b q
    · rw [env_den]; exact fun h a b q => pick_sub (d := d + 3) h a b q
    · rw [env_den]; exact same_bl (d := d + 5)
    · rw [env_den]; exact same_signed (d := d + 3)
    · rw [env_den]; intro p e hV; have := same_ok (d := d + 3) hV hV; rwa [dueB_self] at this
    · rw [env_den]; exact always_ok (d := d)
    · rw [env_den]; exact fun x hx => fault_first (d := d + 2) hx
  generalize D.prg.den (d + 7) 21 [.fz (.scr (ns.map .int))] = rr at key ⊢
  obtain ⟨a, e, o, rfl⟩ := Rw_iff.mp key
  exact ⟨o, e⟩
end HD
open PySem PySem.W PySem.Calls PyProof.Rows
namespace HD
theorem law_holds (hv : ∀ ns : List Int, ns.length ≤ 63 → ∃ o, HD.D.prg.den (20 + 1) 21 [.fz (.scr (ns.map .int))] = .got ((.bl true, false), o)) : PySem.Challenge.rw_knotproved_k71_whole_directed_two_bridge.Holds := by
  w_on; o_law
  refine HandSHeadRun.head_imp (r := OpenLaw.row PySem.Challenge.rw_knotproved_k71_whole_directed_two_bridge) (q := view (OpenLaw.row PySem.Challenge.rw_knotproved_k71_whole_directed_two_bridge).prog [32]) (H := HD.hk) (ob := HD.ob) (M := 2000) (loose := HD.names) (d := HandSHeadRun.topDef (OpenLaw.row PySem.Challenge.rw_knotproved_k71_whole_directed_two_bridge).prog 32) (kwd := []) EV.obT_eq
    HD.run (by kernel_rfl) (by kernel_rfl) (by kernel_rfl) (by rfl) (by first | assumption | decide +kernel) (by decide +kernel) ⟨rfl, rfl, rfl, rfl, rfl, by decide +kernel⟩ ?hw ?hc
  case hw => w_witness2
  case hc =>
    exact EV.law_walk (l := PySem.Challenge.rw_knotproved_k71_whole_directed_two_bridge) (D := HD.D) (f := 21) (dd := 20) (p := ⟨"law", HD.top 32, ["script", "pool", "turn", "p", "great", "wrong", "one", "kind", "other", "e", "some", "r"], ["script"], HD.g_law⟩) rfl (by kernel_rfl) ⟨rfl, by decide, by decide⟩ (by decide)
      (fun p m => List.all_eq_true.mp HD.checked p m) HD.binds rfl rfl (by kernel_rfl) hv
end HD
set_option maxRecDepth 100000 in
set_option maxHeartbeats 0 in
theorem PySem.Challenge.cw_knotproved_k71_whole_directed_two_bridge_holds : PySem.Challenge.rw_knotproved_k71_whole_directed_two_bridge.Holds := by
  exact HD.law_holds fun ns hl => HD.law_ok (d := 14) hl
