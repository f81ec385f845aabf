import PyProof.Rows.All
import Wide.All
import OpenK.AllK
import Wide.FinOn
import HandS.Base
import HandS.Call
import HandS.List
import HandS.Comp
import HandS.Ends
import HandS.Iter
import HandS.Conv
import HandS.More
import HandS.Words
import HandS.Defaults
import HandS.Style
import HandS.Zip
import HandS.Exc
import HandS.HeadHook1
import HandS.CallSlots
import HandS.TupMul
import HandS.Wide
import HandS.IsInst
import PyProof.SumWalkG
import PyProof.WalksMore
import HandS.Flow
import HandS.TupAny
import HandS.Walk
import PyProof.Draws
import HandS.ExcOwn
import KE.GoesMore
import HandS.HeadHook2
import HandS.HeadEnd
import PySem.Challenge.RW_formstead_k80_devices_by_an_own_look
import KE.KStateDown
import HandS.Head0
import HandS.Head1
import HandS.Head2
set_option Elab.async false
set_option linter.all false
set_option maxRecDepth 100000
set_option maxHeartbeats 0
namespace Fx
open PySem PySem.Spec PyProof.Rows L2
/-- pure values: a list that nobody changes any more is a value too; ref: a place of the small heap -/
inductive Val where
  | none | bool (b : Bool) | int (i : Int) | str (s : String) | tup (xs : List Val) | lst (xs : List Val) | frz (xs : List Val) | ref (n : Nat)
  deriving Inhabited
inductive Obj where
  | lst (xs : List Val)
  deriving Inhabited
abbrev Heap := List Obj
/-- what a def's slot holds: nothing, a value, a list of its own -/
inductive Slot where
  | no | val (v : Val) | own (xs : List Val) | frz (xs : List Val)
  deriving Inhabited
abbrev Store := List Slot
/-- an exception: its class, the one field that it keeps -/
structure Exc where
  cls : String
  arg : Option (String × Val)
inductive R (α : Type) where
  | no
  | ok (a : α) (G : Heap)
  | exc (e : Exc) (G : Heap)
def R.bind {α β : Type} (m : R α) (f : α → Heap → R β) : R β := match m with
  | .no => .no
  | .ok a G => f a G
  | .exc e G => .exc e G
@[simp] theorem R.bind_ok {α β : Type} (a : α) (G : Heap) (f : α → Heap → R β) : (R.ok a G).bind f = f a G := rfl
@[simp] theorem R.bind_no {α β : Type} (f : α → Heap → R β) : (R.no : R α).bind f = .no := rfl
@[simp] theorem R.bind_exc {α β : Type} (e : Exc) (G : Heap) (f : α → Heap → R β) : (R.exc e G : R α).bind f = .exc e G := rfl
/-- what is wanted of an outcome -/
def R.wp {α : Type} (r : R α) (k : α → Heap → Prop) (x : Exc → Heap → Prop) : Prop := match r with
  | .no => False
  | .ok a G => k a G
  | .exc e G => x e G
theorem R.wp_bind {α β : Type} {m : R α} {f : α → Heap → R β} {k : β → Heap → Prop} {x : Exc → Heap → Prop} : (m.bind f).wp k x ↔ m.wp (fun a G => (f a G).wp k x) x := by
  cases m <;> exact Iff.rfl
theorem R.wp_mono {α : Type} {r : R α} {k k' : α → Heap → Prop} {x x' : Exc → Heap → Prop} (h : r.wp k x) (hk : ∀ a G, k a G → k' a G) (hx : ∀ e G, x e G → x' e G) : r.wp k' x' := by
  cases r with
  | no => exact h
  | ok a G => exact hk a G h
  | exc e G => exact hx e G h
/-- a pure outcome -/
def R.opt {α : Type} (o : Option α) (G : Heap) : R α := match o with
  | some a => .ok a G
  | none => .no
@[simp] theorem R.opt_some {α : Type} (a : α) (G : Heap) : R.opt (some a) G = .ok a G := rfl
@[simp] theorem R.opt_none {α : Type} (G : Heap) : (R.opt none G : R α) = .no := rfl
theorem R.wp_opt {α : Type} {o : Option α} {G : Heap} {k : α → Heap → Prop} {x : Exc → Heap → Prop} (h : (R.opt o G).wp k x) : ∃ a, o = some a ∧ k a G := by
  cases o with
  | none => exact h.elim
  | some a => exact ⟨a, rfl, h⟩
theorem R.bind_eq_ok {α β : Type} {m : R α} {f : α → Heap → R β} {b : β} {G : Heap} (h : m.bind f = .ok b G) : ∃ a G1, m = .ok a G1 ∧ f a G1 = .ok b G := by
  cases m with
  | no => cases h
  | ok a G1 => exact ⟨a, G1, rfl, h⟩
  | exc e G1 => cases h
/-- where the abstract things stand: the heap's places, the own lists' places by slot, what else is not to be touched -/
structure Mp where
  φ : List Addr
  ow : Nat → Option Addr
  xo : Addr → Prop
def Mp.ex (M : Mp) (a : Addr) : Prop := a ∈ M.φ ∨ (∃ i, M.ow i = some a) ∨ M.xo a
section
variable (K : PySem.W.Frag)
def TupK (a : Addr) (xs : List V) : Prop :=
  ∃ (o : PySem.Obj) (its : Array Value) (n : Nat), K.lookup a = some o ∧ o.cls = .type "tuple" ∧ o.data = .seq its n ∧ its.size ≤ sizeLine ∧ Vals xs its.toList
def LstK (a : Addr) (xs : List V) : Prop :=
  ∃ (o : PySem.Obj) (its : Array Value) (n : Nat), K.lookup a = some o ∧ o.cls = .type "list" ∧ o.dict = none ∧ o.data = .seq its n ∧ its.size ≤ sizeLine ∧ Vals xs its.toList
mutual
/-- v stands for u -/
inductive Rl (M : Mp) (H : Hp) : Val → V → Prop where
  | nn : Rl M H .none .non
  | bool (b : Bool) : Rl M H (.bool b) (.bl b)
  | int (i : Int) : Rl M H (.int i) (.int i)
  | str (s : String) : Rl M H (.str s) (.str (Str.ofString s))
  | tupT {a xs vs} : ¬ M.ex a → Rd H a (.tup vs) → Rls M H xs vs → Rl M H (.tup xs) (.ref a)
  | tupK {a xs vs} : TupK K a vs → Rls M H xs vs → Rl M H (.tup xs) (.ref a)
  | lst {a xs vs} : ¬ M.ex a → H a = some (.lst vs) → Rls M H xs vs → Rl M H (.lst xs) (.ref a)
  | frzT {a o xs vs} : ¬ M.ex a → H a = some (.frz o (.lst vs)) → Rls M H xs vs → Rl M H (.frz xs) (.ref a)
  | frzK {a xs vs} : LstK K a vs → Rls M H xs vs → Rl M H (.frz xs) (.ref a)
  | ref {n a} : M.φ[n]? = some a → Rl M H (.ref n) (.ref a)
inductive Rls (M : Mp) (H : Hp) : List Val → List V → Prop where
  | nil : Rls M H [] []
  | cons {x v xs vs} : Rl M H x v → Rls M H xs vs → Rls M H (x :: xs) (v :: vs)
end
end
variable {K : PySem.W.Frag}

/-- what a def's own code may change -/
def Mp.mu (M : Mp) (a : Addr) : Prop := a ∈ M.φ ∨ ∃ i, M.ow i = some a
theorem Mp.mu_ex {M : Mp} {a : Addr} (h : M.mu a) : M.ex a := h.elim .inl fun x => .inr (.inl x)
/-- later, behind statements: the map has grown, what is not to be changed is kept -/
structure Since (M : Mp) (H : Hp) (M' : Mp) (H' : Hp) : Prop where
  pre : ∃ l, M'.φ = M.φ ++ l ∧ ∀ a ∈ l, H a = none
  xo : ∀ a, M.xo a → M'.xo a
  xo' : ∀ a, M'.xo a → M.xo a ∨ H a = none
  mu : ∀ a, M'.mu a → M.mu a ∨ H a = none
  keep : ∀ a o, ¬ M.mu a → H a = some o → H' a = some o
  there : ∀ a o, H a = some o → ∃ o', H' a = some o'
/-- .. behind expressions: a def's own lists are as they were -/
structure Later (M : Mp) (H : Hp) (M' : Mp) (H' : Hp) : Prop where
  pre : ∃ l, M'.φ = M.φ ++ l ∧ ∀ a ∈ l, H a = none
  ow : M'.ow = M.ow
  xo : ∀ a, M.xo a → M'.xo a
  xo' : ∀ a, M'.xo a → M.xo a ∨ H a = none
  keep : ∀ a o, a ∉ M.φ → H a = some o → H' a = some o
  there : ∀ a o, H a = some o → ∃ o', H' a = some o'
section
variable {M M' M1 M2 : Mp} {H H' H1 H2 : Hp}
theorem Later.since (l : Later M H M' H') : Since M H M' H' where
  pre := l.pre
  xo := l.xo
  xo' := l.xo'
  mu := fun a h => by
    obtain ⟨k, e, f⟩ := l.pre
    rcases h with h | h
    · rw [e] at h
      rcases List.mem_append.mp h with h | h
      · exact .inl (.inl h)
      · exact .inr (f a h)
    · rw [l.ow] at h; exact .inl (.inr h)
  keep := fun a o h e => l.keep a o (fun z => h (.inl z)) e
  there := l.there
theorem Since.refl (M : Mp) (H : Hp) : Since M H M H := ⟨⟨[], by simp, fun _ h => nomatch h⟩, fun _ h => h, fun _ h => .inl h, fun _ h => .inl h, fun _ _ _ h => h, fun _ o h => ⟨o, h⟩⟩
theorem Later.refl (M : Mp) (H : Hp) : Later M H M H := ⟨⟨[], by simp, fun _ h => nomatch h⟩, rfl, fun _ h => h, fun _ h => .inl h, fun _ _ _ h => h, fun _ o h => ⟨o, h⟩⟩
theorem Since.gone (l : Since M H M' H') {a : Addr} (h : H' a = none) : H a = none := by
  cases q : H a with
  | none => rfl
  | some o =>
    obtain ⟨o', e⟩ := l.there a o q
    rw [h] at e; cases e
theorem pre_trans {x y : List Addr} (l : Since M H M1 H1) (e1 : M1.φ = M.φ ++ x) (f1 : ∀ a ∈ x, H a = none) (e2 : M2.φ = M1.φ ++ y) (f2 : ∀ a ∈ y, H1 a = none) : ∃ l, M2.φ = M.φ ++ l ∧ ∀ a ∈ l, H a = none :=
  ⟨x ++ y, by rw [e2, e1, List.append_assoc], fun a ha => (List.mem_append.mp ha).elim (f1 a) fun h => l.gone (f2 a h)⟩
theorem Since.trans (l : Since M H M1 H1) (k : Since M1 H1 M2 H2) : Since M H M2 H2 := by
  obtain ⟨x, e1, f1⟩ := l.pre
  obtain ⟨y, e2, f2⟩ := k.pre
  refine ⟨pre_trans l e1 f1 e2 f2, fun a h => k.xo a (l.xo a h), fun a h => (k.xo' a h).elim (l.xo' a) fun z => .inr (l.gone z), fun a h => ?_, fun a o h e => k.keep a o (fun z => ?_) (l.keep a o h e), fun a o ho => ?_⟩
  · rcases k.mu a h with z | z
    · exact l.mu a z
    · exact .inr (l.gone z)
  · rcases l.mu a z with q | q
    · exact h q
    · rw [q] at e; cases e
  · obtain ⟨o1, h1⟩ := l.there a o ho
    exact k.there a o1 h1
theorem Later.trans (l : Later M H M1 H1) (k : Later M1 H1 M2 H2) : Later M H M2 H2 := by
  obtain ⟨x, e1, f1⟩ := l.pre
  obtain ⟨y, e2, f2⟩ := k.pre
  have nin : ∀ a o, a ∉ M.φ → H a = some o → a ∉ M1.φ := fun a o ha ho hin => by
    rw [e1] at hin
    rcases List.mem_append.mp hin with h | h
    · exact ha h
    · rw [f1 a h] at ho; cases ho
  refine ⟨pre_trans l.since e1 f1 e2 f2, k.ow.trans l.ow, fun a h => k.xo a (l.xo a h), fun a h => (k.xo' a h).elim (l.xo' a) fun z => .inr (l.since.gone z), fun a o ha ho => k.keep a o (nin a o ha ho) (l.keep a o ha ho), fun a o ho => ?_⟩
  obtain ⟨o1, h1⟩ := l.there a o ho
  exact k.there a o1 h1
theorem Since.ex' (l : Since M H M' H') {a : Addr} (h : M'.ex a) : M.ex a ∨ H a = none := by
  have go : M'.mu a → M.ex a ∨ H a = none := fun z => (l.mu a z).elim (fun q => .inl (Mp.mu_ex q)) .inr
  rcases h with h | h | h
  · exact go (.inl h)
  · exact go (.inr h)
  · exact (l.xo' a h).imp (fun z => .inr (.inr z)) id
theorem Since.at_ (l : Since M H M' H') {a : Addr} {o : HO} (hx : ¬ M.ex a) (h : H a = some o) : H' a = some o ∧ ¬ M'.ex a :=
  ⟨l.keep a _ (fun z => hx (Mp.mu_ex z)) h, fun z => (l.ex' z).elim hx fun q => by rw [h] at q; cases q⟩
theorem Since.rd (l : Since M H M' H') {a : Addr} {u : HO} (hx : ¬ M.ex a) (h : Rd H a u) : Rd H' a u ∧ ¬ M'.ex a := by
  rcases h with h | ⟨o, h⟩
  · exact ⟨.inl (l.at_ hx h).1, (l.at_ hx h).2⟩
  · exact ⟨.inr ⟨o, (l.at_ hx h).1⟩, (l.at_ hx h).2⟩
/-- the least that values ask -/
structure Ext (M : Mp) (H : Hp) (M' : Mp) (H' : Hp) : Prop where
  pre : ∃ l, M'.φ = M.φ ++ l
  ex : ∀ a, M'.ex a → M.ex a ∨ H a = Option.none
  keep : ∀ a o, ¬ M.ex a → H a = some o → H' a = some o
theorem Ext.at_ (l : Ext M H M' H') {a : Addr} {o : HO} (hx : ¬ M.ex a) (h : H a = some o) : H' a = some o ∧ ¬ M'.ex a :=
  ⟨l.keep a _ hx h, fun z => (l.ex a z).elim hx fun q => by rw [h] at q; cases q⟩
theorem Ext.rd (l : Ext M H M' H') {a : Addr} {u : HO} (hx : ¬ M.ex a) (h : Rd H a u) : Rd H' a u ∧ ¬ M'.ex a := by
  rcases h with h | ⟨o, h⟩
  · exact ⟨.inl (l.at_ hx h).1, (l.at_ hx h).2⟩
  · exact ⟨.inr ⟨o, (l.at_ hx h).1⟩, (l.at_ hx h).2⟩
theorem Since.ext (l : Since M H M' H') : Ext M H M' H' := ⟨let ⟨k, e, _⟩ := l.pre; ⟨k, e⟩, fun _ z => l.ex' z, fun a o h e => l.keep a o (fun z => h (Mp.mu_ex z)) e⟩
mutual
theorem Rl.ext (l : Ext M H M' H') : ∀ {x : Val} {v : V}, Rl K M H x v → Rl K M' H' x v
  | _, _, .nn => .nn
  | _, _, .bool b => .bool b
  | _, _, .int i => .int i
  | _, _, .str s => .str s
  | _, _, .tupT hx hr hs => .tupT (l.rd hx hr).2 (l.rd hx hr).1 (Rls.ext l hs)
  | _, _, .tupK hk hs => .tupK hk (Rls.ext l hs)
  | _, _, .lst hx hr hs => .lst (l.at_ hx hr).2 (l.at_ hx hr).1 (Rls.ext l hs)
  | _, _, .frzT hx hr hs => .frzT (l.at_ hx hr).2 (l.at_ hx hr).1 (Rls.ext l hs)
  | _, _, .frzK hk hs => .frzK hk (Rls.ext l hs)
  | _, _, .ref e => .ref (by
    obtain ⟨k, e1⟩ := l.pre
    rw [e1]
    obtain ⟨h1, h2⟩ := List.getElem?_eq_some_iff.mp e
    rw [List.getElem?_append_left h1]
    exact e)
theorem Rls.ext (l : Ext M H M' H') : ∀ {xs : List Val} {vs : List V}, Rls K M H xs vs → Rls K M' H' xs vs
  | _, _, .nil => .nil
  | _, _, .cons h t => .cons (Rl.ext l h) (Rls.ext l t)
end
theorem Rl.since (l : Since M H M' H') {x : Val} {v : V} (r : Rl K M H x v) : Rl K M' H' x v := r.ext l.ext
theorem Rls.since (l : Since M H M' H') {xs : List Val} {vs : List V} (r : Rls K M H xs vs) : Rls K M' H' xs vs := r.ext l.ext
theorem Rl.later (l : Later M H M' H') {x : Val} {v : V} (r : Rl K M H x v) : Rl K M' H' x v := r.since l.since
theorem Rls.later (l : Later M H M' H') {xs : List Val} {vs : List V} (r : Rls K M H xs vs) : Rls K M' H' xs vs := r.since l.since
theorem Ext.swap (e : M'.φ = M.φ) (hx : ∀ a, M'.ex a → M.ex a) : Ext M H M' H := ⟨⟨[], by rw [e, List.append_nil]⟩, fun a z => .inl (hx a z), fun _ _ _ h => h⟩
theorem Rl.swap (e : M'.φ = M.φ) (hx : ∀ a, M'.ex a → M.ex a) {x : Val} {v : V} (r : Rl K M H x v) : Rl K M' H x v := r.ext (Ext.swap e hx)
theorem Rls.swap (e : M'.φ = M.φ) (hx : ∀ a, M'.ex a → M.ex a) {xs : List Val} {vs : List V} (r : Rls K M H xs vs) : Rls K M' H xs vs := r.ext (Ext.swap e hx)
theorem Rls.length : ∀ {xs : List Val} {vs : List V}, Rls K M H xs vs → xs.length = vs.length
  | _, _, .nil => rfl
  | _, _, .cons _ t => congrArg (· + 1) (Rls.length t)
theorem Rls.get : ∀ {xs : List Val} {vs : List V} {i : Nat} {x : Val}, Rls K M H xs vs → xs[i]? = some x → ∃ v, vs[i]? = some v ∧ Rl K M H x v
  | _, _, _, _, .nil, e => by simp at e
  | _, _, 0, _, .cons r _, e => by simp at e; subst e; exact ⟨_, rfl, r⟩
  | _, _, i + 1, x, .cons _ t, e => by
    obtain ⟨v, h1, h2⟩ := Rls.get (i := i) (x := x) t (by simpa using e)
    exact ⟨v, by simpa using h1, h2⟩
theorem Rls.append : ∀ {xs ys : List Val} {vs us : List V}, Rls K M H xs vs → Rls K M H ys us → Rls K M H (xs ++ ys) (vs ++ us)
  | _, _, _, _, .nil, s => s
  | _, _, _, _, .cons r t, s => .cons r (Rls.append t s)
theorem Rls.take : ∀ {xs : List Val} {vs : List V} (n : Nat), Rls K M H xs vs → Rls K M H (xs.take n) (vs.take n)
  | _, _, 0, _ => .nil
  | _, _, _ + 1, .nil => .nil
  | _, _, n + 1, .cons r t => .cons r (Rls.take n t)
theorem Rls.drop : ∀ {xs : List Val} {vs : List V} (n : Nat), Rls K M H xs vs → Rls K M H (xs.drop n) (vs.drop n)
  | _, _, 0, r => r
  | _, _, _ + 1, .nil => .nil
  | _, _, n + 1, .cons _ t => Rls.drop n t
theorem Rls.set {x : Val} {v : V} (r : Rl K M H x v) : ∀ {xs : List Val} {vs : List V} (i : Nat), Rls K M H xs vs → Rls K M H (xs.set i x) (vs.set i v)
  | _, _, _, .nil => .nil
  | _, _, 0, .cons _ t => .cons r t
  | _, _, i + 1, .cons q t => .cons q (Rls.set r i t)
theorem Rls.reverse {xs : List Val} {vs : List V} (r : Rls K M H xs vs) : Rls K M H xs.reverse vs.reverse := by
  induction xs generalizing vs with
  | nil => cases r; exact .nil
  | cons x xs ih => cases r with
    | cons h t =>
      rw [List.reverse_cons, List.reverse_cons]
      exact (ih t).append (.cons h .nil)
end
/-- the map's parts lie apart -/
structure MpOk (M : Mp) (H : Hp) : Prop where
  nodup : M.φ.Nodup
  d1 : ∀ i a, M.ow i = some a → a ∉ M.φ
  d2 : ∀ a, M.xo a → a ∉ M.φ
  d3 : ∀ i a, M.ow i = some a → ¬ M.xo a
  oin : ∀ i j a, M.ow i = some a → M.ow j = some a → i = j
  oth : ∀ i a, M.ow i = some a → ∃ o, H a = some o
  xth : ∀ a, M.xo a → ∃ o, H a = some o
/-- one more place that is not to be touched -/
def Mp.add (M : Mp) (a : Addr) : Mp := { M with xo := fun b => M.xo b ∨ b = a }
def ObjR (K : PySem.W.Frag) (M : Mp) (H : Hp) (a : Addr) : Obj → Prop
  | .lst xs => ∃ vs, H a = some (.lst vs) ∧ Rls K M H xs vs
structure HeapR (K : PySem.W.Frag) (M : Mp) (G : Heap) (H : Hp) : Prop where
  ok : MpOk M H
  len : M.φ.length = G.length
  obj : ∀ (n : Nat) a o, M.φ[n]? = some a → G[n]? = some o → ObjR K M H a o
def SlotR (K : PySem.W.Frag) (M : Mp) (H : Hp) (i : Nat) (o : Option (Option V)) : Slot → Prop
  | .no => True
  | .val v => ∃ u, o = some (some u) ∧ Rl K M H v u
  | .own xs => ∃ a vs, o = some (some (.ref a)) ∧ M.ow i = some a ∧ H a = some (.lst vs) ∧ Rls K M H xs vs
  | .frz xs => ∃ a vs, o = some (some (.ref a)) ∧ M.xo a ∧ H a = some (.lst vs) ∧ Rls K M H xs vs
structure StoreR (K : PySem.W.Frag) (M : Mp) (H : Hp) (s : Store) (st : L2.St) : Prop where
  len : s.length = st.length
  at_ : ∀ i, SlotR K M H i st[i]? (s.getD i .no)
section
variable {M M' : Mp} {H H' : Hp} {G G' : Heap} {s : Store} {st : L2.St}
theorem StoreR.later (r : StoreR K M H s st) (ok : MpOk M H) (l : Later M H M' H') : StoreR K M' H' s st := ⟨r.len, fun i => by
  have h := r.at_ i
  revert h
  cases s.getD i .no with
  | no => exact fun _ => trivial
  | val v => exact fun ⟨u, e, q⟩ => ⟨u, e, q.later l⟩
  | own xs => exact fun ⟨a, vs, e, o, q, t⟩ => ⟨a, vs, e, by rw [l.ow]; exact o, l.keep a _ (ok.d1 i a o) q, t.later l⟩
  | frz xs => exact fun ⟨a, vs, e, o, q, t⟩ => ⟨a, vs, e, l.xo a o, l.keep a _ (ok.d2 a o) q, t.later l⟩⟩
end
end Fx

namespace Fx
open PySem PySem.Spec PyProof.Rows L2
inductive Bf where
  | len | tuple | list | int | abs | sum | max | min | all | any | divmod
  deriving DecidableEq, Repr
inductive Ty where
  | int | bool | tuple | list | str | none_
  deriving DecidableEq, Repr
mutual
inductive E where
  | var (i : Nat) | own (i : Nat) | con (v : Val)
  | tup (es : Es) | lst (es : Es)
  | bin (op : Operator) (a b : E) | neg (a : E)
  | cmp (op : CmpOp) (a b : E) | cmp2 (op op2 : CmpOp) (a b c : E)
  | not (a : E) | and (a b : E) | or (a b : E) | ite (c a b : E)
  | idx (a i : E) | slice (a : E) (bl : Bool) (lo : E) (bh : Bool) (hi : E)
  | call (f : String) (es : Es) | bcall (f : Bf) (es : Es) | isi (a : E) (t : Ty)
  | comp (ws : List Nat) (t : Tg) (it : Itx) (c : E) (e : E)
  | heap (e : E)
  | stop
inductive Es where
  | nil | cons (e : E) (es : Es)
inductive Itx where
  | of (e : E) | rng1 (a : E) | rng2 (a b : E) | zip (a b : E) | enum (a : E)
inductive Tg where
  | name (i : Nat) | tup (ts : Tgs)
inductive Tgs where
  | nil | cons (t : Tg) (ts : Tgs)
end
abbrev Calls := String → List Val → Heap → R Val
/-- a list of the heap, as it reads now -/
def rd (G : Heap) : Val → Val
  | .ref n => match G[n]? with
    | some (.lst xs) => .lst xs
    | _ => .ref n
  | v => v
def truthV : Val → Option Bool
  | .none => some false
  | .bool b => some b
  | .int i => some (i != 0)
  | .str s => if s.length ≤ 16777216 then some ((s.length : Int) != 0) else none
  | .tup xs => some (!xs.isEmpty)
  | .lst xs => some (!xs.isEmpty)
  | .frz xs => some (!xs.isEmpty)
  | .ref _ => none
mutual
def toD : Val → Option PyData
  | .none => some .none
  | .bool b => some (.bool b)
  | .int i => some (.int i)
  | .str s => some (.str (Str.ofString s))
  | .tup xs => (toDs xs).map .tuple
  | .lst xs => (toDs xs).map .list
  | .frz xs => (toDs xs).map .list
  | .ref _ => none
def toDs : List Val → Option (List PyData)
  | [] => some []
  | x :: xs => (toD x).bind fun d => (toDs xs).map fun ds => d :: ds
end
def eqK (x y : Val) : Option Bool := match toD x, toD y with
  | some d, some e => if SeqAt.shaped d && SeqAt.shaped e then some (PyData.eqv d e) else none
  | _, _ => none
def isFlat : Val → Bool
  | .none | .bool _ | .int _ | .str _ => true
  | _ => false
/-- == of flat values -/
def eqF : Val → Val → Bool
  | .none, .none => true
  | .bool a, .bool b => a == b
  | .bool a, .int j => (if a then 1 else 0) == j
  | .int i, .bool b => i == (if b then 1 else 0)
  | .int i, .int j => i == j
  | .str a, .str b => a == b
  | _, _ => false
def inK (x : Val) (ys : List Val) : Option Bool := if isFlat x && ys.all isFlat then some (ys.any fun y => eqF y x) else none
def isNone : Val → Bool
  | .none => true
  | _ => false
def cmpK (op : CmpOp) (x y : Val) : Option Bool := match op with
  | .Eq => eqK x y
  | .NotEq => (eqK x y).map (!·)
  | .Lt => match x, y with | .int a, .int b => some (decide (a < b)) | _, _ => none
  | .LtE => match x, y with | .int a, .int b => some (decide (a ≤ b)) | _, _ => none
  | .Gt => match x, y with | .int a, .int b => some (decide (b < a)) | _, _ => none
  | .GtE => match x, y with | .int a, .int b => some (decide (b ≤ a)) | _, _ => none
  | .Is => match y with | .none => some (isNone x) | _ => none
  | .IsNot => match y with | .none => some (!isNone x) | _ => none
  | .In => match y with | .tup ys => inK x ys | .lst ys => inK x ys | .frz ys => inK x ys | _ => none
  | .NotIn => match y with | .tup ys => (inK x ys).map (!·) | .lst ys => (inK x ys).map (!·) | .frz ys => (inK x ys).map (!·) | _ => none
def lineN : Nat := 16777216
def p64 : Int := 18446744073709551616
def binK (op : Operator) (x y : Val) : Option Val := match op with
  | .Add => match x, y with
    | .int a, .int b => some (.int (a + b))
    | .tup a, .tup b => if a.length + b.length ≤ lineN then some (.tup (a ++ b)) else none
    | .lst a, .lst b => if a.length + b.length ≤ lineN then some (.lst (a ++ b)) else none
    | _, _ => none
  | .Sub => match x, y with | .int a, .int b => some (.int (a - b)) | _, _ => none
  | .Mult => match x, y with
    | .int a, .int b => if (-p64 < a ∧ a < p64) ∨ (-p64 < b ∧ b < p64) then some (.int (a * b)) else none
    | .lst a, .int k => if -9223372036854775808 ≤ k ∧ k < 9223372036854775808 ∧ a.length * k.toNat ≤ lineN then some (.lst (List.replicate k.toNat a).flatten) else none
    | .tup a, .int k => if (!a.isEmpty) = true ∧ 2 ≤ k ∧ k ≤ 1000 ∧ a.length ≤ 1000 then some (.tup (List.replicate k.toNat a).flatten) else none
    | _, _ => none
  | .FloorDiv => match x, y with | .int a, .int b => if 0 < b ∧ b < p64 then some (.int (a / b)) else none | _, _ => none
  | .Mod => match x, y with | .int a, .int b => if 0 < b then some (.int (a % b)) else none | _, _ => none
  | .Pow => match x, y with | .int a, .int b => if 0 ≤ b ∧ b ≤ 1000000 ∧ (-p64 < a ∧ a < p64) then some (.int (a ^ b.toNat)) else none | _, _ => none
  | _ => none
def cutL {α : Type} (xs : List α) (lo hi : Option Int) : List α := (xs.drop (HT.sIx xs.length 0 lo)).take (HT.sIx xs.length xs.length hi - HT.sIx xs.length 0 lo)
def idxK (x i : Val) : Option Val := match x, i with
  | .tup xs, .int k => atI xs k
  | .lst xs, .int k => atI xs k
  | .frz xs, .int k => atI xs k
  | _, _ => none
/-- a slice's part: written, or left out -/
def ixO : Bool → Val → Option (Option Int)
  | false, _ => some none
  | true, .int i => some (some i)
  | true, _ => none
def sliceV (x : Val) (l h : Option Int) : Option Val := match x with
  | .tup xs => some (.tup (cutL xs l h))
  | .lst xs => some (.lst (cutL xs l h))
  | .frz xs => some (.lst (cutL xs l h))
  | _ => none
def ints? : List Val → Option (List Int)
  | [] => some []
  | .int i :: r => (ints? r).map (i :: ·)
  | _ :: _ => none
def bools? : List Val → Option (List Bool)
  | [] => some []
  | .bool b :: r => (bools? r).map (b :: ·)
  | _ :: _ => none
def seq? : Val → Option (List Val)
  | .tup xs => some xs
  | .lst xs => some xs
  | .frz xs => some xs
  | _ => none
def seqE? : Val → Option (List Val)
  | .tup xs => some xs
  | .lst xs => some xs
  | _ => none
def maxL : List Int → Int
  | [] => 0
  | [x] => x
  | x :: r => max x (maxL r)
def minL : List Int → Int
  | [] => 0
  | [x] => x
  | x :: r => min x (minL r)
def bfK (f : Bf) (vs : List Val) : Option Val := match f, vs with
  | .len, [x] => (seq? x).map fun xs => .int xs.length
  | .tuple, [x] => (seq? x).map .tup
  | .list, [x] => (seq? x).map .lst
  | .int, [.int i] => some (.int i)
  | .int, [.bool b] => some (.int (if b then 1 else 0))
  | .abs, [.int i] => some (.int (if i < 0 then -i else i))
  | .sum, [.lst xs] => (ints? xs).map fun ns => .int ns.sum
  | .sum, [.tup xs] => (ints? xs).map fun ns => .int ns.sum
  | .max, [.int i, .int j] => some (.int (if j > i then j else i))
  | .min, [.int i, .int j] => some (.int (if j < i then j else i))
  | .max, [.lst xs] => if xs.isEmpty then none else (ints? xs).map fun ns => .int (maxL ns)
  | .min, [.lst xs] => if xs.isEmpty then none else (ints? xs).map fun ns => .int (minL ns)
  | .all, [.lst xs] => (bools? xs).map fun bs => .bool (bs.all id)
  | .any, [.lst xs] => (bools? xs).map fun bs => .bool (bs.any id)
  | .divmod, [.int a, .int b] => if 0 < b ∧ b < p64 then some (.tup [.int (a / b), .int (a % b)]) else none
  | _, _ => none
def isK (t : Ty) (x : Val) : Bool := match t, x with
  | .int, .int _ => true
  | .int, .bool _ => true
  | .bool, .bool _ => true
  | .tuple, .tup _ => true
  | .list, .lst _ => true
  | .list, .frz _ => true
  | .str, .str _ => true
  | .none_, .none => true
  | _, _ => false
def Val.isRef : Val → Bool
  | .ref _ => true
  | _ => false
def isO (t : Ty) (x : Val) : Option Val := if x.isRef then none else some (.bool (isK t x))
def rangeV (lo : Int) : Nat → List Val
  | 0 => []
  | n + 1 => .int lo :: rangeV (lo + 1) n
def zipV : List Val → List Val → List Val
  | x :: xs, y :: ys => .tup [x, y] :: zipV xs ys
  | _, _ => []
def enumV (k : Int) : List Val → List Val
  | [] => []
  | x :: xs => .tup [.int k, x] :: enumV (k + 1) xs
def p62 : Int := 4611686018427387904
def rngK (lo hi : Int) : Option (List Val) := if -p62 ≤ lo ∧ lo < p62 ∧ -p62 ≤ hi ∧ hi < p62 then some (rangeV lo (hi - lo).toNat) else none
mutual
/-- what a target does with a value -/
def setT : Tg → Val → Store → Option Store
  | .name i, v, s => some (s.set i (.val v))
  | .tup ts, .tup xs, s => setTs ts xs s
  | .tup _, _, _ => none
def setTs : Tgs → List Val → Store → Option Store
  | .nil, [], s => some s
  | .cons t ts, x :: xs, s => (setT t x s).bind fun s' => setTs ts xs s'
  | .nil, _ :: _, _ => none
  | .cons _ _, [], _ => none
end
def wipeS (s : Store) : List Nat → Store
  | [] => s
  | v :: vs => (wipeS s vs).set v .no
/-- the elements of a comprehension, one after another -/
def compR (tg : Val → Store → Option Store) (c e : Store → Heap → R Val) : List Val → Store → Heap → R (List Val)
  | [], _, G => .ok [] G
  | x :: xs, s, G => (R.opt (tg x s) G).bind fun s1 G1 => (c s1 G1).bind fun cv G2 => (R.opt (truthV (rd G2 cv)) G2).bind fun b G3 =>
    if b then (e s1 G3).bind fun v G4 => (compR tg c e xs s G4).bind fun vs G5 => .ok (v :: vs) G5
    else compR tg c e xs s G3
/-- exceptions do not leave a comprehension -/
def R.calm {α : Type} : R α → R α
  | .exc _ _ => .no
  | r => r
mutual
def evE (Γ : Calls) : E → Store → Heap → R Val
  | .var i, s, G => match s.getD i .no with
    | .val v => .ok v G
    | _ => .no
  | .own i, s, G => match s.getD i .no with
    | .own xs => .ok (.lst xs) G
    | .frz xs => .ok (.lst xs) G
    | _ => .no
  | .con v, _, G => .ok v G
  | .tup es, s, G => (evEs Γ es s G).bind fun vs G1 => .ok (.tup vs) G1
  | .lst es, s, G => (evEs Γ es s G).bind fun vs G1 => .ok (.lst vs) G1
  | .bin op a b, s, G => (evE Γ a s G).bind fun x G1 => (evE Γ b s G1).bind fun y G2 => R.opt (binK op (rd G2 x) (rd G2 y)) G2
  | .neg a, s, G => (evE Γ a s G).bind fun x G1 => match x with
    | .int i => .ok (.int (-i)) G1
    | _ => .no
  | .cmp op a b, s, G => (evE Γ a s G).bind fun x G1 => (evE Γ b s G1).bind fun y G2 => R.opt ((cmpK op (rd G2 x) (rd G2 y)).map .bool) G2
  | .cmp2 op op2 a b c, s, G => (evE Γ a s G).bind fun x G1 => (evE Γ b s G1).bind fun y G2 => (R.opt (cmpK op (rd G2 x) (rd G2 y)) G2).bind fun k G3 =>
    if k then (evE Γ c s G3).bind fun z G4 => R.opt ((cmpK op2 (rd G4 y) (rd G4 z)).map .bool) G4 else .ok (.bool false) G3
  | .not a, s, G => (evE Γ a s G).bind fun x G1 => R.opt ((truthV (rd G1 x)).map fun b => .bool (!b)) G1
  | .and a b, s, G => (evE Γ a s G).bind fun x G1 => (R.opt (truthV (rd G1 x)) G1).bind fun k G2 => if k then evE Γ b s G2 else .ok x G2
  | .or a b, s, G => (evE Γ a s G).bind fun x G1 => (R.opt (truthV (rd G1 x)) G1).bind fun k G2 => if k then .ok x G2 else evE Γ b s G2
  | .ite c a b, s, G => (evE Γ c s G).bind fun x G1 => (R.opt (truthV (rd G1 x)) G1).bind fun k G2 => if k then evE Γ a s G2 else evE Γ b s G2
  | .idx a i, s, G => (evE Γ a s G).bind fun x G1 => (evE Γ i s G1).bind fun y G2 => R.opt (idxK (rd G2 x) y) G2
  | .slice a bl lo bh hi, s, G => (evE Γ a s G).bind fun x G1 => ((evE Γ lo s G1).bind fun y G2 => R.opt (ixO bl y) G2).bind fun l G2 => ((evE Γ hi s G2).bind fun z G3 => R.opt (ixO bh z) G3).bind fun h G3 => R.opt (sliceV (rd G3 x) l h) G3
  | .call f es, s, G => (evEs Γ es s G).bind fun vs G1 => Γ f vs G1
  | .bcall f es, s, G => (evEs Γ es s G).bind fun vs G1 => R.opt (bfK f (vs.map (rd G1))) G1
  | .isi a t, s, G => (evE Γ a s G).bind fun x G1 => R.opt (isO t (rd G1 x)) G1
  | .comp ws t it c e, s, G => (evI Γ it s G).bind fun xs G1 => if lineN < xs.length then .no else ((compR (setT t) (evE Γ c) (evE Γ e) xs (wipeS s ws) G1).bind fun vs G2 => .ok (.lst vs) G2).calm
  | .heap e, s, G => (evE Γ e s G).bind fun v G1 => match v with
    | .lst xs => .ok (.ref G1.length) (G1 ++ [.lst xs])
    | _ => .no
  | .stop, _, _ => .no
def evEs (Γ : Calls) : Es → Store → Heap → R (List Val)
  | .nil, _, G => .ok [] G
  | .cons e es, s, G => (evE Γ e s G).bind fun v G1 => (evEs Γ es s G1).bind fun vs G2 => .ok (v :: vs) G2
/-- the items of what is walked -/
def evI (Γ : Calls) : Itx → Store → Heap → R (List Val)
  | .of e, s, G => (evE Γ e s G).bind fun v G1 => R.opt (seq? v) G1
  | .rng1 a, s, G => (evE Γ a s G).bind fun x G1 => match x with
    | .int n => R.opt (rngK 0 n) G1
    | _ => .no
  | .rng2 a b, s, G => (evE Γ a s G).bind fun x G1 => (evE Γ b s G1).bind fun y G2 => match x, y with
    | .int m, .int n => R.opt (rngK m n) G2
    | _, _ => .no
  | .zip a b, s, G => (evE Γ a s G).bind fun x G1 => (evE Γ b s G1).bind fun y G2 => match x, y with
    | .tup xs, .tup ys => .ok (zipV xs ys) G2
    | .lst xs, .lst ys => .ok (zipV xs ys) G2
    | _, _ => .no
  | .enum a, s, G => (evE Γ a s G).bind fun x G1 => R.opt ((seqE? x).map (enumV 0)) G1
end
mutual
inductive S where
  | stop
  | exp (e : E) | ret (e : E) | retO (k : Nat) | retN | pass | brk | cont
  | asg (t : Tg) (e : E)
  | asgOwn (i : Nat) (e : E)
  | setR (o i e : E)
  | setO (k : Nat) (i e : E)
  | app (k : Nat) (e : E)
  | appR (o e : E)
  | popO (k : Nat)
  | popT (t : Tg) (k : Nat)
  | extO (k : Nat) (e : E)
  | aug (i : Nat) (op : Operator) (e : E)
  | par (rs : PTgs) (e : E)
  | ite (c : E) (a b : Ss)
  | for_ (t : Tg) (it : Itx) (b : Ss)
  | forO (t : Tg) (k : Nat) (b : Ss)
  | while_ (c : E) (b : Ss)
inductive Ss where
  | nil | cons (s : S) (ss : Ss)
inductive PTg where
  | name (i : Nat) | item (o i : E) | itemO (k : Nat) (i : E)
inductive PTgs where
  | nil | cons (t : PTg) (ts : PTgs)
end
inductive RS where
  | no
  | next (s : Store) (G : Heap)
  | ret (v : Val) (G : Heap)
  | brk (s : Store) (G : Heap)
  | cont (s : Store) (G : Heap)
  | exc (e : Exc) (s : Store) (G : Heap)
def R.thenS {α : Type} (m : R α) (s : Store) (f : α → Heap → RS) : RS := match m with
  | .no => .no
  | .ok a G => f a G
  | .exc e G => .exc e s G
@[simp] theorem R.thenS_ok {α : Type} (a : α) (G : Heap) (s : Store) (f : α → Heap → RS) : (R.ok a G).thenS s f = f a G := rfl
@[simp] theorem R.thenS_no {α : Type} (s : Store) (f : α → Heap → RS) : (R.no : R α).thenS s f = .no := rfl
@[simp] theorem R.thenS_exc {α : Type} (e : Exc) (G : Heap) (s : Store) (f : α → Heap → RS) : (R.exc e G : R α).thenS s f = .exc e s G := rfl
def RS.seq (m : RS) (f : Store → Heap → RS) : RS := match m with
  | .next s G => f s G
  | r => r
@[simp] theorem RS.seq_next (s : Store) (G : Heap) (f : Store → Heap → RS) : (RS.next s G).seq f = f s G := rfl
@[simp] theorem RS.seq_ret (v : Val) (G : Heap) (f : Store → Heap → RS) : (RS.ret v G).seq f = .ret v G := rfl
@[simp] theorem RS.seq_no (f : Store → Heap → RS) : RS.no.seq f = .no := rfl
@[simp] theorem RS.seq_brk (s : Store) (G : Heap) (f : Store → Heap → RS) : (RS.brk s G).seq f = .brk s G := rfl
@[simp] theorem RS.seq_cont (s : Store) (G : Heap) (f : Store → Heap → RS) : (RS.cont s G).seq f = .cont s G := rfl
@[simp] theorem RS.seq_exc (e : Exc) (s : Store) (G : Heap) (f : Store → Heap → RS) : (RS.exc e s G).seq f = .exc e s G := rfl
/-- a turn's end, then the other turns -/
def RS.turn (m : RS) (f : Store → Heap → RS) : RS := match m with
  | .next s G => f s G
  | .cont s G => f s G
  | .brk s G => .next s G
  | r => r
@[simp] theorem RS.turn_next (s : Store) (G : Heap) (f : Store → Heap → RS) : (RS.next s G).turn f = f s G := rfl
@[simp] theorem RS.turn_cont (s : Store) (G : Heap) (f : Store → Heap → RS) : (RS.cont s G).turn f = f s G := rfl
@[simp] theorem RS.turn_brk (s : Store) (G : Heap) (f : Store → Heap → RS) : (RS.brk s G).turn f = .next s G := rfl
@[simp] theorem RS.turn_ret (v : Val) (G : Heap) (f : Store → Heap → RS) : (RS.ret v G).turn f = .ret v G := rfl
@[simp] theorem RS.turn_no (f : Store → Heap → RS) : RS.no.turn f = .no := rfl
@[simp] theorem RS.turn_exc (e : Exc) (s : Store) (G : Heap) (f : Store → Heap → RS) : (RS.exc e s G).turn f = .exc e s G := rfl
def forR (tg : Val → Store → Option Store) (b : Store → Heap → RS) : List Val → Store → Heap → RS
  | [], s, G => .next s G
  | x :: xs, s, G => (R.opt (tg x s) G).thenS s fun s1 G1 => (b s1 G1).turn (forR tg b xs)
def whileR (c : Store → Heap → R Val) (b : Store → Heap → RS) : Nat → Store → Heap → RS
  | 0, _, _ => .no
  | n + 1, s, G => (c s G).thenS s fun x G1 => (R.opt (truthV (rd G1 x)) G1).thenS s fun k G2 => if k then (b s G2).turn (whileR c b n) else .next s G2
def fuelW : Nat := 1000000000000
/-- a list read, one item put -/
def setK (xs : List Val) (i : Val) (v : Val) : Option (List Val) := match i with
  | .int k => (ixN xs.length k).map fun j => xs.set j v
  | _ => none
def setRef (o i v : Val) (G : Heap) : Option Heap := match o with
  | .ref n => match G[n]? with
    | some (.lst xs) => (setK xs i v).map fun ys => G.set n (.lst ys)
    | _ => none
  | _ => none
def setOwn (k : Nat) (i v : Val) (s : Store) : Option Store := match s.getD k .no with
  | .own xs => (setK xs i v).map fun ys => s.set k (.own ys)
  | _ => none
def evPTgs (Γ : Calls) : PTgs → List Val → Store → Heap → R Store
  | .nil, [], s, G => .ok s G
  | .cons (.name i) ts, x :: xs, s, G => evPTgs Γ ts xs (s.set i (.val x)) G
  | .cons (.item o i) ts, x :: xs, s, G => (evE Γ o s G).bind fun ov G1 => (evE Γ i s G1).bind fun iv G2 => (R.opt (setRef ov iv x G2) G2).bind fun G3 _ => evPTgs Γ ts xs s G3
  | .cons (.itemO k i) ts, x :: xs, s, G => match s.getD k .no with
    | .own _ => (evE Γ i s G).bind fun iv G2 => (R.opt (setOwn k iv x s) G2).bind fun s1 _ => evPTgs Γ ts xs s1 G2
    | _ => .no
  | .nil, _ :: _, _, _ => .no
  | .cons _ _, [], _, _ => .no
mutual
def evS (Γ : Calls) : S → Store → Heap → RS
  | .stop, _, _ => .no
  | .exp e, s, G => (evE Γ e s G).thenS s fun _ G1 => .next s G1
  | .ret e, s, G => (evE Γ e s G).thenS s fun v G1 => .ret v G1
  | .retO k, s, G => match s.getD k .no with
    | .own xs => .ret (.lst xs) G
    | _ => .no
  | .retN, _, G => .ret .none G
  | .pass, s, G => .next s G
  | .brk, s, G => .brk s G
  | .cont, s, G => .cont s G
  | .asg t e, s, G => (evE Γ e s G).thenS s fun v G1 => (R.opt (setT t v s) G1).thenS s .next
  | .asgOwn i e, s, G => (evE Γ e s G).thenS s fun v G1 => match v with
    | .lst xs => .next (s.set i (.own xs)) G1
    | _ => .no
  | .setR o i e, s, G => (evE Γ e s G).thenS s fun v G1 => (evE Γ o s G1).thenS s fun ov G2 => (evE Γ i s G2).thenS s fun iv G3 => match setRef ov iv v G3 with
    | some G4 => .next s G4
    | none => .no
  | .setO k i e, s, G => (evE Γ e s G).thenS s fun v G1 => match s.getD k .no with
    | .own _ => (evE Γ i s G1).thenS s fun iv G2 => match setOwn k iv v s with
      | some s1 => .next s1 G2
      | none => .no
    | _ => .no
  | .app k e, s, G => match s.getD k .no with
    | .own xs => (evE Γ e s G).thenS s fun v G1 => if xs.length < lineN then .next (s.set k (.own (xs ++ [v]))) G1 else .no
    | _ => .no
  | .appR o e, s, G => (evE Γ o s G).thenS s fun ov G1 => match rd G1 ov with
    | .lst _ => (evE Γ e s G1).thenS s fun v G2 => match ov with
      | .ref n => match G2[n]? with
        | some (.lst xs) => if xs.length < lineN then .next s (G2.set n (.lst (xs ++ [v]))) else .no
        | _ => .no
      | _ => .no
    | _ => .no
  | .extO k e, s, G => match s.getD k .no with
    | .own xs => (evE Γ e s G).thenS s fun v G1 => match v with
      | .lst ys => if xs.length + ys.length ≤ lineN then .next (s.set k (.own (xs ++ ys))) G1 else .no
      | _ => .no
    | _ => .no
  | .popT t k, s, G => match s.getD k .no with
    | .own xs => match xs[xs.length - 1]? with
      | some x => (R.opt (setT t x (s.set k (.own xs.dropLast))) G).thenS s .next
      | none => .no
    | _ => .no
  | .popO k, s, G => match s.getD k .no with
    | .own xs => match xs[xs.length - 1]? with
      | some _ => .next (s.set k (.own xs.dropLast)) G
      | none => .no
    | _ => .no
  | .aug i op e, s, G => match s.getD i .no with
    | .val (.int a) => (evE Γ e s G).thenS s fun v G1 => match op, v with
      | .Add, .int b => .next (s.set i (.val (.int (a + b)))) G1
      | .Sub, .int b => .next (s.set i (.val (.int (a - b)))) G1
      | _, _ => .no
    | _ => .no
  | .par ts e, s, G => (evE Γ e s G).thenS s fun v G1 => match v with
    | .tup xs => (evPTgs Γ ts xs s G1).calm.thenS s .next
    | _ => .no
  | .ite c a b, s, G => (evE Γ c s G).thenS s fun x G1 => (R.opt (truthV (rd G1 x)) G1).thenS s fun k G2 => if k then evSs Γ a s G2 else evSs Γ b s G2
  | .for_ t it b, s, G => (evI Γ it s G).thenS s fun xs G1 => forR (setT t) (evSs Γ b) xs s G1
  | .forO t k b, s, G => match s.getD k .no with
    | .own xs => (forR (setT t) (evSs Γ b) xs (s.set k (.frz xs)) G).turn fun s1 G1 => match s1.getD k .no with
      | .frz _ => .next (s1.set k (.own xs)) G1
      | _ => .no
    | _ => .no
  | .while_ c b, s, G => whileR (evE Γ c) (evSs Γ b) fuelW s G
def evSs (Γ : Calls) : Ss → Store → Heap → RS
  | .nil, s, G => .next s G
  | .cons x xs, s, G => (evS Γ x s G).seq (evSs Γ xs)
end
/-- a def: how many parameters, how many slots, its body -/
structure Fd where
  par : Nat
  slots : Nat
  body : Ss
abbrev Prog := String → Option Fd
def startS (n : Nat) (vs : List Val) : Store := vs.map .val ++ List.replicate (n - vs.length) .no
def runB (Γ : Calls) (d : Fd) (vs : List Val) (G : Heap) : R Val :=
  if vs.length = d.par then match evSs Γ d.body (startS d.slots vs) G with
    | .ret v G1 => .ok v G1
    | .next _ G1 => .ok .none G1
    | .exc e _ G1 => .exc e G1
    | _ => .no
  else .no
/-- calls, so many deep -/
def callN (P : Prog) : Nat → Calls
  | 0 => fun _ _ _ => .no
  | n + 1 => fun f vs G => match P f with
    | some d => runB (callN P n) d vs G
    | none => .no
end Fx

namespace Fx
open PySem PySem.Spec PyProof.Rows L2
variable {K : PySem.W.Frag}
theorem peImp {X : Cx} {e : Expr} {t t' : L2.TE} (h : PE X e t) (i : ∀ σ H Q, t' σ H Q → t σ H Q) : PE X e t' := ⟨fun pins s σ H Q I q => h.run pins s σ H Q I (i σ H Q q)⟩
theorem ptImp {X : Cx} {e : Expr} {t t' : L2.TT} (h : PT X e t) (i : ∀ σ H Q, t' σ H Q → t σ H Q) : PT X e t' := ⟨fun pins s σ H Q I q => h.run pins s σ H Q I (i σ H Q q)⟩
theorem paImp {X : Cx} {es : List Expr} {t t' : L2.TA} (h : PA X es t) (i : ∀ σ H Q, t' σ H Q → t σ H Q) : PA X es t' := ⟨fun pos pins s σ H Q I q => h.run pos pins s σ H Q I (i σ H Q q)⟩
theorem psImp {X : Cx} {st : Stmt} {t t' : L2.TS} (h : PS X st t) (i : ∀ D σ H, t' D σ H → t D σ H) : PS X st t' := ⟨fun pins s σ H D I q => h.run pins s σ H D I (i D σ H q)⟩
theorem pssImp {X : Cx} {st : List Stmt} {t t' : L2.TS} (h : PSs X st t) (i : ∀ D σ H, t' D σ H → t D σ H) : PSs X st t' := ⟨fun pins s σ H D I q => h.run pins s σ H D I (i D σ H q)⟩
/-- an operand: a value, or a list of the def's own -/
def RlO (K : PySem.W.Frag) (M : Mp) (H : Hp) (v : Val) (u : V) : Prop :=
  Rl K M H v u ∨ ∃ xs vs a, v = .lst xs ∧ u = .ref a ∧ a ∉ M.φ ∧ H a = some (.lst vs) ∧ Rls K M H xs vs
/-- .. as it reads now -/
def RlD (K : PySem.W.Frag) (M : Mp) (H : Hp) (v : Val) (u : V) : Prop :=
  Rl K M H v u ∨ ∃ xs vs a, v = .lst xs ∧ u = .ref a ∧ H a = some (.lst vs) ∧ Rls K M H xs vs
section
variable {M M' : Mp} {H H' : Hp} {G G' : Heap} {v : Val} {u : V}
theorem RlO.later (r : RlO K M H v u) (l : Later M H M' H') : RlO K M' H' v u := by
  rcases r with r | ⟨xs, vs, a, e1, e2, n, h, t⟩
  · exact .inl (r.later l)
  · refine .inr ⟨xs, vs, a, e1, e2, fun z => ?_, l.keep a _ n h, t.later l⟩
    obtain ⟨k, e, f⟩ := l.pre
    rw [e] at z
    rcases List.mem_append.mp z with z | z
    · exact n z
    · rw [f a z] at h; cases h
theorem RlO.d (r : RlO K M H v u) : RlD K M H v u := by
  rcases r with r | ⟨xs, vs, a, e1, e2, n, h, t⟩
  · exact .inl r
  · exact .inr ⟨xs, vs, a, e1, e2, h, t⟩
theorem RlD.rd (r : RlD K M H v u) (hh : HeapR K M G H) : RlD K M H (rd G v) u := by
  cases v with
  | ref n =>
    show RlD K M H (match G[n]? with | some (.lst xs) => .lst xs | _ => .ref n) u
    cases e : G[n]? with
    | none => exact r
    | some o =>
      cases o with
      | lst xs =>
        rcases r with r | ⟨_, _, _, e1, _⟩
        · cases r with
          | ref hφ =>
            obtain ⟨vs, h1, h2⟩ := hh.obj n _ _ hφ e
            exact .inr ⟨xs, vs, _, rfl, rfl, h1, h2⟩
        · cases e1
  | _ => exact r
theorem RlD.lst {xs : List Val} (r : RlD K M H (.lst xs) u) : ∃ a vs, u = .ref a ∧ H a = some (.lst vs) ∧ Rls K M H xs vs := by
  rcases r with r | ⟨_, vs, a, e1, e2, h, t⟩
  · cases r with
    | lst _ h t => exact ⟨_, _, rfl, h, t⟩
  · cases e1
    exact ⟨a, vs, e2, h, t⟩
theorem TupK.sq {a : Addr} {vs : List V} (h : TupK K a vs) (H : Hp) : SqT K H a vs := by
  obtain ⟨o, its, n, h1, h2, h3, h4, h5⟩ := h
  exact .inr ⟨o, its, n, h1, h2, h3, h4, h5⟩
theorem LstK.sq {a : Addr} {vs : List V} (h : LstK K a vs) (H : Hp) : SqL K H a vs := by
  obtain ⟨o, its, n, h1, h2, h3, h4, h5, h6⟩ := h
  exact .inr ⟨o, its, n, h1, h2, h3, h4, h5, h6⟩
theorem Rl.tup {xs : List Val} (r : Rl K M H (.tup xs) u) : ∃ a vs, u = .ref a ∧ SqT K H a vs ∧ Rls K M H xs vs := by
  cases r with
  | tupT _ h t => exact ⟨_, _, rfl, .inl h, t⟩
  | tupK h t => exact ⟨_, _, rfl, h.sq H, t⟩
theorem RlD.tup {xs : List Val} (r : RlD K M H (.tup xs) u) : ∃ a vs, u = .ref a ∧ SqT K H a vs ∧ Rls K M H xs vs := by
  rcases r with r | ⟨_, vs, a, e1, e2, h, t⟩
  · exact r.tup
  · cases e1
theorem RlD.frz {xs : List Val} (r : RlD K M H (.frz xs) u) : ∃ a vs, u = .ref a ∧ SqL K H a vs ∧ Rls K M H xs vs := by
  rcases r with r | ⟨_, vs, a, e1, e2, h, t⟩
  · cases r with
    | frzT _ h t => exact ⟨_, _, rfl, .inl (.inr ⟨_, h⟩), t⟩
    | frzK h t => exact ⟨_, _, rfl, h.sq H, t⟩
  · cases e1
theorem RlD.int {i : Int} (r : RlD K M H (.int i) u) : u = .int i := by
  rcases r with r | ⟨_, _, _, e1, _⟩
  · cases r; rfl
  · cases e1
theorem RlD.bool {b : Bool} (r : RlD K M H (.bool b) u) : u = .bl b := by
  rcases r with r | ⟨_, _, _, e1, _⟩
  · cases r; rfl
  · cases e1
theorem RlD.str {s : String} (r : RlD K M H (.str s) u) : u = .str (Str.ofString s) := by
  rcases r with r | ⟨_, _, _, e1, _⟩
  · cases r; rfl
  · cases e1
theorem RlD.nn (r : RlD K M H .none u) : u = .non := by
  rcases r with r | ⟨_, _, _, e1, _⟩
  · cases r; rfl
  · cases e1
/-- a sequence: its items -/
theorem RlD.seq {xs : List Val} (r : RlD K M H v u) (e : seq? v = some xs) : ∃ a vs, u = .ref a ∧ (SqL K H a vs ∨ SqT K H a vs) ∧ Rls K M H xs vs := by
  cases v with
  | tup ys => cases e; obtain ⟨a, vs, h1, h2, h3⟩ := r.tup; exact ⟨a, vs, h1, .inr h2, h3⟩
  | lst ys => cases e; obtain ⟨a, vs, h1, h2, h3⟩ := r.lst; exact ⟨a, vs, h1, .inl (.of h2), h3⟩
  | frz ys => cases e; obtain ⟨a, vs, h1, h2, h3⟩ := r.frz; exact ⟨a, vs, h1, .inl h2, h3⟩
  | _ => cases e
theorem Later.new {p : Addr} {o : HO} (M : Mp) (hp : H p = none) : Later M H M (upd H p o) := by
  refine ⟨⟨[], by simp, fun _ h => nomatch h⟩, rfl, fun _ h => h, fun _ h => .inl h, fun a ob _ h => ?_, fun a ob h => ?_⟩
  · rw [upd_ne (ne_of_none h hp)]; exact h
  · exact ⟨ob, by rw [upd_ne (ne_of_none h hp)]; exact h⟩
theorem HeapR.at_ (hh : HeapR K M G H) {a : Addr} (ha : a ∈ M.φ) : ∃ (n : Nat) (o : Obj), M.φ[n]? = some a ∧ G[n]? = some o ∧ ObjR K M H a o := by
  obtain ⟨n, hn, e⟩ := List.mem_iff_getElem.mp ha
  have h1 : M.φ[n]? = some a := by rw [List.getElem?_eq_getElem hn, e]
  have hn2 : n < G.length := by rw [← hh.len]; exact hn
  exact ⟨n, G[n], h1, List.getElem?_eq_getElem hn2, hh.obj n a _ h1 (List.getElem?_eq_getElem hn2)⟩
theorem HeapR.there (hh : HeapR K M G H) {a : Addr} (ha : a ∈ M.φ) : ∃ o, H a = some o := by
  obtain ⟨n, o, _, _, h⟩ := hh.at_ ha
  cases o with
  | lst xs => obtain ⟨vs, e, _⟩ := h; exact ⟨_, e⟩
theorem HeapR.fresh (hh : HeapR K M G H) {p : Addr} (hp : H p = none) : ¬ M.ex p := by
  rintro (h | ⟨i, h⟩ | h)
  · obtain ⟨o, e⟩ := hh.there h; rw [hp] at e; cases e
  · obtain ⟨o, e⟩ := hh.ok.oth i p h; rw [hp] at e; cases e
  · obtain ⟨o, e⟩ := hh.ok.xth p h; rw [hp] at e; cases e
theorem MpOk.upd_new {p : Addr} {o : HO} (h : MpOk M H) (hp : H p = none) : MpOk M (upd H p o) := by
  refine ⟨h.nodup, h.d1, h.d2, h.d3, h.oin, fun i a e => ?_, fun a e => ?_⟩
  · obtain ⟨ob, q⟩ := h.oth i a e
    exact ⟨ob, by rw [upd_ne (ne_of_none q hp)]; exact q⟩
  · obtain ⟨ob, q⟩ := h.xth a e
    exact ⟨ob, by rw [upd_ne (ne_of_none q hp)]; exact q⟩
theorem ObjR.later {a : Addr} {o : Obj} (h : ObjR K M H a o) (l : Later M H M' H') (e : ∀ ob, H a = some ob → H' a = some ob) : ObjR K M' H' a o := by
  cases o with
  | lst xs => obtain ⟨vs, h1, h2⟩ := h; exact ⟨vs, e _ h1, h2.later l⟩
theorem HeapR.new {p : Addr} {o : HO} (hh : HeapR K M G H) (hp : H p = none) : HeapR K M G (upd H p o) :=
  ⟨hh.ok.upd_new hp, hh.len, fun n a ob h1 h2 => (hh.obj n a ob h1 h2).later (Later.new M hp) fun u q => by rw [upd_ne (ne_of_none q hp)]; exact q⟩
theorem Rl.newTup {p : Addr} {xs : List Val} {vs : List V} (hh : HeapR K M G H) (hp : H p = none) (r : Rls K M H xs vs) : Rl K M (upd H p (.tup vs)) (.tup xs) (.ref p) :=
  .tupT (hh.fresh hp) (.inl upd_same) (r.later (Later.new M hp))
theorem Rl.newLst {p : Addr} {xs : List Val} {vs : List V} (hh : HeapR K M G H) (hp : H p = none) (r : Rls K M H xs vs) : Rl K M (upd H p (.lst vs)) (.lst xs) (.ref p) :=
  .lst (hh.fresh hp) upd_same (r.later (Later.new M hp))
end
/-- an exception lies so -/
def ExcR (K : PySem.W.Frag) (M : Mp) (H : Hp) (e : Exc) (cls : Value) (d : Option Addr) : Prop :=
  cls = .ref (He.ga K (Str.ofString e.cls)) ∧ match e.arg with
    | none => d = none
    | some (f, x) => ∃ dd v, d = some dd ∧ H dd = some (.xd [(Str.ofString f, v)]) ∧ Rl K M H x v
/-- what is wanted of an exception -/
def XW (K : PySem.W.Frag) (W : WX) (M : Mp) (H : Hp) (st : L2.St) (e : Exc) (G' : Heap) : Prop :=
  ∀ M' cls d H', Later M H M' H' → HeapR K M' G' H' → ExcR K M' H' e cls d → W cls d st H'
theorem XW.later {K : PySem.W.Frag} {W : WX} {M M1 : Mp} {H H1 : Hp} {st : L2.St} {e : Exc} {G' : Heap} (x : XW K W M H st e G') (l : Later M H M1 H1) : XW K W M1 H1 st e G' :=
  fun M' cls d H' l2 hh r => x M' cls d H' (l.trans l2) hh r
def tE (K : PySem.W.Frag) (W : WX) (m : Store → Heap → R Val) : L2.TE := fun st H Q => ∃ M G s, HeapR K M G H ∧ StoreR K M H s st ∧
  (m s G).wp (fun v G' => ∀ M' u H', Later M H M' H' → HeapR K M' G' H' → Rl K M' H' v u → Q u H') (XW K W M H st)
def tO (K : PySem.W.Frag) (W : WX) (m : Store → Heap → R Val) : L2.TE := fun st H Q => ∃ M G s, HeapR K M G H ∧ StoreR K M H s st ∧
  (m s G).wp (fun v G' => ∀ M' u H', Later M H M' H' → HeapR K M' G' H' → RlO K M' H' v u → Q u H') (XW K W M H st)
/-- a list that nobody else knows -/
structure NewL (K : PySem.W.Frag) (M : Mp) (G : Heap) (H : Hp) (a : Addr) (xs : List Val) (vs : List V) : Prop where
  hh : HeapR K (M.add a) G H
  at_ : H a = some (.lst vs)
  rs : Rls K (M.add a) H xs vs
  nx : ¬ M.xo a
section
variable {M M' : Mp} {H H' : Hp} {G G' : Heap} {a : Addr} {xs : List Val} {vs : List V}
theorem Mp.add_ex {b : Addr} (h : M.ex b) : (M.add a).ex b := by
  rcases h with h | h | h
  · exact .inl h
  · exact .inr (.inl h)
  · exact .inr (.inr (.inl h))
theorem Mp.of_add {b : Addr} (h : (M.add a).ex b) : M.ex b ∨ b = a := by
  rcases h with h | h | h | h
  · exact .inl (.inl h)
  · exact .inl (.inr (.inl h))
  · exact .inl (.inr (.inr h))
  · exact .inr h
theorem ext_add (hp : H a = Option.none) (o : HO) : Ext M H (M.add a) (upd H a o) :=
  ⟨⟨[], by simp [Mp.add]⟩, fun b h => (Mp.of_add h).elim .inl fun e => .inr (by rw [e]; exact hp), fun b ob _ h => by rw [upd_ne (ne_of_none h hp)]; exact h⟩
theorem HeapR.add (hh : HeapR K M G H) (hp : H a = Option.none) (o : HO) : HeapR K (M.add a) G (upd H a o) := by
  have k : ∀ b ob, H b = some ob → upd H a o b = some ob := fun b ob h => by rw [upd_ne (ne_of_none h hp)]; exact h
  refine ⟨⟨hh.ok.nodup, hh.ok.d1, fun b h => ?_, fun i b h z => ?_, hh.ok.oin, fun i b h => ?_, fun b h => ?_⟩, hh.len, fun n b ob h1 h2 => ?_⟩
  · rcases h with h | h
    · exact hh.ok.d2 b h
    · intro z
      obtain ⟨o', e⟩ := hh.there z
      rw [h, hp] at e; cases e
  · rcases z with z | z
    · exact hh.ok.d3 i b h z
    · obtain ⟨o', e⟩ := hh.ok.oth i b h
      rw [z, hp] at e; cases e
  · obtain ⟨o', e⟩ := hh.ok.oth i b h
    exact ⟨o', k _ _ e⟩
  · rcases h with h | h
    · obtain ⟨o', e⟩ := hh.ok.xth b h
      exact ⟨o', k _ _ e⟩
    · exact ⟨o, by rw [h]; exact upd_same⟩
  · have := hh.obj n b ob h1 h2
    cases ob with
    | lst ys => obtain ⟨us, e, t⟩ := this; exact ⟨us, k _ _ e, t.ext (ext_add hp o)⟩
theorem NewL.mk_ (hh : HeapR K M G H) (hp : H a = Option.none) (r : Rls K M H xs vs) : NewL K M G (upd H a (.lst vs)) a xs vs :=
  ⟨hh.add hp _, upd_same, r.ext (ext_add hp _), fun z => by
    obtain ⟨o, e⟩ := hh.ok.xth a z
    rw [hp] at e; cases e⟩
/-- as a value -/
theorem NewL.val (n : NewL K M' G' H' a xs vs) (ok : MpOk M H) (l : Later M H M' H') (hn : H a = Option.none) : HeapR K M' G' H' ∧ Rl K M' H' (.lst xs) (.ref a) := by
  have ok' := n.hh.ok
  have nx : ¬ M'.ex a := by
    rintro (h | ⟨i, h⟩ | h)
    · exact ok'.d2 a (.inr rfl) h
    · exact ok'.d3 i a h (.inr rfl)
    · exact n.nx h
  have sw : Ext (M'.add a) H' M' H' := Ext.swap rfl fun b h => Mp.add_ex h
  refine ⟨⟨⟨ok'.nodup, ok'.d1, fun b h => ok'.d2 b (.inl h), fun i b h z => ok'.d3 i b h (.inl z), ok'.oin, ok'.oth, fun b h => ok'.xth b (.inl h)⟩, n.hh.len, fun k b ob h1 h2 => ?_⟩, .lst nx n.at_ (n.rs.ext sw)⟩
  have := n.hh.obj k b ob h1 h2
  cases ob with
  | lst ys => obtain ⟨us, e, t⟩ := this; exact ⟨us, e, t.ext sw⟩
end
/-- a new list -/
def tF (K : PySem.W.Frag) (W : WX) (m : Store → Heap → R Val) : L2.TE := fun st H Q => ∃ M G s, HeapR K M G H ∧ StoreR K M H s st ∧
  (m s G).wp (fun v G' => ∃ xs, v = .lst xs ∧ ∀ M' a vs H', Later M H M' H' → H a = Option.none → NewL K M' G' H' a xs vs → Q (.ref a) H') (XW K W M H st)
def tAs (K : PySem.W.Frag) (W : WX) (m : Store → Heap → R (List Val)) : L2.TA := fun st H Q => ∃ M G s, HeapR K M G H ∧ StoreR K M H s st ∧
  (m s G).wp (fun vs G' => ∀ M' us H', Later M H M' H' → HeapR K M' G' H' → Rls K M' H' vs us → Q us H') (XW K W M H st)
/-- arguments that are operands -/
inductive RlOs (K : PySem.W.Frag) (M : Mp) (H : Hp) : List Val → List V → Prop where
  | nil : RlOs K M H [] []
  | cons {x v xs vs} : RlO K M H x v → RlOs K M H xs vs → RlOs K M H (x :: xs) (v :: vs)
theorem RlOs.later {M M' : Mp} {H H' : Hp} (l : Later M H M' H') : ∀ {xs : List Val} {vs : List V}, RlOs K M H xs vs → RlOs K M' H' xs vs
  | _, _, .nil => .nil
  | _, _, .cons h t => .cons (h.later l) (RlOs.later l t)
def tAO (K : PySem.W.Frag) (W : WX) (m : Store → Heap → R (List Val)) : L2.TA := fun st H Q => ∃ M G s, HeapR K M G H ∧ StoreR K M H s st ∧
  (m s G).wp (fun vs G' => ∀ M' us H', Later M H M' H' → HeapR K M' G' H' → RlOs K M' H' vs us → Q us H') (XW K W M H st)
def tT (K : PySem.W.Frag) (W : WX) (m : Store → Heap → R Val) : L2.TT := fun st H Q => ∃ M G s, HeapR K M G H ∧ StoreR K M H s st ∧
  (m s G).wp (fun v G' => ∃ b, truthV (rd G' v) = some b ∧ ∀ M' H', Later M H M' H' → HeapR K M' G' H' → Q b H') (XW K W M H st)
section
variable {X : Cx} {e : Expr} {W : WX} {m : Store → Heap → R Val}
theorem peO (h : PE X e (tE K W m)) : PE X e (tO K W m) := peImp h fun σ H Q ⟨M, G, s, h1, h2, h3⟩ => ⟨M, G, s, h1, h2, R.wp_mono h3 (fun v G' k M' u H' l hh r => k M' u H' l hh (.inl r)) fun _ _ x => x⟩
theorem peF (h : PE X e (tF K W m)) (hm : ∀ s G v G', m s G = .ok v G' → ∃ xs, v = .lst xs) : PE X e (tE K W m) := peImp h fun σ H Q ⟨M, G, s, h1, h2, h3⟩ => ⟨M, G, s, h1, h2, by
  cases q : m s G with
  | no => rw [q] at h3; exact h3
  | exc e G' => rw [q] at h3; exact h3
  | ok v G' =>
    rw [q] at h3
    obtain ⟨xs, rfl⟩ := hm _ _ _ _ q
    exact ⟨xs, rfl, fun M' a vs H' l hn n => h3 M' (.ref a) H' l (n.val h1.ok l hn).1 (n.val h1.ok l hn).2⟩⟩
end
/-- a list that comes is a new one -/
def Fr (K : PySem.W.Frag) (M : Mp) (H H' : Hp) (c : Val) (u : V) : Prop := ∀ xs, c = .lst xs → ∃ a ws, u = .ref a ∧ H a = Option.none ∧ H' = upd H a (.lst ws) ∧ Rls K M H xs ws
theorem Fr.no {K : PySem.W.Frag} {M : Mp} {H H' : Hp} {c : Val} {u : V} (h : ∀ xs, c ≠ .lst xs) : Fr K M H H' c u := fun xs e => absurd e (h xs)
def rB (K : PySem.W.Frag) (f : Val → Val → Option Val) : R2 := fun x y H Q => ∃ M G a b c, HeapR K M G H ∧ RlD K M H a x ∧ RlD K M H b y ∧ f a b = some c ∧
  ∀ u H', Later M H M H' → HeapR K M G H' → Rl K M H' c u → Fr K M H H' c u → Q u H'
end Fx

namespace Fx
open PySem PySem.Spec PyProof.Rows L2
variable {X : Cx}
theorem lineN_eq : lineN = sizeLine := rfl
/-- a rule for ints that gives an int -/
theorem intOp {op : Operator} {r : R2} (ho : OpR X (binaryOp op) r) {i j : Int} {c : Val} {pins : List (Addr × PySem.Obj)} {s : Shared} {σ : L2.St} {H : Hp} {M : Mp} {G : Heap} {v u : Value} {Q : VK} (I : Inv X pins σ H s) (rx : RelV (.int i) v) (ry : RelV (.int j) u) {n : Int} (hc : c = .int n)
    (hh : HeapR X.K M G H) (q : ∀ u H', Later M H M H' → HeapR X.K M G H' → Rl X.K M H' c u → Fr X.K M H H' c u → Q u H') (hr : Q (.int n) H → r (.int i) (.int j) H Q) : wpAny (model X.prog X.w) X.A (binaryOp op v u) (EP X pins σ Q) X.xe s := by
  subst hc
  exact ho pins s σ H _ _ v u Q I rx ry (hr (q _ H (Later.refl M H) hh (.int n) (Fr.no fun _ e => nomatch e)))
/-- () + t gives t itself -/
theorem op_catT0 : OpR X (binaryOp .Add) (fun x y H Q => ∃ a b ys, x = .ref a ∧ y = .ref b ∧ SqT X.K H a [] ∧ SqT X.K H b ys ∧ Q (.ref b) H) := by
  intro pins s σ H x y v u Q I rx ry h
  obtain ⟨a, b, ys, rfl, rfl, ha, hb, q⟩ := h
  cases rx
  cases ry
  obtain ⟨its, r1, p1, _⟩ := I.tuple ha
  obtain ⟨its2, r2, p2, _⟩ := I.tuple hb
  cases r1
  obtain ⟨⟨cls, dd, data, sl⟩, ho, hc, n, hd⟩ := id p1
  obtain ⟨⟨cls2, dd2, data2, sl2⟩, ho2, hc2, n2, hd2⟩ := id p2
  simp only at hc hd hc2 hd2
  subst hc hd hc2 hd2
  exact concat_meets ⟨_, ho, rfl⟩ ⟨_, ho2, rfl⟩ noFill_tuple_add seq_tuple_add PySem.F.slot_tuple_add PySem.F.entry_tuple_add (PySem.F.args_tuple_add_2 _ _)
      (tuple_addW0 a b [].toArray its2.toArray n n2 dd dd2 sl sl2 rfl) ⟨ho, ho2, ⟨.ref b, H, I, rfl, q⟩⟩
theorem op_addK : OpR X (binaryOp .Add) (rB X.K (binK .Add)) := by
  intro pins s σ H x y v u Q I rx ry ⟨M, G, a, b, c, hh, ra, rb, hc, q⟩
  cases a with
  | int i => cases b with
    | int j =>
      cases ra.int; cases rb.int
      cases hc
      exact intOp op_add I rx ry rfl hh q fun z => ⟨i, j, rfl, rfl, z⟩
    | _ => cases hc
  | tup xs => cases b with
    | tup ys =>
      obtain ⟨p, vs, rfl, h1, t1⟩ := ra.tup
      obtain ⟨p2, us, rfl, h2, t2⟩ := rb.tup
      have hc' : (if xs.length + ys.length ≤ lineN then some (Val.tup (xs ++ ys)) else none) = some c := hc
      split at hc'
      · rename_i hz
        cases hc'
        rw [lineN_eq, t1.length, t2.length] at hz
        cases vs with
        | nil =>
          cases t1
          rw [List.nil_append] at q
          exact op_catT0 pins s σ H _ _ v u Q I rx ry ⟨p, p2, us, rfl, rfl, h1, h2, q _ H (Later.refl M H) hh (by
            rcases rb with rb | ⟨_, _, _, e1, _⟩
            · exact rb
            · cases e1) (Fr.no fun _ e => nomatch e)⟩
        | cons v0 vr =>
          refine op_catT pins s σ H _ _ v u Q I rx ry ⟨p, p2, _, us, rfl, rfl, h1, h2, List.cons_ne_nil _ _, hz, fun e => ?_, fun _ p' hp => ?_⟩
          · subst e
            cases t2
            rw [List.append_nil] at q
            exact q _ H (Later.refl M H) hh (by
              rcases ra with ra | ⟨_, _, _, e1, _⟩
              · exact ra
              · cases e1) (Fr.no fun _ e => nomatch e)
          · exact q _ _ (Later.new M hp) (hh.new hp) (Rl.newTup hh hp (t1.append t2)) (Fr.no fun _ e => nomatch e)
      · cases hc'
    | _ => cases hc
  | lst xs => cases b with
    | lst ys =>
      obtain ⟨p, vs, rfl, h1, t1⟩ := ra.lst
      obtain ⟨p2, us, rfl, h2, t2⟩ := rb.lst
      have hc' : (if xs.length + ys.length ≤ lineN then some (Val.lst (xs ++ ys)) else none) = some c := hc
      split at hc'
      · rename_i hz
        cases hc'
        rw [lineN_eq, t1.length, t2.length] at hz
        exact op_cat pins s σ H _ _ v u Q I rx ry ⟨p, p2, _, _, rfl, rfl, h1, h2, hz, fun p' hp => q _ _ (Later.new M hp) (hh.new hp) (Rl.newLst hh hp (t1.append t2)) (fun ys e => by cases e; exact ⟨p', _, rfl, hp, rfl, t1.append t2⟩)⟩
      · cases hc'
    | _ => cases hc
  | _ => cases hc
theorem op_subK : OpR X (binaryOp .Sub) (rB X.K (binK .Sub)) := by
  intro pins s σ H x y v u Q I rx ry ⟨M, G, a, b, c, hh, ra, rb, hc, q⟩
  cases a with
  | int i => cases b with
    | int j =>
      cases ra.int; cases rb.int
      cases hc
      exact intOp op_sub I rx ry rfl hh q fun z => ⟨i, j, rfl, rfl, z⟩
    | _ => cases hc
  | _ => cases hc
theorem Rls.rep {K : PySem.W.Frag} {M : Mp} {H : Hp} {xs : List Val} {vs : List V} (r : Rls K M H xs vs) : ∀ n : Nat, Rls K M H (List.replicate n xs).flatten (List.replicate n vs).flatten
  | 0 => .nil
  | n + 1 => by
    rw [List.replicate_succ, List.replicate_succ, List.flatten_cons, List.flatten_cons]
    exact r.append (r.rep n)
theorem op_mulK : OpR X (binaryOp .Mult) (rB X.K (binK .Mult)) := by
  intro pins s σ H x y v u Q I rx ry ⟨M, G, a, b, c, hh, ra, rb, hc, q⟩
  cases a with
  | int i => cases b with
    | int j =>
      cases ra.int; cases rb.int
      have hc' : (if (-p64 < i ∧ i < p64) ∨ (-p64 < j ∧ j < p64) then some (Val.int (i * j)) else none) = some c := hc
      split at hc'
      · rename_i hz
        cases hc'
        exact intOp op_mul I rx ry rfl hh q fun z => ⟨i, j, rfl, rfl, hz, z⟩
      · cases hc'
    | _ => cases hc
  | lst xs => cases b with
    | int k =>
      obtain ⟨p, vs, rfl, h1, t1⟩ := ra.lst
      cases rb.int
      have hc' : (if -9223372036854775808 ≤ k ∧ k < 9223372036854775808 ∧ xs.length * k.toNat ≤ lineN then some (Val.lst (List.replicate k.toNat xs).flatten) else none) = some c := hc
      split at hc'
      · rename_i hz
        cases hc'
        obtain ⟨z1, z2, z3⟩ := hz
        rw [lineN_eq, t1.length] at z3
        exact op_rep pins s σ H _ _ v u Q I rx ry ⟨p, k, _, rfl, rfl, h1, z1, z2, z3, fun p' hp => q _ _ (Later.new M hp) (hh.new hp) (Rl.newLst hh hp (t1.rep _)) (fun ys e => by cases e; exact ⟨p', _, rfl, hp, rfl, t1.rep _⟩)⟩
      · cases hc'
    | _ => cases hc
  | tup xs => cases b with
    | int k =>
      obtain ⟨p, vs, rfl, h1, t1⟩ := ra.tup
      cases rb.int
      have hc' : (if (!xs.isEmpty) = true ∧ 2 ≤ k ∧ k ≤ 1000 ∧ xs.length ≤ 1000 then some (Val.tup (List.replicate k.toNat xs).flatten) else none) = some c := hc
      split at hc'
      · rename_i hz
        cases hc'
        obtain ⟨z1, z2, z3, z4⟩ := hz
        rw [t1.length] at z4
        refine op_repT pins s σ H _ _ v u Q I rx ry ⟨p, k, _, rfl, rfl, h1, fun e => ?_, z2, z3, z4, fun p' hp => q _ _ (Later.new M hp) (hh.new hp) (Rl.newTup hh hp (t1.rep _)) (Fr.no fun _ e => nomatch e)⟩
        subst e
        cases t1
        cases z1
      · cases hc'
    | _ => cases hc
  | _ => cases hc
theorem p64_log {b : Int} (h0 : 0 < b) (h : b < p64) : CDivW 0 b := wide_div (b := 64) h0 (by
  have : b < 18446744073709551616 := h
  show b.natAbs < 2 ^ 64
  omega) (by decide) (by decide)
theorem op_fdivK : OpR X (binaryOp .FloorDiv) (rB X.K (binK .FloorDiv)) := by
  intro pins s σ H x y v u Q I rx ry ⟨M, G, a, b, c, hh, ra, rb, hc, q⟩
  cases a with
  | int i => cases b with
    | int j =>
      cases ra.int; cases rb.int
      have hc' : (if 0 < j ∧ j < p64 then some (Val.int (i / j)) else none) = some c := hc
      split at hc'
      · rename_i hz
        cases hc'
        exact intOp op_fdivW I rx ry rfl hh q fun z => ⟨i, j, rfl, rfl, p64_log hz.1 hz.2, z⟩
      · cases hc'
    | _ => cases hc
  | _ => cases hc
theorem op_modK : OpR X (binaryOp .Mod) (rB X.K (binK .Mod)) := by
  intro pins s σ H x y v u Q I rx ry ⟨M, G, a, b, c, hh, ra, rb, hc, q⟩
  cases a with
  | int i => cases b with
    | int j =>
      cases ra.int; cases rb.int
      have hc' : (if 0 < j then some (Val.int (i % j)) else none) = some c := hc
      split at hc'
      · rename_i hz
        cases hc'
        exact intOp op_mod I rx ry rfl hh q fun z => ⟨i, j, rfl, rfl, hz, z⟩
      · cases hc'
    | _ => cases hc
  | _ => cases hc
theorem op_powK : OpR X (binaryOp .Pow) (rB X.K (binK .Pow)) := by
  intro pins s σ H x y v u Q I rx ry ⟨M, G, a, b, c, hh, ra, rb, hc, q⟩
  cases a with
  | int i => cases b with
    | int j =>
      cases ra.int; cases rb.int
      have hc' : (if 0 ≤ j ∧ j ≤ 1000000 ∧ (-p64 < i ∧ i < p64) then some (Val.int (i ^ j.toNat)) else none) = some c := hc
      split at hc'
      · rename_i hz
        cases hc'
        obtain ⟨z1, z2, z3, z4⟩ := hz
        refine intOp op_pow I rx ry rfl hh q fun z => ⟨i, j, rfl, rfl, ⟨z1, z2, ?_⟩, z⟩
        have a1 : -18446744073709551616 < i := z3
        have a2 : i < 18446744073709551616 := z4
        show i.natAbs < 2 ^ 64
        omega
      · cases hc'
    | _ => cases hc
  | _ => cases hc
/-- all operators -/
theorem op_binK (op : Operator) : OpR X (binaryOp op) (rB X.K (binK op)) := by
  cases op with
  | Add => exact op_addK
  | Sub => exact op_subK
  | Mult => exact op_mulK
  | FloorDiv => exact op_fdivK
  | Mod => exact op_modK
  | Pow => exact op_powK
  | _ =>
    intro pins s σ H x y v u Q I rx ry ⟨M, G, a, b, c, hh, ra, rb, hc, q⟩
    cases hc
end Fx

namespace Fx
open PySem PySem.Spec PyProof.Rows L2
theorem ofString_inj {a b : String} (h : Str.ofString a = Str.ofString b) : a = b := by
  rw [Str.ofString_eq_toList, Str.ofString_eq_toList] at h
  injection h with h
  have h2 : a.toList.map Char.toNat = b.toList.map Char.toNat := by
    have := congrArg Array.toList h
    simpa using this
  have h3 : a.toList = b.toList := by
    have inj : ∀ (l k : List Char), l.map Char.toNat = k.map Char.toNat → l = k := by
      intro l
      induction l with
      | nil => intro k e; cases k with | nil => rfl | cons _ _ => cases e
      | cons x xs ih =>
        intro k e
        cases k with
        | nil => cases e
        | cons y ys =>
          injection e with e1 e2
          rw [ih ys e2]
          have : x = y := Char.ext (UInt32.toNat_inj.mp e1)
          rw [this]
    exact inj _ _ h2
  exact String.toList_inj.mp h3
theorem ofString_beq (a b : String) : (Str.ofString a == Str.ofString b) = (a == b) := by
  by_cases e : a = b
  · subst e; simp
  · have h : ¬ Str.ofString a = Str.ofString b := fun z => e (ofString_inj z)
    rw [beq_eq_false_iff_ne.mpr h, beq_eq_false_iff_ne.mpr e]
theorem strOk_of (s : String) : PySem.PyData.strOk (Str.ofString s) = true := by
  rw [Str.ofString_eq_toList]
  show (Array.all _ _) = true
  simp only [List.all_toArray, List.all_map, List.all_eq_true, decide_eq_true_eq, Function.comp]
  intro c _
  have := c.valid
  rcases this with h | ⟨_, h⟩
  · have : c.toNat < 55296 := h
    omega
  · exact h
variable {X : Cx}
section
variable {K : PySem.W.Frag} {M : Mp} {H : Hp}
mutual
theorem dp_of : ∀ {x : Val} {u : V} {d : PyData}, Rl K M H x u → toD x = some d → Dp K H u d
  | _, _, _, .nn, e => by cases e; exact .non
  | _, _, _, .bool b, e => by cases e; exact .bl b
  | _, _, _, .int i, e => by cases e; exact .int i
  | _, _, _, .str s, e => by cases e; exact .str _
  | _, _, _, .tupT (xs := xs) _ hr hs, e => by
    cases q : toDs xs with
    | none => rw [toD, q] at e; cases e
    | some ds => rw [toD, q] at e; cases e; exact .tup (.inl hr) (dpAll_of hs q)
  | _, _, _, .tupK (xs := xs) hk hs, e => by
    cases q : toDs xs with
    | none => rw [toD, q] at e; cases e
    | some ds => rw [toD, q] at e; cases e; exact .tup (hk.sq H) (dpAll_of hs q)
  | _, _, _, .lst (xs := xs) _ hr hs, e => by
    cases q : toDs xs with
    | none => rw [toD, q] at e; cases e
    | some ds => rw [toD, q] at e; cases e; exact .lst (.of hr) (dpAll_of hs q)
  | _, _, _, .frzT (xs := xs) _ hr hs, e => by
    cases q : toDs xs with
    | none => rw [toD, q] at e; cases e
    | some ds => rw [toD, q] at e; cases e; exact .lst (.inl (.inr ⟨_, hr⟩)) (dpAll_of hs q)
  | _, _, _, .frzK (xs := xs) hk hs, e => by
    cases q : toDs xs with
    | none => rw [toD, q] at e; cases e
    | some ds => rw [toD, q] at e; cases e; exact .lst (hk.sq H) (dpAll_of hs q)
  | _, _, _, .ref _, e => by cases e
theorem dpAll_of : ∀ {xs : List Val} {us : List V} {ds : List PyData}, Rls K M H xs us → toDs xs = some ds → DpAll K H us ds
  | _, _, _, .nil, e => by cases e; exact .nil
  | _, _, _, .cons (x := x) (xs := xs) r t, e => by
    rw [toDs] at e
    cases q1 : toD x with
    | none => rw [q1] at e; cases e
    | some d =>
      rw [q1] at e
      cases q2 : toDs xs with
      | none => rw [q2] at e; cases e
      | some ds => rw [q2] at e; cases e; exact .cons (dp_of r q1) (dpAll_of t q2)
end
theorem dpD_of {x : Val} {u : V} {d : PyData} (r : RlD K M H x u) (e : toD x = some d) : Dp K H u d := by
  rcases r with r | ⟨xs, vs, a, rfl, rfl, h, t⟩
  · exact dp_of r e
  · cases q : toDs xs with
    | none => rw [toD, q] at e; cases e
    | some ds => rw [toD, q] at e; cases e; exact .lst (.of h) (dpAll_of t q)
theorem flat_of {x : Val} {u : V} (r : Rl K M H x u) (h : isFlat x = true) : flatV u = true := by
  cases r <;> first | rfl | cases h
theorem flats_of : ∀ {xs : List Val} {us : List V}, Rls K M H xs us → xs.all isFlat = true → us.all flatV = true
  | _, _, .nil, _ => rfl
  | _, _, .cons r t, h => by
    rw [List.all_cons, Bool.and_eq_true] at h ⊢
    exact ⟨flat_of r h.1, flats_of t h.2⟩
theorem eqF_of {x y : Val} {u w : V} (r : Rl K M H x u) (q : Rl K M H y w) (h1 : isFlat x = true) (h2 : isFlat y = true) : eqV u w = eqF x y := by
  cases r <;> first | (cases h1; done) | skip
  all_goals (cases q <;> first | (cases h2; done) | rfl | exact ofString_beq _ _)
theorem inF_of {x : Val} {u : V} (q : Rl K M H x u) (h1 : isFlat x = true) : ∀ {xs : List Val} {us : List V}, Rls K M H xs us → xs.all isFlat = true → inV u us = xs.any fun y => eqF y x
  | _, _, .nil, _ => rfl
  | _, _, .cons (xs := xs) (vs := vs) r t, h => by
    rw [List.all_cons, Bool.and_eq_true] at h
    have ih := inF_of q h1 t h.2
    unfold inV at ih ⊢
    rw [List.any_cons, List.any_cons, ih, eqF_of r q h.1 h1]
end
/-- an outcome that is a bool -/
theorem fin_bool {pins : List (Addr × PySem.Obj)} {s : Shared} {σ : L2.St} {H : Hp} {M : Mp} {G : Heap} {Q : VK} {b : Bool} {c : Val} (hh : HeapR X.K M G H) (q : ∀ u H', Later M H M H' → HeapR X.K M G H' → Rl X.K M H' c u → Fr X.K M H H' c u → Q u H') (hc : c = .bool b) : Q (.bl b) H := by
  subst hc
  exact q _ H (Later.refl M H) hh (.bool b) (Fr.no fun _ e => nomatch e)
theorem eqK_some {x y : Val} {k : Bool} (h : eqK x y = some k) : ∃ d e, toD x = some d ∧ toD y = some e ∧ SeqAt.shaped d = true ∧ SeqAt.shaped e = true ∧ PyData.eqv d e = k := by
  unfold eqK at h
  cases h1 : toD x with
  | none => rw [h1] at h; cases h
  | some d =>
    rw [h1] at h
    cases h2 : toD y with
    | none => rw [h2] at h; cases h
    | some e =>
      rw [h2] at h
      have h' : (if (SeqAt.shaped d && SeqAt.shaped e) = true then some (PyData.eqv d e) else none) = some k := h
      split at h'
      · rename_i z
        rw [Bool.and_eq_true] at z
        exact ⟨d, e, rfl, rfl, z.1, z.2, Option.some.inj h'⟩
      · cases h'
theorem inK_some {x : Val} {ys : List Val} {k : Bool} (h : inK x ys = some k) : isFlat x = true ∧ ys.all isFlat = true ∧ (ys.any fun y => eqF y x) = k := by
  unfold inK at h
  split at h
  · rename_i z
    rw [Bool.and_eq_true] at z
    exact ⟨z.1, z.2, Option.some.inj h⟩
  · cases h
theorem in_seq {K : PySem.W.Frag} {M : Mp} {H : Hp} {x : Val} {y : Val} {u w : V} {k : Bool} (rx : RlD K M H x u) (ry : RlD K M H y w) {ys : List Val} (hy : seq? y = some ys) (h : inK x ys = some k) :
    ∃ p xs, w = .ref p ∧ (SqL K H p xs ∨ SqT K H p xs) ∧ flatV u = true ∧ xs.all flatV = true ∧ inV u xs = k := by
  obtain ⟨f1, f2, e⟩ := inK_some h
  obtain ⟨a, vs, h1, h2, t⟩ := ry.seq hy
  have r : Rl K M H x u := by
    rcases rx with r | ⟨_, _, _, rfl, _⟩
    · exact r
    · cases f1
  exact ⟨a, vs, h1, h2, flat_of r f1, flats_of t f2, (inF_of r f1 t f2).trans e⟩
theorem op_cmpK (hu : X.A.units + 64 < cLine) (op : CmpOp) : OpR X (compareOp op) (rB X.K fun x y => (cmpK op x y).map .bool) := by
  intro pins s σ H x y v u Q I rx ry ⟨M, G, a, b, c, hh, ra, rb, hc, q⟩
  have hc : (cmpK op a b).map Val.bool = some c := hc
  cases hk : cmpK op a b with
  | none => rw [hk] at hc; cases hc
  | some k =>
    rw [hk] at hc
    cases hc
    have qq : Q (.bl k) H := fin_bool (pins := pins) (s := s) (σ := σ) hh q rfl
    cases op with
    | Eq =>
      obtain ⟨d, e, h1, h2, h3, h4, h5⟩ := eqK_some (show eqK a b = some k from hk)
      exact op_eqD hu pins s σ H _ _ v u Q I rx ry ⟨d, e, dpD_of ra h1, dpD_of rb h2, h3, h4, by rw [h5]; exact qq⟩
    | NotEq =>
      cases hk2 : eqK a b with
      | none => rw [show cmpK .NotEq a b = (eqK a b).map (!·) from rfl, hk2] at hk; cases hk
      | some k2 =>
        rw [show cmpK .NotEq a b = (eqK a b).map (!·) from rfl, hk2] at hk
        cases hk
        obtain ⟨d, e, h1, h2, h3, h4, h5⟩ := eqK_some hk2
        exact op_neD hu pins s σ H _ _ v u Q I rx ry ⟨d, e, dpD_of ra h1, dpD_of rb h2, h3, h4, by rw [h5]; exact qq⟩
    | Lt =>
      cases a <;> cases b <;> first | (cases hk; done) | skip
      cases ra.int; cases rb.int; cases hk
      exact op_lt pins s σ H _ _ v u Q I rx ry ⟨_, _, rfl, rfl, qq⟩
    | LtE =>
      cases a <;> cases b <;> first | (cases hk; done) | skip
      cases ra.int; cases rb.int; cases hk
      exact op_le pins s σ H _ _ v u Q I rx ry ⟨_, _, rfl, rfl, qq⟩
    | Gt =>
      cases a <;> cases b <;> first | (cases hk; done) | skip
      cases ra.int; cases rb.int; cases hk
      exact op_gt pins s σ H _ _ v u Q I rx ry ⟨_, _, rfl, rfl, qq⟩
    | GtE =>
      cases a <;> cases b <;> first | (cases hk; done) | skip
      cases ra.int; cases rb.int; cases hk
      exact op_ge pins s σ H _ _ v u Q I rx ry ⟨_, _, rfl, rfl, qq⟩
    | Is =>
      cases b <;> first | (cases hk; done) | skip
      cases rb.nn
      cases hk
      refine op_isN pins s σ H _ _ v u Q I rx ry ⟨rfl, ?_⟩
      have e : decide (x = V.non) = isNone a := by
        rcases ra with r | ⟨xs, vs, a', rfl, rfl, _⟩
        · cases r <;> rfl
        · rfl
      rw [e]; exact qq
    | IsNot =>
      cases b <;> first | (cases hk; done) | skip
      cases rb.nn
      cases hk
      refine op_notN pins s σ H _ _ v u Q I rx ry ⟨rfl, ?_⟩
      have e : decide (x = V.non) = isNone a := by
        rcases ra with r | ⟨xs, vs, a', rfl, rfl, _⟩
        · cases r <;> rfl
        · rfl
      rw [e]; exact qq
    | In =>
      cases b <;> first | (cases hk; done) | skip
      all_goals
        obtain ⟨p, zs, e1, e2, e3, e4, e5⟩ := in_seq ra rb rfl hk
        exact op_in_seq pins s σ H _ _ v u Q I rx ry ⟨p, zs, e1, e2, e3, e4, by rw [if_neg Bool.false_ne_true, e5]; exact qq⟩
    | NotIn =>
      cases b <;> first | (cases hk; done) | skip
      all_goals
        rename_i ys
        cases hk2 : inK a ys with
        | none => simp only [cmpK, hk2] at hk; cases hk
        | some k2 =>
          simp only [cmpK, hk2] at hk
          cases hk
          obtain ⟨p, zs, e1, e2, e3, e4, e5⟩ := in_seq ra rb rfl hk2
          exact op_notIn_seq pins s σ H _ _ v u Q I rx ry ⟨p, zs, e1, e2, e3, e4, by rw [if_pos rfl, e5]; exact qq⟩
def tyN : Ty → String
  | .int => "int" | .bool => "bool" | .tuple => "tuple" | .list => "list" | .str => "str" | .none_ => "NoneType"
def tyOfV : Val → String
  | .none => "NoneType" | .bool _ => "bool" | .int _ => "int" | .str _ => "str" | .tup _ => "tuple" | .lst _ => "list" | .frz _ => "list" | .ref _ => ""
theorem tyx_of {M : Mp} {H : Hp} {x : Val} {u : V} (r : RlD X.K M H x u) (h : x.isRef = false) : TyX X.K H u (.type (tyOfV x)) := by
  rcases r with r | ⟨_, _, _, rfl, rfl, h, _⟩
  · cases r with
    | nn => exact .base .non
    | bool b => exact .base (.bl b)
    | int i => exact .base (.int i)
    | str s => exact .base (.str _)
    | tupT _ hr _ =>
      rcases hr with hr | ⟨o, hr⟩
      · exact .base (.tup hr)
      · exact .fTuple hr
    | tupK hk _ => obtain ⟨o, _, _, h1, h2, _⟩ := hk; exact .kTuple h1 h2
    | lst _ hr _ => exact .base (.lst hr)
    | frzT _ hr _ => exact .base (.frz hr)
    | frzK hk _ => obtain ⟨o, _, _, h1, h2, _⟩ := hk; exact .kList h1 h2
    | ref _ => cases h
  · exact .base (.lst h)
theorem kit_all (t : Ty) (x : Val) (h : x.isRef = false) : kitB (tyOfV x) (tyN t) = some (isK t x) := by
  cases t <;> cases x <;> first | (cases h; done) | (simp only [tyOfV, tyN, isK]; decide +kernel)
def bfN : Bf → Value
  | .len => .builtin "len" | .tuple => .type "tuple" | .list => .type "list" | .int => .type "int" | .abs => .builtin "abs" | .sum => .builtin "sum" | .max => .builtin "max" | .min => .builtin "min" | .all => .builtin "all" | .any => .builtin "any" | .divmod => .builtin "divmod"
inductive RlDs (K : PySem.W.Frag) (M : Mp) (H : Hp) : List Val → List V → Prop where
  | nil : RlDs K M H [] []
  | cons {x v xs vs} : RlD K M H x v → RlDs K M H xs vs → RlDs K M H (x :: xs) (v :: vs)
theorem RlOs.rds {K : PySem.W.Frag} {M : Mp} {G : Heap} {H : Hp} (hh : HeapR K M G H) : ∀ {xs : List Val} {vs : List V}, RlOs K M H xs vs → RlDs K M H (xs.map (rd G)) vs
  | _, _, .nil => .nil
  | _, _, .cons h t => .cons (h.d.rd hh) (RlOs.rds hh t)
/-- what a call of a built-in is to give: a new list apart from the others -/
def rBf (K : PySem.W.Frag) (f : Bf) : List V → Hp → VK → Prop := fun us H Q => ∃ M G vs c, HeapR K M G H ∧ RlDs K M H vs us ∧ bfK f vs = some c ∧
  ∀ u H', Later M H M H' → HeapR K M G H' → (Rl K M H' c u ∧ Fr K M H H' c u) → Q u H'
theorem ints_of {K : PySem.W.Frag} {M : Mp} {H : Hp} : ∀ {xs : List Val} {vs : List V} {ns : List Int}, Rls K M H xs vs → ints? xs = some ns → vs = ns.map V.int
  | _, _, _, .nil, e => by cases e; rfl
  | _, _, _, .cons (x := x) (xs := xs) r t, e => by
    cases x with
    | int i =>
      cases q : ints? xs with
      | none => rw [ints?, q] at e; cases e
      | some ns => rw [ints?, q] at e; cases e; cases r; rw [ints_of t q]; rfl
    | _ => cases e
theorem bools_of {K : PySem.W.Frag} {M : Mp} {H : Hp} : ∀ {xs : List Val} {vs : List V} {ns : List Bool}, Rls K M H xs vs → bools? xs = some ns → vs = ns.map V.bl
  | _, _, _, .nil, e => by cases e; rfl
  | _, _, _, .cons (x := x) (xs := xs) r t, e => by
    cases x with
    | bool i =>
      cases q : bools? xs with
      | none => rw [bools?, q] at e; cases e
      | some ns => rw [bools?, q] at e; cases e; cases r; rw [bools_of t q]; rfl
    | _ => cases e
theorem maxL_spec : ∀ (ns : List Int), 0 < ns.length → maxL ns ∈ ns ∧ ∀ y ∈ ns, y ≤ maxL ns
  | [], h => absurd h (Nat.lt_irrefl 0)
  | [x], _ => ⟨by simp [maxL], fun y h => by simp at h; subst h; exact Int.le_refl _⟩
  | x :: z :: r, _ => by
    obtain ⟨h1, h2⟩ := maxL_spec (z :: r) (by simp)
    have e : maxL (x :: z :: r) = max x (maxL (z :: r)) := rfl
    rw [e]
    refine ⟨?_, fun y hy => ?_⟩
    · by_cases h : maxL (z :: r) ≤ x
      · rw [Int.max_eq_left h]; exact List.mem_cons_self
      · rw [Int.max_eq_right (by omega)]; exact List.mem_cons_of_mem _ h1
    · rcases List.mem_cons.mp hy with rfl | hy
      · omega
      · have := h2 y hy; omega
theorem minL_spec : ∀ (ns : List Int), 0 < ns.length → minL ns ∈ ns ∧ ∀ y ∈ ns, minL ns ≤ y
  | [], h => absurd h (Nat.lt_irrefl 0)
  | [x], _ => ⟨by simp [minL], fun y h => by simp at h; subst h; exact Int.le_refl _⟩
  | x :: z :: r, _ => by
    obtain ⟨h1, h2⟩ := minL_spec (z :: r) (by simp)
    have e : minL (x :: z :: r) = min x (minL (z :: r)) := rfl
    rw [e]
    refine ⟨?_, fun y hy => ?_⟩
    · by_cases h : x ≤ minL (z :: r)
      · rw [Int.min_eq_left h]; exact List.mem_cons_self
      · rw [Int.min_eq_right (by omega)]; exact List.mem_cons_of_mem _ h1
    · rcases List.mem_cons.mp hy with rfl | hy
      · omega
      · have := h2 y hy; omega

theorem preSum_eq (ns : List Int) : ∀ n, n ≤ ns.length → PySem.preSum (fun j => ns.getD j 0) n = (ns.take n).sum
  | 0, _ => by simp [PySem.preSum]
  | n + 1, h => by
    rw [PySem.preSum, preSum_eq ns n (by omega), take_sum_succ ns n (by omega)]
/-- sum of a tuple of ints -/
theorem cr_sumT (hc : X.calm = true) : CallR X (.builtin "sum") (fun vs H Q => ∃ (a : Addr) (ns : List Int), vs = [V.ref a] ∧ SqT X.K H a (ns.map V.int) ∧ Q (.int ns.sum) H) := by
  intro pins s σ H vs us Q I r h
  obtain ⟨a, ns, rfl, hs, q⟩ := h
  obtain ⟨its, rv, hl, _⟩ := I.tuple hs
  rw [Vals.ref1 r]
  have ha := hl.lt
  have hlen : its.length = ns.length := by rw [← rv.length, List.length_map]
  refine PySem.call_sum_walkG (wpAny_pyIter_tuple (show s.heap.IsTuple a its.toArray from hl) ?_)
  have hne : a ≠ s.heap.objs.size := Nat.ne_of_lt ha
  refine ⟨s.heap.objs.size, _, _, _, _, _, fun j => ns.getD j 0, rfl, Walks.tuple (A := X.A.in1) (I.ok.hd hc) s.heap.objs.size a hne its.toArray, ⟨⟨_, Heap.get?_push_size _ rfl, rfl, rfl⟩, ?_⟩, ?_, ?_, fun h' tk t' hk => ?_⟩
  · obtain ⟨o, ho, h2⟩ := hl
    exact ⟨o, Heap.get?_push_of_some _ ho, h2⟩
  · intro b hb
    show b < (s.heap.push _).objs.size
    rw [Heap.size_push]
    rcases List.mem_cons.mp hb with e | hb
    · rw [e]; exact Nat.lt_succ_self _
    · have e : b = a := by simpa using hb
      rw [e]; exact Nat.lt_succ_of_lt ha
  · intro i v hi
    have hi' : its[i]? = some v := by simpa using hi
    obtain ⟨h1, h2⟩ := List.getElem?_eq_some_iff.mp hi'
    have hx : (ns.map V.int)[i]? = some (V.int (ns.getD i 0)) := by
      rw [List.getElem?_map, List.getElem?_eq_getElem (by omega)]
      simp only [Option.map_some, List.getD_eq_getElem?_getD]
      rw [List.getElem?_eq_getElem (by omega)]; rfl
    obtain ⟨u, e1, e2⟩ := rv.get hx
    rw [hi'] at e1
    cases e1
    exact e2
  · refine ⟨.int _, H, I.kept fun b o eo => hk b o (fun hmem => ?_) (Heap.get?_push_of_some _ eo), ⟨_, rfl⟩, ?_⟩
    · rcases List.mem_cons.mp hmem with e1 | hmem
      · exact absurd (e1 ▸ Heap.lt_size eo) (Nat.lt_irrefl _)
      · cases hmem
    · rw [List.size_toArray, hlen, preSum_eq ns _ (Nat.le_refl _), List.take_length]
      exact q
end Fx

namespace Fx
open PySem PySem.Spec PyProof.Rows L2
variable {X : Cx}
theorem call_divmodW : CallR X (.builtin "divmod") (fun xs H Q => ∃ i j, xs = [.int i, .int j] ∧ 0 < j ∧ j < p64 ∧ ∀ p, H p = Option.none → Q (.ref p) (upd H p (.tup [.int (i / j), .int (i % j)]))) := by
  intro pins s σ H xs us Q I r h
  obtain ⟨i, j, rfl, h1, h2, q⟩ := h
  obtain ⟨u, w', rfl, ⟨t, rfl⟩, ⟨t', rfl⟩⟩ := vals2 r
  refine divmod_int (by omega) ?_ (.inl (PyProof.noPylong_of_log2 (p64_log h1 h2).2))
  rw [Int.fdiv_eq_ediv_of_nonneg i (by omega), Int.fmod_eq_emod_of_nonneg i (by omega)]
  have hn : H s.heap.objs.size = Option.none := I.hok.fresh (Nat.le_refl _)
  refine ⟨.ref s.heap.objs.size, _, ?_, rfl, q _ hn⟩
  refine I.laid (fun b o e => Heap.get?_push_of_some _ e) (Nat.le_refl _) ⟨by simp only [List.length_cons, List.length_nil]; rw [sizeLine_eq]; decide, [.int (i / j) s.toks, .int (i % j) (s.toks + 1)], .cons ⟨_, rfl⟩ (.cons ⟨_, rfl⟩ .nil), ?_⟩
  exact ⟨_, Heap.get?_push_size s.heap rfl, rfl, 0, rfl⟩
section
variable {K : PySem.W.Frag} {M : Mp} {H : Hp} {G : Heap} {Q : VK} {c : Val}
/-- a scalar answer -/
theorem fin_sc {v : V} (hh : HeapR K M G H) (q : ∀ u H', Later M H M H' → HeapR K M G H' → (Rl K M H' c u ∧ Fr K M H H' c u) → Q u H') (r : Rl K M H c v) (hc : ∀ xs, c ≠ .lst xs) : Q v H :=
  q v H (Later.refl M H) hh ⟨r, fun xs e => absurd e (hc xs)⟩
end
theorem rlds1 {K : PySem.W.Frag} {M : Mp} {H : Hp} {x : Val} {us : List V} (r : RlDs K M H [x] us) : ∃ u, us = [u] ∧ RlD K M H x u := by
  cases r with
  | cons h t => cases t; exact ⟨_, rfl, h⟩
theorem rlds2 {K : PySem.W.Frag} {M : Mp} {H : Hp} {x y : Val} {us : List V} (r : RlDs K M H [x, y] us) : ∃ u w, us = [u, w] ∧ RlD K M H x u ∧ RlD K M H y w := by
  cases r with
  | cons h t => cases t with
    | cons h2 t2 => cases t2; exact ⟨_, _, rfl, h, h2⟩
theorem call_bf (hcalm : X.calm = true) (f : Bf) : CallR X (bfN f) (rBf X.K f) := by
  intro pins s σ H us ws Q I r ⟨M, G, vs, c, hh, rs, hc, q⟩
  cases f with
  | len =>
    match vs, rs, hc with
    | [x], rs, hc =>
      obtain ⟨u, rfl, r1⟩ := rlds1 rs
      cases hx : seq? x with
      | none => simp only [bfK, hx] at hc; cases hc
      | some xs =>
        simp only [bfK, hx, Option.map_some, Option.some.injEq] at hc
        subst hc
        obtain ⟨a, zs, rfl, h2, t⟩ := r1.seq hx
        exact call_len_seq pins s σ H _ ws Q I r ⟨a, zs, rfl, h2, fin_sc hh q (by rw [t.length]; exact .int _) (fun _ e => nomatch e)⟩
    | [], _, hc => cases hc
    | _ :: _ :: _, _, hc => cases hc
  | tuple =>
    match vs, rs, hc with
    | [x], rs, hc =>
      obtain ⟨u, rfl, r1⟩ := rlds1 rs
      cases hx : seq? x with
      | none => simp only [bfK, hx] at hc; cases hc
      | some xs =>
        simp only [bfK, hx, Option.map_some, Option.some.injEq] at hc
        subst hc
        cases x with
        | tup ys =>
          cases hx
          obtain ⟨a, zs, rfl, h2, t⟩ := r1.tup
          refine call_tuple_of pins s σ H _ ws Q I r ⟨a, zs, rfl, .inr ⟨h2, ?_⟩⟩
          rcases r1 with r1 | ⟨_, _, _, e1, _⟩
          · exact fin_sc hh q r1 (fun _ e => nomatch e)
          · cases e1
        | lst ys =>
          cases hx
          obtain ⟨a, zs, rfl, h2, t⟩ := r1.lst
          exact call_tuple_of pins s σ H _ ws Q I r ⟨a, zs, rfl, .inl ⟨.of h2, fun p hp => q _ _ (Later.new M hp) (hh.new hp) ⟨Rl.newTup hh hp t, fun _ e => nomatch e⟩⟩⟩
        | frz ys =>
          cases hx
          obtain ⟨a, zs, rfl, h2, t⟩ := r1.frz
          exact call_tuple_of pins s σ H _ ws Q I r ⟨a, zs, rfl, .inl ⟨h2, fun p hp => q _ _ (Later.new M hp) (hh.new hp) ⟨Rl.newTup hh hp t, fun _ e => nomatch e⟩⟩⟩
        | _ => cases hx
    | [], _, hc => cases hc
    | _ :: _ :: _, _, hc => cases hc
  | list =>
    match vs, rs, hc with
    | [x], rs, hc =>
      obtain ⟨u, rfl, r1⟩ := rlds1 rs
      cases hx : seq? x with
      | none => simp only [bfK, hx] at hc; cases hc
      | some xs =>
        simp only [bfK, hx, Option.map_some, Option.some.injEq] at hc
        subst hc
        obtain ⟨a, zs, rfl, h2, t⟩ := r1.seq hx
        exact call_list_of pins s σ H _ ws Q I r ⟨a, zs, rfl, h2, fun p hp => q _ _ (Later.new M hp) (hh.new hp) ⟨Rl.newLst hh hp t, fun ys e => by cases e; exact ⟨p, zs, rfl, hp, rfl, t⟩⟩⟩
    | [], _, hc => cases hc
    | _ :: _ :: _, _, hc => cases hc
  | int =>
    match vs, rs, hc with
    | [.int i], rs, hc =>
      obtain ⟨u, rfl, r1⟩ := rlds1 rs
      cases r1.int; cases hc
      exact call_int1 pins s σ H _ ws Q I r (.inl ⟨i, rfl, fin_sc hh q (.int _) (fun _ e => nomatch e)⟩)
    | [.bool b], rs, hc =>
      obtain ⟨u, rfl, r1⟩ := rlds1 rs
      cases r1.bool; cases hc
      exact call_int1 pins s σ H _ ws Q I r (.inr ⟨b, rfl, fin_sc hh q (.int _) (fun _ e => nomatch e)⟩)
    | [], _, hc => cases hc
    | [.none], _, hc | [.str _], _, hc | [.tup _], _, hc | [.lst _], _, hc | [.frz _], _, hc | [.ref _], _, hc => cases hc
    | a :: _ :: _, _, hc => cases a <;> cases hc
  | abs =>
    match vs, rs, hc with
    | [.int i], rs, hc =>
      obtain ⟨u, rfl, r1⟩ := rlds1 rs
      cases r1.int; cases hc
      exact call_abs pins s σ H _ ws Q I r ⟨i, rfl, fin_sc hh q (.int _) (fun _ e => nomatch e)⟩
    | [], _, hc => cases hc
    | [.none], _, hc | [.bool _], _, hc | [.str _], _, hc | [.tup _], _, hc | [.lst _], _, hc | [.frz _], _, hc | [.ref _], _, hc => cases hc
    | a :: _ :: _, _, hc => cases a <;> cases hc
  | sum =>
    match vs, rs, hc with
    | [.lst xs], rs, hc =>
      obtain ⟨u, rfl, r1⟩ := rlds1 rs
      obtain ⟨a, zs, rfl, h2, t⟩ := r1.lst
      cases hx : ints? xs with
      | none => simp only [bfK, hx] at hc; cases hc
      | some ns =>
        simp only [bfK, hx, Option.map_some, Option.some.injEq] at hc
        subst hc
        have e := ints_of t hx
        subst e
        exact cr_sum hcalm pins s σ H _ ws Q I r ⟨a, ns, rfl, .of h2, fin_sc hh q (.int _) (fun _ e => nomatch e)⟩
    | [.tup xs], rs, hc =>
      obtain ⟨u, rfl, r1⟩ := rlds1 rs
      obtain ⟨a, zs, rfl, h2, t⟩ := r1.tup
      cases hx : ints? xs with
      | none => simp only [bfK, hx] at hc; cases hc
      | some ns =>
        simp only [bfK, hx, Option.map_some, Option.some.injEq] at hc
        subst hc
        have e := ints_of t hx
        subst e
        exact cr_sumT hcalm pins s σ H _ ws Q I r ⟨a, ns, rfl, h2, fin_sc hh q (.int _) (fun _ e => nomatch e)⟩
    | [], _, hc => cases hc
    | [.none], _, hc | [.bool _], _, hc | [.int _], _, hc | [.str _], _, hc | [.frz _], _, hc | [.ref _], _, hc => cases hc
    | a :: _ :: _, _, hc => cases a <;> cases hc
  | max =>
    match vs, rs, hc with
    | [.int i, .int j], rs, hc =>
      obtain ⟨u, w, rfl, r1, r2⟩ := rlds2 rs
      cases r1.int; cases r2.int; cases hc
      exact call_max2 hcalm pins s σ H _ ws Q I r ⟨i, j, rfl, fin_sc hh q (.int _) (fun _ e => nomatch e)⟩
    | [.lst xs], rs, hc =>
      obtain ⟨u, rfl, r1⟩ := rlds1 rs
      obtain ⟨a, zs, rfl, h2, t⟩ := r1.lst
      have hc : (if xs.isEmpty = true then none else (ints? xs).map fun ns => Val.int (maxL ns)) = some c := hc
      split at hc
      · cases hc
      · rename_i hne
        cases hx : ints? xs with
        | none => rw [hx] at hc; cases hc
        | some ns =>
          rw [hx] at hc
          cases hc
          have e := ints_of t hx
          subst e
          have hl : 0 < ns.length := by
            have := t.length
            rw [List.length_map] at this
            rw [← this]
            cases xs with
            | nil => exact absurd rfl hne
            | cons _ _ => exact Nat.succ_pos _
          obtain ⟨m1, m2⟩ := maxL_spec ns hl
          refine cr_max hcalm pins s σ H _ ws Q I r ⟨a, ns, rfl, .of h2, hl, fun m h3 h4 => ?_⟩
          have e : m = maxL ns := Int.le_antisymm (m2 m h3) (h4 _ m1)
          subst e
          exact fin_sc hh q (.int _) (fun _ e => nomatch e)
    | [], _, hc => cases hc
    | [.none], _, hc | [.bool _], _, hc | [.int _], _, hc | [.str _], _, hc | [.tup _], _, hc | [.frz _], _, hc | [.ref _], _, hc => cases hc
    | [.int _, .none], _, hc | [.int _, .bool _], _, hc | [.int _, .str _], _, hc | [.int _, .tup _], _, hc | [.int _, .lst _], _, hc | [.int _, .frz _], _, hc | [.int _, .ref _], _, hc => cases hc
    | [.none, _], _, hc | [.bool _, _], _, hc | [.str _, _], _, hc | [.tup _, _], _, hc | [.lst _, _], _, hc | [.frz _, _], _, hc | [.ref _, _], _, hc => cases hc
    | a :: b :: _ :: _, _, hc => cases a <;> first | (cases hc; done) | (cases b <;> cases hc)
  | min =>
    match vs, rs, hc with
    | [.int i, .int j], rs, hc =>
      obtain ⟨u, w, rfl, r1, r2⟩ := rlds2 rs
      cases r1.int; cases r2.int; cases hc
      exact call_min2 hcalm pins s σ H _ ws Q I r ⟨i, j, rfl, fin_sc hh q (.int _) (fun _ e => nomatch e)⟩
    | [.lst xs], rs, hc =>
      obtain ⟨u, rfl, r1⟩ := rlds1 rs
      obtain ⟨a, zs, rfl, h2, t⟩ := r1.lst
      have hc : (if xs.isEmpty = true then none else (ints? xs).map fun ns => Val.int (minL ns)) = some c := hc
      split at hc
      · cases hc
      · rename_i hne
        cases hx : ints? xs with
        | none => rw [hx] at hc; cases hc
        | some ns =>
          rw [hx] at hc
          cases hc
          have e := ints_of t hx
          subst e
          have hl : 0 < ns.length := by
            have := t.length
            rw [List.length_map] at this
            rw [← this]
            cases xs with
            | nil => exact absurd rfl hne
            | cons _ _ => exact Nat.succ_pos _
          obtain ⟨m1, m2⟩ := minL_spec ns hl
          refine cr_min hcalm pins s σ H _ ws Q I r ⟨a, ns, rfl, .of h2, hl, fun m h3 h4 => ?_⟩
          have e : m = minL ns := Int.le_antisymm (h4 _ m1) (m2 m h3)
          subst e
          exact fin_sc hh q (.int _) (fun _ e => nomatch e)
    | [], _, hc => cases hc
    | [.none], _, hc | [.bool _], _, hc | [.int _], _, hc | [.str _], _, hc | [.tup _], _, hc | [.frz _], _, hc | [.ref _], _, hc => cases hc
    | [.int _, .none], _, hc | [.int _, .bool _], _, hc | [.int _, .str _], _, hc | [.int _, .tup _], _, hc | [.int _, .lst _], _, hc | [.int _, .frz _], _, hc | [.int _, .ref _], _, hc => cases hc
    | [.none, _], _, hc | [.bool _, _], _, hc | [.str _, _], _, hc | [.tup _, _], _, hc | [.lst _, _], _, hc | [.frz _, _], _, hc | [.ref _, _], _, hc => cases hc
    | a :: b :: _ :: _, _, hc => cases a <;> first | (cases hc; done) | (cases b <;> cases hc)
  | all =>
    match vs, rs, hc with
    | [.lst xs], rs, hc =>
      obtain ⟨u, rfl, r1⟩ := rlds1 rs
      obtain ⟨a, zs, rfl, h2, t⟩ := r1.lst
      cases hx : bools? xs with
      | none => simp only [bfK, hx] at hc; cases hc
      | some ns =>
        simp only [bfK, hx, Option.map_some, Option.some.injEq] at hc
        subst hc
        have e := bools_of t hx
        subst e
        exact cr_all hcalm pins s σ H _ ws Q I r ⟨a, ns, rfl, .of h2, fin_sc hh q (.bool _) (fun _ e => nomatch e)⟩
    | [], _, hc => cases hc
    | [.none], _, hc | [.bool _], _, hc | [.int _], _, hc | [.str _], _, hc | [.tup _], _, hc | [.frz _], _, hc | [.ref _], _, hc => cases hc
    | a :: _ :: _, _, hc => cases a <;> cases hc
  | any =>
    match vs, rs, hc with
    | [.lst xs], rs, hc =>
      obtain ⟨u, rfl, r1⟩ := rlds1 rs
      obtain ⟨a, zs, rfl, h2, t⟩ := r1.lst
      cases hx : bools? xs with
      | none => simp only [bfK, hx] at hc; cases hc
      | some ns =>
        simp only [bfK, hx, Option.map_some, Option.some.injEq] at hc
        subst hc
        have e := bools_of t hx
        subst e
        exact cr_any hcalm pins s σ H _ ws Q I r ⟨a, ns, rfl, .of h2, fin_sc hh q (.bool _) (fun _ e => nomatch e)⟩
    | [], _, hc => cases hc
    | [.none], _, hc | [.bool _], _, hc | [.int _], _, hc | [.str _], _, hc | [.tup _], _, hc | [.frz _], _, hc | [.ref _], _, hc => cases hc
    | a :: _ :: _, _, hc => cases a <;> cases hc
  | divmod =>
    match vs, rs, hc with
    | [.int i, .int j], rs, hc =>
      obtain ⟨u, w, rfl, r1, r2⟩ := rlds2 rs
      cases r1.int; cases r2.int
      have hc : (if 0 < j ∧ j < p64 then some (Val.tup [.int (i / j), .int (i % j)]) else none) = some c := hc
      split at hc
      · rename_i hz
        cases hc
        exact call_divmodW pins s σ H _ ws Q I r ⟨i, j, rfl, hz.1, hz.2, fun p hp => q _ _ (Later.new M hp) (hh.new hp) ⟨Rl.newTup hh hp (.cons (.int _) (.cons (.int _) .nil)), fun _ e => nomatch e⟩⟩
      · cases hc
    | [], _, hc => cases hc
    | [a], _, hc => cases a <;> cases hc
    | [.int _, .none], _, hc | [.int _, .bool _], _, hc | [.int _, .str _], _, hc | [.int _, .tup _], _, hc | [.int _, .lst _], _, hc | [.int _, .frz _], _, hc | [.int _, .ref _], _, hc => cases hc
    | [.none, _], _, hc | [.bool _, _], _, hc | [.str _, _], _, hc | [.tup _, _], _, hc | [.lst _, _], _, hc | [.frz _, _], _, hc | [.ref _, _], _, hc => cases hc
    | a :: b :: _ :: _, _, hc => cases a <;> first | (cases hc; done) | (cases b <;> cases hc)
end Fx

namespace Fx
open PySem PySem.Spec PyProof.Rows L2
variable {X : Cx}
section
variable {K : PySem.W.Frag}
theorem ofString_length (s : String) : (Str.ofString s).length = s.length := by
  rw [Str.ofString_eq_toList]
  show ((s.toList.map Char.toNat).toArray).size = s.length
  simp [String.length_toList]
theorem isEmpty_rls {M : Mp} {H : Hp} {xs : List Val} {vs : List V} (r : Rls K M H xs vs) : vs.isEmpty = xs.isEmpty := by
  cases r <;> rfl
theorem tru_of {M : Mp} {H : Hp} {v : Val} {u : V} {k : Bool} (r : RlD K M H v u) (h : truthV v = some k) : TruV K u H k := by
  cases v with
  | none => cases r.nn; cases h; rfl
  | bool b => cases r.bool; cases h; rfl
  | int i => cases r.int; cases h; rfl
  | str s =>
    cases r.str
    have h : (if s.length ≤ 16777216 then some ((s.length : Int) != 0) else none) = some k := h
    split at h
    · rename_i hz
      cases h
      exact ⟨by rw [ofString_length]; exact hz, by rw [ofString_length]⟩
    · cases h
  | tup xs => obtain ⟨a, vs, rfl, h1, t⟩ := r.tup; cases h; exact .inr (.inl ⟨vs, h1, by rw [isEmpty_rls t]⟩)
  | lst xs => obtain ⟨a, vs, rfl, h1, t⟩ := r.lst; cases h; exact .inl ⟨vs, .of h1, by rw [isEmpty_rls t]⟩
  | frz xs => obtain ⟨a, vs, rfl, h1, t⟩ := r.frz; cases h; exact .inl ⟨vs, h1, by rw [isEmpty_rls t]⟩
  | ref n => cases h
end

variable {W : WX} {Γ : Calls}
theorem pe_varK {K : PySem.W.Frag} {i : Nat} {x : Str} {pos : Pos} (hN : X.N[i]? = some x) (hv : Vis X.env.scope x) (hd : (x == ("__debug__" : Str)) = false) (hcd : (x == ("__classdict__" : Str)) = false) : PE X (.Name x pos) (tE K W (evE Γ (.var i))) := by
  refine peImp (pe_var hN hv hd hcd) fun σ H Q ⟨M, G, s, hh, hs, hm⟩ => ?_
  have h := hs.at_ i
  rw [evE] at hm
  revert h hm
  cases s.getD i .no with
  | val w => exact fun hm ⟨u, e, r⟩ => ⟨u, e, hm M u H (Later.refl M H) hh r⟩
  | _ => exact fun hm _ => hm.elim
theorem pe_ownK {K : PySem.W.Frag} {i : Nat} {x : Str} {pos : Pos} (hN : X.N[i]? = some x) (hv : Vis X.env.scope x) (hd : (x == ("__debug__" : Str)) = false) (hcd : (x == ("__classdict__" : Str)) = false) : PE X (.Name x pos) (tO K W (evE Γ (.own i))) := by
  refine peImp (pe_var hN hv hd hcd) fun σ H Q ⟨M, G, s, hh, hs, hm⟩ => ?_
  have h := hs.at_ i
  rw [evE] at hm
  revert h hm
  cases s.getD i .no with
  | own xs => exact fun hm ⟨a, vs, e, o, q, t⟩ => ⟨_, e, hm M _ H (Later.refl M H) hh (.inr ⟨xs, vs, a, rfl, rfl, hh.ok.d1 i a o, q, t⟩)⟩
  | frz xs => exact fun hm ⟨a, vs, e, o, q, t⟩ => ⟨_, e, hm M _ H (Later.refl M H) hh (.inr ⟨xs, vs, a, rfl, rfl, hh.ok.d2 a o, q, t⟩)⟩
  | _ => exact fun hm _ => hm.elim
theorem pe_conK {K : PySem.W.Frag} {e : Expr} {c : Val} {v : V} (h : PE X e (L2.tC v)) (r : ∀ M H, Rl K M H c v) : PE X e (tE K W (evE Γ (.con c))) :=
  peImp h fun σ H Q ⟨M, G, s, hh, hs, hm⟩ => by
    rw [evE] at hm
    exact hm M v H (Later.refl M H) hh (r M H)
theorem pa_nilK {K : PySem.W.Frag} : PA X [] (tAs K W (evEs Γ .nil)) :=
  paImp pa_nil fun σ H Q ⟨M, G, s, hh, hs, hm⟩ => by
    rw [evEs] at hm
    exact hm M [] H (Later.refl M H) hh .nil
theorem pa_consK {K : PySem.W.Frag} {e : Expr} {es : List Expr} {i : E} {is : Es} (ha : PE X e (tE K W (evE Γ i))) (hr : PA X es (tAs K W (evEs Γ is))) (hs : starEach (e :: es) X.env = (false, eval e X.env) :: starEach es X.env) : PA X (e :: es) (tAs K W (evEs Γ (.cons i is))) :=
  paImp (pa_cons ha hr hs) fun σ H Q ⟨M, G, s, hh, hs, hm⟩ => by
    rw [evEs, R.wp_bind] at hm
    refine ⟨M, G, s, hh, hs, R.wp_mono hm (fun x G1 hm M1 u1 H1 l1 hh1 r1 => ⟨M1, G1, s, hh1, hs.later hh.ok l1, ?_⟩) fun _ _ x => x⟩
    rw [R.wp_bind] at hm
    exact R.wp_mono hm (fun ys G2 k M2 us H2 l2 hh2 r2 => k M2 _ H2 (l1.trans l2) hh2 (.cons (r1.later l2) r2)) fun _ _ x => x.later l1
theorem pa_nilO {K : PySem.W.Frag} : PA X [] (tAO K W (evEs Γ .nil)) :=
  paImp pa_nil fun σ H Q ⟨M, G, s, hh, hs, hm⟩ => by
    rw [evEs] at hm
    exact hm M [] H (Later.refl M H) hh .nil
theorem pa_consO {K : PySem.W.Frag} {e : Expr} {es : List Expr} {i : E} {is : Es} (ha : PE X e (tO K W (evE Γ i))) (hr : PA X es (tAO K W (evEs Γ is))) (hs : starEach (e :: es) X.env = (false, eval e X.env) :: starEach es X.env) : PA X (e :: es) (tAO K W (evEs Γ (.cons i is))) :=
  paImp (pa_cons ha hr hs) fun σ H Q ⟨M, G, s, hh, hs, hm⟩ => by
    rw [evEs, R.wp_bind] at hm
    refine ⟨M, G, s, hh, hs, R.wp_mono hm (fun x G1 hm M1 u1 H1 l1 hh1 r1 => ⟨M1, G1, s, hh1, hs.later hh.ok l1, ?_⟩) fun _ _ x => x⟩
    rw [R.wp_bind] at hm
    exact R.wp_mono hm (fun ys G2 k M2 us H2 l2 hh2 r2 => k M2 _ H2 (l1.trans l2) hh2 (.cons (r1.later l2) r2)) fun _ _ x => x.later l1
def Es.len : Es → Nat
  | .nil => 0
  | .cons _ es => es.len + 1
theorem evEs_len : ∀ (es : Es) (s : Store) (G : Heap) {k : List Val → Heap → Prop} {x : Exc → Heap → Prop}, (evEs Γ es s G).wp k x → (evEs Γ es s G).wp (fun vs G' => vs.length = es.len ∧ k vs G') x
  | .nil, _, _, _, _, h => by rw [evEs] at h ⊢; exact ⟨rfl, h⟩
  | .cons e es, s, G, k, x, h => by
    rw [evEs, R.wp_bind] at h ⊢
    refine R.wp_mono h (fun v G1 h => ?_) fun _ _ x => x
    rw [R.wp_bind] at h ⊢
    exact R.wp_mono (evEs_len es s G1 h) (fun vs G2 h => ⟨by rw [List.length_cons, h.1]; rfl, h.2⟩) fun _ _ x => x
theorem len_line {n : Nat} (h : n ≤ 1000) : n ≤ sizeLine := Nat.le_trans h (by rw [sizeLine_eq]; decide)
theorem pe_tupK {K : PySem.W.Frag} {es : List Expr} {is : Es} {x1 : Nat} {pos : Pos} (h : PA X es (tAs K W (evEs Γ is))) (hz : is.len ≤ 1000) : PE X (.Tuple es x1 pos) (tE K W (evE Γ (.tup is))) :=
  peImp (pe_tup h) fun σ H Q ⟨M, G, s, hh, hs, hm⟩ => by
    rw [evE, R.wp_bind] at hm
    refine ⟨M, G, s, hh, hs, R.wp_mono (evEs_len is s G hm) (fun vs G1 ⟨hl, k⟩ M1 us H1 l1 hh1 r1 => ⟨?_, fun p hp => ?_⟩) fun _ _ x => x⟩
    · rw [← r1.length, hl]; exact len_line hz
    · exact k M1 _ _ (l1.trans (Later.new M1 hp)) (hh1.new hp) (Rl.newTup hh1 hp r1)
theorem pe_lstK {K : PySem.W.Frag} {es : List Expr} {is : Es} {pos : Pos} (h : PA X es (tAs K W (evEs Γ is))) (hz : is.len ≤ 1000) : PE X (.List es pos) (tF K W (evE Γ (.lst is))) :=
  peImp (pe_lst h) fun σ H Q ⟨M, G, s, hh, hs, hm⟩ => by
    rw [evE, R.wp_bind] at hm
    refine ⟨M, G, s, hh, hs, R.wp_mono (evEs_len is s G hm) (fun vs G1 ⟨hl, k⟩ M1 us H1 l1 hh1 r1 => ⟨?_, fun p hp => ?_⟩) fun _ _ x => x⟩
    · rw [← r1.length, hl]; exact len_line hz
    · obtain ⟨xs, e, k⟩ := k
      cases e
      exact k M1 p _ _ (l1.trans (Later.new M1 hp)) (l1.since.gone hp) (.mk_ hh1 hp r1)
theorem pe_binK {op : Operator} {a b : Expr} {i j : E} {pos : Pos} (ha : PE X a (tO X.K W (evE Γ i))) (hb : PE X b (tO X.K W (evE Γ j))) : PE X (.BinOp a op b pos) (tE X.K W (evE Γ (.bin op i j))) :=
  peImp (pe_op (op_binK op) ha hb) fun σ H Q ⟨M, G, s, hh, hs, hm⟩ => by
    rw [evE, R.wp_bind] at hm
    refine ⟨M, G, s, hh, hs, R.wp_mono hm (fun x G1 hm M1 u1 H1 l1 hh1 r1 => ⟨M1, G1, s, hh1, hs.later hh.ok l1, ?_⟩) fun _ _ x => x⟩
    rw [R.wp_bind] at hm
    refine R.wp_mono hm (fun y G2 hm M2 u2 H2 l2 hh2 r2 => ?_) fun _ _ x => x.later l1
    obtain ⟨v, hc, k⟩ := R.wp_opt hm
    exact ⟨M2, G2, _, _, v, hh2, (r1.later l2).d.rd hh2, r2.d.rd hh2, hc, fun u H' l3 hh3 r3 _ => k M2 u H' ((l1.trans l2).trans l3) hh3 r3⟩
/-- .. that gives a new list -/
theorem pe_binF {op : Operator} {a b : Expr} {i j : E} {pos : Pos} (ha : PE X a (tO X.K W (evE Γ i))) (hb : PE X b (tO X.K W (evE Γ j))) : PE X (.BinOp a op b pos) (tF X.K W (evE Γ (.bin op i j))) :=
  peImp (pe_op (op_binK op) ha hb) fun σ H Q ⟨M, G, s, hh, hs, hm⟩ => by
    rw [evE, R.wp_bind] at hm
    refine ⟨M, G, s, hh, hs, R.wp_mono hm (fun x G1 hm M1 u1 H1 l1 hh1 r1 => ⟨M1, G1, s, hh1, hs.later hh.ok l1, ?_⟩) fun _ _ x => x⟩
    rw [R.wp_bind] at hm
    refine R.wp_mono hm (fun y G2 hm M2 u2 H2 l2 hh2 r2 => ?_) fun _ _ x => x.later l1
    obtain ⟨v, hc, xs, e, k⟩ := R.wp_opt hm
    subst e
    refine ⟨M2, G2, _, _, .lst xs, hh2, (r1.later l2).d.rd hh2, r2.d.rd hh2, hc, fun u H' l3 hh3 r3 f => ?_⟩
    obtain ⟨a, ws, rfl, hn, rfl, t⟩ := f xs rfl
    exact k M2 a ws _ ((l1.trans l2).trans l3) ((l1.trans l2).since.gone hn) (.mk_ hh2 hn t)
theorem pe_negK {a : Expr} {i : E} {pos : Pos} (ha : PE X a (tE X.K W (evE Γ i))) : PE X (.UnaryOp .USub a pos) (tE X.K W (evE Γ (.neg i))) :=
  peImp (pe_un un_neg ha) fun σ H Q ⟨M, G, s, hh, hs, hm⟩ => by
    rw [evE, R.wp_bind] at hm
    refine ⟨M, G, s, hh, hs, R.wp_mono hm (fun x G1 hm M1 u1 H1 l1 hh1 r1 => ?_) fun _ _ x => x⟩
    cases x with
    | int n => cases r1; exact ⟨n, rfl, hm M1 _ H1 l1 hh1 (.int _)⟩
    | _ => exact hm.elim
theorem pe_cmpK {op : CmpOp} {a b : Expr} {i j : E} {pos : Pos} (hu : X.A.units + 64 < cLine) (ha : PE X a (tO X.K W (evE Γ i))) (hb : PE X b (tO X.K W (evE Γ j))) (hm : behindInMarks op b = false) : PE X (.Compare a [op] [b] pos) (tE X.K W (evE Γ (.cmp op i j))) :=
  peImp (pe_cmpR (pos := pos) (op_cmpK hu op) ha hb hm) fun σ H Q ⟨M, G, s, hh, hs, hm⟩ => by
    rw [evE, R.wp_bind] at hm
    refine ⟨M, G, s, hh, hs, R.wp_mono hm (fun x G1 hm M1 u1 H1 l1 hh1 r1 => ⟨M1, G1, s, hh1, hs.later hh.ok l1, ?_⟩) fun _ _ x => x⟩
    rw [R.wp_bind] at hm
    refine R.wp_mono hm (fun y G2 hm M2 u2 H2 l2 hh2 r2 => ?_) fun _ _ x => x.later l1
    obtain ⟨v, hc, k⟩ := R.wp_opt hm
    exact ⟨M2, G2, _, _, v, hh2, (r1.later l2).d.rd hh2, r2.d.rd hh2, hc, fun u H' l3 hh3 r3 _ => k M2 u H' ((l1.trans l2).trans l3) hh3 r3⟩
theorem pe_cmp2K {op op2 : CmpOp} {a b c : Expr} {i j l : E} {pos : Pos} (hu : X.A.units + 64 < cLine) (ha : PE X a (tO X.K W (evE Γ i))) (hb : PE X b (tO X.K W (evE Γ j))) (hc : PE X c (tO X.K W (evE Γ l))) (hm : lastMarks [op, op2] [b, c] = false) :
    PE X (.Compare a [op, op2] [b, c] pos) (tE X.K W (evE Γ (.cmp2 op op2 i j l))) :=
  peImp (pe_chain (pos := pos) (op_cmpK hu op) (op_cmpK hu op2) ha hb hc hm) fun σ H Q ⟨M, G, s, hh, hs, hm⟩ => by
    rw [evE, R.wp_bind] at hm
    refine ⟨M, G, s, hh, hs, R.wp_mono hm (fun x G1 hm M1 u1 H1 l1 hh1 r1 => ⟨M1, G1, s, hh1, hs.later hh.ok l1, ?_⟩) fun _ _ x => x⟩
    rw [R.wp_bind] at hm
    refine R.wp_mono hm (fun y G2 hm M2 u2 H2 l2 hh2 r2 => ?_) fun _ _ x => x.later l1
    rw [R.wp_bind] at hm
    obtain ⟨b1, hc, hm⟩ := R.wp_opt hm
    refine ⟨M2, G2, _, _, .bool b1, hh2, (r1.later l2).d.rd hh2, r2.d.rd hh2, (by show (cmpK op _ _).map Val.bool = _; rw [hc]; rfl), fun u H' l3 hh3 r3 _ => ?_⟩
    cases r3
    refine ⟨b1, rfl, ?_⟩
    have l123 := (l1.trans l2).trans l3
    cases b1 with
    | false =>
      rw [if_neg Bool.false_ne_true] at hm ⊢
      exact hm M2 _ H' l123 hh3 (.bool _)
    | true =>
      rw [if_pos rfl, R.wp_bind] at hm
      rw [if_pos rfl]
      refine ⟨M2, G2, s, hh3, hs.later hh.ok l123, R.wp_mono hm (fun z G4 hm M4 u4 H4 l4 hh4 r4 => ?_) fun _ _ x => x.later l123⟩
      obtain ⟨v, hc2, k⟩ := R.wp_opt hm
      exact ⟨M4, G4, _, _, v, hh4, (r2.later (l3.trans l4)).d.rd hh4, r4.d.rd hh4, hc2, fun u H5 l5 hh5 r5 _ => k M4 u H5 ((l123.trans l4).trans l5) hh5 r5⟩
theorem pe_notK {a : Expr} {i : E} {pos : Pos} (ha : PE X a (tO X.K W (evE Γ i))) : PE X (.UnaryOp .Not a pos) (tE X.K W (evE Γ (.not i))) :=
  peImp (pe_notT ha) fun σ H Q ⟨M, G, s, hh, hs, hm⟩ => by
    rw [evE, R.wp_bind] at hm
    refine ⟨M, G, s, hh, hs, R.wp_mono hm (fun x G1 hm M1 u1 H1 l1 hh1 r1 => ?_) fun _ _ x => x⟩
    obtain ⟨v, hc, k⟩ := R.wp_opt hm
    cases hb : truthV (rd G1 x) with
    | none => rw [hb] at hc; cases hc
    | some b =>
      rw [hb] at hc
      cases hc
      exact ⟨b, tru_of (r1.d.rd hh1) hb, k M1 _ H1 l1 hh1 (.bool _)⟩
theorem pe_andK {a b : Expr} {rest : List Expr} {i j : E} {pos : Pos} (ha : PE X a (tE X.K W (evE Γ i))) (hb : PE X (.BoolOp .And (b :: rest) pos) (tE X.K W (evE Γ j))) : PE X (.BoolOp .And (a :: b :: rest) pos) (tE X.K W (evE Γ (.and i j))) :=
  peImp (pe_andT ha hb) fun σ H Q ⟨M, G, s, hh, hs, hm⟩ => by
    rw [evE, R.wp_bind] at hm
    refine ⟨M, G, s, hh, hs, R.wp_mono hm (fun x G1 hm M1 u1 H1 l1 hh1 r1 => ?_) fun _ _ x => x⟩
    rw [R.wp_bind] at hm
    obtain ⟨b1, hc, hm⟩ := R.wp_opt hm
    refine ⟨b1, tru_of ((RlD.rd (.inl r1) hh1)) hc, ?_⟩
    cases b1 with
    | true =>
      rw [if_pos rfl] at hm ⊢
      exact ⟨M1, G1, s, hh1, hs.later hh.ok l1, R.wp_mono hm (fun v G2 k M2 u2 H2 l2 hh2 r2 => k M2 u2 H2 (l1.trans l2) hh2 r2) fun _ _ x => x.later l1⟩
    | false =>
      rw [if_neg Bool.false_ne_true] at hm ⊢
      exact hm M1 u1 H1 l1 hh1 r1
theorem pe_orK {a b : Expr} {rest : List Expr} {i j : E} {pos : Pos} (ha : PE X a (tE X.K W (evE Γ i))) (hb : PE X (.BoolOp .Or (b :: rest) pos) (tE X.K W (evE Γ j))) : PE X (.BoolOp .Or (a :: b :: rest) pos) (tE X.K W (evE Γ (.or i j))) :=
  peImp (pe_orT ha hb) fun σ H Q ⟨M, G, s, hh, hs, hm⟩ => by
    rw [evE, R.wp_bind] at hm
    refine ⟨M, G, s, hh, hs, R.wp_mono hm (fun x G1 hm M1 u1 H1 l1 hh1 r1 => ?_) fun _ _ x => x⟩
    rw [R.wp_bind] at hm
    obtain ⟨b1, hc, hm⟩ := R.wp_opt hm
    refine ⟨b1, tru_of ((RlD.rd (.inl r1) hh1)) hc, ?_⟩
    cases b1 with
    | false =>
      rw [if_neg Bool.false_ne_true] at hm ⊢
      exact ⟨M1, G1, s, hh1, hs.later hh.ok l1, R.wp_mono hm (fun v G2 k M2 u2 H2 l2 hh2 r2 => k M2 u2 H2 (l1.trans l2) hh2 r2) fun _ _ x => x.later l1⟩
    | true =>
      rw [if_pos rfl] at hm ⊢
      exact hm M1 u1 H1 l1 hh1 r1
theorem pt_valK {a : Expr} {i : E} (ha : PE X a (tO X.K W (evE Γ i))) (he : ∀ whole, isTrue a X.env whole = (do let v ← whole; standAt a.pos; holding [v] (truthy v))) : PT X a (tT X.K W (evE Γ i)) :=
  ptImp (pt_truth ha he) fun σ H Q ⟨M, G, s, hh, hs, hm⟩ => ⟨M, G, s, hh, hs, R.wp_mono hm (fun v G' ⟨b, hb, k⟩ M1 u H1 l1 hh1 r1 => ⟨b, tru_of (r1.d.rd hh1) hb, k M1 H1 l1 hh1⟩) fun _ _ x => x⟩
theorem bool_end {K : PySem.W.Frag} {M M' : Mp} {H H' : Hp} {G : Heap} {o : Option Bool} {v : Val} {u : V} {Q : Bool → Hp → Prop} (hc : o.map Val.bool = some v) (k : ∃ b, truthV (rd G v) = some b ∧ ∀ M' H', Later M H M' H' → HeapR K M' G H' → Q b H') (l : Later M H M' H') (hh : HeapR K M' G H') (r : Rl K M' H' v u) : ∃ b, u = .bl b ∧ Q b H' := by
  cases o with
  | none => cases hc
  | some b0 =>
    cases hc
    cases r
    obtain ⟨b, e, k⟩ := k
    cases e
    exact ⟨_, rfl, k M' H' l hh⟩
theorem pt_cmpK {op : CmpOp} {a b : Expr} {i j : E} {pos : Pos} (hu : X.A.units + 64 < cLine) (ha : PE X a (tO X.K W (evE Γ i))) (hb : PE X b (tO X.K W (evE Γ j))) (hm : behindInMarks op b = false) : PT X (.Compare a [op] [b] pos) (tT X.K W (evE Γ (.cmp op i j))) :=
  ptImp (pt_cmpR (pos := pos) (op_cmpK hu op) ha hb hm) fun σ H Q ⟨M, G, s, hh, hs, hm⟩ => by
    rw [evE, R.wp_bind] at hm
    refine ⟨M, G, s, hh, hs, R.wp_mono hm (fun x G1 hm M1 u1 H1 l1 hh1 r1 => ⟨M1, G1, s, hh1, hs.later hh.ok l1, ?_⟩) fun _ _ x => x⟩
    rw [R.wp_bind] at hm
    refine R.wp_mono hm (fun y G2 hm M2 u2 H2 l2 hh2 r2 => ?_) fun _ _ x => x.later l1
    obtain ⟨v, hc, k⟩ := R.wp_opt hm
    exact ⟨M2, G2, _, _, v, hh2, (r1.later l2).d.rd hh2, r2.d.rd hh2, hc, fun u H' l3 hh3 r3 _ => bool_end hc k ((l1.trans l2).trans l3) hh3 r3⟩
theorem pt_cmp2K {op op2 : CmpOp} {a b c : Expr} {i j l : E} {pos : Pos} (hu : X.A.units + 64 < cLine) (ha : PE X a (tO X.K W (evE Γ i))) (hb : PE X b (tO X.K W (evE Γ j))) (hc : PE X c (tO X.K W (evE Γ l))) (hm : lastMarks [op, op2] [b, c] = false) :
    PT X (.Compare a [op, op2] [b, c] pos) (tT X.K W (evE Γ (.cmp2 op op2 i j l))) :=
  ptImp (pt_chain (pos := pos) (op_cmpK hu op) (op_cmpK hu op2) ha hb hc hm) fun σ H Q ⟨M, G, s, hh, hs, hm⟩ => by
    rw [evE, R.wp_bind] at hm
    refine ⟨M, G, s, hh, hs, R.wp_mono hm (fun x G1 hm M1 u1 H1 l1 hh1 r1 => ⟨M1, G1, s, hh1, hs.later hh.ok l1, ?_⟩) fun _ _ x => x⟩
    rw [R.wp_bind] at hm
    refine R.wp_mono hm (fun y G2 hm M2 u2 H2 l2 hh2 r2 => ?_) fun _ _ x => x.later l1
    rw [R.wp_bind] at hm
    obtain ⟨b1, hc, hm⟩ := R.wp_opt hm
    refine ⟨M2, G2, _, _, .bool b1, hh2, (r1.later l2).d.rd hh2, r2.d.rd hh2, (by show (cmpK op _ _).map Val.bool = _; rw [hc]; rfl), fun u H' l3 hh3 r3 _ => ?_⟩
    cases r3
    refine ⟨b1, rfl, ?_⟩
    have l123 := (l1.trans l2).trans l3
    cases b1 with
    | false =>
      rw [if_neg Bool.false_ne_true] at hm ⊢
      obtain ⟨b2, e, k⟩ := hm
      cases e
      exact ⟨_, rfl, k M2 H' l123 hh3⟩
    | true =>
      rw [if_pos rfl, R.wp_bind] at hm
      rw [if_pos rfl]
      refine ⟨M2, G2, s, hh3, hs.later hh.ok l123, R.wp_mono hm (fun z G4 hm M4 u4 H4 l4 hh4 r4 => ?_) fun _ _ x => x.later l123⟩
      obtain ⟨v, hc2, k⟩ := R.wp_opt hm
      exact ⟨M4, G4, _, _, v, hh4, (r2.later (l3.trans l4)).d.rd hh4, r4.d.rd hh4, hc2, fun u H5 l5 hh5 r5 _ => bool_end hc2 k ((l123.trans l4).trans l5) hh5 r5⟩
theorem pt_notK {a : Expr} {i : E} {pos : Pos} (ha : PT X a (tT X.K W (evE Γ i))) : PT X (.UnaryOp .Not a pos) (tT X.K W (evE Γ (.not i))) :=
  ptImp (pt_not ha) fun σ H Q ⟨M, G, s, hh, hs, hm⟩ => by
    rw [evE, R.wp_bind] at hm
    refine ⟨M, G, s, hh, hs, R.wp_mono hm (fun x G1 hm => ?_) fun _ _ x => x⟩
    obtain ⟨v, hc, b, e, k⟩ := R.wp_opt hm
    cases hb : truthV (rd G1 x) with
    | none => rw [hb] at hc; cases hc
    | some b0 =>
      rw [hb] at hc
      cases hc
      cases e
      exact ⟨b0, rfl, fun M1 H1 l1 hh1 => k M1 H1 l1 hh1⟩
theorem pw_andK {a b : Expr} {rest : List Expr} {i j : E} {pos : Pos} (ha : PT X a (tT X.K W (evE Γ i))) (hb : PW X (.BoolOp .And (b :: rest) pos) (tT X.K W (evE Γ j))) : PW X (.BoolOp .And (a :: b :: rest) pos) (tT X.K W (evE Γ (.and i j))) := by
  have h := pw_and ha hb
  refine ⟨fun wh pins s σ H Q I ⟨M, G, st, hh, hs, hm⟩ => h.run wh pins s σ H Q I ?_⟩
  rw [evE, R.wp_bind] at hm
  refine ⟨M, G, st, hh, hs, R.wp_mono hm (fun x G1 hm => ?_) fun _ _ x => x⟩
  rw [R.wp_bind] at hm
  obtain ⟨b1, hc, hm⟩ := R.wp_opt hm
  refine ⟨b1, hc, fun M1 H1 l1 hh1 => ?_⟩
  cases b1 with
  | true =>
    rw [if_pos rfl] at hm ⊢
    exact ⟨M1, G1, st, hh1, hs.later hh.ok l1, R.wp_mono hm (fun v G2 ⟨b, e, k⟩ => ⟨b, e, fun M2 H2 l2 hh2 => k M2 H2 (l1.trans l2) hh2⟩) fun _ _ x => x.later l1⟩
  | false =>
    rw [if_neg Bool.false_ne_true] at hm ⊢
    obtain ⟨b, e, k⟩ := hm
    rw [hc] at e
    cases e
    exact k M1 H1 l1 hh1
theorem pw_orK {a b : Expr} {rest : List Expr} {i j : E} {pos : Pos} (ha : PT X a (tT X.K W (evE Γ i))) (hb : PW X (.BoolOp .Or (b :: rest) pos) (tT X.K W (evE Γ j))) : PW X (.BoolOp .Or (a :: b :: rest) pos) (tT X.K W (evE Γ (.or i j))) := by
  have h := pw_or ha hb
  refine ⟨fun wh pins s σ H Q I ⟨M, G, st, hh, hs, hm⟩ => h.run wh pins s σ H Q I ?_⟩
  rw [evE, R.wp_bind] at hm
  refine ⟨M, G, st, hh, hs, R.wp_mono hm (fun x G1 hm => ?_) fun _ _ x => x⟩
  rw [R.wp_bind] at hm
  obtain ⟨b1, hc, hm⟩ := R.wp_opt hm
  refine ⟨b1, hc, fun M1 H1 l1 hh1 => ?_⟩
  cases b1 with
  | false =>
    rw [if_neg Bool.false_ne_true] at hm ⊢
    exact ⟨M1, G1, st, hh1, hs.later hh.ok l1, R.wp_mono hm (fun v G2 ⟨b, e, k⟩ => ⟨b, e, fun M2 H2 l2 hh2 => k M2 H2 (l1.trans l2) hh2⟩) fun _ _ x => x.later l1⟩
  | true =>
    rw [if_pos rfl] at hm ⊢
    obtain ⟨b, e, k⟩ := hm
    rw [hc] at e
    cases e
    exact k M1 H1 l1 hh1
theorem pe_iteK {c a b : Expr} {i j l : E} {pos : Pos} (hc : PT X c (tT X.K W (evE Γ i))) (ha : PE X a (tE X.K W (evE Γ j))) (hb : PE X b (tE X.K W (evE Γ l))) : PE X (.IfExp c a b pos) (tE X.K W (evE Γ (.ite i j l))) :=
  peImp (pe_ifExp hc ha hb) fun σ H Q ⟨M, G, s, hh, hs, hm⟩ => by
    rw [evE, R.wp_bind] at hm
    refine ⟨M, G, s, hh, hs, R.wp_mono hm (fun x G1 hm => ?_) fun _ _ x => x⟩
    rw [R.wp_bind] at hm
    obtain ⟨b1, hc, hm⟩ := R.wp_opt hm
    refine ⟨b1, hc, fun M1 H1 l1 hh1 => ?_⟩
    have hs1 := hs.later hh.ok l1
    show if b1 = true then tE X.K W (evE Γ j) σ H1 Q else tE X.K W (evE Γ l) σ H1 Q
    cases b1 with
    | true =>
      rw [if_pos rfl] at hm ⊢
      exact ⟨M1, G1, s, hh1, hs1, R.wp_mono hm (fun v G2 k M2 u2 H2 l2 hh2 r2 => k M2 u2 H2 (l1.trans l2) hh2 r2) fun _ _ x => x.later l1⟩
    | false =>
      rw [if_neg Bool.false_ne_true] at hm ⊢
      exact ⟨M1, G1, s, hh1, hs1, R.wp_mono hm (fun v G2 k M2 u2 H2 l2 hh2 r2 => k M2 u2 H2 (l1.trans l2) hh2 r2) fun _ _ x => x.later l1⟩
end Fx

namespace Fx
open PySem PySem.Spec PyProof.Rows L2
variable {X : Cx} {W : WX} {Γ : Calls}
theorem atI_rls {K : PySem.W.Frag} {M : Mp} {H : Hp} {xs : List Val} {vs : List V} {k : Int} {c : Val} (r : Rls K M H xs vs) (h : atI xs k = some c) : ∃ u, atI vs k = some u ∧ Rl K M H c u := by
  unfold atI at h ⊢
  rw [← r.length]
  cases e : ixN xs.length k with
  | none => rw [e] at h; cases h
  | some j =>
    rw [e] at h
    exact r.get h
/-- a[i] of a list, a tuple -/
theorem pe_idxK {a b : Expr} {i j : E} {pos : Pos} (ha : PE X a (tO X.K W (evE Γ i))) (hb : PE X b (tE X.K W (evE Γ j))) (hs : PlainIx b) : PE X (.Subscript a b pos) (tE X.K W (evE Γ (.idx i j))) :=
  peImp (pe_ix (pos := pos) (ix_seq (X := X)) ha hb hs) fun σ H Q ⟨M, G, s, hh, hst, hm⟩ => by
    rw [evE, R.wp_bind] at hm
    refine ⟨M, G, s, hh, hst, R.wp_mono hm (fun x G1 hm M1 u1 H1 l1 hh1 r1 => ⟨M1, G1, s, hh1, hst.later hh.ok l1, ?_⟩) fun _ _ x => x⟩
    rw [R.wp_bind] at hm
    refine R.wp_mono hm (fun y G2 hm M2 u2 H2 l2 hh2 r2 => ?_) fun _ _ x => x.later l1
    obtain ⟨c, hc, k⟩ := R.wp_opt hm
    have rx := (r1.later l2).d.rd hh2
    have l12 := l1.trans l2
    cases y with
    | int n =>
      cases r2
      generalize rd G2 x = xv at hc rx
      cases xv with
      | tup xs =>
        obtain ⟨p, vs, rfl, h2, t⟩ := rx.tup
        obtain ⟨u, hu, ru⟩ := atI_rls t (show atI xs n = some c from hc)
        exact .inr (.inl ⟨p, vs, n, u, rfl, rfl, h2, hu, k M2 u H2 l12 hh2 ru⟩)
      | lst xs =>
        obtain ⟨p, vs, rfl, h2, t⟩ := rx.lst
        obtain ⟨u, hu, ru⟩ := atI_rls t (show atI xs n = some c from hc)
        exact .inl ⟨p, vs, n, u, rfl, rfl, .of h2, hu, k M2 u H2 l12 hh2 ru⟩
      | frz xs =>
        obtain ⟨p, vs, rfl, h2, t⟩ := rx.frz
        obtain ⟨u, hu, ru⟩ := atI_rls t (show atI xs n = some c from hc)
        exact .inl ⟨p, vs, n, u, rfl, rfl, h2, hu, k M2 u H2 l12 hh2 ru⟩
      | _ => cases hc
    | _ => generalize rd G2 x = xv at hc; cases xv <;> cases hc
theorem cut_rls {K : PySem.W.Frag} {M : Mp} {H : Hp} {xs : List Val} {vs : List V} (r : Rls K M H xs vs) (lo hi : Option Int) : Rls K M H (cutL xs lo hi) (cutV vs lo hi) := by
  unfold cutL cutV
  rw [← r.length]
  exact (r.drop _).take _
theorem cut_whole {xs : List Val} {lo hi : Option Int} (h : HT.sIx xs.length 0 lo = 0 ∧ HT.sIx xs.length xs.length hi = xs.length) : cutL xs lo hi = xs := by
  unfold cutL
  rw [h.1, h.2, List.drop_zero, Nat.sub_zero, List.take_length]
/-- a slice's part, by values -/
def tP (K : PySem.W.Frag) (W : WX) (m : Store → Heap → R (Option Int)) : TO := fun st H Q => ∃ M G s, HeapR K M G H ∧ StoreR K M H s st ∧
  (m s G).wp (fun o G' => ∀ M' H', Later M H M' H' → HeapR K M' G' H' → Q o H') (XW K W M H st)
def partE (Γ : Calls) (b : Bool) (i : E) : Store → Heap → R (Option Int) := fun s G => (evE Γ i s G).bind fun y G2 => R.opt (ixO b y) G2
theorem po_noneK : PO X none (tP X.K W (partE Γ false (.con .none))) :=
  ⟨fun pins s σ H Q I ⟨M, G, st, hh, hst, hm⟩ => po_none.run pins s σ H Q I (by
    unfold partE at hm
    rw [evE] at hm
    exact hm M H (Later.refl M H) hh)⟩
theorem po_someK {e : Expr} {i : E} (h : PE X e (tE X.K W (evE Γ i))) : PO X (some e) (tP X.K W (partE Γ true i)) :=
  ⟨fun pins s σ H Q I ⟨M, G, st, hh, hst, hm⟩ => (po_some h).run pins s σ H Q I (by
    unfold partE at hm
    rw [R.wp_bind] at hm
    refine ⟨M, G, st, hh, hst, R.wp_mono hm (fun v G' hm M1 u H1 l1 hh1 r1 => ?_) fun _ _ x => x⟩
    cases v with
    | int n => cases r1; exact ⟨n, rfl, hm M1 H1 l1 hh1⟩
    | _ => exact hm.elim)⟩
/-- the slice of any sequence -/
def rSl (K : PySem.W.Frag) : V → Option Int → Option Int → Hp → VK → Prop := fun x lo hi H Q => rSlL K x lo hi H Q ∨ rSlA K x lo hi H Q
theorem sl_any : SlR X (rSl X.K) := sl_list.or sl_tupA
theorem rSl_of {K : PySem.W.Frag} {M : Mp} {G : Heap} {H : Hp} {x c : Val} {u : V} {lo hi : Option Int} {Q : VK} (hh : HeapR K M G H) (r : RlD K M H x u) (hc : sliceV x lo hi = some c)
    (k : ∀ u H', Later M H M H' → HeapR K M G H' → Rl K M H' c u → Fr K M H H' c u → Q u H') : rSl K u lo hi H Q := by
  cases x with
  | tup xs =>
    cases hc
    obtain ⟨p, vs, rfl, h2, t⟩ := r.tup
    have e := t.length
    refine .inr ⟨p, vs, rfl, h2, fun w => ?_, fun _ p' hp => ?_⟩
    · rw [← e] at w
      rw [cut_whole w] at k
      rcases r with r | ⟨_, _, _, e1, _⟩
      · exact k _ H (Later.refl M H) hh r (Fr.no fun _ e => nomatch e)
      · cases e1
    · exact k _ _ (Later.new M hp) (hh.new hp) (Rl.newTup hh hp (cut_rls t lo hi)) (Fr.no fun _ e => nomatch e)
  | lst xs =>
    cases hc
    obtain ⟨p, vs, rfl, h2, t⟩ := r.lst
    exact .inl ⟨p, vs, rfl, .of h2, fun p' hp => k _ _ (Later.new M hp) (hh.new hp) (Rl.newLst hh hp (cut_rls t lo hi)) fun ys e => by cases e; exact ⟨p', _, rfl, hp, rfl, cut_rls t lo hi⟩⟩
  | frz xs =>
    cases hc
    obtain ⟨p, vs, rfl, h2, t⟩ := r.frz
    exact .inl ⟨p, vs, rfl, h2, fun p' hp => k _ _ (Later.new M hp) (hh.new hp) (Rl.newLst hh hp (cut_rls t lo hi)) fun ys e => by cases e; exact ⟨p', _, rfl, hp, rfl, cut_rls t lo hi⟩⟩
  | _ => cases hc
theorem sl_core {i j l : E} {bl bh : Bool} {σ : L2.St} {H : Hp} {M : Mp} {G : Heap} {s : Store} {Q : VK} {kk : Val → Heap → Prop} (hh : HeapR X.K M G H) (hst : StoreR X.K M H s σ) (hm : (evE Γ (.slice i bl j bh l) s G).wp kk (XW X.K W M H σ))
    (fin : ∀ c G3, kk c G3 → ∀ M3 H3 u H4, Later M H M3 H3 → HeapR X.K M3 G3 H3 → Later M3 H3 M3 H4 → HeapR X.K M3 G3 H4 → Rl X.K M3 H4 c u → Fr X.K M3 H3 H4 c u → Q u H4) : tSl (rSl X.K) (tO X.K W (evE Γ i)) (tP X.K W (partE Γ bl j)) (tP X.K W (partE Γ bh l)) σ H Q := by
  rw [evE, R.wp_bind] at hm
  refine ⟨M, G, s, hh, hst, R.wp_mono hm (fun x G1 hm M1 u1 H1 l1 hh1 r1 => ?_) fun _ _ x => x⟩
  rw [R.wp_bind] at hm
  refine ⟨M1, G1, s, hh1, hst.later hh.ok l1, R.wp_mono hm (fun lo G2 hm M2 H2 l2 hh2 => ?_) fun _ _ x => x.later l1⟩
  rw [R.wp_bind] at hm
  have l12 := l1.trans l2
  refine ⟨M2, G2, s, hh2, hst.later hh.ok l12, R.wp_mono hm (fun hi G3 hm M3 H3 l3 hh3 => ?_) fun _ _ x => x.later l12⟩
  obtain ⟨c, hc, k⟩ := R.wp_opt hm
  exact rSl_of hh3 ((r1.later (l2.trans l3)).d.rd hh3) hc fun u H4 l4 hh4 r4 f => fin c G3 k M3 H3 u H4 (l12.trans l3) hh3 l4 hh4 r4 f
theorem pe_sliceK {a : Expr} {lo hi : Option Expr} {i j l : E} {bl bh : Bool} {pos p2 : Pos} (ha : PE X a (tO X.K W (evE Γ i))) (hl : PO X lo (tP X.K W (partE Γ bl j))) (hu : PO X hi (tP X.K W (partE Γ bh l))) :
    PE X (.Subscript a (.Slice lo hi none p2) pos) (tE X.K W (evE Γ (.slice i bl j bh l))) :=
  peImp (pe_slice (pos := pos) (p2 := p2) sl_any ha hl hu) fun σ H Q ⟨M, G, s, hh, hst, hm⟩ => sl_core hh hst hm fun c G3 k M3 H3 u H4 l1 hh3 l2 hh4 r _ => k M3 u H4 (l1.trans l2) hh4 r
theorem pe_sliceF {a : Expr} {lo hi : Option Expr} {i j l : E} {bl bh : Bool} {pos p2 : Pos} (ha : PE X a (tO X.K W (evE Γ i))) (hl : PO X lo (tP X.K W (partE Γ bl j))) (hu : PO X hi (tP X.K W (partE Γ bh l))) :
    PE X (.Subscript a (.Slice lo hi none p2) pos) (tF X.K W (evE Γ (.slice i bl j bh l))) :=
  peImp (pe_slice (pos := pos) (p2 := p2) sl_any ha hl hu) fun σ H Q ⟨M, G, s, hh, hst, hm⟩ => sl_core hh hst hm fun c G3 k M3 H3 u H4 l1 hh3 l2 hh4 r f => by
    obtain ⟨xs, e, k⟩ := k
    subst e
    obtain ⟨a, ws, rfl, hn, rfl, t⟩ := f xs rfl
    exact k M3 a ws _ (l1.trans l2) (l1.since.gone hn) (.mk_ hh3 hn t)
theorem bf_core {f : Bf} {is : Es} {σ : L2.St} {H : Hp} {M : Mp} {G : Heap} {s : Store} {Q : VK} {kk : Val → Heap → Prop} (hh : HeapR X.K M G H) (hst : StoreR X.K M H s σ) (hm : (evE Γ (.bcall f is) s G).wp kk (XW X.K W M H σ))
    (fin : ∀ c G3, kk c G3 → ∀ M3 H3 u H4, Later M H M3 H3 → HeapR X.K M3 G3 H3 → Later M3 H3 M3 H4 → HeapR X.K M3 G3 H4 → Rl X.K M3 H4 c u → Fr X.K M3 H3 H4 c u → Q u H4) : tCB (rBf X.K f) (tAO X.K W (evEs Γ is)) σ H Q := by
  rw [evE, R.wp_bind] at hm
  refine ⟨M, G, s, hh, hst, R.wp_mono hm (fun vs G1 hm M1 us H1 l1 hh1 r1 => ?_) fun _ _ x => x⟩
  obtain ⟨c, hc, k⟩ := R.wp_opt hm
  exact ⟨M1, G1, _, c, hh1, r1.rds hh1, hc, fun u H4 l4 hh4 ⟨r4, f⟩ => fin c G1 k M1 H1 u H4 l1 hh1 l4 hh4 r4 f⟩
def bfS : Bf → Str
  | .len => "len" | .tuple => "tuple" | .list => "list" | .int => "int" | .abs => "abs" | .sum => "sum" | .max => "max" | .min => "min" | .all => "all" | .any => "any" | .divmod => "divmod"
theorem boot_bf (f : Bf) : bootBuiltins (bfS f) = some (bfN f) := by
  cases f <;> (simp only [bfS, bfN]; first | exact PySem.boot_len | kernel_rfl | rfl)
theorem bfS_name (f : Bf) : bfS f ≠ "__name__" ∧ (bfS f == ("__debug__" : Str)) = false := by
  cases f <;> exact ⟨by simp only [bfS]; decide +kernel, by simp only [bfS]; decide +kernel⟩
theorem pe_bfT {f : Bf} {p pos : Pos} {e : Expr} {es : List Expr} {t : L2.TA} {r : List V → Hp → VK → Prop} (hc : CallR X (bfN f) r) (hg : Gl X (bfS f)) (hm : X.mg (bfS f) = none) (ha : PA X (e :: es) t)
    (he : starEach (e :: es) X.env = (false, eval e X.env) :: starEach es X.env) (hpl : (backTo pos (starEach es X.env)).any (·.1) = false) : PE X (.Call (.Name (bfS f) p) (e :: es) [] pos) (tCB r t) := by
  have hb := boot_bf f
  have h1 := (bfS_name f).1
  have h2 := (bfS_name f).2
  cases f <;> first | exact pe_callB hc hg hm hb ha h1 h2 he hpl | exact pe_callTy hc hg hm hb ha h1 h2 he hpl
theorem pe_bfK {f : Bf} {is : Es} {p pos : Pos} {e : Expr} {es : List Expr} (hcalm : X.calm = true) (hg : Gl X (bfS f)) (hm : X.mg (bfS f) = none) (ha : PA X (e :: es) (tAO X.K W (evEs Γ is)))
    (he : starEach (e :: es) X.env = (false, eval e X.env) :: starEach es X.env) (hpl : (backTo pos (starEach es X.env)).any (·.1) = false) : PE X (.Call (.Name (bfS f) p) (e :: es) [] pos) (tE X.K W (evE Γ (.bcall f is))) :=
  peImp (pe_bfT (call_bf hcalm f) hg hm ha he hpl) fun σ H Q ⟨M, G, s, hh, hst, hm⟩ => bf_core hh hst hm fun c G3 k M3 H3 u H4 l1 hh3 l2 hh4 r _ => k M3 u H4 (l1.trans l2) hh4 r
theorem pe_bfF {f : Bf} {is : Es} {p pos : Pos} {e : Expr} {es : List Expr} (hcalm : X.calm = true) (hg : Gl X (bfS f)) (hm : X.mg (bfS f) = none) (ha : PA X (e :: es) (tAO X.K W (evEs Γ is)))
    (he : starEach (e :: es) X.env = (false, eval e X.env) :: starEach es X.env) (hpl : (backTo pos (starEach es X.env)).any (·.1) = false) : PE X (.Call (.Name (bfS f) p) (e :: es) [] pos) (tF X.K W (evE Γ (.bcall f is))) :=
  peImp (pe_bfT (call_bf hcalm f) hg hm ha he hpl) fun σ H Q ⟨M, G, s, hh, hst, hm⟩ => bf_core hh hst hm fun c G3 k M3 H3 u H4 l1 hh3 l2 hh4 r f => by
    obtain ⟨xs, e, k⟩ := k
    subst e
    obtain ⟨a, ws, rfl, hn, rfl, t⟩ := f xs rfl
    exact k M3 a ws _ (l1.trans l2) (l1.since.gone hn) (.mk_ hh3 hn t)
def tyS : Ty → Str
  | .int => "int" | .bool => "bool" | .tuple => "tuple" | .list => "list" | .str => "str" | .none_ => "NoneType"
theorem boot_ty (t : Ty) (h : t ≠ .none_) : bootBuiltins (tyS t) = some (.type (tyN t)) := by
  cases t <;> first | exact absurd rfl h | (simp only [tyS, tyN]; kernel_rfl)
theorem boot_isi : bootBuiltins ("isinstance" : Str) = some (.builtin "isinstance") := by kernel_rfl
theorem pe_isiK {a : Expr} {i : E} {t : Ty} {p p2 pos : Pos} (hg : Gl X "isinstance") (hm : X.mg "isinstance" = none) (ht : t ≠ .none_) (hg2 : Gl X (tyS t)) (hm2 : X.mg (tyS t) = none) (ha : PE X a (tO X.K W (evE Γ i)))
    (he : starEach [a, .Name (tyS t) p2] X.env = (false, eval a X.env) :: starEach [.Name (tyS t) p2] X.env) : PE X (.Call (.Name "isinstance" p) [a, .Name (tyS t) p2] [] pos) (tE X.K W (evE Γ (.isi i t))) := by
  have n1 : tyS t ≠ "__name__" ∧ (tyS t == ("__debug__" : Str)) = false := by
    cases t <;> exact ⟨by simp only [tyS]; decide +kernel, by simp only [tyS]; decide +kernel⟩
  have hty : PE X (.Name (tyS t) p2) (L2.tC (.ty (tyN t))) := pe_bltn hg2 hm2 (boot_ty t ht) rfl n1.1 n1.2
  refine peImp (pe_callB call_isi hg hm boot_isi (pa_cons ha (pa_cons hty pa_nil (by rfl)) he) (by decide +kernel) (by decide +kernel) he (by rfl)) fun σ H Q ⟨M, G, s, hh, hst, hm⟩ => ?_
  rw [evE, R.wp_bind] at hm
  refine ⟨M, G, s, hh, hst, R.wp_mono hm (fun x G1 hm M1 u1 H1 l1 hh1 r1 => ?_) fun _ _ x => x⟩
  have rx := r1.d.rd hh1
  obtain ⟨c, hc, k⟩ := R.wp_opt hm
  unfold isO at hc
  split at hc
  · cases hc
  · rename_i hr
    cases hc
    have hr : (rd G1 x).isRef = false := by simpa using hr
    exact ⟨u1, .ty (tyN t), _, _, _, rfl, .ty _, tyx_of rx hr, kit_ty (kit_all t _ hr), k M1 _ H1 l1 hh1 (.bool _)⟩
theorem NewL.heap {K : PySem.W.Frag} {M M' : Mp} {H H' : Hp} {G' : Heap} {a : Addr} {xs : List Val} {vs : List V} (n : NewL K M' G' H' a xs vs) (ok : MpOk M H) (l : Later M H M' H') (hn : H a = Option.none) :
    Later M H { M' with φ := M'.φ ++ [a] } H' ∧ HeapR K { M' with φ := M'.φ ++ [a] } (G' ++ [.lst xs]) H' ∧ Rl K { M' with φ := M'.φ ++ [a] } H' (.ref G'.length) (.ref a) := by
  have ok' := n.hh.ok
  have na : a ∉ M'.φ := ok'.d2 a (.inr rfl)
  have sw : Ext (M'.add a) H' { M' with φ := M'.φ ++ [a] } H' := ⟨⟨[a], rfl⟩, fun b h => .inl (by
    rcases h with h | h | h
    · rcases List.mem_append.mp h with h | h
      · exact .inl h
      · exact .inr (.inr (.inr (by simpa using h)))
    · exact .inr (.inl h)
    · exact .inr (.inr (.inl h))), fun _ _ _ h => h⟩
  have len := n.hh.len
  refine ⟨?_, ⟨⟨?_, fun i b h => ?_, fun b h => ?_, fun i b h z => ok'.d3 i b h (.inl z), ok'.oin, ok'.oth, fun b h => ok'.xth b (.inl h)⟩, ?_, fun k b ob h1 h2 => ?_⟩, .ref ?_⟩
  · obtain ⟨x, e, f⟩ := l.pre
    refine ⟨⟨x ++ [a], by rw [← List.append_assoc, ← e], fun b hb => ?_⟩, l.ow, l.xo, l.xo', l.keep, l.there⟩
    rcases List.mem_append.mp hb with h | h
    · exact f b h
    · rw [show b = a by simpa using h]; exact hn
  · rw [List.nodup_append]
    exact ⟨ok'.nodup, by simp, fun b hb c hc e => na (by rw [show c = a by simpa using hc] at e; rw [← e]; exact hb)⟩
  · intro z
    rcases List.mem_append.mp z with z | z
    · exact ok'.d1 i b h z
    · exact ok'.d3 i b h (.inr (by simpa using z))
  · intro z
    rcases List.mem_append.mp z with z | z
    · exact ok'.d2 b (.inl h) z
    · obtain rfl : b = a := by simpa using z
      exact n.nx h
  · show (M'.φ ++ [a]).length = (G' ++ [Obj.lst xs]).length
    rw [List.length_append, List.length_append, show M'.φ.length = G'.length from len]; rfl
  · by_cases hk : k < M'.φ.length
    · have h1' : M'.φ[k]? = some b := by rw [← h1]; exact (List.getElem?_append_left hk).symm
      have h2' : G'[k]? = some ob := by rw [← h2]; exact (List.getElem?_append_left (by rw [← len]; exact hk)).symm
      have := n.hh.obj k b ob h1' h2'
      cases ob with
      | lst ys => obtain ⟨us, e, t⟩ := this; exact ⟨us, e, t.ext sw⟩
    · have hk2 : G'.length ≤ k := by rw [← len]; exact Nat.le_of_not_lt hk
      have h1' : (M'.φ ++ [a])[k]? = some b := h1
      rw [List.getElem?_append_right (Nat.le_of_not_lt hk)] at h1'
      rw [List.getElem?_append_right hk2] at h2
      have e0 : k - G'.length = 0 := by
        obtain ⟨z, _⟩ := List.getElem?_eq_some_iff.mp h2
        simp at z; omega
      have e0' : k - M'.φ.length = 0 := by rw [show M'.φ.length = G'.length from len]; exact e0
      rw [e0] at h2
      rw [e0'] at h1'
      cases h2
      cases h1'
      exact ⟨vs, n.at_, n.rs.ext sw⟩
  · rw [← show M'.φ.length = G'.length from len, List.getElem?_append_right (Nat.le_refl _), Nat.sub_self]; rfl
theorem pe_heapK {e : Expr} {i : E} (h : PE X e (tF X.K W (evE Γ i))) : PE X e (tE X.K W (evE Γ (.heap i))) :=
  peImp h fun σ H Q ⟨M, G, s, hh, hst, hm⟩ => by
    rw [evE, R.wp_bind] at hm
    refine ⟨M, G, s, hh, hst, R.wp_mono hm (fun v G1 hm => ?_) fun _ _ x => x⟩
    cases v with
    | lst xs =>
      refine ⟨xs, rfl, fun M1 a vs H1 l1 hn n => ?_⟩
      obtain ⟨k1, k2, k3⟩ := n.heap hh.ok l1 hn
      exact hm _ _ _ k1 k2 k3
    | _ => exact hm.elim
end Fx

namespace Fx
open PySem PySem.Spec PyProof.Rows L2
variable {X : Cx} {W : WX} {Γ : Calls}
/-- a callee's map: the caller's own lists are not to be touched -/
def Mp.callee (M : Mp) : Mp := ⟨M.φ, fun _ => none, fun a => M.xo a ∨ ∃ i, M.ow i = some a⟩
section
variable {K : PySem.W.Frag} {M M' : Mp} {H H' : Hp} {G G' : Heap}
theorem callee_ex {a : Addr} : M.callee.ex a ↔ M.ex a := by
  constructor
  · rintro (h | ⟨i, h⟩ | h | h)
    · exact .inl h
    · cases h
    · exact .inr (.inr h)
    · exact .inr (.inl h)
  · rintro (h | h | h)
    · exact .inl h
    · exact .inr (.inr (.inr h))
    · exact .inr (.inr (.inl h))
theorem callee_ext : Ext M H M.callee H := Ext.swap rfl fun _ h => callee_ex.mp h
theorem HeapR.callee (hh : HeapR K M G H) : HeapR K M.callee G H := by
  have ok := hh.ok
  refine ⟨⟨ok.nodup, fun i a h => (by cases h), fun a h => ?_, fun i a h => (by cases h), fun i j a h => (by cases h), fun i a h => (by cases h), fun a h => ?_⟩, hh.len, fun n a o h1 h2 => ?_⟩
  · rcases h with h | ⟨i, h⟩
    · exact ok.d2 a h
    · exact ok.d1 i a h
  · rcases h with h | ⟨i, h⟩
    · exact ok.xth a h
    · exact ok.oth i a h
  · have := hh.obj n a o h1 h2
    cases o with
    | lst ys => obtain ⟨us, e, t⟩ := this; exact ⟨us, e, t.ext callee_ext⟩
/-- behind a call -/
def Mp.back (M Mc : Mp) : Mp := ⟨Mc.φ, M.ow, M.xo⟩
theorem back_ext (hx : ∀ a, M.callee.xo a → M'.xo a) : Ext M' H' (M.back M') H' := Ext.swap rfl fun a h => by
  rcases h with h | ⟨i, h⟩ | h
  · exact .inl h
  · exact .inr (.inr (hx a (.inr ⟨i, h⟩)))
  · exact .inr (.inr (hx a (.inl h)))
theorem back_later (l : Later M.callee H M' H') : Later M H (M.back M') H' := ⟨l.pre, rfl, fun _ h => h, fun _ h => .inl h, l.keep, l.there⟩
theorem back_heap (hh : HeapR K M G H) (l : Later M.callee H M' H') (hh' : HeapR K M' G' H') : HeapR K (M.back M') G' H' := by
  have ok := hh.ok
  have ok' := hh'.ok
  refine ⟨⟨ok'.nodup, fun i a h => ok'.d2 a (l.xo a (.inr ⟨i, h⟩)), fun a h => ok'.d2 a (l.xo a (.inl h)), ok.d3, ok.oin, fun i a h => ?_, fun a h => ?_⟩, hh'.len, fun n a o h1 h2 => ?_⟩
  · obtain ⟨o, e⟩ := ok.oth i a h
    exact l.there a o e
  · obtain ⟨o, e⟩ := ok.xth a h
    exact l.there a o e
  · have := hh'.obj n a o h1 h2
    cases o with
    | lst ys => obtain ⟨us, e, t⟩ := this; exact ⟨us, e, t.ext (back_ext l.xo)⟩
end
theorem ExcR.ext {K : PySem.W.Frag} {M M' : Mp} {H : Hp} {e : Exc} {cls : Value} {d : Option Addr} (x : ExcR K M H e cls d) (l : Ext M H M' H) : ExcR K M' H e cls d := by
  obtain ⟨cl, ar⟩ := e
  obtain ⟨h1, h2⟩ := x
  refine ⟨h1, ?_⟩
  cases ar with
  | none => exact h2
  | some p =>
    obtain ⟨f, y⟩ := p
    obtain ⟨dd, v, e1, e2, r⟩ := h2
    exact ⟨dd, v, e1, e2, r.ext l⟩
/-- what a def promises -/
def spF (K : PySem.W.Frag) (n : Nat) (c : List Val → Heap → R Val) : Sp := fun us H Q E => us.length = n ∧ ∃ M G vs, M.ow = (fun _ => none) ∧ HeapR K M G H ∧ Rls K M H vs us ∧
  (c vs G).wp (fun v G' => ∀ M' u H', Later M H M' H' → HeapR K M' G' H' → Rl K M' H' v u → Q u H') (fun e G' => ∀ M' cls d H', Later M H M' H' → HeapR K M' G' H' → ExcR K M' H' e cls d → E cls d H')
/-- a def that stands behind a name -/
structure DefOk (P : Program) (w : World) (K : PySem.W.Frag) (mg : Str → Option Value) (base : PySem.Heap) (k : Nat) (f : String) (n : Nat) (c : List Val → Heap → R Val) (a : Addr) (fd : FuncData) (ps : List Str) : Prop where
  glob : mg (Str.ofString f) = some (.ref a)
  keep : PySem.W.keepIn K (.ref a) = true
  len : ps.length = n
  binds : Binds K fd ps []
  ok : FnOk P w K mg base (CX P w) k a fd ps (spF K n c)
theorem pe_callK {k n : Nat} {f : String} {a : Addr} {fd : FuncData} {ps : List Str} {is : Es} {p pos : Pos} {e : Expr} {es : List Expr} (D : DefOk X.prog X.w X.K X.mg X.base k f n (Γ f) a fd ps) (hr : Room k X.A) (tk : Takes X W) (hg : Gl X (Str.ofString f)) (hl : is.len = n)
    (ha : PA X (e :: es) (tAs X.K W (evEs Γ is))) (hdb : (Str.ofString f == ("__debug__" : Str)) = false) (he : starEach (e :: es) X.env = (false, eval e X.env) :: starEach es X.env) (hpl : (backTo pos (starEach es X.env)).any (·.1) = false) :
    PE X (.Call (.Name (Str.ofString f) p) (e :: es) [] pos) (tE X.K W (evE Γ (.call f is))) :=
  peImp (pe_callSD (E := fun σ => WE W σ) D.ok hr hg D.glob D.keep D.binds .nil (fun σ => passAt tk σ) ha hdb he hpl) fun σ H Q ⟨M, G, s, hh, hst, hm⟩ => by
    rw [evE, R.wp_bind] at hm
    refine ⟨M, G, s, hh, hst, R.wp_mono (evEs_len is s G hm) (fun vs G1 ⟨hlen, hm⟩ M1 us H1 l1 hh1 r1 => ?_) fun _ _ x => x⟩
    show spF X.K n (Γ f) (us ++ []) H1 Q (WE W σ)
    rw [List.append_nil]
    refine ⟨by rw [← r1.length, hlen, hl], M1.callee, G1, vs, rfl, hh1.callee, r1.ext callee_ext, R.wp_mono hm (fun v G' k M' u H' l hh' r => ?_) fun e G' x M' cls d H' l hh' r => ?_⟩
    · exact k _ u H' (l1.trans (back_later l)) (back_heap hh1 l hh') (r.ext (back_ext l.xo))
    · exact x _ cls d H' (l1.trans (back_later l)) (back_heap hh1 l hh') (r.ext (back_ext l.xo))
theorem pe_call0K {k : Nat} {f : String} {a : Addr} {fd : FuncData} {ps : List Str} {p pos : Pos} (D : DefOk X.prog X.w X.K X.mg X.base k f 0 (Γ f) a fd ps) (hr : Room k X.A) (tk : Takes X W) (hg : Gl X (Str.ofString f)) (hdb : (Str.ofString f == ("__debug__" : Str)) = false) :
    PE X (.Call (.Name (Str.ofString f) p) [] [] pos) (tE X.K W (evE Γ (.call f .nil))) := by
  refine ⟨fun pins s σ H Q I ⟨M, G, st, hh, hst, hm⟩ => ?_⟩
  rw [evE, R.wp_bind, evEs] at hm
  refine wpAny_Call_Name_kw (ld_glob I hg D.glob ?_ hdb)
  refine PySem.W.callWith_K0 I.kIn D.keep (run_fnSD (E := fun σ => WE W σ) (us := []) D.ok hr D.binds .nil (passAt tk σ) I .nil ?_)
  refine ⟨rfl, M.callee, G, [], rfl, hh.callee, .nil, R.wp_mono hm (fun v G' k M' u H' l hh' r => ?_) fun e G' x M' cls d H' l hh' r => ?_⟩
  · exact k _ u H' (back_later l) (back_heap hh l hh') (r.ext (back_ext l.xo))
  · exact x _ cls d H' (back_later l) (back_heap hh l hh') (r.ext (back_ext l.xo))
/-- what an iterator gives, turn by turn, while things go on by Ev -/
def ItR (Ev : Mp → Hp → Mp → Hp → Prop) (K : PySem.W.Frag) (M : Mp) (H : Hp) (J : L2.It) (xs : List Val) : Prop :=
  ∃ Gd Y, L2.Walk J xs.length Gd Y ∧ ∀ M2 H2, Ev M H M2 H2 → Gd H2 ∧ ∀ i u H', i < xs.length → Y i H2 u H' → ∃ x, xs[i]? = some x ∧ ∀ G2, HeapR K M2 G2 H2 → HeapR K M2 G2 H' ∧ Later M2 H2 M2 H' ∧ Rl K M2 H' x u
def tI (Ev : Mp → Hp → Mp → Hp → Prop) (K : PySem.W.Frag) (W : WX) (m : Store → Heap → R (List Val)) : TI := fun st H R => ∃ M G s, HeapR K M G H ∧ StoreR K M H s st ∧
  (m s G).wp (fun xs G' => ∀ M' H' J, Later M H M' H' → HeapR K M' G' H' → ItR Ev K M' H' J xs → R J H') (XW K W M H st)
theorem piImp {tg iter : Expr} {t t' : TI} (h : PI X tg iter t) (i : ∀ σ H R, t' σ H R → t σ H R) : PI X tg iter t' := ⟨fun pins s σ H R I q => h.run pins s σ H R I (i σ H R q)⟩
/-- a list or a tuple -/
def iSeq (K : PySem.W.Frag) (tl : L2.TE) : TI := fun σ H R => tl σ H fun x H1 => (∃ a xs, x = .ref a ∧ SqL K H1 a xs ∧ R (Itl K a) H1) ∨ ∃ a xs, x = .ref a ∧ SqT K H1 a xs ∧ R (Itt K a) H1
theorem pi_seq {tg l : Expr} {tl : L2.TE} (hl : PE X l tl) : PI X tg l (iSeq X.K tl) := by
  refine ⟨fun pins s σ H R I h => ?_⟩
  refine thn (hl.run pins s σ H _ I h) fun v s1 ⟨x, H1, I1, r1, q1⟩ => ?_
  rcases q1 with ⟨a, xs, e, hq, q⟩ | ⟨a, xs, e, hq, q⟩
  · subst e
    cases r1
    obtain ⟨its, rv, p, hz⟩ := I1.list hq
    refine wpAny_pyIter_list p.isList ?_
    refine ⟨s1.heap.objs.size, [s1.heap.objs.size], _, _, H1, rfl, I1.kept (t' := s1.toks) fun b o e => Heap.get?_push_of_some _ e, turn_list a _, ⟨_, Heap.get?_push_size _ rfl, rfl, rfl⟩, fun b hb => ?_, q⟩
    have e : b = s1.heap.objs.size := by simpa using hb
    subst e
    exact I1.fpOk (Nat.le_refl _) (I1.hok.fresh (Nat.le_refl _))
  · subst e
    cases r1
    obtain ⟨its, rv, p, hz⟩ := I1.tuple hq
    refine wpAny_pyIter_tuple (show s1.heap.IsTuple a its.toArray from p) ?_
    refine ⟨s1.heap.objs.size, [s1.heap.objs.size], _, _, H1, rfl, I1.kept (t' := s1.toks) fun b o e => Heap.get?_push_of_some _ e, turn_tuple a _, ⟨_, Heap.get?_push_size _ rfl, rfl, rfl⟩, fun b hb => ?_, q⟩
    have e : b = s1.heap.objs.size := by simpa using hb
    subst e
    exact I1.fpOk (Nat.le_refl _) (I1.hok.fresh (Nat.le_refl _))
section
variable {K : PySem.W.Frag} {M : Mp} {H : Hp} {a : Addr} {xs : List Val} {vs : List V}
/-- what stands may be read later -/
theorem itr_list {Ev : Mp → Hp → Mp → Hp → Prop} (r : Rls K M H xs vs) (h : ∀ M2 H2, Ev M H M2 H2 → SqL K H2 a vs ∧ Rls K M2 H2 xs vs) : ItR Ev K M H (Itl K a) xs := by
  refine ⟨_, _, by rw [r.length]; exact walk_list (K := K) (a := a) (xs := vs), fun M2 H2 e => ⟨(h M2 H2 e).1, fun i u H' _ y => ?_⟩⟩
  obtain ⟨rfl, hu⟩ := y
  have t := (h M2 _ e).2
  obtain ⟨hi, _⟩ := List.getElem?_eq_some_iff.mp hu
  have hx : i < xs.length := by rw [t.length]; exact hi
  obtain ⟨w, hw, rw'⟩ := t.get (List.getElem?_eq_getElem hx)
  rw [hu] at hw
  cases hw
  exact ⟨_, List.getElem?_eq_getElem hx, fun G2 hh => ⟨hh, Later.refl _ _, rw'⟩⟩
theorem itr_tup {Ev : Mp → Hp → Mp → Hp → Prop} (r : Rls K M H xs vs) (h : ∀ M2 H2, Ev M H M2 H2 → SqT K H2 a vs ∧ Rls K M2 H2 xs vs) : ItR Ev K M H (Itt K a) xs := by
  refine ⟨_, _, by rw [r.length]; exact walk_tup (K := K) (a := a) (xs := vs), fun M2 H2 e => ⟨(h M2 H2 e).1, fun i u H' _ y => ?_⟩⟩
  obtain ⟨rfl, hu⟩ := y
  have t := (h M2 _ e).2
  obtain ⟨hi, _⟩ := List.getElem?_eq_some_iff.mp hu
  have hx : i < xs.length := by rw [t.length]; exact hi
  obtain ⟨w, hw, rw'⟩ := t.get (List.getElem?_eq_getElem hx)
  rw [hu] at hw
  cases hw
  exact ⟨_, List.getElem?_eq_getElem hx, fun G2 hh => ⟨hh, Later.refl _ _, rw'⟩⟩
end
/-- a value that is a sequence stays what it is: of a value, behind statements; of an operand, behind expressions -/
structure SeqAt (Ev : Mp → Hp → Mp → Hp → Prop) (K : PySem.W.Frag) (M : Mp) (H : Hp) (u : V) (xs : List Val) : Prop where
  go : ∃ a vs, u = .ref a ∧ Rls K M H xs vs ∧ ((∀ M2 H2, Ev M H M2 H2 → SqL K H2 a vs ∧ Rls K M2 H2 xs vs) ∨ ∀ M2 H2, Ev M H M2 H2 → SqT K H2 a vs ∧ Rls K M2 H2 xs vs)
theorem seqAt_since {K : PySem.W.Frag} {M : Mp} {H : Hp} {v : Val} {u : V} {xs : List Val} (r : Rl K M H v u) (e : seq? v = some xs) : SeqAt Since K M H u xs := by
  cases r with
  | tupT hx hr t => cases e; exact ⟨_, _, rfl, t, .inr fun M2 H2 l => ⟨.inl (l.rd hx hr).1, t.since l⟩⟩
  | tupK hk t => cases e; exact ⟨_, _, rfl, t, .inr fun M2 H2 l => ⟨hk.sq H2, t.since l⟩⟩
  | lst hx hr t => cases e; exact ⟨_, _, rfl, t, .inl fun M2 H2 l => ⟨.of (l.at_ hx hr).1, t.since l⟩⟩
  | frzT hx hr t => cases e; exact ⟨_, _, rfl, t, .inl fun M2 H2 l => ⟨.inl (.inr ⟨_, (l.at_ hx hr).1⟩), t.since l⟩⟩
  | frzK hk t => cases e; exact ⟨_, _, rfl, t, .inl fun M2 H2 l => ⟨hk.sq H2, t.since l⟩⟩
  | _ => cases e
theorem SeqAt.later {K : PySem.W.Frag} {M : Mp} {H : Hp} {u : V} {xs : List Val} (s : SeqAt Since K M H u xs) : SeqAt Later K M H u xs := by
  obtain ⟨a, vs, e, t, h⟩ := s.go
  exact ⟨a, vs, e, t, h.imp (fun k M2 H2 l => k M2 H2 l.since) fun k M2 H2 l => k M2 H2 l.since⟩
theorem seqAt_later {K : PySem.W.Frag} {M : Mp} {H : Hp} {v : Val} {u : V} {xs : List Val} (r : RlO K M H v u) (e : seq? v = some xs) : SeqAt Later K M H u xs := by
  rcases r with r | ⟨ys, vs, a, rfl, rfl, n, h, t⟩
  · exact (seqAt_since r e).later
  · cases e
    exact ⟨a, vs, rfl, t, .inl fun M2 H2 l => ⟨.of (l.keep a _ n h), t.later l⟩⟩
theorem SeqAt.it {Ev : Mp → Hp → Mp → Hp → Prop} (ev : ∀ M H, Ev M H M H) {K : PySem.W.Frag} {M : Mp} {H : Hp} {u : V} {xs : List Val} {R : It → Hp → Prop} (s : SeqAt Ev K M H u xs) (k : ∀ J, ItR Ev K M H J xs → R J H) :
    (∃ a vs, u = .ref a ∧ SqL K H a vs ∧ R (Itl K a) H) ∨ ∃ a vs, u = .ref a ∧ SqT K H a vs ∧ R (Itt K a) H := by
  obtain ⟨a, vs, e, t, h⟩ := s.go
  rcases h with h | h
  · exact .inl ⟨a, vs, e, (h M H (ev M H)).1, k _ (itr_list t h)⟩
  · exact .inr ⟨a, vs, e, (h M H (ev M H)).1, k _ (itr_tup t h)⟩
theorem pi_ofS {tg e : Expr} {i : E} (h : PE X e (tE X.K W (evE Γ i))) : PI X tg e (tI Since X.K W (evI Γ (.of i))) :=
  piImp (pi_seq h) fun σ H RR ⟨M, G, s, hh, hst, hm⟩ => by
    rw [evI, R.wp_bind] at hm
    refine ⟨M, G, s, hh, hst, R.wp_mono hm (fun v G1 hm M1 u H1 l1 hh1 r1 => ?_) fun _ _ x => x⟩
    obtain ⟨xs, hc, k⟩ := R.wp_opt hm
    exact (seqAt_since r1 hc).it Since.refl fun J it => k M1 H1 J l1 hh1 it
theorem pi_ofL {tg e : Expr} {i : E} (h : PE X e (tO X.K W (evE Γ i))) : PI X tg e (tI Later X.K W (evI Γ (.of i))) :=
  piImp (pi_seq h) fun σ H RR ⟨M, G, s, hh, hst, hm⟩ => by
    rw [evI, R.wp_bind] at hm
    refine ⟨M, G, s, hh, hst, R.wp_mono hm (fun v G1 hm M1 u H1 l1 hh1 r1 => ?_) fun _ _ x => x⟩
    obtain ⟨xs, hc, k⟩ := R.wp_opt hm
    exact (seqAt_later r1 hc).it Later.refl fun J it => k M1 H1 J l1 hh1 it
end Fx

namespace Fx
open PySem PySem.Spec PyProof.Rows L2
set_option maxHeartbeats 1000000 in
theorem meets_enumerate_newT (l : Addr) (items : Array Value) (n : Nat) (dct : Option Addr) (sl : Array (Option Value)) :
    Meets (Builtin.«enumerate.__new__» ⟨[.type "enumerate", .ref l], []⟩) (fun A R s => s.heap.get? l = some { cls := .type "tuple", dict := dct, data := .seq items n, slots := sl } ∧
      R (.ok (.ret (.ref (s.heap.push { cls := .type "tuple_iterator", data := .fields #[.ref l, .int 0 0] }).objs.size)))
        { s with heap := (s.heap.push { cls := .type "tuple_iterator", data := .fields #[.ref l, .int 0 0] }).push { cls := .type "enumerate", data := .fields #[.none, .bool false, .ref s.heap.objs.size, rawInt 0, .none, .none] } }) :=
  .of_wp fun prog w A R s h => by
    obtain ⟨hp, g, d, tk, os⟩ := s
    obtain ⟨hl, h⟩ := h
    have hL : hp.IsTuple l items := ⟨_, hl, rfl, n, rfl⟩
    have hsub := sub_enumerate
    wp_walk using AutoSeq1.wpAny_loadPart' hl, wpAny_pyIter_tuple hL
    refine wpAny_stack_any fun st => wpAny_pure ?_
    split
    · rename_i c _ _ _ _ _
      cases (c == Value.type "enumerate")
      · wp_walk using AutoSeq1.wpAny_loadPart' hl, wpAny_pyIter_tuple hL
        exact ⟨_, rfl, h⟩
      · wp_walk using AutoSeq1.wpAny_loadPart' hl, wpAny_pyIter_tuple hL
        exact ⟨_, rfl, h⟩
    · wp_walk using AutoSeq1.wpAny_loadPart' hl, wpAny_pyIter_tuple hL
      exact ⟨_, rfl, h⟩
section
variable {prog : Program} {w : World} {A : Around} {E : Value → Shared → Prop} {s : Shared}
theorem call_enumerate_tuple {l : Addr} {items : Array Value} {Q : Value → Shared → Prop} (hL : s.heap.IsTuple l items)
    (h : ∀ h', IsEnum h' (s.heap.objs.size + 1) s.heap.objs.size 0 .none → h'.IsTupleIter s.heap.objs.size l 0 → h'.objs.size = s.heap.objs.size + 2 →
      (∀ b o, s.heap.get? b = some o → h'.get? b = some o) → Q (.ref (s.heap.objs.size + 1)) { s with heap := h' }) :
    wpAny (model prog w) A (call (.type "enumerate") [.ref l]) Q E s := by
  obtain ⟨⟨c, dct, dt, sl⟩, hl, hc, n, hd⟩ := hL
  replace hc : c = .type "tuple" := hc
  replace hd : dt = .seq items n := hd
  subst hc hd
  refine callType_new F.called_enumerate (by decide) (F.typeCall_enumerate_1 _) (F.newCall_enumerate_1 _) (fun obj => F.args_object_init_2 obj _) F.entry_enumerate_new
    (meets_enumerate_newT l items n dct sl) ⟨hl, ?_⟩
  have hz : (s.heap.push { cls := .type "tuple_iterator", data := .fields #[.ref l, .int 0 0] }).objs.size = s.heap.objs.size + 1 := Heap.size_push ..
  show _ ∧ _
  rw [hz]
  have he : IsEnum ((s.heap.push { cls := .type "tuple_iterator", data := .fields #[.ref l, .int 0 0] }).push
      { cls := .type "enumerate", data := .fields #[.none, .bool false, .ref s.heap.objs.size, rawInt 0, .none, .none] }) (s.heap.objs.size + 1) s.heap.objs.size 0 .none := by
    have := Heap.get?_push_size (s.heap.push { cls := .type "tuple_iterator", data := .fields #[.ref l, .int 0 0] })
      (o := { cls := .type "enumerate", data := .fields #[.none, .bool false, .ref s.heap.objs.size, rawInt 0, .none, .none] }) rfl
    rw [hz] at this; exact this
  refine ⟨⟨_, he, rfl⟩, h _ he ⟨_, Heap.get?_push_of_some _ (Heap.get?_push_size _ rfl), rfl, rfl⟩ (by rw [Heap.size_push, hz]) fun b o x => Heap.get?_push_of_some _ (Heap.get?_push_of_some _ x)⟩
end
def IteT (K : PySem.W.Frag) (a : Addr) : L2.It :=
  ⟨fun i H => ∃ (xs : List V) (x : V), SqT K H a xs ∧ xs[i]? = some x, fun i H v H' => ∃ T x, v = .ref T ∧ H T = none ∧ H' = upd H T (.tup [.int (i : Nat), x]) ∧ ∀ xs, SqT K H a xs → xs[i]? = some x, fun i H => ∃ xs : List V, SqT K H a xs ∧ xs.length ≤ i⟩
theorem turn_enumT {P : Program} {w : World} {K : PySem.W.Frag} {elts : List Expr} {kk : Nat} {tpos : Pos} (a e it : Addr) (hae : a ≠ e) (hai : a ≠ it) :
    Turn P w K (.Tuple elts kk tpos) (IteT K a) [e, it] e (fun i h => (∃ old, IsEnum h e it ((i : Nat) : Int) old) ∧ h.IsTupleIter it a i ∧ e ≠ it) where
  mem := by simp
  obj := fun i h st b hb => by
    obtain ⟨⟨old, he⟩, ⟨o, ho, hc, hd⟩, _⟩ := st
    have e' : b = e ∨ b = it := by simpa using hb
    rcases e' with z | z
    · rw [z]; exact ⟨_, he, fun v q => nomatch q⟩
    · rw [z]; exact ⟨o, ho, fun v q => by rw [hd] at q; cases q⟩
  keep := fun i h h' st k => let ⟨⟨old, he⟩, hi, hne⟩ := st; ⟨⟨old, k e (by simp) _ he⟩, hi.at fun o q => k it (by simp) o q, hne⟩
  item := by
    intro X hP hw hK hc i pins s σ H E I hf st hg
    subst hP hw hK
    obtain ⟨⟨old, he⟩, hit, hne⟩ := st
    obtain ⟨xs, x, hq, hx⟩ := hg
    obtain ⟨its, rv, p, hz⟩ := I.tuple hq
    obtain ⟨u, hu, ru⟩ := rv.get hx
    have hel : e < s.heap.objs.size := Heap.lt_size he
    have hil : it < s.heap.objs.size := by obtain ⟨_, q, _⟩ := hit; exact Heap.lt_size q
    have hlt : i < its.toArray.size := by
      obtain ⟨z, _⟩ := List.getElem?_eq_some_iff.mp hu
      simpa using z
    refine wpAny_pyNext_enum_itemD (Draws.tuple (A := X.A.in1) (I.ok.hd hc) it a hai its.toArray) he ⟨hit, show s.heap.IsTuple a its.toArray from p⟩ hlt hne (by simp [hne, Ne.symm hae]) fun v h' tk hv ho hit' hT hsz hk => ?_
    have hv' : its[i]? = some v := by simpa using hv
    rw [hu] at hv'
    cases hv'
    refine ⟨_, rfl, wpAny_letOwnedTupleGo_enum (s := { s with heap := h', toks := tk + 1 }) ho fun h'' he' sb => ?_⟩
    have hT2 : h''.get? s.heap.objs.size = some { cls := .type "tuple", data := .seq #[.int i tk, u] } := (sb.2 _ (Nat.ne_of_gt hel)).trans hT
    have new : ObjOk X.prog X.w (upd H s.heap.objs.size (.tup [.int (i : Nat), x])) h'' s.heap.objs.size (.tup [.int (i : Nat), x]) :=
      ⟨by show 2 ≤ sizeLine; decide, [.int i tk, u], .cons ⟨_, rfl⟩ (.cons ru .nil), ⟨_, hT2, rfl, _, rfl⟩⟩
    have I1 : Inv X pins σ (upd H s.heap.objs.size (.tup [.int (i : Nat), x])) { s with heap := h'', toks := tk + 1 } :=
      I.turnedNew (ch := [e, it]) (fun b ob hb q => (sb.2 b (fun z => hb (by simp [z]))).trans (hk b ob (fun z => hb (by simp [z])) (fun z => hb (by simp [z])) q)) hf (Nat.le_refl _) new
    refine ⟨.ref s.heap.objs.size, _, I1, rfl, ⟨_, x, rfl, I.hok.fresh (Nat.le_refl _), rfl, fun ys hy => by rw [I.tuple_inj hy hq]; exact hx⟩, ⟨⟨u, ?_⟩, hit'.1.at fun o q => (sb.2 it (Ne.symm hne)).trans q, hne⟩, fun b hb => ?_⟩
    · have e1 : ((i + 1 : Nat) : Int) = (i : Int) + 1 := by omega
      rw [e1]; exact he'
    · have hb' : b < s.heap.objs.size := by
        have e' : b = e ∨ b = it := by simpa using hb
        rcases e' with z | z
        · rw [z]; exact hel
        · rw [z]; exact hil
      rw [upd_ne (Nat.ne_of_lt hb')]
      exact (hf b hb).1
  done := by
    intro X hP hw hK hc i pins s σ H E I hf st hg
    subst hP hw hK
    obtain ⟨⟨old, he⟩, hit, hne⟩ := st
    obtain ⟨xs, hq, hx⟩ := hg
    obtain ⟨its, rv, p, hz⟩ := I.tuple hq
    obtain ⟨f0, f1, f2, f3, f4, f5⟩ := hf it (by simp)
    have hl := rv.length
    have hxn : its.toArray[i]? = none := by
      have hx : xs.length ≤ i := hx
      simp; omega
    have hT : s.TypeIs (.ref e) "enumerate" := ⟨_, he, rfl⟩
    unfold pyNext
    refine wpAny_bind (wpAny_attempt (wpAny_callSpecial?_slot (name := Str.ofString "__next__") hT F.slot_enumerate_next
      (wpAny_call_entry F.slot_enumerate_next hT F.entry_enumerate_next ?_ (F.args_enumerate_next_1 _))))
    show wpAny _ _ (field (.ref e) 2 >>= _) _ _ _
    refine wpAny_bind (wpAny_field he rfl (x := .ref it) rfl ?_)
    refine wpAny_bind (wpAny_nextOf_tuple_end (I.ok.hd hc) hit (show s.heap.IsTuple a its.toArray from p) hxn fun h' x he' hx' => ?_)
    obtain ⟨o, ho, hcl⟩ := hx'
    refine wpAny_bind (wpAny_isInstance (T := "StopIteration") (b := true) ⟨o, ho, hcl⟩ isSubtype_stop ?_)
    exact wpAny_pure ⟨rfl, I.turned (t' := s.toks) (fun b o hb q => he' b o hb q) f0 f1 f3 f4 f5⟩
  self := fun A i s Q E st h => let ⟨⟨_, he⟩, _⟩ := st; wpAny_pyIter_enum he h
def iEnumA (K : PySem.W.Frag) (ta : L2.TA) : TI := fun σ H R => ta σ H fun vs H1 => ∃ a xs, vs = [.ref a] ∧ ((SqL K H1 a xs ∧ R (Ite K a) H1) ∨ (SqT K H1 a xs ∧ R (IteT K a) H1))
theorem pi_enumA {X : Cx} {e : Expr} {ta : L2.TA} {p pos tpos : Pos} {elts : List Expr} {kk : Nat} (hg : Gl X "enumerate") (hm : X.mg "enumerate" = none) (ha : PA X [e] ta) (hs : starEach [e] X.env = [(false, eval e X.env)]) :
    PI X (.Tuple elts kk tpos) (.Call (.Name "enumerate" p) [e] [] pos) (iEnumA X.K ta) := by
  refine ⟨fun pins s σ H R I h => ?_⟩
  refine Call_ (ld_blt I hg hm boot_enumerate (PyProof.Rows.callWith_type1 (thn (ha.run pos pins s σ H _ I h) fun us s1 ⟨vs, H1, I1, r1, q1⟩ => ?_) hs rfl))
  obtain ⟨a, xs, ex, q1⟩ := q1
  subst ex
  cases r1 with
  | cons r rr =>
    cases rr
    cases r
    have fp : ∀ b, b ∈ [s1.heap.objs.size + 1, s1.heap.objs.size] → FpOk X pins H1 b := fun b hb => by
      have e' : b = s1.heap.objs.size + 1 ∨ b = s1.heap.objs.size := by simpa using hb
      have hle : s1.heap.objs.size ≤ b := by
        rcases e' with z | z
        · rw [z]; exact Nat.le_succ _
        · rw [z]; exact Nat.le_refl _
      exact I1.fpOk hle (I1.hok.fresh hle)
    rcases q1 with ⟨hq, q⟩ | ⟨hq, q⟩
    · obtain ⟨its, rv, p', hz⟩ := I1.list hq
      refine call_enumerate_list p'.isList fun h' he hit hsz hk => wpAny_pyIter_enum he ?_
      have I2 : Inv X pins σ H1 { s1 with heap := h' } := I1.kept (t' := s1.toks) hk
      exact ⟨s1.heap.objs.size + 1, [s1.heap.objs.size + 1, s1.heap.objs.size], _, _, H1, rfl, I2, turn_enum a (s1.heap.objs.size + 1) s1.heap.objs.size, ⟨⟨.none, he⟩, hit, Nat.succ_ne_self _⟩, fp, q⟩
    · obtain ⟨its, rv, p', hz⟩ := I1.tuple hq
      have ha := p'.lt
      refine call_enumerate_tuple (show s1.heap.IsTuple a its.toArray from p') fun h' he hit hsz hk => wpAny_pyIter_enum he ?_
      have I2 : Inv X pins σ H1 { s1 with heap := h' } := I1.kept (t' := s1.toks) hk
      exact ⟨s1.heap.objs.size + 1, [s1.heap.objs.size + 1, s1.heap.objs.size], _, _, H1, rfl, I2, turn_enumT a (s1.heap.objs.size + 1) s1.heap.objs.size (Nat.ne_of_lt (Nat.lt_succ_of_lt ha)) (Nat.ne_of_lt ha), ⟨⟨.none, he⟩, hit, Nat.succ_ne_self _⟩, fp, q⟩
theorem walk_enumT {K : PySem.W.Frag} {a : Addr} {xs : List V} : L2.Walk (IteT K a) xs.length (fun H => SqT K H a xs) (YPair (fun i => some (.int (i : Nat))) (fun i => xs[i]?)) := by
  refine ⟨fun i _ hi q => ⟨xs, xs[i], q, by simp [hi]⟩, fun _ q => ⟨xs, q, Nat.le_refl _⟩, fun i H v H' _ q y => ?_⟩
  obtain ⟨T, x, h1, h2, h3, h4⟩ := y
  exact ⟨T, .int (i : Nat), x, h1, h2, h3, rfl, h4 xs q⟩
theorem walk_zipT {K : PySem.W.Frag} {a b : Addr} {xs ys : List V} {n : Nat} (hn : n = min xs.length ys.length) : L2.Walk (RZ.ItzT K a b) n (fun H => SqT K H a xs ∧ SqT K H b ys) (YPair (fun i => xs[i]?) (fun i => ys[i]?)) := by
  subst hn
  refine ⟨fun i _ hi q => ?_, fun _ q => ⟨xs, ys, q.1, q.2, by omega⟩, fun i H v H' _ q y => ?_⟩
  · have h1 : i < xs.length := by omega
    have h2 : i < ys.length := by omega
    exact ⟨xs, ys, xs[i], ys[i], q.1, q.2, by simp [h1], by simp [h2]⟩
  · obtain ⟨T, x, z, h1, h2, h3, h4, h5⟩ := y
    exact ⟨T, x, z, h1, h2, h3, h4 xs q.1, h5 ys q.2⟩
end Fx

namespace Fx
open PySem PySem.Spec PyProof.Rows L2
variable {X : Cx} {W : WX} {Γ : Calls} {Ev : Mp → Hp → Mp → Hp → Prop}
theorem rangeV_length : ∀ (n : Nat) (lo : Int), (rangeV lo n).length = n
  | 0, _ => rfl
  | n + 1, lo => by rw [rangeV, List.length_cons, rangeV_length n]
theorem rangeV_get : ∀ (n i : Nat) (lo : Int), i < n → (rangeV lo n)[i]? = some (.int (lo + i))
  | 0, _, _, h => absurd h (Nat.not_lt_zero _)
  | n + 1, 0, lo, _ => by simp [rangeV]
  | n + 1, i + 1, lo, h => by
    rw [rangeV, List.getElem?_cons_succ, rangeV_get n i (lo + 1) (by omega)]
    congr 2
    omega
theorem itr_range {K : PySem.W.Frag} {M : Mp} {H : Hp} (lo : Int) (n : Nat) : ItR Ev K M H (Itr lo n) (rangeV lo n) := by
  refine ⟨_, _, by rw [rangeV_length]; exact walk_range, fun M2 H2 e => ⟨trivial, fun i u H' hi y => ?_⟩⟩
  obtain ⟨rfl, rfl⟩ := y
  rw [rangeV_length] at hi
  exact ⟨_, rangeV_get n i lo hi, fun G2 hh => ⟨hh, Later.refl _ _, .int _⟩⟩
theorem rngK_some {lo hi : Int} {xs : List Val} (h : rngK lo hi = some xs) : (-p62 ≤ lo ∧ lo < p62 ∧ -p62 ≤ hi ∧ hi < p62) ∧ xs = rangeV lo (hi - lo).toNat := by
  unfold rngK at h
  split at h
  · rename_i z; cases h; exact ⟨z, rfl⟩
  · cases h
theorem pi_rng1 {tg a : Expr} {i : E} {p pos : Pos} (hg : Gl X "range") (hm : X.mg "range" = none) (ha : PE X a (tE X.K W (evE Γ i))) (hs : starEach [a] X.env = [(false, eval a X.env)]) : PI X tg (.Call (.Name "range" p) [a] [] pos) (tI Ev X.K W (evI Γ (.rng1 i))) :=
  piImp (pi_range1 hg hm (pa_cons ha pa_nil hs) hs) fun σ H RR ⟨M, G, s, hh, hst, hm⟩ => by
    rw [evI, R.wp_bind] at hm
    refine ⟨M, G, s, hh, hst, R.wp_mono hm (fun v G1 hm M1 u H1 l1 hh1 r1 => ?_) fun _ _ x => x⟩
    cases v with
    | int n =>
      cases r1
      obtain ⟨xs, hc, k⟩ := R.wp_opt hm
      obtain ⟨⟨_, _, z1, z2⟩, rfl⟩ := rngK_some hc
      have := itr_range (Ev := Ev) (K := X.K) (M := M1) (H := H1) 0 (n - 0).toNat
      rw [Int.sub_zero] at this k
      exact ⟨n, rfl, z1, z2, k M1 H1 _ l1 hh1 this⟩
    | _ => exact hm.elim
theorem pi_rng2 {tg a b : Expr} {i j : E} {p pos : Pos} (hg : Gl X "range") (hm : X.mg "range" = none) (ha : PE X a (tE X.K W (evE Γ i))) (hb : PE X b (tE X.K W (evE Γ j))) (hs : starEach [a, b] X.env = [(false, eval a X.env), (false, eval b X.env)]) (hs2 : starEach [b] X.env = [(false, eval b X.env)]) :
    PI X tg (.Call (.Name "range" p) [a, b] [] pos) (tI Ev X.K W (evI Γ (.rng2 i j))) :=
  piImp (pi_range2 hg hm (pa_cons ha (pa_cons hb pa_nil hs2) (by rw [hs, hs2])) hs hs2) fun σ H RR ⟨M, G, s, hh, hst, hm⟩ => by
    rw [evI, R.wp_bind] at hm
    refine ⟨M, G, s, hh, hst, R.wp_mono hm (fun v G1 hm M1 u H1 l1 hh1 r1 => ?_) fun _ _ x => x⟩
    rw [R.wp_bind] at hm
    refine ⟨M1, G1, s, hh1, hst.later hh.ok l1, R.wp_mono hm (fun v2 G2 hm M2 u2 H2 l2 hh2 r2 => ?_) fun _ _ x => x.later l1⟩
    cases v with
    | int m =>
      cases v2 with
      | int n =>
        cases r1
        cases r2
        obtain ⟨xs, hc, k⟩ := R.wp_opt hm
        obtain ⟨z, rfl⟩ := rngK_some hc
        exact ⟨m, n, rfl, z, k M2 H2 _ (l1.trans l2) hh2 (itr_range _ _)⟩
      | _ => exact hm.elim
    | _ => exact hm.elim
/-- a new pair at each turn -/
theorem itr_pair {K : PySem.W.Frag} {M : Mp} {H : Hp} {J : L2.It} {xs : List Val} {Gd : Hp → Prop} {f g : Nat → Option V} {fv gv : Nat → Option Val} (w : L2.Walk J xs.length Gd (YPair f g)) (hx : ∀ i, i < xs.length → ∃ x y, fv i = some x ∧ gv i = some y ∧ xs[i]? = some (.tup [x, y]))
    (h : ∀ M2 H2, Ev M H M2 H2 → Gd H2 ∧ (∀ i u x, f i = some u → fv i = some x → Rl K M2 H2 x u) ∧ ∀ i u x, g i = some u → gv i = some x → Rl K M2 H2 x u) : ItR Ev K M H J xs := by
  refine ⟨_, _, w, fun M2 H2 e => ⟨(h M2 H2 e).1, fun i u H' hi y => ?_⟩⟩
  obtain ⟨T, x, y, rfl, hT, rfl, hf, hg⟩ := y
  obtain ⟨a, b, ha, hb, hab⟩ := hx i hi
  obtain ⟨_, h1, h2⟩ := h M2 H2 e
  exact ⟨_, hab, fun G2 hh => ⟨hh.new hT, Later.new M2 hT, Rl.newTup hh hT (.cons (h1 i x a hf ha) (.cons (h2 i y b hg hb) .nil))⟩⟩
theorem zipV_length : ∀ (xs ys : List Val), (zipV xs ys).length = min xs.length ys.length
  | [], _ => by simp [zipV]
  | _ :: _, [] => by simp [zipV]
  | x :: xs, y :: ys => by rw [zipV, List.length_cons, zipV_length xs ys]; simp only [List.length_cons]; omega
theorem zipV_get : ∀ (xs ys : List Val) (i : Nat), i < (zipV xs ys).length → ∃ x y, xs[i]? = some x ∧ ys[i]? = some y ∧ (zipV xs ys)[i]? = some (.tup [x, y])
  | [], _, _, h => by simp [zipV] at h
  | _ :: _, [], _, h => by simp [zipV] at h
  | x :: xs, y :: ys, 0, _ => ⟨x, y, rfl, rfl, rfl⟩
  | x :: xs, y :: ys, i + 1, h => by
    obtain ⟨a, b, h1, h2, h3⟩ := zipV_get xs ys i (by rw [zipV, List.length_cons] at h; omega)
    exact ⟨a, b, by simpa using h1, by simpa using h2, by simpa [zipV] using h3⟩
theorem enumV_length : ∀ (xs : List Val) (k : Int), (enumV k xs).length = xs.length
  | [], _ => rfl
  | x :: xs, k => by rw [enumV, List.length_cons, List.length_cons, enumV_length xs]
theorem enumV_get : ∀ (xs : List Val) (k : Int) (i : Nat), i < xs.length → ∃ x, xs[i]? = some x ∧ (enumV k xs)[i]? = some (.tup [.int (k + i), x])
  | [], _, _, h => by simp at h
  | x :: xs, k, 0, _ => ⟨x, rfl, by simp [enumV]⟩
  | x :: xs, k, i + 1, h => by
    obtain ⟨a, h1, h2⟩ := enumV_get xs (k + 1) i (by simpa using h)
    refine ⟨a, by simpa using h1, ?_⟩
    rw [enumV, List.getElem?_cons_succ, h2]
    have : k + 1 + (i : Int) = k + ((i + 1 : Nat) : Int) := by omega
    rw [this]
theorem rls_at {K : PySem.W.Frag} {M : Mp} {H : Hp} {xs : List Val} {vs : List V} (t : Rls K M H xs vs) {i : Nat} {u : V} {x : Val} (hu : vs[i]? = some u) (hx : xs[i]? = some x) : Rl K M H x u := by
  obtain ⟨w, hw, r⟩ := t.get hx
  rw [hu] at hw
  cases hw
  exact r
/-- the two ways of a sequence, by its kind -/
theorem seq_tup {K : PySem.W.Frag} {M : Mp} {H : Hp} {u : V} {xs : List Val} (r : Rl K M H (.tup xs) u) : ∃ a vs, u = .ref a ∧ Rls K M H xs vs ∧ ∀ M2 H2, Since M H M2 H2 → SqT K H2 a vs ∧ Rls K M2 H2 xs vs := by
  cases r with
  | tupT hx hr t => exact ⟨_, _, rfl, t, fun M2 H2 l => ⟨.inl (l.rd hx hr).1, t.since l⟩⟩
  | tupK hk t => exact ⟨_, _, rfl, t, fun M2 H2 l => ⟨hk.sq H2, t.since l⟩⟩
theorem seq_lst {K : PySem.W.Frag} {M : Mp} {H : Hp} {u : V} {xs : List Val} (r : Rl K M H (.lst xs) u) : ∃ a vs, u = .ref a ∧ Rls K M H xs vs ∧ ∀ M2 H2, Since M H M2 H2 → SqL K H2 a vs ∧ Rls K M2 H2 xs vs := by
  cases r with
  | lst hx hr t => exact ⟨_, _, rfl, t, fun M2 H2 l => ⟨.of (l.at_ hx hr).1, t.since l⟩⟩
theorem pi_zipK {e e2 : Expr} {i j : E} {p pos tpos : Pos} {elts : List Expr} {kk : Nat} (hev : ∀ M H M2 H2, Ev M H M2 H2 → Since M H M2 H2) (evr : ∀ M H, Ev M H M H) (hg : Gl X "zip") (hm : X.mg "zip" = none) (ha : PE X e (tE X.K W (evE Γ i))) (hb : PE X e2 (tE X.K W (evE Γ j)))
    (hs : starEach [e, e2] X.env = (false, eval e X.env) :: starEach [e2] X.env) (hs2 : starEach [e2] X.env = (false, eval e2 X.env) :: starEach [] X.env) (hpl : (backTo pos (starEach [e2] X.env)).any (·.1) = false) :
    PI X (.Tuple elts kk tpos) (.Call (.Name "zip" p) [e, e2] [] pos) (tI Ev X.K W (evI Γ (.zip i j))) :=
  piImp (RZ.pi_zipA hg hm (pa_cons ha (pa_cons hb pa_nil hs2) hs) hs hpl) fun σ H RR ⟨M, G, s, hh, hst, hm⟩ => by
    rw [evI, R.wp_bind] at hm
    refine ⟨M, G, s, hh, hst, R.wp_mono hm (fun v G1 hm M1 u H1 l1 hh1 r1 => ?_) fun _ _ x => x⟩
    rw [R.wp_bind] at hm
    refine ⟨M1, G1, s, hh1, hst.later hh.ok l1, R.wp_mono hm (fun v2 G2 hm M2 u2 H2 l2 hh2 r2 => ?_) fun _ _ x => x.later l1⟩
    have r1' := r1.later l2
    cases v with
    | tup xs =>
      cases v2 with
      | tup ys =>
        obtain ⟨a, vs, rfl, t1, k1⟩ := seq_tup r1'
        obtain ⟨b, us, rfl, t2, k2⟩ := seq_tup r2
        refine ⟨a, b, vs, us, rfl, .inr ⟨(k1 M2 H2 (Since.refl _ _)).1, (k2 M2 H2 (Since.refl _ _)).1, hm M2 H2 _ (l1.trans l2) hh2 ?_⟩⟩
        refine itr_pair (fv := fun i => xs[i]?) (gv := fun i => ys[i]?) (walk_zipT (K := X.K) (a := a) (b := b) (xs := vs) (ys := us) (by rw [zipV_length, t1.length, t2.length])) (fun i hi => zipV_get xs ys i hi) fun M3 H3 e => ?_
        have q1 := k1 M3 H3 (hev _ _ _ _ e)
        have q2 := k2 M3 H3 (hev _ _ _ _ e)
        exact ⟨⟨q1.1, q2.1⟩, fun i u x h1 h2 => rls_at q1.2 h1 h2, fun i u x h1 h2 => rls_at q2.2 h1 h2⟩
      | _ => exact hm.elim
    | lst xs =>
      cases v2 with
      | lst ys =>
        obtain ⟨a, vs, rfl, t1, k1⟩ := seq_lst r1'
        obtain ⟨b, us, rfl, t2, k2⟩ := seq_lst r2
        refine ⟨a, b, vs, us, rfl, .inl ⟨(k1 M2 H2 (Since.refl _ _)).1, (k2 M2 H2 (Since.refl _ _)).1, hm M2 H2 _ (l1.trans l2) hh2 ?_⟩⟩
        refine itr_pair (fv := fun i => xs[i]?) (gv := fun i => ys[i]?) (walk_zip (K := X.K) (a := a) (b := b) (xs := vs) (ys := us) (by rw [zipV_length, t1.length, t2.length])) (fun i hi => zipV_get xs ys i hi) fun M3 H3 e => ?_
        have q1 := k1 M3 H3 (hev _ _ _ _ e)
        have q2 := k2 M3 H3 (hev _ _ _ _ e)
        exact ⟨⟨q1.1, q2.1⟩, fun i u x h1 h2 => rls_at q1.2 h1 h2, fun i u x h1 h2 => rls_at q2.2 h1 h2⟩
      | _ => exact hm.elim
    | _ => exact hm.elim
theorem pi_enumK {e : Expr} {i : E} {p pos tpos : Pos} {elts : List Expr} {kk : Nat} (hev : ∀ M H M2 H2, Ev M H M2 H2 → Since M H M2 H2) (hg : Gl X "enumerate") (hm : X.mg "enumerate" = none) (ha : PE X e (tE X.K W (evE Γ i))) (hs : starEach [e] X.env = [(false, eval e X.env)]) :
    PI X (.Tuple elts kk tpos) (.Call (.Name "enumerate" p) [e] [] pos) (tI Ev X.K W (evI Γ (.enum i))) :=
  piImp (pi_enumA hg hm (pa_cons ha pa_nil hs) hs) fun σ H RR ⟨M, G, s, hh, hst, hm⟩ => by
    rw [evI, R.wp_bind] at hm
    refine ⟨M, G, s, hh, hst, R.wp_mono hm (fun v G1 hm M1 u H1 l1 hh1 r1 => ?_) fun _ _ x => x⟩
    obtain ⟨ys, hc, k⟩ := R.wp_opt hm
    cases v with
    | tup xs =>
      cases hc
      obtain ⟨a, vs, rfl, t1, k1⟩ := seq_tup r1
      refine ⟨a, vs, rfl, .inr ⟨(k1 M1 H1 (Since.refl _ _)).1, k M1 H1 _ l1 hh1 ?_⟩⟩
      refine itr_pair (fv := fun i => some (.int (i : Nat))) (gv := fun i => xs[i]?) (by rw [enumV_length, t1.length]; exact walk_enumT (K := X.K) (a := a) (xs := vs)) (fun i hi => ?_) fun M3 H3 e => ?_
      · rw [enumV_length] at hi
        obtain ⟨x, h1, h2⟩ := enumV_get xs 0 i hi
        exact ⟨_, x, rfl, h1, by rw [h2, Int.zero_add]⟩
      · have q1 := k1 M3 H3 (hev _ _ _ _ e)
        refine ⟨q1.1, fun i u x h1 h2 => ?_, fun i u x h1 h2 => rls_at q1.2 h1 h2⟩
        cases h1; cases h2; exact .int _
    | lst xs =>
      cases hc
      obtain ⟨a, vs, rfl, t1, k1⟩ := seq_lst r1
      refine ⟨a, vs, rfl, .inl ⟨(k1 M1 H1 (Since.refl _ _)).1, k M1 H1 _ l1 hh1 ?_⟩⟩
      refine itr_pair (fv := fun i => some (.int (i : Nat))) (gv := fun i => xs[i]?) (by rw [enumV_length, t1.length]; exact walk_enum (K := X.K) (a := a) (xs := vs)) (fun i hi => ?_) fun M3 H3 e => ?_
      · rw [enumV_length] at hi
        obtain ⟨x, h1, h2⟩ := enumV_get xs 0 i hi
        exact ⟨_, x, rfl, h1, by rw [h2, Int.zero_add]⟩
      · have q1 := k1 M3 H3 (hev _ _ _ _ e)
        refine ⟨q1.1, fun i u x h1 h2 => ?_, fun i u x h1 h2 => rls_at q1.2 h1 h2⟩
        cases h1; cases h2; exact .int _
    | _ => cases hc
end Fx

namespace Fx
open PySem PySem.Spec PyProof.Rows L2
variable {X : Cx} {W : WX} {Γ : Calls} {K : PySem.W.Frag}
section
variable {M M' : Mp} {H H' : Hp} {s : Store} {st : L2.St}
theorem getD_set {α : Type} {l : List α} {i j : Nat} {a d : α} : (l.set i a).getD j d = if j = i ∧ i < l.length then a else l.getD j d := by
  by_cases h : j = i ∧ i < l.length
  · obtain ⟨rfl, h2⟩ := h
    rw [if_pos ⟨rfl, h2⟩, List.getD_eq_getElem?_getD, List.getElem?_set_self h2]; rfl
  · rw [if_neg h, List.getD_eq_getElem?_getD, List.getD_eq_getElem?_getD]
    by_cases e : j = i
    · subst e
      have h2 : ¬ j < l.length := fun z => h ⟨rfl, z⟩
      rw [List.getElem?_eq_none (by simpa using h2), List.getElem?_eq_none (by simpa using h2)]
    · rw [List.getElem?_set_ne (Ne.symm e)]
theorem StoreR.setVal (r : StoreR K M H s st) (i : Nat) {x : Val} {v : V} (rv : Rl K M H x v) : StoreR K M H (s.set i (.val x)) (st.set i (some v)) := by
  refine ⟨by rw [List.length_set, List.length_set, r.len], fun j => ?_⟩
  rw [getD_set]
  split
  · rename_i h
    obtain ⟨rfl, h2⟩ := h
    exact ⟨v, List.getElem?_set_self (by rw [← r.len]; exact h2), rv⟩
  · rename_i h
    have := r.at_ j
    by_cases e : j = i
    · subst e
      have h2 : ¬ j < s.length := fun z => h ⟨rfl, z⟩
      have e0 : s.getD j .no = .no := by rw [List.getD_eq_getElem?_getD, List.getElem?_eq_none (by simpa using h2)]; rfl
      rw [e0]
      trivial
    · rw [List.getElem?_set_ne (Ne.symm e)]; exact this
theorem StoreR.setNo (r : StoreR K M H s st) (i : Nat) : StoreR K M H (s.set i .no) (st.set i none) := by
  refine ⟨by rw [List.length_set, List.length_set, r.len], fun j => ?_⟩
  rw [getD_set]
  split
  · trivial
  · rename_i h
    have := r.at_ j
    by_cases e : j = i
    · subst e
      have h2 : ¬ j < s.length := fun z => h ⟨rfl, z⟩
      have e0 : s.getD j .no = .no := by rw [List.getD_eq_getElem?_getD, List.getElem?_eq_none (by simpa using h2)]; rfl
      rw [e0]
      trivial
    · rw [List.getElem?_set_ne (Ne.symm e)]; exact this
theorem StoreR.wipe (r : StoreR K M H s st) : ∀ ws : List Nat, StoreR K M H (wipeS s ws) (L2.wipe st ws)
  | [] => r
  | i :: ws => (r.wipe ws).setNo i
end
theorem wipe_set {st : L2.St} {i : Nat} {o : Option V} : ∀ {ws : List Nat}, L2.wipe (st.set i o) ws = if i ∈ ws then L2.wipe st ws else (L2.wipe st ws).set i o
  | [] => by simp [L2.wipe]
  | w :: ws => by
    rw [L2.wipe, L2.wipe, wipe_set (ws := ws)]
    by_cases h : i = w
    · subst h
      rw [if_pos (List.mem_cons_self)]
      split
      · rfl
      · rw [List.set_set]
    · by_cases h2 : i ∈ ws
      · rw [if_pos h2, if_pos (List.mem_cons_of_mem _ h2)]
      · rw [if_neg h2, if_neg (by simp [h, h2]), List.set_comm _ _ h]
theorem wipe_wipe {σ : L2.St} (vs : List Nat) : ∀ (ws : List Nat), (∀ i ∈ ws, i ∈ vs) → L2.wipe (L2.wipe σ ws) vs = L2.wipe σ vs
  | [], _ => rfl
  | w :: ws, h => by
    rw [L2.wipe, wipe_set, if_pos (h w List.mem_cons_self)]
    exact wipe_wipe vs ws fun i hi => h i (List.mem_cons_of_mem _ hi)
mutual
/-- the slots of a target -/
def tgS : Tg → List Nat
  | .name i => [i]
  | .tup ts => tgsS ts
def tgsS : Tgs → List Nat
  | .nil => []
  | .cons t ts => tgS t ++ tgsS ts
end
/-- a store of values changed at the slots ws alone -/
def Only (ws : List Nat) (st st' : L2.St) : Prop := ∀ vs, (∀ i ∈ ws, i ∈ vs) → L2.wipe st' vs = L2.wipe st vs
def gT (K : PySem.W.Frag) (t : Tg) : TG := fun v st H Q => ∃ M G s x s1, HeapR K M G H ∧ StoreR K M H s st ∧ Rl K M H x v ∧ setT t x s = some s1 ∧ ∀ st', StoreR K M H s1 st' → Only (tgS t) st st' → Q st' H
def gTs (K : PySem.W.Frag) (ts : Tgs) : TGs := fun vs st H Q => ∃ M G s xs s1, HeapR K M G H ∧ StoreR K M H s st ∧ Rls K M H xs vs ∧ setTs ts xs s = some s1 ∧ ∀ st', StoreR K M H s1 st' → Only (tgsS ts) st st' → Q st' H
theorem pgImp {tg : Expr} {t t' : TG} (h : PG X tg t) (i : ∀ v σ H Q, t' v σ H Q → t v σ H Q) : PG X tg t' := ⟨fun pins s σ H v u Q I r q => h.run pins s σ H v u Q I r (i v σ H Q q)⟩
theorem pgsImp {tg : List Expr} {t t' : TGs} (h : PGs X tg t) (i : ∀ v σ H Q, t' v σ H Q → t v σ H Q) : PGs X tg t' := ⟨fun pins s σ H v u Q I r q => h.run pins s σ H v u Q I r (i v σ H Q q)⟩
theorem pg_nameK {i : Nat} {x : Str} {pos : Pos} (hN : X.N.Nodup) (hi : X.N[i]? = some x) (hx : Loc X.env.scope x) (hf : X.fn x = true ∨ X.env.scope.names.lookup x = some .local) : PG X (.Name x pos) (gT X.K (.name i)) :=
  pgImp (pg_name hN hi hx hf) fun v σ H Q ⟨M, G, s, y, s1, hh, hst, r, e, k⟩ => by
    cases e
    exact k _ (hst.setVal i r) fun vs h => by rw [wipe_set, if_pos (h i (by simp [tgS]))]
theorem pgs_nilK : PGs X [] (gTs X.K .nil) :=
  pgsImp pgs_nil fun v σ H Q ⟨M, G, s, y, s1, hh, hst, r, e, k⟩ => by
    cases y with
    | nil => cases r; cases e; exact ⟨rfl, k σ hst fun _ _ => rfl⟩
    | cons _ _ => cases e
theorem pgs_consK {e : Expr} {es : List Expr} {t : Tg} {ts : Tgs} (h1 : PG X e (gT X.K t)) (h2 : PGs X es (gTs X.K ts)) (hs : (assignEach (e :: es) X.env).map (·.2) = assign e X.env :: (assignEach es X.env).map (·.2)) : PGs X (e :: es) (gTs X.K (.cons t ts)) :=
  pgsImp (pgs_cons h1 h2 hs) fun v σ H Q ⟨M, G, s, y, s1, hh, hst, r, e, k⟩ => by
    cases y with
    | nil => cases e
    | cons x xs =>
      cases r with
      | cons r rr =>
        rw [setTs] at e
        cases e1 : setT t x s with
        | none => rw [e1] at e; cases e
        | some s2 =>
          rw [e1] at e
          refine ⟨_, _, rfl, M, G, s, x, s2, hh, hst, r, e1, fun st1 hst1 o1 => ⟨M, G, s2, xs, s1, hh, hst1, rr, e, fun st2 hst2 o2 => k st2 hst2 fun vs h => ?_⟩⟩
          rw [o2 vs fun i hi => h i (by rw [tgsS]; exact List.mem_append_right _ hi), o1 vs fun i hi => h i (by rw [tgsS]; exact List.mem_append_left _ hi)]
def Tgs.len : Tgs → Nat
  | .nil => 0
  | .cons _ ts => ts.len + 1
theorem setTs_len : ∀ {ts : Tgs} {xs : List Val} {s s1 : Store}, setTs ts xs s = some s1 → xs.length = ts.len
  | .nil, [], _, _, _ => rfl
  | .nil, _ :: _, _, _, h => by rw [setTs] at h; cases h
  | .cons _ _, [], _, _, h => by rw [setTs] at h; cases h
  | .cons t ts, x :: xs, s, s1, h => by
    rw [setTs] at h
    cases e : setT t x s with
    | none => rw [e] at h; cases h
    | some s2 => rw [e] at h; rw [List.length_cons, setTs_len h]; rfl
theorem pg_tupK {es : List Expr} {k : Nat} {pos : Pos} {ts : Tgs} (hc : X.calm = true) (h : PGs X es (gTs X.K ts)) (hn : (assignEach es X.env).length = ts.len) (hst : (assignEach es X.env).findIdx? (·.1) = none) : PG X (.Tuple es k pos) (gT X.K (.tup ts)) :=
  pgImp (pg_tup hc h hn hst) fun v σ H Q ⟨M, G, s, y, s1, hh, hs, r, e, k⟩ => by
    cases y with
    | tup xs =>
      rw [setT] at e
      obtain ⟨a, vs, rfl, h2, t⟩ := r.tup
      exact ⟨a, vs, rfl, h2, by rw [← t.length, setTs_len e], M, G, s, xs, s1, hh, hs, t, e, fun st' q o => k st' q fun vs h => o vs (by rw [tgS] at h; exact h)⟩
    | _ => cases e
/-- no exception is looked for -/
def WF : WX := fun _ _ _ _ => False
theorem R.wp_calm {α : Type} {r : R α} {k : α → Heap → Prop} {x : Exc → Heap → Prop} (h : r.calm.wp k x) : r.wp k fun _ _ => False := by
  cases r <;> exact h
section
variable {M M1 : Mp} {H H1 : Hp} {G : Heap} {D : Addr} {o o' : HO}
/-- a list of one's own, new -/
theorem later_add (ok : MpOk M H) (hD : H D = none) : Later M H (M.add D) (upd H D o) := by
  refine ⟨⟨[], by simp [Mp.add], fun _ h => nomatch h⟩, rfl, fun _ h => .inl h, fun a h => h.imp id fun e => by rw [e]; exact hD, fun a ob _ h => ?_, fun a ob h => ?_⟩
  · rw [upd_ne (ne_of_none h hD)]; exact h
  · exact ⟨ob, by rw [upd_ne (ne_of_none h hD)]; exact h⟩
/-- .. written -/
theorem heap_own (hh : HeapR K M G H) (hx : M.xo D) : HeapR K M G (upd H D o) ∧ Ext M H M (upd H D o) := by
  have ext : Ext M H M (upd H D o) := ⟨⟨[], by simp⟩, fun _ h => .inl h, fun a ob h e => by rw [upd_ne (fun z => h (.inr (.inr (by rw [z]; exact hx))))]; exact e⟩
  have ok := hh.ok
  refine ⟨⟨⟨ok.nodup, ok.d1, ok.d2, ok.d3, ok.oin, fun i a h => ?_, fun a h => ?_⟩, hh.len, fun n a ob h1 h2 => ?_⟩, ext⟩
  · by_cases e : a = D
    · exact ⟨o, by rw [e]; exact upd_same⟩
    · obtain ⟨o', z⟩ := ok.oth i a h
      exact ⟨o', by rw [upd_ne e]; exact z⟩
  · by_cases e : a = D
    · exact ⟨o, by rw [e]; exact upd_same⟩
    · obtain ⟨o', z⟩ := ok.xth a h
      exact ⟨o', by rw [upd_ne e]; exact z⟩
  · have na : a ≠ D := fun z => ok.d2 D hx (by rw [← z]; exact List.mem_of_getElem? h1)
    have := hh.obj n a ob h1 h2
    cases ob with
    | lst ys => obtain ⟨us, e, t⟩ := this; exact ⟨us, by rw [upd_ne na]; exact e, t.ext ext⟩
theorem later_own (l : Later M H M1 H1) (hD : H D = none) : Later M H M1 (upd H1 D o) :=
  ⟨l.pre, l.ow, l.xo, l.xo', fun a ob h e => by rw [upd_ne (ne_of_none e hD)]; exact l.keep a ob h e, fun a ob e => by
    obtain ⟨o', z⟩ := l.there a ob e
    exact ⟨o', by rw [upd_ne (ne_of_none e hD)]; exact z⟩⟩
theorem StoreR.ext_own {s : Store} {st : L2.St} (r : StoreR K M H s st) (ok : MpOk M H) (e : Ext M H M (upd H D o)) (hx : M.xo D) (hno : ∀ i, s.getD i .no ≠ .no → ∀ xs, s.getD i .no = .frz xs → ∀ a, st[i]? = some (some (.ref a)) → a ≠ D) : StoreR K M (upd H D o) s st := ⟨r.len, fun i => by
  have h := r.at_ i
  have h2 := hno i
  revert h h2
  cases s.getD i .no with
  | no => exact fun _ _ => trivial
  | val v => exact fun ⟨u, e1, q⟩ _ => ⟨u, e1, q.ext e⟩
  | own xs => exact fun ⟨a, vs, e1, w, q, t⟩ _ => ⟨a, vs, e1, w, by rw [upd_ne (fun z => ok.d3 i a w (by rw [z]; exact hx))]; exact q, t.ext e⟩
  | frz xs => exact fun ⟨a, vs, e1, w, q, t⟩ h => ⟨a, vs, e1, w, by rw [upd_ne (h (fun z => nomatch z) xs rfl a e1)]; exact q, t.ext e⟩⟩
end
/-- the list that a comprehension makes -/
structure CompAt (K : PySem.W.Frag) (M1 : Mp) (H1 : Hp) (D : Addr) (M2 : Mp) (G2 : Heap) (H2 : Hp) (acc : List Val) (accV : List V) : Prop where
  l : Later M1 H1 M2 H2
  xD : M2.xo D
  hh : HeapR K M2 G2 H2
  at_ : H2 D = some (.lst accV)
  rs : Rls K M2 H2 acc accV
theorem CompAt.more {M1 M2 M3 : Mp} {H1 H2 H3 : Hp} {D : Addr} {G2 G3 : Heap} {acc : List Val} {accV : List V} (c : CompAt K M1 H1 D M2 G2 H2 acc accV) (l : Later M2 H2 M3 H3) (hh : HeapR K M3 G3 H3) : CompAt K M1 H1 D M3 G3 H3 acc accV :=
  ⟨c.l.trans l, l.xo D c.xD, hh, l.keep D _ (c.hh.ok.d2 D c.xD) c.at_, c.rs.later l⟩
theorem CompAt.app {M1 M2 : Mp} {H1 H2 : Hp} {D : Addr} {G2 : Heap} {acc : List Val} {accV : List V} {y : Val} {u : V} (c : CompAt K M1 H1 D M2 G2 H2 acc accV) (hD : H1 D = none) (r : Rl K M2 H2 y u) : CompAt K M1 H1 D M2 G2 (upd H2 D (.lst (accV ++ [u]))) (acc ++ [y]) (accV ++ [u]) :=
  ⟨later_own c.l hD, c.xD, (heap_own c.hh c.xD).1, upd_same, (c.rs.append (.cons r .nil)).ext (heap_own c.hh c.xD).2⟩
theorem CompAt.new {M1 M2 : Mp} {H1 H2 : Hp} {D : Addr} {G2 : Heap} {acc : List Val} {accV : List V} (c : CompAt K M1 H1 D M2 G2 H2 acc accV) (ok : MpOk M1 H1) (hD : H1 D = none) : ∃ M', Later M1 H1 M' H2 ∧ NewL K M' G2 H2 D acc accV := by
  let M' : Mp := ⟨M2.φ, M2.ow, fun a => M2.xo a ∧ a ≠ D⟩
  have e : M'.add D = M2 := by
    have : (fun b => (M2.xo b ∧ b ≠ D) ∨ b = D) = M2.xo := by
      funext b
      by_cases h : b = D
      · subst h; exact propext ⟨fun _ => c.xD, fun _ => .inr rfl⟩
      · exact propext ⟨fun z => z.elim (·.1) fun q => absurd q h, fun z => .inl ⟨z, h⟩⟩
    show Mp.mk M2.φ M2.ow (fun b => (M2.xo b ∧ b ≠ D) ∨ b = D) = M2
    rw [this]
  refine ⟨M', ⟨c.l.pre, c.l.ow, fun a h => ⟨c.l.xo a h, fun z => ?_⟩, fun a h => c.l.xo' a h.1, c.l.keep, c.l.there⟩, by rw [e]; exact c.hh, c.at_, by rw [e]; exact c.rs, fun z => z.2 rfl⟩
  obtain ⟨o, q⟩ := ok.xth a h
  rw [z, hD] at q; cases q
/-- a frozen list of the frame is not the comprehension's -/
theorem frz_ne {M1 M2 : Mp} {H1 H2 : Hp} {D : Addr} {s : Store} {st : L2.St} (r : StoreR K M1 H1 s st) (hD : H1 D = none) : ∀ i, s.getD i .no ≠ .no → ∀ xs, s.getD i .no = .frz xs → ∀ a, st[i]? = some (some (.ref a)) → a ≠ D := fun i _ xs e a ha z => by
  have h := r.at_ i
  rw [e] at h
  obtain ⟨b, vs, e1, _, q, _⟩ := h
  rw [ha] at e1
  cases e1
  rw [z, hD] at q
  cases q
/-- one turn of a comprehension -/
theorem compR_cons (tg : Val → Store → Option Store) (c e : Store → Heap → R Val) (x : Val) (xs : List Val) (s : Store) (G : Heap) :
    compR tg c e (x :: xs) s G = (R.opt (tg x s) G).bind fun s1 G1 => (c s1 G1).bind fun cv G2 => (R.opt (truthV (rd G2 cv)) G2).bind fun b G3 =>
      if b then (e s1 G3).bind fun v G4 => (compR tg c e xs s G4).bind fun vs G5 => .ok (v :: vs) G5 else compR tg c e xs s G3 := rfl
/-- tests of a clause -/
def tTs (K : PySem.W.Frag) (W : WX) (m : Store → Heap → R Val) : L2.TT := tT K W m
theorem pts_noneK : PTs X [] (tT K W (evE Γ (.con (.bool true)))) :=
  ⟨fun pins s σ H Q I ⟨M, G, st, hh, hst, hm⟩ => pts_nil.run pins s σ H Q I (by
    rw [evE] at hm
    obtain ⟨b, e, k⟩ := hm
    cases e
    exact k M H (Later.refl M H) hh)⟩
theorem pe_compF {elt tg iter : Expr} {ifs : List Expr} {scope : Scope} {own : List (Str × Nat)} {pos : Pos} {t : Tg} {it : Itx} {c e : E} (hc : X.calm = true) (hN : X.N.Nodup) (hi : PI X tg iter (tI Later X.K W (evI Γ it))) (ok : BlkOk X.N X.env.scope scope own) (hts : ∀ i ∈ tgS t, i ∈ own.map (·.2))
    (hg : ∀ (s : Shared) (H : Hp) (C : Addr) (cl : List (Str × Addr)) (fp : List Addr), PG (X.blk s H scope (compEnvC scope cl C X.env) fp) tg (gT X.K t)) (ht : ∀ (s : Shared) (H : Hp) (C : Addr) (cl : List (Str × Addr)) (fp : List Addr), PTs (X.blk s H scope (compEnvC scope cl C X.env) fp) ifs (tT X.K WF (evE Γ c)))
    (he : ∀ (s : Shared) (H : Hp) (C : Addr) (cl : List (Str × Addr)) (fp : List Addr), PE (X.blk s H scope (compEnvC scope cl C X.env) fp) elt (tE X.K WF (evE Γ e))) (hs : ∀ x, foldedSetIterable iter X.env x = pure x) (Q' : L2.VK → Prop) (σ : L2.St) (H : Hp) (Q : L2.VK)
    (h : ∃ M G s, HeapR X.K M G H ∧ StoreR X.K M H s σ ∧ (evE Γ (.comp (own.map (·.2)) t it c e) s G).wp (fun v G' => ∃ xs, v = .lst xs ∧ ∀ M' a vs H', Later M H M' H' → H a = Option.none → NewL X.K M' G' H' a xs vs → Q (.ref a) H') (XW X.K W M H σ)) :
    tLc (tI Later X.K W (evI Γ it)) (gT X.K t) (tT X.K WF (evE Γ c)) (tE X.K WF (evE Γ e)) (own.map (·.2)) σ H Q := by
  obtain ⟨M, G, s, hh, hst, hm⟩ := h
  rw [evE, R.wp_bind] at hm
  refine ⟨M, G, s, hh, hst, R.wp_mono hm (fun xs G1 hm M1 H1 J l1 hh1 itr D hD => ?_) fun _ _ x => x⟩
  have hst1 := hst.later hh.ok l1
  have hm' : ¬ lineN < xs.length ∧ (compR (setT t) (evE Γ c) (evE Γ e) xs (wipeS s (own.map (·.2))) G1).wp (fun vs G2 => ∀ M' a us H', Later M H M' H' → H a = Option.none → NewL X.K M' G2 H' a vs us → Q (.ref a) H') fun _ _ => False := by
    split at hm
    · exact hm.elim
    · rename_i hz
      refine ⟨hz, ?_⟩
      have h2 := R.wp_calm hm
      rw [R.wp_bind] at h2
      exact R.wp_mono h2 (fun vs G2 ⟨ys, e, k⟩ => by cases e; exact k) fun _ _ x => x
  obtain ⟨hz, hm⟩ := hm'
  obtain ⟨Gd, Y, wk, hY⟩ := itr
  generalize hws : own.map (·.2) = ws at *
  let Pv : Nat → Hp → Prop := fun i Hc => ∃ M2 G2 acc accV, CompAt X.K M1 H1 D M2 G2 Hc acc accV ∧ acc.length ≤ i ∧
    (compR (setT t) (evE Γ c) (evE Γ e) (xs.drop i) (wipeS s ws) G2).wp (fun vs G2 => ∀ M' a us H', Later M H M' H' → H a = Option.none → NewL X.K M' G2 H' a (acc ++ vs) us → Q (.ref a) H') fun _ _ => False
  have hHD : H D = none := l1.since.gone hD
  refine lc_it wk Pv ?_ ?_ ?_ ?_
  · exact ⟨M1.add D, G1, [], [], ⟨later_add hh1.ok hD, .inr rfl, hh1.add hD _, upd_same, .nil⟩, Nat.zero_le _, by rw [List.drop_zero]; exact hm⟩
  · rintro i Hc _ ⟨M2, G2, acc, accV, ca, _, _⟩
    exact (hY M2 Hc ca.l).1
  · rintro i x Hc H' hi ⟨M2, G2, acc, accV, ca, hl, hr⟩ y
    obtain ⟨v, hv, hk⟩ := (hY M2 Hc ca.l).2 i x H' hi y
    obtain ⟨hh2, l2, rv⟩ := hk G2 ca.hh
    have hd : xs.drop i = v :: xs.drop (i + 1) := by
      obtain ⟨h1, h2⟩ := List.getElem?_eq_some_iff.mp hv
      rw [List.drop_eq_getElem_cons h1, h2]
    rw [hd, compR_cons, R.wp_bind] at hr
    obtain ⟨s1, e1, hr⟩ := R.wp_opt hr
    have ca2 := ca.more l2 hh2
    have hst2 : StoreR X.K M2 H' (wipeS s ws) (L2.wipe σ ws) := (hst1.later hh1.ok ca2.l).wipe ws
    refine ⟨M2, G2, wipeS s ws, v, s1, hh2, hst2, rv, e1, fun σ2 hst3 on => ⟨?_, M2, G2, s1, hh2, hst3, ?_⟩⟩
    · rw [on ws hts]
      exact wipe_wipe ws ws fun _ h => h
    · rw [R.wp_bind] at hr
      refine R.wp_mono hr (fun cv G3 hr => ?_) fun _ _ x => x.elim
      rw [R.wp_bind] at hr
      obtain ⟨b, hb, hr⟩ := R.wp_opt hr
      refine ⟨b, hb, fun M3 H3 l3 hh3 => ?_⟩
      have ca3 := ca2.more l3 hh3
      show if b = true then tE X.K WF (evE Γ e) σ2 H3 (fun y H4 => ∃ acc, H4 D = some (HO.lst acc) ∧ acc.length < sizeLine ∧ Pv (i + 1) (upd H4 D (HO.lst (acc ++ [y])))) else Pv (i + 1) H3
      cases b with
      | false =>
        rw [if_neg Bool.false_ne_true] at hr ⊢
        exact ⟨M3, G3, acc, accV, ca3, Nat.le_succ_of_le hl, hr⟩
      | true =>
        rw [if_pos rfl] at hr ⊢
        rw [R.wp_bind] at hr
        refine ⟨M3, G3, s1, hh3, hst3.later hh2.ok l3, R.wp_mono hr (fun yv G4 hr M4 u H4 l4 hh4 r4 => ?_) fun _ _ x => x.elim⟩
        have ca4 := ca3.more l4 hh4
        refine ⟨accV, ca4.at_, ?_, M4, G4, acc ++ [yv], accV ++ [u], ca4.app hD r4, by rw [List.length_append]; simp; omega, ?_⟩
        · rw [← ca4.rs.length]
          have : xs.length ≤ lineN := Nat.le_of_not_lt hz
          rw [lineN_eq] at this
          omega
        · rw [R.wp_bind] at hr
          exact R.wp_mono hr (fun vs G5 k => by
            have k : ∀ M' a us H', Later M H M' H' → H a = Option.none → NewL X.K M' G5 H' a (acc ++ (yv :: vs)) us → Q (.ref a) H' := k
            rw [show acc ++ [yv] ++ vs = acc ++ (yv :: vs) by simp]; exact k) fun _ _ x => x
  · rintro Hc ⟨M2, G2, acc, accV, ca, _, hr⟩
    rw [List.drop_length] at hr
    have hr : ∀ M' a us H', Later M H M' H' → H a = Option.none → NewL X.K M' G2 H' a (acc ++ []) us → Q (.ref a) H' := hr
    rw [List.append_nil] at hr
    obtain ⟨M', l', n⟩ := ca.new hh1.ok hD
    exact hr M' D accV Hc (l1.trans l') hHD n
end Fx

namespace Fx
open PySem PySem.Spec PyProof.Rows L2
variable {X : Cx} {W : WX} {Γ : Calls} {K : PySem.W.Frag}
/-- a returned value: the frame's own lists are given away -/
def Mp.noOw (M : Mp) : Mp := ⟨M.φ, fun _ => none, M.xo⟩
def RlR (K : PySem.W.Frag) (M : Mp) (H : Hp) (v : Val) (u : V) : Prop := Rl K M.noOw H v u
theorem noOw_ext {M : Mp} {H : Hp} : Ext M H M.noOw H := Ext.swap rfl fun a h => by
  rcases h with h | ⟨i, h⟩ | h
  · exact .inl h
  · cases h
  · exact .inr (.inr h)
/-- what is wanted behind a statement -/
def nxP (K : PySem.W.Frag) (M : Mp) (H : Hp) (P : L2.St → Hp → Prop) (s' : Store) (G' : Heap) : Prop := ∀ M' H' st', Since M H M' H' → HeapR K M' G' H' → StoreR K M' H' s' st' → P st' H'
def rtP (K : PySem.W.Frag) (M : Mp) (H : Hp) (P : VK) (v : Val) (G' : Heap) : Prop := ∀ M' H' u, Since M H M' H' → HeapR K M' G' H' → RlR K M' H' v u → P u H'
def xS (K : PySem.W.Frag) (W : WX) (M : Mp) (H : Hp) (e : Exc) (s' : Store) (G' : Heap) : Prop := ∀ M' H' st' cls d, Since M H M' H' → HeapR K M' G' H' → StoreR K M' H' s' st' → ExcR K M' H' e cls d → W cls d st' H'
def Post (K : PySem.W.Frag) (W : WX) (M : Mp) (H : Hp) (D : Ends) : RS → Prop
  | .no => False
  | .next s G => nxP K M H D.nx s G
  | .ret v G => rtP K M H D.rt v G
  | .brk s G => nxP K M H D.bk s G
  | .cont s G => nxP K M H D.ct s G
  | .exc e s G => xS K W M H e s G
section
variable {M M1 : Mp} {H H1 : Hp} {D D' : Ends}
theorem nxP.mono {P : L2.St → Hp → Prop} {s : Store} {G : Heap} (h : nxP K M H P s G) (l : Since M H M1 H1) : nxP K M1 H1 P s G := fun M' H' st' l2 => h M' H' st' (l.trans l2)
theorem rtP.mono {P : VK} {v : Val} {G : Heap} (h : rtP K M H P v G) (l : Since M H M1 H1) : rtP K M1 H1 P v G := fun M' H' u l2 => h M' H' u (l.trans l2)
theorem xS.mono {e : Exc} {s : Store} {G : Heap} (h : xS K W M H e s G) (l : Since M H M1 H1) : xS K W M1 H1 e s G := fun M' H' st' cls d l2 => h M' H' st' cls d (l.trans l2)
theorem Post.mono {r : RS} (h : Post K W M H D r) (l : Since M H M1 H1) : Post K W M1 H1 D r := by
  cases r with
  | no => exact h
  | next s G => exact nxP.mono h l
  | ret v G => exact rtP.mono h l
  | brk s G => exact nxP.mono h l
  | cont s G => exact nxP.mono h l
  | exc e s G => exact xS.mono h l
theorem xS.of {s : Store} {st : L2.St} {G G' : Heap} {e : Exc} (x : xS K W M H e s G') (hh : HeapR K M G H) (hst : StoreR K M H s st) : XW K W M H st e G' :=
  fun M' cls d H' l hh' r => x M' H' st cls d l.since hh' (hst.later hh.ok l) r
/-- an expression, then -/
theorem Post.wp {α : Type} {m : R α} {s : Store} {st : L2.St} {G : Heap} {f : α → Heap → RS} (hh : HeapR K M G H) (hst : StoreR K M H s st) (h : Post K W M H D (m.thenS s f)) : m.wp (fun a G' => Post K W M H D (f a G')) (XW K W M H st) := by
  cases m with
  | no => exact h
  | ok a G' => exact h
  | exc e G' => exact xS.of h hh hst
theorem Post.opt {α : Type} {o : Option α} {G : Heap} {s : Store} {f : α → Heap → RS} (h : Post K W M H D ((R.opt o G).thenS s f)) : ∃ a, o = some a ∧ Post K W M H D (f a G) := by
  cases o with
  | none => exact h.elim
  | some a => exact ⟨a, rfl, h⟩
end
def tS (K : PySem.W.Frag) (W : WX) (m : Store → Heap → RS) : L2.TS := fun D st H => ∃ M G s, HeapR K M G H ∧ StoreR K M H s st ∧ Post K W M H D (m s G)
theorem ps_passK {pos : Pos} : PS X (.Pass pos) (tS K W (evS Γ .pass)) := psImp ps_pass fun D σ H ⟨M, G, s, hh, hst, h⟩ => by
  rw [evS] at h
  exact h M H σ (Since.refl _ _) hh hst
theorem ps_breakK {pos : Pos} : PS X (.Break pos) (tS K W (evS Γ .brk)) := psImp ps_break fun D σ H ⟨M, G, s, hh, hst, h⟩ => by
  rw [evS] at h
  exact h M H σ (Since.refl _ _) hh hst
theorem ps_continueK {pos : Pos} : PS X (.Continue pos) (tS K W (evS Γ .cont)) := psImp ps_continue fun D σ H ⟨M, G, s, hh, hst, h⟩ => by
  rw [evS] at h
  exact h M H σ (Since.refl _ _) hh hst
theorem ps_retK {e : Expr} {i : E} {pos : Pos} (he : PE X e (tE K W (evE Γ i))) : PS X (.Return (some e) pos) (tS K W (evS Γ (.ret i))) := psImp (ps_ret he) fun D σ H ⟨M, G, s, hh, hst, h⟩ => by
  rw [evS] at h
  exact ⟨M, G, s, hh, hst, R.wp_mono (Post.wp hh hst h) (fun v G1 k M1 u H1 l1 hh1 r1 => k M1 H1 u l1.since hh1 (r1.ext noOw_ext)) fun _ _ x => x⟩
theorem ps_retNK {pos : Pos} : PS X (.Return none pos) (tS K W (evS Γ .retN)) := psImp ps_retN fun D σ H ⟨M, G, s, hh, hst, h⟩ => by
  rw [evS] at h
  exact h M H .non (Since.refl _ _) hh .nn
theorem ps_retOK {k : Nat} {x : Str} {p pos : Pos} (hN : X.N[k]? = some x) (hv : Vis X.env.scope x) (hd : (x == ("__debug__" : Str)) = false) (hcd : (x == ("__classdict__" : Str)) = false) : PS X (.Return (some (.Name x p)) pos) (tS K W (evS Γ (.retO k))) :=
  psImp (ps_ret (pe_var hN hv hd hcd)) fun D σ H ⟨M, G, s, hh, hst, h⟩ => by
    rw [evS] at h
    have q := hst.at_ k
    revert h q
    cases s.getD k .no with
    | own xs =>
      intro h ⟨a, vs, e, o, ha, t⟩
      refine ⟨_, e, h M H _ (Since.refl _ _) hh (.lst (fun z => ?_) ha (t.ext noOw_ext))⟩
      rcases z with z | ⟨_, z⟩ | z
      · exact hh.ok.d1 k a o z
      · cases z
      · exact hh.ok.d3 k a o z
    | _ => exact fun h _ => h.elim
theorem ps_expK {e : Expr} {i : E} {pos : Pos} (he : PE X e (tE K W (evE Γ i))) (hs : swapsWith e none pos.line X.env = pure false) : PS X (.Expr e pos) (tS K W (evS Γ (.exp i))) := psImp (ps_expr he hs) fun D σ H ⟨M, G, s, hh, hst, h⟩ => by
  rw [evS] at h
  exact ⟨M, G, s, hh, hst, R.wp_mono (Post.wp hh hst h) (fun v G1 k M1 u H1 l1 hh1 r1 => k M1 H1 σ l1.since hh1 (hst.later hh.ok l1)) fun _ _ x => x⟩
theorem ps_docK {x : Str} {j : Nat} {pos pos' : Pos} : PS X (.Expr (.Constant (.str x) j pos) pos') (tS K W (evS Γ .pass)) := psImp ps_doc fun D σ H ⟨M, G, s, hh, hst, h⟩ => by
  rw [evS] at h
  exact h M H σ (Since.refl _ _) hh hst
theorem pss_nilK : PSs X [] (tS K W (evSs Γ .nil)) := pssImp pss_nil fun D σ H ⟨M, G, s, hh, hst, h⟩ => by
  rw [evSs] at h
  exact h M H σ (Since.refl _ _) hh hst
theorem Post.seq {M : Mp} {H : Hp} {D : Ends} {m : RS} {f : Store → Heap → RS} (h : Post K W M H D (m.seq f)) : Post K W M H { D with nx := tS K W f D } m := by
  cases m with
  | no => exact h
  | next s G => exact fun M' H' st' l hh hst => ⟨M', G, s, hh, hst, Post.mono (r := f s G) h l⟩
  | ret v G => exact h
  | brk s G => exact h
  | cont s G => exact h
  | exc e s G => exact h
theorem pss_consK {st : Stmt} {rest : List Stmt} {a : S} {b : Ss} (h1 : PS X st (tS K W (evS Γ a))) (h2 : PSs X rest (tS K W (evSs Γ b))) : PSs X (st :: rest) (tS K W (evSs Γ (.cons a b))) := pssImp (pss_cons h1 h2) fun D σ H ⟨M, G, s, hh, hst, h⟩ => by
  rw [evSs] at h
  exact ⟨M, G, s, hh, hst, h.seq⟩
theorem ps_ifK {c : Expr} {a b : List Stmt} {i : E} {x y : Ss} {pos : Pos} (hc : PT X c (tT K W (evE Γ i))) (ha : PSs X a (tS K W (evSs Γ x))) (hb : PSs X b (tS K W (evSs Γ y))) : PS X (.If c a b pos) (tS K W (evS Γ (.ite i x y))) := psImp (ps_if hc ha hb) fun D σ H ⟨M, G, s, hh, hst, h⟩ => by
  rw [evS] at h
  refine ⟨M, G, s, hh, hst, R.wp_mono (Post.wp hh hst h) (fun v G1 h => ?_) fun _ _ x => x⟩
  obtain ⟨k, hk, h⟩ := Post.opt h
  refine ⟨k, hk, fun M1 H1 l1 hh1 => ?_⟩
  have hst1 := hst.later hh.ok l1
  show if k = true then tS K W (evSs Γ x) D σ H1 else tS K W (evSs Γ y) D σ H1
  cases k with
  | true => rw [if_pos rfl] at h ⊢; exact ⟨M1, G1, s, hh1, hst1, h.mono l1.since⟩
  | false => rw [if_neg Bool.false_ne_true] at h ⊢; exact ⟨M1, G1, s, hh1, hst1, h.mono l1.since⟩
theorem Post.turn {M : Mp} {H : Hp} {D : Ends} {m : RS} {f : Store → Heap → RS} (h : Post K W M H D (m.turn f)) : Post K W M H { D with nx := tS K W f D, ct := tS K W f D, bk := D.nx } m := by
  cases m with
  | no => exact h
  | next s G => exact fun M' H' st' l hh hst => ⟨M', G, s, hh, hst, Post.mono (r := f s G) h l⟩
  | ret v G => exact h
  | brk s G => exact h
  | cont s G => exact fun M' H' st' l hh hst => ⟨M', G, s, hh, hst, Post.mono (r := f s G) h l⟩
  | exc e s G => exact h
theorem forR_cons (tg : Val → Store → Option Store) (b : Store → Heap → RS) (x : Val) (xs : List Val) (s : Store) (G : Heap) : forR tg b (x :: xs) s G = (R.opt (tg x s) G).thenS s fun s1 G1 => (b s1 G1).turn (forR tg b xs) := rfl
theorem forR_go {t : Tg} {b : Ss} {M1 : Mp} {H1 : Hp} {J : L2.It} {xs : List Val} {G1 : Heap} {s : Store} {σ : L2.St} {D : Ends} (itr : ItR Since K M1 H1 J xs) (hh1 : HeapR K M1 G1 H1) (hst1 : StoreR K M1 H1 s σ) (h : Post K W M1 H1 D (forR (setT t) (evSs Γ b) xs s G1)) :
    ∃ Wm : Nat → Nat → L2.St → Hp → Prop, (∃ m, Wm 0 m σ H1) ∧ ∀ i m σ H, Wm i m σ H →
      (J.stop i H ∧ D.nx σ H) ∨ (J.go i H ∧ ∃ N : L2.St → Hp → Prop, (∀ σ' H', N σ' H' → ∃ m', m' < m ∧ Wm (i + 1) m' σ' H') ∧ ∀ x H', J.yld i H x H' → gT K t x σ H' fun σ2 H2 => tS K W (evSs Γ b) { D with nx := N, ct := N, bk := D.nx } σ2 H2) := by
  obtain ⟨Gd, Y, wk, hY⟩ := itr
  let Pv : Nat → L2.St → Hp → Prop := fun i σ Hc => ∃ M2 G2 s2, Since M1 H1 M2 Hc ∧ HeapR K M2 G2 Hc ∧ StoreR K M2 Hc s2 σ ∧ Post K W M2 Hc D (forR (setT t) (evSs Γ b) (xs.drop i) s2 G2)
  refine for_it wk Pv ?_ ?_ ?_ ?_
  · exact ⟨M1, G1, s, Since.refl _ _, hh1, hst1, by rw [List.drop_zero]; exact h⟩
  · rintro i σ Hc _ ⟨M2, G2, s2, l2, _, _, _⟩
    exact (hY M2 Hc l2).1
  · rintro i x σ Hc H' hi ⟨M2, G2, s2, l2, hh2, hst2, hr⟩ y
    obtain ⟨v, hv, hk⟩ := (hY M2 Hc l2).2 i x H' hi y
    obtain ⟨hh3, l3, rv⟩ := hk G2 hh2
    have hd : xs.drop i = v :: xs.drop (i + 1) := by
      obtain ⟨h1, h2⟩ := List.getElem?_eq_some_iff.mp hv
      rw [List.drop_eq_getElem_cons h1, h2]
    rw [hd, forR_cons] at hr
    obtain ⟨s3, e3, hr⟩ := Post.opt hr
    have hst3 := hst2.later hh2.ok l3
    refine ⟨M2, G2, s2, v, s3, hh3, hst3, rv, e3, fun σ3 hst4 _ => ⟨M2, G2, s3, hh3, hst4, ?_⟩⟩
    have ht := (hr.mono l3.since).turn
    have conv : ∀ σ' H', tS K W (forR (setT t) (evSs Γ b) (xs.drop (i + 1))) D σ' H' → ∀ M', Since M1 H1 M' H' → True := fun _ _ _ _ _ => trivial
    -- the turn's end keeps the thread from the loop's start
    cases hq : evSs Γ b s3 G2 with
    | no => rw [hq] at hr; exact hr.elim
    | next s G => rw [hq] at hr; exact fun M' H'' st' l hh hst => ⟨M', G, s, (l2.trans l3.since).trans l, hh, hst, (Post.mono (r := forR _ _ _ s G) hr l3.since).mono l⟩
    | ret v G => rw [hq] at hr; exact rtP.mono hr l3.since
    | brk s G => rw [hq] at hr; exact nxP.mono hr l3.since
    | cont s G => rw [hq] at hr; exact fun M' H'' st' l hh hst => ⟨M', G, s, (l2.trans l3.since).trans l, hh, hst, (Post.mono (r := forR _ _ _ s G) hr l3.since).mono l⟩
    | exc e s G => rw [hq] at hr; exact xS.mono hr l3.since
  · rintro σ Hc ⟨M2, G2, s2, l2, hh2, hst2, hr⟩
    rw [List.drop_length] at hr
    exact hr M2 Hc σ (Since.refl _ _) hh2 hst2
theorem ps_forK {tg iter : Expr} {body : List Stmt} {t : Tg} {it : Itx} {b : Ss} {pos : Pos} (hp : PassesOwn (model X.prog X.w) X.A X.env X.xe) (hc : X.calm = true) (hi : PI X tg iter (tI Since X.K W (evI Γ it))) (hg : PG X tg (gT X.K t)) (hb : PSs X body (tS X.K W (evSs Γ b))) (hs : ∀ x, foldedSetIterable iter X.env x = pure x) :
    PS X (.For tg iter body [] pos) (tS X.K W (evS Γ (.for_ t it b))) := psImp (ps_for hp hc hi hg hb hs) fun D σ H ⟨M, G, s, hh, hst, h⟩ => by
  rw [evS] at h
  exact ⟨M, G, s, hh, hst, R.wp_mono (Post.wp hh hst h) (fun xs G1 h M1 H1 J l1 hh1 itr => forR_go itr hh1 (hst.later hh.ok l1) (h.mono l1.since)) fun _ _ x => x⟩
theorem whileR_succ (c : Store → Heap → R Val) (b : Store → Heap → RS) (n : Nat) (s : Store) (G : Heap) : whileR c b (n + 1) s G = (c s G).thenS s fun x G1 => (R.opt (truthV (rd G1 x)) G1).thenS s fun k G2 => if k then (b s G2).turn (whileR c b n) else .next s G2 := rfl
theorem ps_whileK {c : Expr} {body : List Stmt} {i : E} {b : Ss} {pos : Pos} (hp : PassesOwn (model X.prog X.w) X.A X.env X.xe) (hc : PT X c (tT X.K W (evE Γ i))) (hb : PSs X body (tS X.K W (evSs Γ b))) : PS X (.While c body [] pos) (tS X.K W (evS Γ (.while_ i b))) := psImp (ps_while hp hc hb) fun D σ H ⟨M, G, s, hh, hst, h⟩ => by
  rw [evS] at h
  generalize fuelW = n at h
  refine ⟨fun m σ Hc => ∃ M2 G2 s2, HeapR X.K M2 G2 Hc ∧ StoreR X.K M2 Hc s2 σ ∧ Post X.K W M2 Hc D (whileR (evE Γ i) (evSs Γ b) m s2 G2), ⟨n, M, G, s, hh, hst, h⟩, ?_⟩
  rintro m σ Hc ⟨M2, G2, s2, hh2, hst2, hr⟩
  cases m with
  | zero => exact hr.elim
  | succ m =>
    rw [whileR_succ] at hr
    refine ⟨M2, G2, s2, hh2, hst2, R.wp_mono (Post.wp hh2 hst2 hr) (fun x G3 hr => ?_) fun _ _ x => x⟩
    obtain ⟨k, hk, hr⟩ := Post.opt hr
    refine ⟨k, hk, fun M3 H3 l3 hh3 => ?_⟩
    have hst3 := hst2.later hh2.ok l3
    have hr := hr.mono l3.since
    show if k = true then _ else _
    cases k with
    | false =>
      rw [if_neg Bool.false_ne_true] at hr ⊢
      exact hr M3 H3 σ (Since.refl _ _) hh3 hst3
    | true =>
      rw [if_pos rfl] at hr ⊢
      refine ⟨tS X.K W (whileR (evE Γ i) (evSs Γ b) m) D, fun σ' H' ⟨M', G', s', q1, q2, q3⟩ => ⟨m, Nat.lt_succ_self m, M', G', s', q1, q2, q3⟩, M3, G3, s2, hh3, hst3, hr.turn⟩
end Fx

namespace Fx
open PySem PySem.Spec PyProof.Rows L2
variable {X : Cx} {W : WX} {Γ : Calls} {K : PySem.W.Frag}
theorem asg_name {i : Nat} {v : Val} {u : V} {M M1 : Mp} {H H1 : Hp} {G1 : Heap} {s : Store} {σ : L2.St} {D : Ends} (k : Post K W M H D (.next (s.set i (.val v)) G1)) (l : Since M H M1 H1) (hh : HeapR K M1 G1 H1) (hst : StoreR K M1 H1 s σ) (r : Rl K M1 H1 v u) : D.nx (σ.set i (some u)) H1 :=
  k M1 H1 _ l hh (hst.setVal i r)
theorem ps_asgK {i : Nat} {x : Str} {e : Expr} {j : E} {p pos : Pos} (hN : X.N.Nodup) (hi : X.N[i]? = some x) (hx : Loc X.env.scope x) (he : PE X e (tE K W (evE Γ j))) (hs : swapsWith e (some (.Name x p)) pos.line X.env = pure false) (hf : X.fn x = true ∨ X.env.scope.names.lookup x = some .local) :
    PS X (.Assign [.Name x p] e pos) (tS K W (evS Γ (.asg (.name i) j))) := psImp (ps_set hN hi hx he hs hf) fun D σ H ⟨M, G, s, hh, hst, h⟩ => by
  rw [evS] at h
  refine ⟨M, G, s, hh, hst, R.wp_mono (Post.wp hh hst h) (fun v G1 k M1 u H1 l1 hh1 r1 => ?_) fun _ _ x => x⟩
  obtain ⟨s1, e1, k⟩ := Post.opt k
  cases e1
  exact asg_name k l1.since hh1 (hst.later hh.ok l1) r1
theorem ps_asgT {tg e : Expr} {t : Tg} {j : E} {pos : Pos} (he : PE X e (tE X.K W (evE Γ j))) (hg : PG X tg (gT X.K t)) (hs : swapsWithSole [tg] e pos.line X.env = pure false) (hw : swappedStores [tg] e X.env = pure none) (h1 : (assignEach [tg] X.env).map (·.2) = [assign tg X.env]) :
    PS X (.Assign [tg] e pos) (tS X.K W (evS Γ (.asg t j))) := psImp (ps_asg he hg hs hw h1) fun D σ H ⟨M, G, s, hh, hst, h⟩ => by
  rw [evS] at h
  refine ⟨M, G, s, hh, hst, R.wp_mono (Post.wp hh hst h) (fun v G1 k M1 u H1 l1 hh1 r1 => ?_) fun _ _ x => x⟩
  obtain ⟨s1, e1, k⟩ := Post.opt k
  exact ⟨M1, G1, s, v, s1, hh1, hst.later hh.ok l1, r1, e1, fun st' hst' _ => k M1 H1 st' l1.since hh1 hst'⟩
theorem ps_asgP2 {i j : Nat} {x y : Str} {a b : Expr} {is : Es} {px py pt pos : Pos} {kt k2 : Nat} {pt2 : Pos} (hc : X.calm = true) (hN : X.N.Nodup) (hi : X.N[i]? = some x) (hj : X.N[j]? = some y) (hij : i ≠ j) (hx : X.env.scope.names.lookup x = some .local) (hy : X.env.scope.names.lookup y = some .local) (ha : PA X [a, b] (tAs K W (evEs Γ is))) (hl : is.len = 2)
    (hw : swappedStores [.Tuple [.Name x px, .Name y py] kt pt] (.Tuple [a, b] k2 pt2) X.env = pure (some [x, y])) (hs : swapsWithSole [.Tuple [.Name x px, .Name y py] kt pt] (.Tuple [a, b] k2 pt2) pos.line X.env = pure false) :
    PS X (.Assign [.Tuple [.Name x px, .Name y py] kt pt] (.Tuple [a, b] k2 pt2) pos) (tS K W (evS Γ (.asg (.tup (.cons (.name i) (.cons (.name j) .nil))) (.tup is)))) := psImp (ps_par hc hN hi hj hij hx hy ha hw hs) fun D σ H ⟨M, G, s, hh, hst, h⟩ => by
  rw [evS] at h
  have h := Post.wp hh hst h
  rw [evE, R.wp_bind] at h
  refine ⟨M, G, s, hh, hst, R.wp_mono (evEs_len is s G h) (fun vs G1 ⟨hlen, k⟩ M1 us H1 l1 hh1 r1 => ?_) fun _ _ x => x⟩
  rw [hl] at hlen
  obtain ⟨s1, e1, k⟩ := Post.opt (show Post K W M H D ((R.opt _ G1).thenS s .next) from k)
  match vs, hlen with
  | [v, w], _ =>
    cases r1 with
    | cons r1 rr =>
      cases rr with
      | cons r2 rr =>
        cases rr
        cases e1
        exact ⟨_, _, rfl, k M1 H1 _ l1.since hh1 (((hst.later hh.ok l1).setVal i r1).setVal j r2)⟩
theorem ps_asgP3 {i j l : Nat} {x y z : Str} {a b c : Expr} {is : Es} {px py pz pt pos : Pos} {kt k2 : Nat} {pt2 : Pos} (hc : X.calm = true) (hN : X.N.Nodup) (hi : X.N[i]? = some x) (hj : X.N[j]? = some y) (hl : X.N[l]? = some z) (hij : i ≠ j) (hil : i ≠ l) (hjl : j ≠ l)
    (hx : X.env.scope.names.lookup x = some .local) (hy : X.env.scope.names.lookup y = some .local) (hz : X.env.scope.names.lookup z = some .local) (ha : PA X [a, b, c] (tAs K W (evEs Γ is))) (hlen0 : is.len = 3)
    (hw : swappedStores [.Tuple [.Name x px, .Name y py, .Name z pz] kt pt] (.Tuple [a, b, c] k2 pt2) X.env = pure (some [x, y, z])) (hs : swapsWithSole [.Tuple [.Name x px, .Name y py, .Name z pz] kt pt] (.Tuple [a, b, c] k2 pt2) pos.line X.env = pure false) :
    PS X (.Assign [.Tuple [.Name x px, .Name y py, .Name z pz] kt pt] (.Tuple [a, b, c] k2 pt2) pos) (tS K W (evS Γ (.asg (.tup (.cons (.name i) (.cons (.name j) (.cons (.name l) .nil)))) (.tup is)))) := psImp (ps_par3 hc hN hi hj hl hij hil hjl hx hy hz ha hw hs) fun D σ H ⟨M, G, s, hh, hst, h⟩ => by
  rw [evS] at h
  have h := Post.wp hh hst h
  rw [evE, R.wp_bind] at h
  refine ⟨M, G, s, hh, hst, R.wp_mono (evEs_len is s G h) (fun vs G1 ⟨hlen, k⟩ M1 us H1 l1 hh1 r1 => ?_) fun _ _ x => x⟩
  rw [hlen0] at hlen
  obtain ⟨s1, e1, k⟩ := Post.opt (show Post K W M H D ((R.opt _ G1).thenS s .next) from k)
  match vs, hlen with
  | [v, w, q], _ =>
    cases r1 with
    | cons r1 rr =>
      cases rr with
      | cons r2 rr =>
        cases rr with
        | cons r3 rr =>
          cases rr
          cases e1
          exact ⟨_, _, _, rfl, k M1 H1 _ l1.since hh1 ((((hst.later hh.ok l1).setVal i r1).setVal j r2).setVal l r3)⟩
theorem own_new {M M1 : Mp} {H H1 : Hp} {G1 : Heap} {a : Addr} {xs : List Val} {vs : List V} {s : Store} {σ : L2.St} {i : Nat} (hi : i < s.length) (ok : MpOk M H) (hst : StoreR K M H s σ) (l : Later M H M1 H1) (hn : H a = none) (n : NewL K M1 G1 H1 a xs vs) :
    ∃ M2, Since M H M2 H1 ∧ HeapR K M2 G1 H1 ∧ StoreR K M2 H1 (s.set i (.own xs)) (σ.set i (some (.ref a))) := by
  let M2 : Mp := ⟨M1.φ, fun j => if j = i then some a else M1.ow j, M1.xo⟩
  have ok1 := n.hh.ok
  have sw : Ext (M1.add a) H1 M2 H1 := Ext.swap rfl fun b h => by
    rcases h with h | ⟨j, h⟩ | h
    · exact .inl h
    · by_cases e : j = i
      · have h : (if j = i then some a else M1.ow j) = some b := h
        rw [if_pos e] at h
        exact .inr (.inr (.inr (Option.some.inj h).symm))
      · have h : (if j = i then some a else M1.ow j) = some b := h
        rw [if_neg e] at h
        exact .inr (.inl ⟨j, h⟩)
    · exact .inr (.inr (.inl h))
  have owc : ∀ j b, M2.ow j = some b → (j = i ∧ b = a) ∨ (j ≠ i ∧ M1.ow j = some b) := fun j b h => by
    by_cases e : j = i
    · have h : (if j = i then some a else M1.ow j) = some b := h
      rw [if_pos e] at h
      exact .inl ⟨e, (Option.some.inj h).symm⟩
    · have h : (if j = i then some a else M1.ow j) = some b := h
      rw [if_neg e] at h
      exact .inr ⟨e, h⟩
  have aow : ∀ j, M1.ow j ≠ some a := fun j h => ok1.d3 j a h (.inr rfl)
  refine ⟨M2, ⟨l.pre, l.xo, l.xo', fun b h => ?_, fun b o h e => l.keep b o (fun z => h (.inl z)) e, l.there⟩, ⟨⟨ok1.nodup, fun j b h => ?_, fun b h => ok1.d2 b (.inl h), fun j b h z => ?_, fun j k b h1 h2 => ?_, fun j b h => ?_, fun b h => ok1.xth b (.inl h)⟩, n.hh.len, fun k b ob h1 h2 => ?_⟩, ?_⟩
  · rcases h with h | ⟨j, h⟩
    · exact (l.since.mu b (.inl h))
    · rcases owc j b h with ⟨_, e⟩ | ⟨_, h⟩
      · exact .inr (by rw [e]; exact hn)
      · exact .inl (.inr ⟨j, by rw [← l.ow]; exact h⟩)
  · rcases owc j b h with ⟨_, e⟩ | ⟨_, h⟩
    · rw [e]; exact ok1.d2 a (.inr rfl)
    · exact ok1.d1 j b h
  · rcases owc j b h with ⟨_, e⟩ | ⟨_, h⟩
    · exact n.nx (by rw [← e]; exact z)
    · exact ok1.d3 j b h (.inl z)
  · rcases owc j b h1 with ⟨e, eb⟩ | ⟨e, h1'⟩
    · rcases owc k b h2 with ⟨e', _⟩ | ⟨_, h2'⟩
      · rw [e, e']
      · exact absurd (by rw [← eb]; exact h2') (aow k)
    · rcases owc k b h2 with ⟨_, eb⟩ | ⟨_, h2'⟩
      · exact absurd (by rw [← eb]; exact h1') (aow j)
      · exact ok1.oin j k b h1' h2'
  · rcases owc j b h with ⟨_, e⟩ | ⟨_, h⟩
    · exact ⟨_, by rw [e]; exact n.at_⟩
    · exact ok1.oth j b h
  · have := n.hh.obj k b ob h1 h2
    cases ob with
    | lst ys => obtain ⟨us, e, t⟩ := this; exact ⟨us, e, t.ext sw⟩
  · have hst1 := hst.later ok l
    have ext0 : Ext M H M2 H1 := ⟨let ⟨x, e, _⟩ := l.pre; ⟨x, e⟩, fun b h => by
      rcases h with h | ⟨j, h⟩ | h
      · exact (l.since.ex' (.inl h))
      · rcases owc j b h with ⟨_, e⟩ | ⟨_, h⟩
        · exact .inr (by rw [e]; exact hn)
        · exact (l.since.ex' (.inr (.inl ⟨j, h⟩)))
      · exact (l.since.ex' (.inr (.inr h))), fun b o h e => l.keep b o (fun z => h (.inl z)) e⟩
    have sw2 : ∀ {v : Val} {u : V}, Rl K M H v u → Rl K M2 H1 v u := fun r => r.ext ext0
    refine ⟨by rw [List.length_set, List.length_set, hst.len], fun j => ?_⟩
    rw [getD_set]
    split
    · rename_i h
      obtain ⟨rfl, h2⟩ := h
      exact ⟨a, vs, List.getElem?_set_self (by rw [← hst.len]; exact h2), by show (if j = j then some a else _) = _; rw [if_pos rfl], n.at_, n.rs.ext sw⟩
    · rename_i h
      have e : j ≠ i := fun z => h ⟨z, hi⟩
      have q := hst.at_ j
      have q1 := hst1.at_ j
      rw [List.getElem?_set_ne (Ne.symm e)]
      revert q q1
      cases s.getD j .no with
      | no => exact fun _ _ => trivial
      | val v => exact fun ⟨u, e1, r⟩ _ => ⟨u, e1, sw2 r⟩
      | own ys =>
        intro ⟨b, us, e1, o, hb, t⟩ _
        refine ⟨b, us, e1, ?_, l.keep b _ (ok.d1 j b o) hb, ?_⟩
        · show (if j = i then some a else M1.ow j) = some b
          rw [if_neg e, l.ow]; exact o
        · exact t.ext ext0
      | frz ys =>
        intro ⟨b, us, e1, o, hb, t⟩ _
        refine ⟨b, us, e1, l.xo b o, l.keep b _ (ok.d2 b o) hb, ?_⟩
        exact t.ext ext0
theorem ps_ownK {i : Nat} {x : Str} {e : Expr} {j : E} {p pos : Pos} (hN : X.N.Nodup) (hi : X.N[i]? = some x) (hx : Loc X.env.scope x) (he : PE X e (tF K W (evE Γ j))) (hs : swapsWith e (some (.Name x p)) pos.line X.env = pure false) (hf : X.fn x = true ∨ X.env.scope.names.lookup x = some .local) :
    PS X (.Assign [.Name x p] e pos) (tS K W (evS Γ (.asgOwn i j))) := psImp (ps_set hN hi hx he hs hf) fun D σ H ⟨M, G, s, hh, hst, h⟩ => by
  rw [evS] at h
  refine ⟨M, G, s, hh, hst, R.wp_mono (Post.wp hh hst h) (fun v G1 k => ?_) fun _ _ x => x⟩
  cases v with
  | lst xs =>
    refine ⟨xs, rfl, fun M1 a vs H1 l1 hn n => ?_⟩
    by_cases hl : i < s.length
    · obtain ⟨M2, q1, q2, q3⟩ := own_new hl hh.ok hst l1 hn n
      exact k M2 H1 _ q1 q2 q3
    · have e1 : s.set i (.own xs) = s := List.set_eq_of_length_le (Nat.le_of_not_lt hl)
      have e2 : σ.set i (some (V.ref a)) = σ := List.set_eq_of_length_le (by rw [← hst.len]; exact Nat.le_of_not_lt hl)
      have k : Post K W M H D (.next (s.set i (.own xs)) G1) := k
      rw [e1] at k
      show D.nx (σ.set i (some (V.ref a))) H1
      rw [e2]
      exact k M1 H1 σ l1.since (n.val hh.ok l1 hn).1 (hst.later hh.ok l1)
  | _ => exact k.elim
theorem own_write {M : Mp} {H : Hp} {G : Heap} {s : Store} {st : L2.St} {k : Nat} {a : Addr} {xs ys : List Val} {us : List V} (hh : HeapR K M G H) (hst : StoreR K M H s st) (e : s.getD k .no = .own xs) (hs : st[k]? = some (some (.ref a))) (ho : M.ow k = some a) (r : Rls K M H ys us) :
    Since M H M (upd H a (.lst us)) ∧ HeapR K M G (upd H a (.lst us)) ∧ StoreR K M (upd H a (.lst us)) (s.set k (.own ys)) st := by
  have ok := hh.ok
  obtain ⟨oa, hoa⟩ := ok.oth k a ho
  have ext : Ext M H M (upd H a (.lst us)) := ⟨⟨[], by simp⟩, fun _ h => .inl h, fun b ob h q => by rw [upd_ne (fun z => h (.inr (.inl ⟨k, by rw [z]; exact ho⟩)))]; exact q⟩
  have th : ∀ b o, H b = some o → ∃ o', upd H a (.lst us) b = some o' := fun b o q => by
    by_cases z : b = a
    · exact ⟨_, by rw [z]; exact upd_same⟩
    · exact ⟨o, by rw [upd_ne z]; exact q⟩
  refine ⟨⟨⟨[], by simp, fun _ h => nomatch h⟩, fun _ h => h, fun _ h => .inl h, fun _ h => .inl h, fun b o h q => by rw [upd_ne (fun z => h (.inr ⟨k, by rw [z]; exact ho⟩))]; exact q, th⟩,
    ⟨⟨ok.nodup, ok.d1, ok.d2, ok.d3, ok.oin, fun i b h => let ⟨o, q⟩ := ok.oth i b h; th b o q, fun b h => let ⟨o, q⟩ := ok.xth b h; th b o q⟩, hh.len, fun n b ob h1 h2 => ?_⟩, by rw [List.length_set, hst.len], fun j => ?_⟩
  · have nb : b ≠ a := fun z => ok.d1 k a ho (by rw [← z]; exact List.mem_of_getElem? h1)
    have := hh.obj n b ob h1 h2
    cases ob with
    | lst zs => obtain ⟨ws, q, t⟩ := this; exact ⟨ws, by rw [upd_ne nb]; exact q, t.ext ext⟩
  · rw [getD_set]
    split
    · rename_i h
      obtain ⟨rfl, _⟩ := h
      exact ⟨a, us, hs, ho, upd_same, r.ext ext⟩
    · rename_i h
      have q := hst.at_ j
      have nk : ∀ zs, s.getD j .no = .own zs → j ≠ k := fun zs z zz => by
        subst zz
        have : ¬ j < s.length := fun q => h ⟨rfl, q⟩
        rw [List.getD_eq_getElem?_getD, List.getElem?_eq_none (Nat.le_of_not_lt this)] at z
        cases z
      revert q nk
      cases s.getD j .no with
      | no => exact fun _ _ => trivial
      | val v => exact fun ⟨u, e1, q⟩ _ => ⟨u, e1, q.ext ext⟩
      | own zs => exact fun ⟨b, ws, e1, w, q, t⟩ nk => ⟨b, ws, e1, w, by rw [upd_ne (fun z => nk zs rfl (ok.oin j k a (by rw [← z]; exact w) ho))]; exact q, t.ext ext⟩
      | frz zs => exact fun ⟨b, ws, e1, w, q, t⟩ _ => ⟨b, ws, e1, w, by rw [upd_ne (fun z => ok.d3 k a ho (by rw [← z]; exact w))]; exact q, t.ext ext⟩
/-- .. a list of the heap -/
theorem ref_write {M : Mp} {H : Hp} {G : Heap} {s : Store} {st : L2.St} {n : Nat} {a : Addr} {xs ys : List Val} {us : List V} (hh : HeapR K M G H) (hst : StoreR K M H s st) (e : G[n]? = some (.lst xs)) (hφ : M.φ[n]? = some a) (r : Rls K M H ys us) :
    Since M H M (upd H a (.lst us)) ∧ HeapR K M (G.set n (.lst ys)) (upd H a (.lst us)) ∧ StoreR K M (upd H a (.lst us)) s st := by
  have ok := hh.ok
  have ma : a ∈ M.φ := List.mem_of_getElem? hφ
  have ext : Ext M H M (upd H a (.lst us)) := ⟨⟨[], by simp⟩, fun _ h => .inl h, fun b ob h q => by rw [upd_ne (fun z => h (.inl (by rw [z]; exact ma)))]; exact q⟩
  have th : ∀ b o, H b = some o → ∃ o', upd H a (.lst us) b = some o' := fun b o q => by
    by_cases z : b = a
    · exact ⟨_, by rw [z]; exact upd_same⟩
    · exact ⟨o, by rw [upd_ne z]; exact q⟩
  refine ⟨⟨⟨[], by simp, fun _ h => nomatch h⟩, fun _ h => h, fun _ h => .inl h, fun _ h => .inl h, fun b o h q => by rw [upd_ne (fun z => h (.inl (by rw [z]; exact ma)))]; exact q, th⟩,
    ⟨⟨ok.nodup, ok.d1, ok.d2, ok.d3, ok.oin, fun i b h => let ⟨o, q⟩ := ok.oth i b h; th b o q, fun b h => let ⟨o, q⟩ := ok.xth b h; th b o q⟩, by rw [List.length_set]; exact hh.len, fun m b ob h1 h2 => ?_⟩, hst.len, fun j => ?_⟩
  · by_cases hm : m = n
    · subst hm
      rw [hφ] at h1
      cases h1
      rw [List.getElem?_set_self (List.getElem?_eq_some_iff.mp e).1] at h2
      cases h2
      exact ⟨us, upd_same, r.ext ext⟩
    · rw [List.getElem?_set_ne (Ne.symm hm)] at h2
      have nb : b ≠ a := fun z => by
        subst z
        obtain ⟨z1, e1⟩ := List.getElem?_eq_some_iff.mp h1
        obtain ⟨z2, e2⟩ := List.getElem?_eq_some_iff.mp hφ
        exact hm ((List.getElem_inj ok.nodup).mp (e1.trans e2.symm))
      have := hh.obj m b ob h1 h2
      cases ob with
      | lst zs => obtain ⟨ws, q, t⟩ := this; exact ⟨ws, by rw [upd_ne nb]; exact q, t.ext ext⟩
  · have q := hst.at_ j
    revert q
    cases s.getD j .no with
    | no => exact fun _ => trivial
    | val v => exact fun ⟨u, e1, q⟩ => ⟨u, e1, q.ext ext⟩
    | own zs => exact fun ⟨b, ws, e1, w, q, t⟩ => ⟨b, ws, e1, w, by rw [upd_ne (fun z => ok.d1 j b w (by rw [z]; exact ma))]; exact q, t.ext ext⟩
    | frz zs => exact fun ⟨b, ws, e1, w, q, t⟩ => ⟨b, ws, e1, w, by rw [upd_ne (fun z => ok.d2 b w (by rw [z]; exact ma))]; exact q, t.ext ext⟩
theorem appRule {o e : Expr} {to : L2.TE} {t : L2.TA} {apos cpos : Pos} (ho : PE X o to) (ha : PA X [e] t) (hbase : attributeBase o ("append" : Str) X.env (eval o X.env) = eval o X.env)
    (hfew : ((backTo cpos (starEach [e] X.env)).all (fun x => !x.1) && (backToKw cpos (keywordEach [] X.env)).all (fun x => x.1.isSome)
      && decide ([e].length + ([] : List Keyword).length + (if ([] : List Keyword).isEmpty then 0 else 1) < 30)) = true)
    (hline : (apos.endLine == cpos.line) = true) (hs : starEach [e] X.env = (false, eval e X.env) :: starEach [] X.env) (hplain : (backTo cpos (starEach [] X.env)).any (·.1) = false) :
    PE X (.Call (.Attribute o ("append" : Str) apos) [e] [] cpos) (tBM X.K "list" rAppend to t) :=
  pe_bm PySem.F.plainAttrs_list PySem.F.slot_list_append PySem.F.type_list_append mt_append ho ha hbase hfew hline hs hplain
end Fx

namespace Fx
open PySem PySem.Spec PyProof.Rows L2
variable {X : Cx} {W : WX} {Γ : Calls}
/-- where an own slot's list is -/
theorem own_at {K : PySem.W.Frag} {M : Mp} {H : Hp} {s : Store} {st : L2.St} {k : Nat} {xs : List Val} (hst : StoreR K M H s st) (e : s.getD k .no = .own xs) : ∃ a vs, st[k]? = some (some (.ref a)) ∧ M.ow k = some a ∧ H a = some (.lst vs) ∧ Rls K M H xs vs := by
  have h := hst.at_ k
  rw [e] at h
  exact h
theorem sz_line {n : Nat} (h : n < lineN) : n < sizeLine := by rw [← lineN_eq]; exact h
/-- x.append(e), x a list of one's own -/
theorem ps_appK {k : Nat} {x : Str} {p apos cpos pos : Pos} {e : Expr} {i : E} (hN : X.N[k]? = some x) (hv : Vis X.env.scope x) (hd : (x == ("__debug__" : Str)) = false) (hcd : (x == ("__classdict__" : Str)) = false) (he : PE X e (tE X.K W (evE Γ i)))
    (hfew : ((backTo cpos (starEach [e] X.env)).all (fun x => !x.1) && (backToKw cpos (keywordEach [] X.env)).all (fun x => x.1.isSome)
      && decide ([e].length + ([] : List Keyword).length + (if ([] : List Keyword).isEmpty then 0 else 1) < 30)) = true)
    (hline : (apos.endLine == cpos.line) = true) (hs : starEach [e] X.env = (false, eval e X.env) :: starEach [] X.env) (hplain : (backTo cpos (starEach [] X.env)).any (·.1) = false) :
    PS X (.Expr (.Call (.Attribute (.Name x p) ("append" : Str) apos) [e] [] cpos) pos) (tS X.K W (evS Γ (.app k i))) :=
  psImp (ps_expr (appRule (pe_var hN hv hd hcd) (pa_cons he pa_nil hs) rfl hfew hline hs hplain) rfl) fun D σ H ⟨M, G, s, hh, hst, h⟩ => by
    rw [evS] at h
    cases q : s.getD k .no with
    | own xs =>
      rw [q] at h
      have h := Post.wp hh hst h
      obtain ⟨a, vs, e1, o, ha, t⟩ := own_at hst q
      refine ⟨.ref a, e1, .inl ⟨rfl, vs, .of ha⟩, M, G, s, hh, hst, R.wp_mono h (fun v G1 h M1 u H1 l1 hh1 r1 => ?_) fun _ _ x => x⟩
      split at h
      · rename_i hz
        have hst1 := hst.later hh.ok l1
        obtain ⟨a', vs', e1', o', ha', t'⟩ := own_at hst1 q
        rw [e1] at e1'
        cases e1'
        obtain ⟨w1, w2, w3⟩ := own_write hh1 hst1 q e1 o' (t'.append (.cons r1 .nil))
        exact ⟨a, vs', u, rfl, rfl, ha', by rw [← t'.length]; exact sz_line hz, h M1 _ σ (l1.since.trans w1) w2 w3⟩
      · exact h.elim
    | _ => rw [q] at h; exact h.elim
/-- x.extend(e), both lists -/
theorem ps_extK {k : Nat} {x : Str} {p apos cpos pos : Pos} {e : Expr} {i : E} (hN : X.N[k]? = some x) (hv : Vis X.env.scope x) (hd : (x == ("__debug__" : Str)) = false) (hcd : (x == ("__classdict__" : Str)) = false) (he : PE X e (tE X.K W (evE Γ i)))
    (hfew : ((backTo cpos (starEach [e] X.env)).all (fun x => !x.1) && (backToKw cpos (keywordEach [] X.env)).all (fun x => x.1.isSome)
      && decide ([e].length + ([] : List Keyword).length + (if ([] : List Keyword).isEmpty then 0 else 1) < 30)) = true)
    (hline : (apos.endLine == cpos.line) = true) (hs : starEach [e] X.env = (false, eval e X.env) :: starEach [] X.env) (hplain : (backTo cpos (starEach [] X.env)).any (·.1) = false) :
    PS X (.Expr (.Call (.Attribute (.Name x p) ("extend" : Str) apos) [e] [] cpos) pos) (tS X.K W (evS Γ (.extO k i))) :=
  psImp (ps_expr (pe_bm PySem.F.plainAttrs_list PySem.F.slot_list_extend PySem.F.type_list_extend mt_extend (pe_var hN hv hd hcd) (pa_cons he pa_nil hs) rfl hfew hline hs hplain) rfl) fun D σ H ⟨M, G, s, hh, hst, h⟩ => by
    rw [evS] at h
    cases q : s.getD k .no with
    | own xs =>
      rw [q] at h
      have h := Post.wp hh hst h
      obtain ⟨a, vs, e1, o, ha, t⟩ := own_at hst q
      refine ⟨.ref a, e1, .inl ⟨rfl, vs, .of ha⟩, M, G, s, hh, hst, R.wp_mono h (fun v G1 h M1 u H1 l1 hh1 r1 => ?_) fun _ _ x => x⟩
      cases v with
      | lst ys =>
        have h : Post X.K W M H D (if xs.length + ys.length ≤ lineN then .next (s.set k (.own (xs ++ ys))) G1 else .no) := h
        split at h
        · rename_i hz
          have hst1 := hst.later hh.ok l1
          obtain ⟨a', vs', e1', o', ha', t'⟩ := own_at hst1 q
          rw [e1] at e1'
          cases e1'
          cases r1 with
          | lst hx hb tb =>
            obtain ⟨w1, w2, w3⟩ := own_write hh1 hst1 q e1 o' (t'.append tb)
            exact ⟨a, _, vs', _, rfl, rfl, ha', hb, by rw [← t'.length, ← tb.length, ← lineN_eq]; exact hz, h M1 _ σ (l1.since.trans w1) w2 w3⟩
        · exact h.elim
      | _ => exact h.elim
    | _ => rw [q] at h; exact h.elim
/-- o.append(e), o a list of the heap -/
theorem ps_appRK {o e : Expr} {i j : E} {apos cpos pos : Pos} (ho : PE X o (tE X.K W (evE Γ i))) (he : PE X e (tE X.K W (evE Γ j))) (hbase : attributeBase o ("append" : Str) X.env (eval o X.env) = eval o X.env)
    (hfew : ((backTo cpos (starEach [e] X.env)).all (fun x => !x.1) && (backToKw cpos (keywordEach [] X.env)).all (fun x => x.1.isSome)
      && decide ([e].length + ([] : List Keyword).length + (if ([] : List Keyword).isEmpty then 0 else 1) < 30)) = true)
    (hline : (apos.endLine == cpos.line) = true) (hs : starEach [e] X.env = (false, eval e X.env) :: starEach [] X.env) (hplain : (backTo cpos (starEach [] X.env)).any (·.1) = false) :
    PS X (.Expr (.Call (.Attribute o ("append" : Str) apos) [e] [] cpos) pos) (tS X.K W (evS Γ (.appR i j))) :=
  psImp (ps_expr (appRule ho (pa_cons he pa_nil hs) hbase hfew hline hs hplain) rfl) fun D σ H ⟨M, G, s, hh, hst, h⟩ => by
    rw [evS] at h
    refine ⟨M, G, s, hh, hst, R.wp_mono (Post.wp hh hst h) (fun ov G1 h M1 u1 H1 l1 hh1 r1 => ?_) fun _ _ x => x⟩
    have hst1 := hst.later hh.ok l1
    cases q : rd G1 ov with
    | lst zs =>
      rw [q] at h
      obtain ⟨a, vs, rfl, ha, t⟩ := (show RlD X.K M1 H1 (.lst zs) u1 by rw [← q]; exact RlD.rd (.inl r1) hh1).lst
      refine ⟨.inl ⟨rfl, vs, .of ha⟩, M1, G1, s, hh1, hst1, R.wp_mono (Post.wp hh1 hst1 (h.mono l1.since)) (fun v G2 h M2 u H2 l2 hh2 r2 => ?_) fun _ _ x => x⟩
      cases ov with
      | ref n =>
        have h : Post X.K W M1 H1 D (match G2[n]? with
          | some (.lst xs) => if xs.length < lineN then .next s (G2.set n (.lst (xs ++ [v]))) else .no
          | _ => .no) := h
        cases q2 : G2[n]? with
        | none => rw [q2] at h; exact h.elim
        | some ob =>
          cases ob with
          | lst xs =>
            rw [q2] at h
            have h : Post X.K W M1 H1 D (if xs.length < lineN then .next s (G2.set n (.lst (xs ++ [v]))) else .no) := h
            split at h
            · rename_i hz
              have r1' := r1.later l2
              cases r1' with
              | ref hφ =>
                obtain ⟨ws, hb, tb⟩ := hh2.obj n a _ hφ q2
                obtain ⟨w1, w2, w3⟩ := ref_write hh2 (hst1.later hh1.ok l2) q2 hφ (tb.append (.cons r2 .nil))
                exact ⟨a, ws, u, rfl, rfl, hb, by rw [← tb.length]; exact sz_line hz, h M2 _ σ (l2.since.trans w1) w2 w3⟩
            · exact h.elim
      | _ => exact h.elim
    | _ => rw [q] at h; exact h.elim
theorem last_rls {K : PySem.W.Frag} {M : Mp} {H : Hp} {xs : List Val} {vs : List V} {x : Val} (t : Rls K M H xs vs) (e : xs[xs.length - 1]? = some x) : ∃ u, vs[vs.length - 1]? = some u ∧ Rl K M H x u := by
  rw [← t.length]
  exact t.get e
theorem dropLast_rls {K : PySem.W.Frag} {M : Mp} {H : Hp} {xs : List Val} {vs : List V} (t : Rls K M H xs vs) : Rls K M H xs.dropLast vs.dropLast := by
  rw [List.dropLast_eq_take, List.dropLast_eq_take, t.length]
  exact t.take _
theorem ps_popK {k : Nat} {x : Str} {p apos cpos pos : Pos} (hN : X.N[k]? = some x) (hv : Vis X.env.scope x) (hd : (x == ("__debug__" : Str)) = false) (hcd : (x == ("__classdict__" : Str)) = false) (hline : (apos.endLine == cpos.line) = true) :
    PS X (.Expr (.Call (.Attribute (.Name x p) ("pop" : Str) apos) [] [] cpos) pos) (tS X.K W (evS Γ (.popO k))) :=
  psImp (ps_expr (pe_bm0 PySem.F.plainAttrs_list PySem.F.slot_list_pop PySem.F.type_list_pop mt_pop (pe_var hN hv hd hcd) rfl hline) rfl) fun D σ H ⟨M, G, s, hh, hst, h⟩ => by
    rw [evS] at h
    cases q : s.getD k .no with
    | own xs =>
      rw [q] at h
      obtain ⟨a, vs, e1, o, ha, t⟩ := own_at hst q
      have h : Post X.K W M H D (match xs[xs.length - 1]? with
        | some _ => .next (s.set k (.own xs.dropLast)) G
        | none => .no) := h
      cases q2 : xs[xs.length - 1]? with
      | none => rw [q2] at h; exact h.elim
      | some y =>
        rw [q2] at h
        obtain ⟨u, hu, ru⟩ := last_rls t q2
        obtain ⟨w1, w2, w3⟩ := own_write hh hst q e1 o (dropLast_rls t)
        exact ⟨.ref a, e1, .inl ⟨rfl, vs, .of ha⟩, a, vs, u, rfl, rfl, ha, hu, h M _ σ w1 w2 w3⟩
    | _ => rw [q] at h; exact h.elim
theorem ps_popT {k : Nat} {x : Str} {tg : Expr} {t : Tg} {p apos cpos pos : Pos} (hN : X.N[k]? = some x) (hv : Vis X.env.scope x) (hd : (x == ("__debug__" : Str)) = false) (hcd : (x == ("__classdict__" : Str)) = false) (hline : (apos.endLine == cpos.line) = true) (hg : PG X tg (gT X.K t))
    (hs : swapsWithSole [tg] (.Call (.Attribute (.Name x p) ("pop" : Str) apos) [] [] cpos) pos.line X.env = pure false) (hw : swappedStores [tg] (.Call (.Attribute (.Name x p) ("pop" : Str) apos) [] [] cpos) X.env = pure none) (h1 : (assignEach [tg] X.env).map (·.2) = [assign tg X.env]) :
    PS X (.Assign [tg] (.Call (.Attribute (.Name x p) ("pop" : Str) apos) [] [] cpos) pos) (tS X.K W (evS Γ (.popT t k))) :=
  psImp (ps_asg (pe_bm0 PySem.F.plainAttrs_list PySem.F.slot_list_pop PySem.F.type_list_pop mt_pop (pe_var hN hv hd hcd) rfl hline) hg hs hw h1) fun D σ H ⟨M, G, s, hh, hst, h⟩ => by
    rw [evS] at h
    cases q : s.getD k .no with
    | own xs =>
      rw [q] at h
      obtain ⟨a, vs, e1, o, ha, t⟩ := own_at hst q
      have h : Post X.K W M H D (match xs[xs.length - 1]? with
        | some y => (R.opt (setT _ y (s.set k (.own xs.dropLast))) G).thenS s .next
        | none => .no) := h
      cases q2 : xs[xs.length - 1]? with
      | none => rw [q2] at h; exact h.elim
      | some y =>
        rw [q2] at h
        obtain ⟨u, hu, ru⟩ := last_rls t q2
        obtain ⟨w1, w2, w3⟩ := own_write hh hst q e1 o (dropLast_rls t)
        obtain ⟨s1, e2, h⟩ := Post.opt h
        exact ⟨.ref a, e1, .inl ⟨rfl, vs, .of ha⟩, a, vs, u, rfl, rfl, ha, hu, M, G, _, y, s1, w2, w3, ru.since w1, e2, fun st' hst' _ => h M _ st' w1 w2 hst'⟩
    | _ => rw [q] at h; exact h.elim
theorem ps_augK {i : Nat} {x : Str} {e : Expr} {op : Operator} {j : E} {p pos : Pos} (hop : op = .Add ∨ op = .Sub) (hN : X.N.Nodup) (hi : X.N[i]? = some x) (hx : Loc X.env.scope x) (he : PE X e (tE X.K W (evE Γ j))) (hf : X.fn x = true ∨ X.env.scope.names.lookup x = some .local) :
    PS X (.AugAssign (.Name x p) op e pos) (tS X.K W (evS Γ (.aug i op j))) := by
  have main : ∀ (f : Int → Int → Int), PIp X op (ipI f) → (∀ (s : Store) (G : Heap) a b, evS Γ (.aug i op j) s G = match s.getD i .no with
      | .val (.int a) => (evE Γ j s G).thenS s fun v G1 => match v with
        | .int b => .next (s.set i (.val (.int (f a b)))) G1
        | _ => .no
      | _ => .no) → PS X (.AugAssign (.Name x p) op e pos) (tS X.K W (evS Γ (.aug i op j))) := fun f hp hev => psImp (ps_aug hN hi hx he hp hf) fun D σ H ⟨M, G, s, hh, hst, h⟩ => by
    rw [hev s G 0 0] at h
    cases q : s.getD i .no with
    | val w =>
      rw [q] at h
      cases w with
      | int a =>
        have h := Post.wp hh hst h
        have hs := hst.at_ i
        rw [q] at hs
        obtain ⟨u0, e0, r0⟩ := hs
        cases r0
        refine ⟨_, e0, M, G, s, hh, hst, R.wp_mono h (fun v G1 h M1 u H1 l1 hh1 r1 => ?_) fun _ _ x => x⟩
        cases v with
        | int b =>
          cases r1
          exact ⟨a, b, rfl, rfl, h M1 H1 _ l1.since hh1 ((hst.later hh.ok l1).setVal i (.int _))⟩
        | _ => exact h.elim
      | _ => exact h.elim
    | _ => rw [q] at h; exact h.elim
  rcases hop with rfl | rfl
  · refine main (fun a b => a + b) ip_add fun s G _ _ => ?_
    rw [evS]
    cases s.getD i .no with
    | val w => cases w <;> first | rfl | exact congrArg (R.thenS _ s) (funext fun v => funext fun G1 => by cases v <;> rfl)
    | _ => rfl
  · refine main (fun a b => a - b) ip_sub fun s G _ _ => ?_
    rw [evS]
    cases s.getD i .no with
    | val w => cases w <;> first | rfl | exact congrArg (R.thenS _ s) (funext fun v => funext fun G1 => by cases v <;> rfl)
    | _ => rfl
end Fx

namespace Fx
open PySem PySem.Spec PyProof.Rows L2
variable {X : Cx} {W : WX} {Γ : Calls}
theorem pe_stopK {e : Expr} : PE X e (tE X.K W (evE Γ .stop)) := ⟨fun pins s σ H Q I ⟨M, G, st, hh, hst, hm⟩ => by rw [evE] at hm; exact hm.elim⟩
theorem pt_stopK {e : Expr} : PT X e (tT X.K W (evE Γ .stop)) := ⟨fun pins s σ H Q I ⟨M, G, st, hh, hst, hm⟩ => by rw [evE] at hm; exact hm.elim⟩
theorem ps_stopK {e : Stmt} : PS X e (tS X.K W (evS Γ .stop)) := ⟨fun pins s σ H Q I ⟨M, G, st, hh, hst, hm⟩ => by rw [evS] at hm; exact hm.elim⟩
theorem setK_some {xs ys : List Val} {i v : Val} (h : setK xs i v = some ys) : ∃ k j, i = .int k ∧ ixN xs.length k = some j ∧ ys = xs.set j v := by
  cases i with
  | int k =>
    have h : (ixN xs.length k).map (fun j => xs.set j v) = some ys := h
    cases q : ixN xs.length k with
    | none => rw [q] at h; cases h
    | some j => rw [q] at h; cases h; exact ⟨k, j, rfl, q, rfl⟩
  | _ => cases h
theorem setRef_some {o i v : Val} {G G' : Heap} (h : setRef o i v G = some G') : ∃ n xs k j, o = .ref n ∧ G[n]? = some (.lst xs) ∧ i = .int k ∧ ixN xs.length k = some j ∧ G' = G.set n (.lst (xs.set j v)) := by
  cases o with
  | ref n =>
    have h : (match G[n]? with | some (.lst xs) => (setK xs i v).map fun ys => G.set n (.lst ys) | _ => none) = some G' := h
    cases q : G[n]? with
    | none => rw [q] at h; cases h
    | some ob =>
      cases ob with
      | lst xs =>
        rw [q] at h
        have h : (setK xs i v).map (fun ys => G.set n (.lst ys)) = some G' := h
        cases q2 : setK xs i v with
        | none => rw [q2] at h; cases h
        | some ys =>
          rw [q2] at h
          cases h
          obtain ⟨k, j, e1, e2, e3⟩ := setK_some q2
          exact ⟨n, xs, k, j, rfl, q, e1, e2, by rw [e3]⟩
  | _ => cases h
theorem setOwn_some {k : Nat} {i v : Val} {s s' : Store} (h : setOwn k i v s = some s') : ∃ xs n j, s.getD k .no = .own xs ∧ i = .int n ∧ ixN xs.length n = some j ∧ s' = s.set k (.own (xs.set j v)) := by
  unfold setOwn at h
  cases q : s.getD k .no with
  | own xs =>
    rw [q] at h
    have h : (setK xs i v).map (fun ys => s.set k (.own ys)) = some s' := h
    cases q2 : setK xs i v with
    | none => rw [q2] at h; cases h
    | some ys =>
      rw [q2] at h
      cases h
      obtain ⟨n, j, e1, e2, e3⟩ := setK_some q2
      exact ⟨xs, n, j, rfl, e1, e2, by rw [e3]⟩
  | _ => rw [q] at h; cases h
/-- o[i] = e, o a list of the heap -/
theorem ps_setRK {o i e : Expr} {jo ji je : E} {p pos : Pos} (he : PE X e (tE X.K W (evE Γ je))) (ho : PE X o (tE X.K W (evE Γ jo))) (hi : PE X i (tE X.K W (evE Γ ji))) (hs : swapsWithSole [.Subscript o i p] e pos.line X.env = pure false) (hw : swappedStores [.Subscript o i p] e X.env = pure none)
    (h1 : (assignEach [.Subscript o i p] X.env).map (·.2) = [assign (.Subscript o i p) X.env])
    (ha : ∀ v, assign (.Subscript o i p) X.env v = (do
      let ov ← holding [v] (eval o X.env)
      let iv ← holding [v, ov] (eval i X.env)
      standAt p
      holding [v, ov, iv] (setItem ov iv v)
      release [v, ov, iv] [])) :
    PS X (.Assign [.Subscript o i p] e pos) (tS X.K W (evS Γ (.setR jo ji je))) :=
  psImp (ps_asg he (pg_sub ho hi set_list ha) hs hw h1) fun D σ H ⟨M, G, s, hh, hst, h⟩ => by
    rw [evS] at h
    refine ⟨M, G, s, hh, hst, R.wp_mono (Post.wp hh hst h) (fun v G1 h M1 u H1 l1 hh1 r1 => ?_) fun _ _ x => x⟩
    have hst1 := hst.later hh.ok l1
    refine ⟨M1, G1, s, hh1, hst1, R.wp_mono (Post.wp hh1 hst1 (h.mono l1.since)) (fun ov G2 h M2 uo H2 l2 hh2 r2 => ?_) fun _ _ x => x⟩
    have hst2 := hst1.later hh1.ok l2
    refine ⟨M2, G2, s, hh2, hst2, R.wp_mono (Post.wp hh2 hst2 (h.mono l2.since)) (fun iv G3 h M3 ui H3 l3 hh3 r3 => ?_) fun _ _ x => x⟩
    have hst3 := hst2.later hh2.ok l3
    cases q : setRef ov iv v G3 with
    | none =>
      have h : Post X.K W M2 H2 D (match setRef ov iv v G3 with | some G4 => .next s G4 | none => .no) := h
      rw [q] at h; exact h.elim
    | some G4 =>
      have h : Post X.K W M2 H2 D (match setRef ov iv v G3 with | some G4 => .next s G4 | none => .no) := h
      rw [q] at h
      obtain ⟨n, xs, k, j, rfl, e1, rfl, e2, rfl⟩ := setRef_some q
      have r2' := r2.later l3
      cases r2' with
      | ref hφ =>
        obtain ⟨ws, hb, tb⟩ := hh3.obj n _ _ hφ e1
        cases r3
        obtain ⟨w1, w2, w3⟩ := ref_write hh3 hst3 e1 hφ (tb.set ((r1.later l2).later l3) j)
        exact ⟨_, ws, k, j, rfl, rfl, hb, by rw [← tb.length]; exact e2, (h.mono l3.since) M3 _ σ w1 w2 w3⟩
/-- x[i] = e, x a list of one's own -/
theorem ps_setOK {k : Nat} {x : Str} {i e : Expr} {ji je : E} {px p pos : Pos} (hN : X.N[k]? = some x) (hv : Vis X.env.scope x) (hd : (x == ("__debug__" : Str)) = false) (hcd : (x == ("__classdict__" : Str)) = false) (he : PE X e (tE X.K W (evE Γ je))) (hi : PE X i (tE X.K W (evE Γ ji))) (hs : swapsWithSole [.Subscript (.Name x px) i p] e pos.line X.env = pure false) (hw : swappedStores [.Subscript (.Name x px) i p] e X.env = pure none)
    (h1 : (assignEach [.Subscript (.Name x px) i p] X.env).map (·.2) = [assign (.Subscript (.Name x px) i p) X.env])
    (ha : ∀ v, assign (.Subscript (.Name x px) i p) X.env v = (do
      let ov ← holding [v] (eval (.Name x px) X.env)
      let iv ← holding [v, ov] (eval i X.env)
      standAt p
      holding [v, ov, iv] (setItem ov iv v)
      release [v, ov, iv] [])) :
    PS X (.Assign [.Subscript (.Name x px) i p] e pos) (tS X.K W (evS Γ (.setO k ji je))) :=
  psImp (ps_asg he (pg_sub (pe_var hN hv hd hcd) hi set_list ha) hs hw h1) fun D σ H ⟨M, G, s, hh, hst, h⟩ => by
    rw [evS] at h
    refine ⟨M, G, s, hh, hst, R.wp_mono (Post.wp hh hst h) (fun v G1 h M1 u H1 l1 hh1 r1 => ?_) fun _ _ x => x⟩
    have hst1 := hst.later hh.ok l1
    have h := h.mono l1.since
    cases q0 : s.getD k .no with
    | own ys =>
      rw [q0] at h
      have h : Post X.K W M1 H1 D ((evE Γ ji s G1).thenS s fun iv G2 => match setOwn k iv v s with
        | some s1 => .next s1 G2
        | none => .no) := h
      obtain ⟨a, vs, e0, _, _, _⟩ := own_at hst1 q0
      refine ⟨.ref a, e0, M1, G1, s, hh1, hst1, R.wp_mono (Post.wp hh1 hst1 h) (fun iv G3 h M3 ui H3 l3 hh3 r3 => ?_) fun _ _ x => x⟩
      have hst3 := hst1.later hh1.ok l3
      cases q : setOwn k iv v s with
      | none => rw [q] at h; exact h.elim
      | some s4 =>
        rw [q] at h
        obtain ⟨xs, n, j, e1, rfl, e2, rfl⟩ := setOwn_some q
        obtain ⟨b, ws, e4, o, hb, tb⟩ := own_at hst3 e1
        rw [e0] at e4
        cases e4
        cases r3
        obtain ⟨w1, w2, w3⟩ := own_write hh3 hst3 e1 e0 o (tb.set (r1.later l3) j)
        exact ⟨_, ws, n, j, rfl, rfl, hb, by rw [← tb.length]; exact e2, (h.mono l3.since) M3 _ σ w1 w2 w3⟩
    | _ => rw [q0] at h; exact h.elim
def gPs (K : PySem.W.Frag) (Γ : Calls) (ts : PTgs) : TGs := fun vs σ H Q => ∃ M G s xs, HeapR K M G H ∧ StoreR K M H s σ ∧ Rls K M H xs vs ∧
  (evPTgs Γ ts xs s G).wp (fun s1 G1 => ∀ M' H' st', Since M H M' H' → HeapR K M' G1 H' → StoreR K M' H' s1 st' → Q st' H') fun _ _ => False
theorem pgs_nilP : PGs X [] (gPs X.K Γ .nil) := pgsImp pgs_nil fun v σ H Q ⟨M, G, s, xs, hh, hst, r, h⟩ => by
  cases xs with
  | nil => cases r; exact ⟨rfl, h M H σ (Since.refl _ _) hh hst⟩
  | cons _ _ => exact h.elim
theorem XW.no {M : Mp} {H : Hp} {st : L2.St} {e : Exc} {G : Heap} (h : False) : XW X.K W M H st e G := h.elim
theorem pgs_nameP {i : Nat} {x : Str} {p : Pos} {es : List Expr} {ts : PTgs} (hN : X.N.Nodup) (hi : X.N[i]? = some x) (hx : Loc X.env.scope x) (hf : X.fn x = true ∨ X.env.scope.names.lookup x = some .local) (h2 : PGs X es (gPs X.K Γ ts))
    (hs : (assignEach (.Name x p :: es) X.env).map (·.2) = assign (.Name x p) X.env :: (assignEach es X.env).map (·.2)) : PGs X (.Name x p :: es) (gPs X.K Γ (.cons (.name i) ts)) :=
  pgsImp (pgs_cons (pg_name hN hi hx hf) h2 hs) fun v σ H Q ⟨M, G, s, xs, hh, hst, r, h⟩ => by
    cases xs with
    | nil => exact h.elim
    | cons y ys =>
      cases r with
      | cons r rr => exact ⟨_, _, rfl, M, G, _, ys, hh, hst.setVal i r, rr, h⟩
theorem pgs_itemP {o i : Expr} {jo ji : E} {p : Pos} {es : List Expr} {ts : PTgs} (ho : PE X o (tE X.K W (evE Γ jo))) (hi : PE X i (tE X.K W (evE Γ ji))) (h2 : PGs X es (gPs X.K Γ ts))
    (hs : (assignEach (.Subscript o i p :: es) X.env).map (·.2) = assign (.Subscript o i p) X.env :: (assignEach es X.env).map (·.2))
    (ha : ∀ v, assign (.Subscript o i p) X.env v = (do
      let ov ← holding [v] (eval o X.env)
      let iv ← holding [v, ov] (eval i X.env)
      standAt p
      holding [v, ov, iv] (setItem ov iv v)
      release [v, ov, iv] [])) : PGs X (.Subscript o i p :: es) (gPs X.K Γ (.cons (.item jo ji) ts)) :=
  pgsImp (pgs_cons (pg_sub ho hi set_list ha) h2 hs) fun v σ H Q ⟨M, G, s, xs, hh, hst, r, h⟩ => by
    cases xs with
    | nil => exact h.elim
    | cons y ys =>
      cases r with
      | cons r rr =>
        rw [evPTgs, R.wp_bind] at h
        refine ⟨_, _, rfl, M, G, s, hh, hst, R.wp_mono h (fun ov G1 h M1 uo H1 l1 hh1 r1 => ?_) fun _ _ z => z.elim⟩
        have hst1 := hst.later hh.ok l1
        rw [R.wp_bind] at h
        refine ⟨M1, G1, s, hh1, hst1, R.wp_mono h (fun iv G3 h M3 ui H3 l3 hh3 r3 => ?_) fun _ _ z => z.elim⟩
        have hst3 := hst1.later hh1.ok l3
        rw [R.wp_bind] at h
        obtain ⟨G4, q, h⟩ := R.wp_opt h
        obtain ⟨n, zs, k, j, rfl, e1, rfl, e2, rfl⟩ := setRef_some q
        have r1' := r1.later l3
        cases r1' with
        | ref hφ =>
          obtain ⟨ws, hb, tb⟩ := hh3.obj n _ _ hφ e1
          cases r3
          have ry := (r.later l1).later l3
          obtain ⟨w1, w2, w3⟩ := ref_write hh3 hst3 e1 hφ (tb.set ry j)
          exact ⟨_, ws, k, j, rfl, rfl, hb, by rw [← tb.length]; exact e2, M3, _, s, ys, w2, w3, ((rr.later l1).later l3).since w1, R.wp_mono h (fun s1 G1 h M' H' st' l => h M' H' st' (((l1.trans l3).since.trans w1).trans l)) fun _ _ z => z⟩
theorem pgs_itemPO {k : Nat} {x : Str} {i : Expr} {ji : E} {px p : Pos} {es : List Expr} {ts : PTgs} (hN : X.N[k]? = some x) (hv : Vis X.env.scope x) (hd : (x == ("__debug__" : Str)) = false) (hcd : (x == ("__classdict__" : Str)) = false) (hi : PE X i (tE X.K W (evE Γ ji))) (h2 : PGs X es (gPs X.K Γ ts))
    (hs : (assignEach (.Subscript (.Name x px) i p :: es) X.env).map (·.2) = assign (.Subscript (.Name x px) i p) X.env :: (assignEach es X.env).map (·.2))
    (ha : ∀ v, assign (.Subscript (.Name x px) i p) X.env v = (do
      let ov ← holding [v] (eval (.Name x px) X.env)
      let iv ← holding [v, ov] (eval i X.env)
      standAt p
      holding [v, ov, iv] (setItem ov iv v)
      release [v, ov, iv] [])) : PGs X (.Subscript (.Name x px) i p :: es) (gPs X.K Γ (.cons (.itemO k ji) ts)) :=
  pgsImp (pgs_cons (pg_sub (pe_var hN hv hd hcd) hi set_list ha) h2 hs) fun v σ H Q ⟨M, G, s, xs, hh, hst, r, h⟩ => by
    cases xs with
    | nil => exact h.elim
    | cons y ys =>
      cases r with
      | cons r rr =>
        rw [evPTgs] at h
        cases q0 : s.getD k .no with
        | own zs =>
          rw [q0] at h
          have h : ((evE Γ ji s G).bind fun iv G2 => (R.opt (setOwn k iv y s) G2).bind fun s1 _ => evPTgs Γ ts ys s1 G2).wp _ _ := h
          rw [R.wp_bind] at h
          obtain ⟨a, vs, e0, _, _, _⟩ := own_at hst q0
          refine ⟨_, _, rfl, .ref a, e0, M, G, s, hh, hst, R.wp_mono h (fun iv G3 h M3 ui H3 l3 hh3 r3 => ?_) fun _ _ z => z.elim⟩
          have hst3 := hst.later hh.ok l3
          rw [R.wp_bind] at h
          obtain ⟨s4, q, h⟩ := R.wp_opt h
          obtain ⟨zs, n, j, e1, rfl, e2, rfl⟩ := setOwn_some q
          obtain ⟨b, ws, e4, o, hb, tb⟩ := own_at hst3 e1
          rw [e0] at e4
          cases e4
          cases r3
          obtain ⟨w1, w2, w3⟩ := own_write hh3 hst3 e1 e0 o (tb.set (r.later l3) j)
          exact ⟨_, ws, n, j, rfl, rfl, hb, by rw [← tb.length]; exact e2, M3, _, _, ys, w2, w3, (rr.later l3).since w1, R.wp_mono h (fun s1 G1 h M' H' st' l => h M' H' st' ((l3.since.trans w1).trans l)) fun _ _ z => z⟩
        | _ => rw [q0] at h; exact h.elim
def PTgs.len : PTgs → Nat
  | .nil => 0
  | .cons _ ts => ts.len + 1
theorem evP_len : ∀ {ts : PTgs} {xs : List Val} {s s1 : Store} {G G1 : Heap}, evPTgs Γ ts xs s G = .ok s1 G1 → xs.length = ts.len
  | .nil, [], _, _, _, _, _ => rfl
  | .nil, _ :: _, _, _, _, _, h => by rw [evPTgs] at h; cases h
  | .cons _ _, [], _, _, _, _, h => by rw [evPTgs] at h; cases h
  | .cons (.name i) ts, x :: xs, s, s1, _, _, h => by
    rw [evPTgs] at h
    rw [List.length_cons, evP_len h]; rfl
  | .cons (.item o i) ts, x :: xs, s, s1, _, _, h => by
    rw [evPTgs] at h
    obtain ⟨_, _, _, h⟩ := R.bind_eq_ok h
    obtain ⟨_, _, _, h⟩ := R.bind_eq_ok h
    obtain ⟨_, _, _, h⟩ := R.bind_eq_ok h
    rw [List.length_cons, evP_len h]; rfl
  | .cons (.itemO k i) ts, x :: xs, s, s1, _, _, h => by
    rw [evPTgs] at h
    split at h
    · obtain ⟨_, _, _, h⟩ := R.bind_eq_ok h
      obtain ⟨_, _, _, h⟩ := R.bind_eq_ok h
      rw [List.length_cons, evP_len h]; rfl
    · cases h
theorem ps_parK {es : List Expr} {k : Nat} {pt pos : Pos} {ts : PTgs} {e : Expr} {j : E} (hc : X.calm = true) (he : PE X e (tE X.K W (evE Γ j))) (hp : PGs X es (gPs X.K Γ ts)) (hn : (assignEach es X.env).length = ts.len) (hst : (assignEach es X.env).findIdx? (·.1) = none)
    (hs : swapsWithSole [.Tuple es k pt] e pos.line X.env = pure false) (hw : swappedStores [.Tuple es k pt] e X.env = pure none) (h1 : (assignEach [.Tuple es k pt] X.env).map (·.2) = [assign (.Tuple es k pt) X.env]) :
    PS X (.Assign [.Tuple es k pt] e pos) (tS X.K W (evS Γ (.par ts j))) :=
  psImp (ps_asg he (pg_tup hc hp hn hst) hs hw h1) fun D σ H ⟨M, G, s, hh, hst, h⟩ => by
    rw [evS] at h
    refine ⟨M, G, s, hh, hst, R.wp_mono (Post.wp hh hst h) (fun v G1 h M1 u H1 l1 hh1 r1 => ?_) fun _ _ x => x⟩
    have hst1 := hst.later hh.ok l1
    cases v with
    | tup xs =>
      have h : Post X.K W M H D ((evPTgs Γ ts xs s G1).calm.thenS s .next) := h
      obtain ⟨a, vs, rfl, h2, t⟩ := r1.tup
      cases q : evPTgs Γ ts xs s G1 with
      | no => rw [q] at h; exact h.elim
      | exc _ _ => rw [q] at h; exact h.elim
      | ok s1 G2 =>
        rw [q] at h
        refine ⟨a, vs, rfl, h2, by rw [← t.length, evP_len q], M1, G1, s, xs, hh1, hst1, t, ?_⟩
        rw [q]
        exact fun M' H' st' l hh' hst' => h M' H' st' (l1.since.trans l) hh' hst'
    | _ => exact h.elim
theorem comp_lst {ws : List Nat} {t : Tg} {it : Itx} {c e : E} {s : Store} {G G1 : Heap} {v : Val} (h : evE Γ (.comp ws t it c e) s G = .ok v G1) : ∃ xs, v = .lst xs := by
  rw [evE] at h
  obtain ⟨xs, G2, _, h⟩ := R.bind_eq_ok h
  split at h
  · cases h
  · cases q : (compR (setT t) (evE Γ c) (evE Γ e) xs (wipeS s ws) G2) with
    | ok vs G3 => rw [q] at h; cases h; exact ⟨vs, rfl⟩
    | no => rw [q] at h; cases h
    | exc _ _ => rw [q] at h; cases h
theorem R.wp_comp_lst {ws : List Nat} {t : Tg} {it : Itx} {c e : E} {s : Store} {G : Heap} {k : Val → Heap → Prop} {x : Exc → Heap → Prop} (h : (evE Γ (.comp ws t it c e) s G).wp k x) : (evE Γ (.comp ws t it c e) s G).wp (fun v G1 => (∃ xs, v = .lst xs) ∧ k v G1) x := by
  cases q : evE Γ (.comp ws t it c e) s G with
  | ok v G1 => rw [q] at h; exact ⟨comp_lst q, h⟩
  | no => rw [q] at h; exact h
  | exc _ _ => rw [q] at h; exact h
section
variable {elt tg iter : Expr} {ifs : List Expr} {scope : Scope} {own : List (Str × Nat)} {pos : Pos} {t : Tg} {it : Itx} {c e : E}
theorem pe_compV (hc : X.calm = true) (hN : X.N.Nodup) (hi : PI X tg iter (tI Later X.K W (evI Γ it))) (ok : BlkOk X.N X.env.scope scope own) (hts : ∀ i ∈ tgS t, i ∈ own.map (·.2))
    (hg : ∀ (s : Shared) (H : Hp) (C : Addr) (cl : List (Str × Addr)) (fp : List Addr), PG (X.blk s H scope (compEnvC scope cl C X.env) fp) tg (gT X.K t)) (ht : ∀ (s : Shared) (H : Hp) (C : Addr) (cl : List (Str × Addr)) (fp : List Addr), PTs (X.blk s H scope (compEnvC scope cl C X.env) fp) ifs (tT X.K WF (evE Γ c)))
    (he : ∀ (s : Shared) (H : Hp) (C : Addr) (cl : List (Str × Addr)) (fp : List Addr), PE (X.blk s H scope (compEnvC scope cl C X.env) fp) elt (tE X.K WF (evE Γ e))) (hs : ∀ x, foldedSetIterable iter X.env x = pure x) :
    PE X (.ListComp elt [⟨tg, iter, ifs, 0⟩] scope pos) (tF X.K W (evE Γ (.comp (own.map (·.2)) t it c e))) :=
  peImp (pe_lc hc hN hi ok hg ht he hs) fun σ H Q h => pe_compF (pos := pos) hc hN hi ok hts hg ht he hs (fun _ => True) σ H Q h
/-- x = [..], x a list of one's own -/
theorem ps_compO {i : Nat} {y : Str} {py spos : Pos} (hc : X.calm = true) (hN : X.N.Nodup) (hy : X.N[i]? = some y) (hyl : X.env.scope.names.lookup y = some .local)
    (hsw : swapsWith (.ListComp elt [⟨tg, iter, ifs, 0⟩] scope pos) (some (.Name y py)) spos.line X.env = pure true) (hi : PI X tg iter (tI Later X.K W (evI Γ it))) (ok : BlkOk X.N X.env.scope scope own) (hts : ∀ i ∈ tgS t, i ∈ own.map (·.2))
    (hg : ∀ (s : Shared) (H : Hp) (C : Addr) (cl : List (Str × Addr)) (fp : List Addr), PG (X.blk s H scope (compEnvC scope cl C X.env) fp) tg (gT X.K t)) (ht : ∀ (s : Shared) (H : Hp) (C : Addr) (cl : List (Str × Addr)) (fp : List Addr), PTs (X.blk s H scope (compEnvC scope cl C X.env) fp) ifs (tT X.K WF (evE Γ c)))
    (he : ∀ (s : Shared) (H : Hp) (C : Addr) (cl : List (Str × Addr)) (fp : List Addr), PE (X.blk s H scope (compEnvC scope cl C X.env) fp) elt (tE X.K WF (evE Γ e))) (hs : ∀ x, foldedSetIterable iter X.env x = pure x) :
    PS X (.Assign [.Name y py] (.ListComp elt [⟨tg, iter, ifs, 0⟩] scope pos) spos) (tS X.K W (evS Γ (.asgOwn i (.comp (own.map (·.2)) t it c e)))) :=
  psImp (ps_setLc hc hN hy hyl hsw hi ok hg ht he hs) fun D σ H ⟨M, G, s, hh, hst, h⟩ => pe_compF (pos := pos) hc hN hi ok hts hg ht he hs (fun _ => True) σ H (fun x H1 => gName i x σ H1 D.nx) (by
    rw [evS] at h
    refine ⟨M, G, s, hh, hst, R.wp_mono (Post.wp hh hst h) (fun v G1 k => ?_) fun _ _ x => x⟩
    cases v with
    | lst xs =>
      refine ⟨xs, rfl, fun M1 a vs H1 l1 hn n => ?_⟩
      by_cases hl : i < s.length
      · obtain ⟨M2, q1, q2, q3⟩ := own_new hl hh.ok hst l1 hn n
        exact k M2 H1 _ q1 q2 q3
      · have e1 : s.set i (.own xs) = s := List.set_eq_of_length_le (Nat.le_of_not_lt hl)
        have e2 : σ.set i (some (V.ref a)) = σ := List.set_eq_of_length_le (by rw [← hst.len]; exact Nat.le_of_not_lt hl)
        have k : Post X.K W M H D (.next (s.set i (.own xs)) G1) := k
        rw [e1] at k
        show D.nx (σ.set i (some (V.ref a))) H1
        rw [e2]
        exact k M1 H1 σ l1.since (n.val hh.ok l1 hn).1 (hst.later hh.ok l1)
    | _ => exact k.elim)
theorem ps_compV {i : Nat} {y : Str} {py spos : Pos} (hc : X.calm = true) (hN : X.N.Nodup) (hy : X.N[i]? = some y) (hyl : X.env.scope.names.lookup y = some .local)
    (hsw : swapsWith (.ListComp elt [⟨tg, iter, ifs, 0⟩] scope pos) (some (.Name y py)) spos.line X.env = pure true) (hi : PI X tg iter (tI Later X.K W (evI Γ it))) (ok : BlkOk X.N X.env.scope scope own) (hts : ∀ i ∈ tgS t, i ∈ own.map (·.2))
    (hg : ∀ (s : Shared) (H : Hp) (C : Addr) (cl : List (Str × Addr)) (fp : List Addr), PG (X.blk s H scope (compEnvC scope cl C X.env) fp) tg (gT X.K t)) (ht : ∀ (s : Shared) (H : Hp) (C : Addr) (cl : List (Str × Addr)) (fp : List Addr), PTs (X.blk s H scope (compEnvC scope cl C X.env) fp) ifs (tT X.K WF (evE Γ c)))
    (he : ∀ (s : Shared) (H : Hp) (C : Addr) (cl : List (Str × Addr)) (fp : List Addr), PE (X.blk s H scope (compEnvC scope cl C X.env) fp) elt (tE X.K WF (evE Γ e))) (hs : ∀ x, foldedSetIterable iter X.env x = pure x) :
    PS X (.Assign [.Name y py] (.ListComp elt [⟨tg, iter, ifs, 0⟩] scope pos) spos) (tS X.K W (evS Γ (.asg (.name i) (.comp (own.map (·.2)) t it c e)))) :=
  psImp (ps_setLc hc hN hy hyl hsw hi ok hg ht he hs) fun D σ H ⟨M, G, s, hh, hst, h⟩ => pe_compF (pos := pos) hc hN hi ok hts hg ht he hs (fun _ => True) σ H (fun x H1 => gName i x σ H1 D.nx) (by
    rw [evS] at h
    refine ⟨M, G, s, hh, hst, R.wp_mono (R.wp_comp_lst (Post.wp hh hst h)) (fun v G1 ⟨⟨xs, e0⟩, k⟩ => ?_) fun _ _ x => x⟩
    subst e0
    refine ⟨xs, rfl, fun M1 a vs H1 l1 hn n => ?_⟩
    have k : Post X.K W M H D (.next (s.set i (.val (.lst xs))) G1) := k
    obtain ⟨q1, q2⟩ := n.val hh.ok l1 hn
    exact k M1 H1 _ l1.since q1 ((hst.later hh.ok l1).setVal i q2))
end
end Fx

namespace Fx
open PySem PySem.Spec PyProof.Rows L2
inductive GK where
  | fn (f : String) (n : Nat) | free | con (c : Val)
structure CC where
  N : List Str
  sc : Scope
  os : Scope
  gl : List (Str × GK)
  own : List Str
  hot : List Pos
def CC.vis (C : CC) (x : Str) : Bool := (match C.sc.names.lookup x with
  | some .local => true
  | some .cell => true
  | some .free => true
  | _ => false) && !(x == ("__debug__" : Str)) && !(x == ("__classdict__" : Str))
/-- the place of a name that is seen -/
def CC.slotV (C : CC) (x : Str) : Option Nat := if C.vis x then C.N.idxOf? x else none
def CC.loc (C : CC) (x : Str) : Bool := match C.sc.names.lookup x with
  | some .local => true
  | some .cell => decide (C.os.names.lookup x = some .cell)
  | _ => false
def CC.slotL (C : CC) (x : Str) : Option Nat := if C.loc x then C.N.idxOf? x else none
def CC.plain (C : CC) (x : Str) : Bool := decide (C.sc.names.lookup x = some .local)
def CC.isGl (C : CC) (x : Str) : Bool := decide (C.sc.names.lookup x = some .globalImplicit) && !(x == ("__debug__" : Str))
def CC.glob (C : CC) (x : Str) : Option GK := if C.isGl x then C.gl.lookup x else none
def CC.free (C : CC) (x : Str) : Bool := match C.glob x with
  | some .free => true
  | _ => false
def CC.isOwn (C : CC) (x : Str) : Bool := C.own.contains x
def noStar : List Expr → Bool
  | [] => true
  | .Starred _ _ :: _ => false
  | _ :: r => noStar r
def strOf (s : Str) : String := String.ofList (s.cps.toList.map Char.ofNat)
def strOk (s : Str) : Bool := s.cps.toList.all fun n => decide n.isValidChar
def conOf : Const → Option Val
  | .none => some .none
  | .bool b => some (.bool b)
  | .int i => some (.int i)
  | .str s => if strOk s then some (.str (strOf s)) else none
  | _ => none
def bfs : List Bf := [.len, .tuple, .list, .int, .abs, .sum, .max, .min, .all, .any, .divmod]
def bfOf (x : Str) : Option Bf := bfs.find? fun f => bfS f == x
def tys : List Ty := [.int, .bool, .tuple, .list, .str]
def tyOf (x : Str) : Option Ty := tys.find? fun t => tyS t == x
/-- a subscript that is no slice -/
def plainIx : Expr → Bool
  | .Slice .. => false
  | .Tuple .. => false
  | _ => true
def plainT : Expr → Bool
  | .UnaryOp .Not _ _ => false
  | .BoolOp .. => false
  | .IfExp .. => false
  | .Compare .. => false
  | _ => true
def isSet : Expr → Bool
  | .Set .. => true
  | _ => false
def isComp : Expr → Bool
  | .ListComp .. => true
  | .SetComp .. => true
  | .DictComp .. => true
  | _ => false
def isTupE : Expr → Bool
  | .Tuple .. => true
  | _ => false
def mkEs (f : Expr → E) : List Expr → Es
  | [] => .nil
  | e :: r => .cons (f e) (mkEs f r)
def mkTgs (f : Expr → Option Tg) : List Expr → Option Tgs
  | [] => some .nil
  | e :: r => (f e).bind fun t => (mkTgs f r).map fun ts => .cons t ts
inductive Md where
  | v | o | f | t
  deriving DecidableEq
abbrev Rec := CC → Md → Expr → E
def hotAt (C : CC) (e : Expr) : Bool := match e with
  | .Name .. => false
  | _ => C.hot.contains e.pos
def compGStep (f : Expr → Option Tg) (C : CC) (e : Expr) : Option Tg := match e with
  | .Name x _ => (C.slotL x).map .name
  | .Tuple es _ _ => if noStar es = true then (mkTgs f es).map .tup else none
  | _ => none
def compG : Nat → CC → Expr → Option Tg
  | 0, _ => fun _ => none
  | n + 1, C => compGStep (compG n C) C
def compI (r : Rec) (C : CC) (md : Md) (tg : Expr) (e : Expr) : Itx := match e with
  | .Call (.Name f _) [a] [] _ =>
    if f = "range" ∧ C.free "range" = true ∧ noStar [a] = true then .rng1 (r C .v a)
    else if f = "enumerate" ∧ C.free "enumerate" = true ∧ noStar [a] = true ∧ isTupE tg = true then .enum (r C .v a)
    else .of (r C md e)
  | .Call (.Name f _) [a, b] [] _ =>
    if f = "range" ∧ C.free "range" = true ∧ noStar [a, b] = true then .rng2 (r C .v a) (r C .v b)
    else if f = "zip" ∧ C.free "zip" = true ∧ noStar [a, b] = true ∧ isTupE tg = true then .zip (r C .v a) (r C .v b)
    else .of (r C md e)
  | _ => .of (r C md e)
def blkOwn (N : List Str) (sc : Scope) : List (Str × Nat) := sc.names.filterMap fun y => match y.2 with
  | .local => (N.idxOf? y.1).map fun i => (y.1, i)
  | .cell => (N.idxOf? y.1).map fun i => (y.1, i)
  | _ => none
def relS (scope sc : Scope) : Scope :=
  { scope with names := scope.names.map fun (n, k) => if (k == .free && sc.kind == .function && sc.names.lookup n == some .cell) then (n, .cell) else (n, k) }
def CC.blk (C : CC) (scope : Scope) : CC := { C with sc := relS scope C.sc, os := scope, own := C.own.filter fun x => !((blkOwn C.N scope).map (·.1)).contains x }
def compIfs (r : Rec) (C : CC) : List Expr → E
  | [] => .con (.bool true)
  | [c] => r C .t c
  | _ => .stop
def compC (r : Rec) (C : CC) (elt : Expr) (gs : List Comprehension) (scope : Scope) : E := match gs with
  | [⟨tg, iter, ifs, 0⟩] =>
    if blkC C.N C.sc scope (blkOwn C.N scope) = true ∧ isSet iter = false then
      match compG 8 (C.blk scope) tg with
      | some t => if (tgS t).all (fun i => ((blkOwn C.N scope).map (·.2)).contains i) = true then
          .comp ((blkOwn C.N scope).map (·.2)) t (compI r C .o tg iter) (compIfs r (C.blk scope) ifs) (r (C.blk scope) .v elt)
        else .stop
      | none => .stop
    else .stop
  | _ => .stop
def partOf (r : Rec) (C : CC) : Option Expr → Bool × E
  | none => (false, .con .none)
  | some e => (true, r C .v e)
def compCall (r : Rec) (C : CC) (f : Str) (es : List Expr) : E :=
  if noStar es = true then
    match C.glob f with
    | some (.fn g n) => if es.length = n then .call g (mkEs (r C .v) es) else .stop
    | some .free => if es = [] then .stop else match bfOf f with
      | some b => .bcall b (mkEs (r C .o) es)
      | none => .stop
    | _ => .stop
  else .stop
def compIsi (r : Rec) (C : CC) (f : Str) (a : Expr) (t : Str) : E :=
  if C.free f = true ∧ C.free t = true ∧ noStar [a] = true then match tyOf t with
    | some ty => .isi (r C .o a) ty
    | none => .stop
  else .stop
def isIsi (f : Str) : Bool := f == ("isinstance" : Str)
def compV (r : Rec) (C : CC) (e : Expr) : E := match e with
  | .Name x _ => if C.isOwn x then .stop else match C.slotV x with
    | some i => .var i
    | none => match C.glob x with
      | some (.con c) => .con c
      | _ => .stop
  | .Constant c _ _ => match conOf c with
    | some v => .con v
    | none => .stop
  | .Tuple es _ _ => if noStar es = true ∧ es.length ≤ 1000 then .tup (mkEs (r C .v) es) else .stop
  | .List es _ => if noStar es = true ∧ es.length ≤ 1000 then .lst (mkEs (r C .v) es) else .stop
  | .BinOp a op b _ => .bin op (r C .o a) (r C .o b)
  | .UnaryOp .USub a _ => .neg (r C .v a)
  | .UnaryOp .Not a _ => .not (r C .o a)
  | .Compare a [op] [b] _ => if behindInMarks op b = false then .cmp op (r C .o a) (r C .o b) else .stop
  | .Compare a [op, op2] [b, c] _ => if lastMarks [op, op2] [b, c] = false then .cmp2 op op2 (r C .o a) (r C .o b) (r C .o c) else .stop
  | .BoolOp _ [a] _ => r C .v a
  | .BoolOp .And (a :: b :: rest) p => .and (r C .v a) (r C .v (.BoolOp .And (b :: rest) p))
  | .BoolOp .Or (a :: b :: rest) p => .or (r C .v a) (r C .v (.BoolOp .Or (b :: rest) p))
  | .IfExp c a b _ => .ite (r C .t c) (r C .v a) (r C .v b)
  | .Subscript a (.Slice lo hi none _) _ => .slice (r C .o a) (partOf r C lo).1 (partOf r C lo).2 (partOf r C hi).1 (partOf r C hi).2
  | .Subscript a i _ => if plainIx i then .idx (r C .o a) (r C .v i) else .stop
  | .Call (.Name f _) es [] _ => match isIsi f, es with
    | true, [a, .Name t _] => compIsi r C f a t
    | _, _ => compCall r C f es
  | .ListComp elt gs scope _ => compC r C elt gs scope
  | _ => .stop
def compF (r : Rec) (C : CC) (e : Expr) : E := match e with
  | .List es _ => if noStar es = true ∧ es.length ≤ 1000 then .lst (mkEs (r C .v) es) else .stop
  | .BinOp a op b _ => .bin op (r C .o a) (r C .o b)
  | .Subscript a (.Slice lo hi none _) _ => .slice (r C .o a) (partOf r C lo).1 (partOf r C lo).2 (partOf r C hi).1 (partOf r C hi).2
  | .Call (.Name f _) es [] _ => if noStar es = true ∧ es ≠ [] ∧ C.free f = true then match bfOf f with
      | some b => .bcall b (mkEs (r C .o) es)
      | none => .stop
    else .stop
  | .ListComp elt gs scope _ => compC r C elt gs scope
  | _ => .stop
def compT (r : Rec) (C : CC) (e : Expr) : E := match e with
  | .Compare a [op] [b] _ => if behindInMarks op b = false then .cmp op (r C .o a) (r C .o b) else .stop
  | .Compare a [op, op2] [b, c] _ => if lastMarks [op, op2] [b, c] = false then .cmp2 op op2 (r C .o a) (r C .o b) (r C .o c) else .stop
  | .UnaryOp .Not a _ => .not (r C .t a)
  | .BoolOp _ [a] _ => r C .t a
  | .BoolOp .And (a :: b :: rest) p => .and (r C .t a) (r C .t (.BoolOp .And (b :: rest) p))
  | .BoolOp .Or (a :: b :: rest) p => .or (r C .t a) (r C .t (.BoolOp .Or (b :: rest) p))
  | e => if plainT e = true then r C .o e else .stop
def compHot (r : Rec) (C : CC) (e : Expr) : E := if hotAt C e = true then .heap (compF r C e) else compV r C e
def compO (r : Rec) (C : CC) (e : Expr) : E := match e with
  | .Name x _ => if C.isOwn x = true then match C.slotV x with
      | some i => .own i
      | none => .stop
    else compV r C e
  | _ => compHot r C e
def compStep (r : Rec) : Rec := fun C md e => match md with
  | .v => compHot r C e
  | .o => compO r C e
  | .f => compF r C e
  | .t => compT r C e
def comp : Nat → Rec
  | 0 => fun _ _ _ => .stop
  | n + 1 => compStep (comp n)
def mkSs (f : Stmt → S) : List Stmt → Ss
  | [] => .nil
  | e :: r => .cons (f e) (mkSs f r)
def isStarE : Expr → Bool
  | .Starred .. => true
  | _ => false
def nmOf (sc : Scope) (line : Nat) : Expr → Option Str
  | .Name id pos => if (sc.names.lookup id == some .local && pos.line == line) = true then some id else none
  | _ => none
def swNames (ts : List Expr) (sc : Scope) : List Str := ts.filterMap (nmOf sc ((ts.head?.map (·.pos.line)).getD 0))
/-- a tuple of values stored into a tuple of names from the right: none: the model does not say -/
def swC (ts vs : List Expr) (sc : Scope) : Option (Option (List Str)) :=
  if sc.kind ≠ .function then none
  else if (!(ts.length == 2 || ts.length == 3) || vs.length != ts.length) = true then some none
  else if vs.any isStarE = true then some none
  else if ((swNames ts sc).length != ts.length || (swNames ts sc).eraseDups.length != (swNames ts sc).length) = true then some none
  else if vs.all (foldedForSure 8) = true then some none
  else if vs.all (constantsAlone 8) = true then none
  else some (some (swNames ts sc))
def swA (tg e : Expr) (sc : Scope) : Option (Option (List Str)) := match tg, e with
  | .Tuple ts _ _, .Tuple vs _ _ => swC ts vs sc
  | .List _ _, _ => none
  | _, _ => some none
def compPT1 (r : Rec) (C : CC) (ts : PTgs) (e : Expr) : Option PTgs := match e with
  | .Name x _ => (C.slotL x).map fun i => .cons (.name i) ts
  | .Subscript (.Name x _) i _ => if plainIx i = true then
      if C.isOwn x = true then (C.slotV x).map fun k => .cons (.itemO k (r C .v i)) ts
      else (C.slotV x).map fun k => .cons (.item (.var k) (r C .v i)) ts
    else none
  | _ => none
def compPT (r : Rec) (C : CC) : List Expr → Option PTgs
  | [] => some .nil
  | e :: es => (compPT r C es).bind fun ts => compPT1 r C ts e
def compName (r : Rec) (C : CC) (y : Str) (i : Nat) (e : Expr) : S := match e with
  | .ListComp elt gs scope _ => if C.isOwn y = true then .asgOwn i (compC r C elt gs scope) else .asg (.name i) (compC r C elt gs scope)
  | _ => .stop
def isPop : Expr → Bool
  | .Call (.Attribute (.Name _ _) m _) [] [] _ => m == ("pop" : Str)
  | _ => false
/-- x = [..], the list's own frame is made of the name's -/
def swComp (y : Str) (py : Pos) (e : Expr) (sc : Scope) : Bool := match e with
  | .ListComp _ _ scope pos => (py.line == pos.line) && !(scope.names.any fun (n, k) => n == y && (k == .local || k == .cell)) && decide (sc.kind = .function) && decide (sc.names.lookup y = some .local)
  | _ => false
def compAsg (r : Rec) (C : CC) (tg e : Expr) : S := match tg with
  | .Name y py => match C.slotL y with
    | none => .stop
    | some i =>
      if isComp e = true then
        if swComp y py e C.sc = true ∧ hotAt C e = false then compName r C y i e
        else .stop
      else if C.isOwn y then .asgOwn i (r C .f e)
      else .asg (.name i) (r C .v e)
  | .Subscript (.Name x _) i _ => if isComp e = true ∨ plainIx i = false then .stop else
      match C.slotV x with
      | none => .stop
      | some k => if C.isOwn x then .setO k (r C .v i) (r C .v e) else .setR (.var k) (r C .v i) (r C .v e)
  | .Tuple ts _ _ => if isComp e = true then .stop else match swA tg e C.sc with
    | none => .stop
    | some (some [x, y]) => match ts, e with
      | [.Name x' _, .Name y' _], .Tuple [a, b] _ _ => match C.N.idxOf? x, C.N.idxOf? y with
        | some i, some j => if x = x' ∧ y = y' ∧ i ≠ j ∧ C.plain x = true ∧ C.plain y = true ∧ noStar [a, b] = true then
            .asg (.tup (.cons (.name i) (.cons (.name j) .nil))) (.tup (mkEs (r C .v) [a, b])) else .stop
        | _, _ => .stop
      | _, _ => .stop
    | some (some [x, y, z]) => match ts, e with
      | [.Name x' _, .Name y' _, .Name z' _], .Tuple [a, b, c] _ _ => match C.N.idxOf? x, C.N.idxOf? y, C.N.idxOf? z with
        | some i, some j, some l => if x = x' ∧ y = y' ∧ z = z' ∧ i ≠ j ∧ i ≠ l ∧ j ≠ l ∧ C.plain x = true ∧ C.plain y = true ∧ C.plain z = true ∧ noStar [a, b, c] = true then
            .asg (.tup (.cons (.name i) (.cons (.name j) (.cons (.name l) .nil)))) (.tup (mkEs (r C .v) [a, b, c])) else .stop
        | _, _, _ => .stop
      | _, _ => .stop
    | some (some _) => .stop
    | some none => match compG 8 C tg with
      | some t => .asg t (r C .v e)
      | none => if noStar ts = true then match compPT r C ts with
        | some ps => .par ps (r C .v e)
        | none => .stop
      else .stop
  | _ => .stop
def compExp (r : Rec) (C : CC) (e : Expr) : S := match e with
  | .Constant (.str _) _ _ => .pass
  | .Call (.Attribute (.Name x _) m apos) es [] cpos =>
    match C.slotV x with
    | none => .stop
    | some k =>
      if apos.endLine == cpos.line then
        match es with
        | [] => if m = "pop" ∧ C.isOwn x = true then .popO k else .stop
        | [a] => if noStar [a] = true then
            if m = "append" then if C.isOwn x then .app k (r C .v a) else .appR (.var k) (r C .v a)
            else if m = "extend" ∧ C.isOwn x = true then .extO k (r C .v a) else .stop
          else .stop
        | _ => .stop
      else .stop
  | e => if isComp e = true then .stop else .exp (r C .v e)
def compRet (r : Rec) (C : CC) (e : Expr) : S := match e with
  | .Name x _ => if C.isOwn x = true then match C.slotV x with
      | some k => .retO k
      | none => .stop
    else .ret (r C .v e)
  | _ => .ret (r C .v e)
def compSet (r : Rec) (C : CC) (tg e : Expr) : S := match e with
  | .Call (.Attribute (.Name x _) m apos) [] [] cpos => if m = "pop" ∧ C.isOwn x = true ∧ (apos.endLine == cpos.line) = true then
      match C.slotV x, compG 8 C tg with
      | some k, some t => .popT t k
      | _, _ => .stop
    else compAsg r C tg e
  | _ => compAsg r C tg e
def compSStep (r : Rec) (C : CC) (f : Stmt → S) (st : Stmt) : S := match st with
  | .Return none _ => .retN
  | .Return (some e) _ => compRet r C e
  | .Pass _ => .pass
  | .Break _ => .brk
  | .Continue _ => .cont
  | .Expr e _ => compExp r C e
  | .Assign [tg] e _ => compSet r C tg e
  | .AugAssign (.Name x _) op e _ => match C.slotL x with
    | some i => if (op = .Add ∨ op = .Sub) ∧ C.isOwn x = false then .aug i op (r C .v e) else .stop
    | none => .stop
  | .For tg it body [] _ => if isSet it = true then .stop else match compG 8 C tg with
    | some t => .for_ t (compI r C .v tg it) (mkSs f body)
    | none => .stop
  | .While c body [] _ => .while_ (r C .t c) (mkSs f body)
  | .If c a b _ => .ite (r C .t c) (mkSs f a) (mkSs f b)
  | _ => .stop
def compS : Nat → CC → Stmt → S
  | 0, _ => fun _ => .stop
  | n + 1, C => compSStep (comp 60) C (compS n C)
structure Hint where
  own : List Str := []
  hot : List Pos := []
def scopeN (ps : List Str) (sc : Scope) : List Str := sc.names.filterMap fun y => match y.2 with
  | .local => if ps.contains y.1 then none else some y.1
  | .cell => if ps.contains y.1 then none else some y.1
  | _ => none
end Fx

namespace Fx
open PySem PySem.Spec PyProof.Rows L2
variable {X : Cx} {W : WX} {Γ : Calls} {C : CC} {k : Nat}
def GkOk (k : Nat) (X : Cx) (Γ : Calls) (x : Str) : GK → Prop
  | .fn f n => Str.ofString f = x ∧ ∃ a fd ps, DefOk X.prog X.w X.K X.mg X.base k f n (Γ f) a fd ps
  | .free => X.mg x = none
  | .con c => ∃ u v, X.mg x = some u ∧ RelV v u ∧ ∀ M H, Rl X.K M H c v
structure CxOk (k : Nat) (X : Cx) (C : CC) (Γ : Calls) (W : WX) : Prop where
  N : X.N = C.N
  nd : X.N.Nodup
  sc : X.env.scope = C.sc
  calm : X.calm = true
  fn : ∀ x, C.os.names.lookup x = some .cell → X.fn x = true
  tk : Takes X W
  un : X.A.units + 64 < cLine
  room : Room k X.A
  gl : ∀ p ∈ C.gl, GkOk k X Γ p.1 p.2
theorem idx_of {N : List Str} {x : Str} {i : Nat} (h : N.idxOf? x = some i) : N[i]? = some x := by
  unfold List.idxOf? at h
  rw [List.findIdx?_eq_some_iff_getElem] at h
  obtain ⟨h1, h2, _⟩ := h
  rw [List.getElem?_eq_getElem h1, eq_of_beq h2]
theorem vis_of (h : C.vis x = true) (ok : X.env.scope = C.sc) : Vis X.env.scope x ∧ (x == ("__debug__" : Str)) = false ∧ (x == ("__classdict__" : Str)) = false := by
  unfold CC.vis at h
  simp only [Bool.and_eq_true, Bool.not_eq_true'] at h
  obtain ⟨⟨h1, h2⟩, h3⟩ := h
  refine ⟨?_, h2, h3⟩
  rw [ok]
  unfold Vis
  split at h1
  · exact .inl (by assumption)
  · exact .inr (.inl (by assumption))
  · exact .inr (.inr (by assumption))
  · cases h1
theorem CxOk.slotV (o : CxOk k X C Γ W) {x : Str} {i : Nat} (h : C.slotV x = some i) : X.N[i]? = some x ∧ Vis X.env.scope x ∧ (x == ("__debug__" : Str)) = false ∧ (x == ("__classdict__" : Str)) = false := by
  unfold CC.slotV at h
  split at h
  · rename_i hv
    exact ⟨by rw [o.N]; exact idx_of h, vis_of hv o.sc⟩
  · cases h
theorem CxOk.slotL (o : CxOk k X C Γ W) {x : Str} {i : Nat} (h : C.slotL x = some i) : X.N[i]? = some x ∧ L2.Loc X.env.scope x ∧ (X.fn x = true ∨ X.env.scope.names.lookup x = some .local) := by
  unfold CC.slotL at h
  split at h
  · rename_i hv
    unfold CC.loc at hv
    refine ⟨by rw [o.N]; exact idx_of h, ?_⟩
    rw [o.sc]
    unfold L2.Loc
    split at hv
    · exact ⟨.inl (by assumption), .inr (by assumption)⟩
    · exact ⟨.inr (by assumption), .inl (o.fn x (of_decide_eq_true hv))⟩
    · cases hv
  · cases h
theorem CxOk.isGl (o : CxOk k X C Γ W) {x : Str} (h : C.isGl x = true) : Gl X x ∧ (x == ("__debug__" : Str)) = false := by
  unfold CC.isGl at h
  simp only [Bool.and_eq_true, Bool.not_eq_true', decide_eq_true_eq] at h
  exact ⟨by show X.env.scope.names.lookup x = _; rw [o.sc]; exact h.1, h.2⟩
theorem mem_of_lookupB {α : Type} {l : List (Str × α)} {x : Str} {a : α} (h : l.lookup x = some a) : (x, a) ∈ l := PySem.mem_of_lookup h
theorem CxOk.glob (o : CxOk k X C Γ W) {x : Str} {g : GK} (h : C.glob x = some g) : Gl X x ∧ (x == ("__debug__" : Str)) = false ∧ GkOk k X Γ x g := by
  unfold CC.glob at h
  split at h
  · rename_i hg
    exact ⟨(o.isGl hg).1, (o.isGl hg).2, o.gl _ (mem_of_lookupB h)⟩
  · cases h
theorem CxOk.free (o : CxOk k X C Γ W) {x : Str} (h : C.free x = true) : Gl X x ∧ X.mg x = none := by
  unfold CC.free at h
  split at h
  · rename_i hg
    exact ⟨(o.glob hg).1, (o.glob hg).2.2⟩
  · cases h
theorem noStar_cons {e : Expr} {es : List Expr} (h : noStar (e :: es) = true) (env : Env) : starEach (e :: es) env = (false, eval e env) :: starEach es env ∧ noStar es = true := by
  cases e <;> first | exact ⟨rfl, h⟩ | cases h
theorem noStar_any {pos : Pos} {env : Env} : ∀ {es : List Expr}, noStar es = true → (backTo pos (starEach es env)).any (·.1) = false
  | [], _ => rfl
  | e :: es, h => by
    rw [(noStar_cons h env).1]
    show (false || (backTo pos (starEach es env)).any (·.1)) = false
    rw [noStar_any (noStar_cons h env).2]; rfl
theorem noStar_assign {e : Expr} {es : List Expr} (h : noStar (e :: es) = true) (env : Env) : assignEach (e :: es) env = (false, assign e env) :: assignEach es env ∧ noStar es = true := by
  cases e <;> first | exact ⟨rfl, h⟩ | cases h
theorem noStar_find {env : Env} : ∀ {es : List Expr}, noStar es = true → (assignEach es env).findIdx? (·.1) = none
  | [], _ => rfl
  | e :: es, h => by
    rw [(noStar_assign h env).1, List.findIdx?_cons]
    simp only [Bool.false_eq_true, if_false]
    rw [noStar_find (noStar_assign h env).2]; rfl
theorem noStar_len {env : Env} : ∀ {es : List Expr}, noStar es = true → (assignEach es env).length = es.length
  | [], _ => rfl
  | e :: es, h => by
    rw [(noStar_assign h env).1, List.length_cons, List.length_cons, noStar_len (noStar_assign h env).2]
theorem plainT_of {e : Expr} (h : plainT e = true) (env : Env) (whole : Sem Value) : isTrue e env whole = (do let v ← whole; standAt e.pos; holding [v] (truthy v)) := by
  cases e with
  | UnaryOp op x p => cases op <;> first | rfl | cases h
  | _ => first | rfl | cases h
theorem plainIx_of {e : Expr} (h : plainIx e = true) : PlainIx e := by
  intro o i
  cases e <;> first | rfl | cases h
theorem isSet_of {e : Expr} (h : isSet e = false) (env : Env) (x : Value) : foldedSetIterable e env x = pure x := by
  cases e <;> first | rfl | cases h
theorem str_of {s : Str} (h : strOk s = true) : Str.ofString (strOf s) = s := by
  unfold strOk at h
  rw [Str.ofString_eq_toList]
  unfold strOf
  rw [String.toList_ofList, List.map_map]
  have : ∀ l : List Nat, (l.all fun n => decide n.isValidChar) = true → l.map (Char.toNat ∘ Char.ofNat) = l := fun l => by
    induction l with
    | nil => intro _; rfl
    | cons n l ih =>
      intro h
      rw [List.all_cons, Bool.and_eq_true, decide_eq_true_eq] at h
      rw [List.map_cons, ih h.2]
      show (Char.ofNat n).toNat :: l = _
      have : (Char.ofNat n).toNat = n := by
        unfold Char.ofNat
        rw [dif_pos h.1]
        rfl
      rw [this]
  rw [this _ h]
theorem pe_conOf {c : Const} {v : Val} {j : Nat} {pos : Pos} (h : conOf c = some v) : PE X (.Constant c j pos) (tE X.K W (evE Γ (.con v))) := by
  cases c with
  | none => cases h; exact pe_conK pe_non fun _ _ => .nn
  | bool b => cases h; exact pe_conK pe_bl fun _ _ => .bool b
  | int i => cases h; exact pe_conK pe_int fun _ _ => .int i
  | str s =>
    have h : (if strOk s = true then some (Val.str (strOf s)) else none) = some v := h
    split at h
    · rename_i hs
      cases h
      exact pe_conK pe_str fun _ _ => by have := Rl.str (K := X.K) (M := ‹_›) (H := ‹_›) (strOf s); rw [str_of hs] at this; exact this
    · cases h
  | _ => cases h
theorem bfOf_of {x : Str} {b : Bf} (h : bfOf x = some b) : bfS b = x := by
  have := List.find?_some (p := fun f => bfS f == x) h
  exact eq_of_beq this
theorem tyOf_of {x : Str} {t : Ty} (h : tyOf x = some t) : tyS t = x ∧ t ≠ .none_ := ⟨by
  have := List.find?_some (p := fun t => tyS t == x) h
  exact eq_of_beq this, fun z => by
  have := List.mem_of_find?_eq_some h
  rw [z] at this
  revert this
  decide⟩
structure ExOk (X : Cx) (Γ : Calls) (W : WX) (r : Md → Expr → E) (e : Expr) : Prop where
  v : PE X e (tE X.K W (evE Γ (r .v e)))
  o : PE X e (tO X.K W (evE Γ (r .o e)))
  f : PE X e (tF X.K W (evE Γ (r .f e)))
  t : PT X e (tT X.K W (evE Γ (r .t e)))
def RecOk (r : Rec) : Prop := ∀ (k : Nat) (X : Cx) (C : CC) (Γ : Calls) (W : WX), CxOk k X C Γ W → ∀ e, ExOk X Γ W (r C) e
theorem pf_stopK {e : Expr} : PE X e (tF X.K W (evE Γ .stop)) := ⟨fun pins s σ H Q I ⟨M, G, st, hh, hst, hm⟩ => by rw [evE] at hm; exact hm.elim⟩
theorem po_stopK {e : Expr} : PE X e (tO X.K W (evE Γ .stop)) := peO pe_stopK
theorem mkEs_len (f : Expr → E) : ∀ es : List Expr, (mkEs f es).len = es.length
  | [] => rfl
  | e :: es => by rw [mkEs, Es.len, List.length_cons, mkEs_len f es]
theorem pa_mkV {f : Expr → E} (h : ∀ e, PE X e (tE X.K W (evE Γ (f e)))) : ∀ {es : List Expr}, noStar es = true → PA X es (tAs X.K W (evEs Γ (mkEs f es)))
  | [], _ => pa_nilK
  | e :: es, hs => pa_consK (h e) (pa_mkV h (noStar_cons hs X.env).2) (noStar_cons hs X.env).1
theorem pa_mkO {f : Expr → E} (h : ∀ e, PE X e (tO X.K W (evE Γ (f e)))) : ∀ {es : List Expr}, noStar es = true → PA X es (tAO X.K W (evEs Γ (mkEs f es)))
  | [], _ => pa_nilO
  | e :: es, hs => pa_consO (h e) (pa_mkO h (noStar_cons hs X.env).2) (noStar_cons hs X.env).1
theorem pgs_mk {n : Nat} (h : ∀ e t, compG n C e = some t → PG X e (gT X.K t)) : ∀ {es : List Expr} {ts : Tgs}, noStar es = true → mkTgs (compG n C) es = some ts → PGs X es (gTs X.K ts)
  | [], ts, _, e => by cases e; exact pgs_nilK
  | e :: es, ts, hs, q => by
    rw [mkTgs] at q
    cases q1 : compG n C e with
    | none => rw [q1] at q; cases q
    | some t =>
      rw [q1] at q
      cases q2 : mkTgs (compG n C) es with
      | none => rw [q2] at q; cases q
      | some ts2 =>
        rw [q2] at q
        cases q
        obtain ⟨h1, h2⟩ := noStar_assign hs X.env
        exact pgs_consK (h e t q1) (pgs_mk h h2 q2) (by rw [h1]; rfl)
theorem mkTgs_len {f : Expr → Option Tg} : ∀ {es : List Expr} {ts : Tgs}, mkTgs f es = some ts → es.length = ts.len
  | [], _, e => by cases e; rfl
  | e :: es, ts, q => by
    rw [mkTgs] at q
    cases q1 : f e with
    | none => rw [q1] at q; cases q
    | some t =>
      rw [q1] at q
      cases q2 : mkTgs f es with
      | none => rw [q2] at q; cases q
      | some ts2 =>
        rw [q2] at q
        cases q
        rw [List.length_cons, mkTgs_len q2]; rfl
theorem compG_ok (o : CxOk k X C Γ W) : ∀ (n : Nat) (e : Expr) (t : Tg), compG n C e = some t → PG X e (gT X.K t)
  | 0, _, _, h => by cases h
  | n + 1, e, t, h => by
    have h : compGStep (compG n C) C e = some t := h
    unfold compGStep at h
    split at h
    · rename_i x p _
      cases q : C.slotL x with
      | none => rw [q] at h; cases h
      | some i =>
        rw [q] at h
        cases h
        obtain ⟨h1, h2, h3⟩ := o.slotL q
        exact pg_nameK o.nd h1 h2 h3
    · rename_i es kk p _
      split at h
      · rename_i hs
        cases q : mkTgs (compG n C) es with
        | none => rw [q] at h; cases h
        | some ts =>
          rw [q] at h
          cases h
          exact pg_tupK o.calm (pgs_mk (fun e t h => compG_ok o n e t h) hs q) (by rw [noStar_len hs, mkTgs_len q]) (noStar_find hs)
      · cases h
    · cases h
theorem compG_star {n : Nat} {e : Expr} {t : Tg} (h : compG n C e = some t) (env : Env) : (assignEach [e] env).map (·.2) = [assign e env] := by
  cases n with
  | zero => cases h
  | succ n =>
    have h : compGStep (compG n C) C e = some t := h
    unfold compGStep at h
    split at h
    · rfl
    · rfl
    · cases h
theorem tup_of {e : Expr} (h : isTupE e = true) : ∃ es n p, e = .Tuple es n p := by
  cases e <;> first | exact ⟨_, _, _, rfl⟩ | cases h
theorem star1 {a : Expr} (h : noStar [a] = true) (env : Env) : starEach [a] env = [(false, eval a env)] := (noStar_cons h env).1
theorem star2 {a b : Expr} (h : noStar [a, b] = true) (env : Env) : starEach [a, b] env = [(false, eval a env), (false, eval b env)] ∧ starEach [b] env = [(false, eval b env)] := by
  obtain ⟨h1, h2⟩ := noStar_cons h env
  have := star1 h2 env
  exact ⟨by rw [h1, this], this⟩
theorem compI_ok {Ev : Mp → Hp → Mp → Hp → Prop} {md : Md} {r : Rec} (hev : ∀ M H M2 H2, Ev M H M2 H2 → Since M H M2 H2) (evr : ∀ M H, Ev M H M H) (o : CxOk k X C Γ W) (hr : ∀ e, ExOk X Γ W (r C) e) (tg e : Expr) (hof : PI X tg e (tI Ev X.K W (evI Γ (.of (r C md e))))) : PI X tg e (tI Ev X.K W (evI Γ (compI r C md tg e))) := by
  unfold compI
  split
  · rename_i f p a pos
    split
    · rename_i h
      obtain ⟨rfl, h1, h2⟩ := h
      exact pi_rng1 (o.free h1).1 (o.free h1).2 (hr a).v (star1 h2 X.env)
    · split
      · rename_i h
        obtain ⟨rfl, h1, h2, h3⟩ := h
        obtain ⟨es, n, p2, rfl⟩ := tup_of h3
        exact pi_enumK hev (o.free h1).1 (o.free h1).2 (hr a).v (star1 h2 X.env)
      · exact hof
  · rename_i f p a b pos
    split
    · rename_i h
      obtain ⟨rfl, h1, h2⟩ := h
      exact pi_rng2 (o.free h1).1 (o.free h1).2 (hr a).v (hr b).v (star2 h2 X.env).1 (star2 h2 X.env).2
    · split
      · rename_i h
        obtain ⟨rfl, h1, h2, h3⟩ := h
        obtain ⟨es, n, p2, rfl⟩ := tup_of h3
        exact pi_zipK hev evr (o.free h1).1 (o.free h1).2 (hr a).v (hr b).v (noStar_cons h2 X.env).1 (noStar_cons (noStar_cons h2 X.env).2 X.env).1 (noStar_any (noStar_cons h2 X.env).2)
      · exact hof
  · exact hof
theorem CxOk.blk (o : CxOk k X C Γ W) {scope : Scope} {s : Shared} {H : Hp} {C0 : Addr} {cl : List (Str × Addr)} {fp : List Addr} : CxOk k (X.blk s H scope (compEnvC scope cl C0 X.env) fp) (C.blk scope) Γ WF where
  N := o.N
  nd := o.nd
  sc := by
    show relabel scope X.env = relS scope C.sc
    rw [← o.sc]
    rfl
  calm := o.calm
  fn := fun x h => by
    show (scope.names.lookup x == some .cell) = true
    have h : scope.names.lookup x = some .cell := h
    rw [h]; rfl
  tk := fun u s' ⟨_, _, _, _, _, _, _, _, _, _, _, _, _, _, _, _, w⟩ => w.elim
  un := o.un
  room := o.room
  gl := fun p hp => by
    have := o.gl p hp
    obtain ⟨x, g⟩ := p
    cases g with
    | fn f n => exact this
    | free => exact this
    | con c => exact this
theorem compIfs_ok {r : Rec} (hr : ∀ e, ExOk X Γ W (r C) e) (ifs : List Expr) : PTs X ifs (tT X.K W (evE Γ (compIfs r C ifs))) := by
  match ifs with
  | [] => exact pts_noneK
  | [c] => exact pts_one (hr c).t
  | a :: b :: cs => exact ⟨fun pins s σ H Q I ⟨M, G, st, hh, hst, hm⟩ => by
      have hm : (evE Γ .stop st G).wp _ _ := hm
      rw [evE] at hm; exact hm.elim⟩
/-- what a comprehension's rule asks -/
structure CompOk (X : Cx) (Γ : Calls) (W : WX) (elt tg iter : Expr) (ifs : List Expr) (scope : Scope) (own : List (Str × Nat)) (t : Tg) (it : Itx) (c e : E) : Prop where
  hi : PI X tg iter (tI Later X.K W (evI Γ it))
  ok : BlkOk X.N X.env.scope scope own
  hts : ∀ i ∈ tgS t, i ∈ own.map (·.2)
  hg : ∀ (s : Shared) (H : Hp) (C : Addr) (cl : List (Str × Addr)) (fp : List Addr), PG (X.blk s H scope (compEnvC scope cl C X.env) fp) tg (gT X.K t)
  ht : ∀ (s : Shared) (H : Hp) (C : Addr) (cl : List (Str × Addr)) (fp : List Addr), PTs (X.blk s H scope (compEnvC scope cl C X.env) fp) ifs (tT X.K WF (evE Γ c))
  he : ∀ (s : Shared) (H : Hp) (C : Addr) (cl : List (Str × Addr)) (fp : List Addr), PE (X.blk s H scope (compEnvC scope cl C X.env) fp) elt (tE X.K WF (evE Γ e))
  hs : ∀ x, foldedSetIterable iter X.env x = pure x
theorem compC_ok {r : Rec} (hR : RecOk r) (o : CxOk k X C Γ W) (elt : Expr) (gs : List Comprehension) (scope : Scope) : compC r C elt gs scope = .stop ∨ ∃ tg iter ifs t it c e, gs = [⟨tg, iter, ifs, 0⟩] ∧ compC r C elt gs scope = .comp ((blkOwn C.N scope).map (·.2)) t it c e ∧ CompOk X Γ W elt tg iter ifs scope (blkOwn C.N scope) t it c e := by
  unfold compC
  split
  · rename_i tg iter ifs
    split
    · rename_i h
      obtain ⟨h1, h2⟩ := h
      split
      · rename_i t ht
        split
        · rename_i hts
          refine .inr ⟨tg, iter, ifs, t, _, _, _, rfl, rfl, ?_⟩
          exact {
            hi := compI_ok (fun _ _ _ _ l => l.since) Later.refl o (hR k X C Γ W o) tg iter (pi_ofL (hR k X C Γ W o iter).o)
            ok := by rw [o.N, o.sc]; exact blkOk_by h1
            hts := fun i hi => by
              have := List.all_eq_true.mp hts i hi
              simpa using this
            hg := fun s H C0 cl fp => compG_ok (o.blk (s := s) (H := H) (C0 := C0) (cl := cl) (fp := fp)) 8 tg t ht
            ht := fun s H C0 cl fp => compIfs_ok (hR k _ _ _ _ o.blk) ifs
            he := fun s H C0 cl fp => (hR k _ _ _ _ o.blk elt).v
            hs := fun x => isSet_of h2 X.env x }
        · exact .inl rfl
      · exact .inl rfl
    · exact .inl rfl
  · exact .inl rfl
theorem pe_compC {r : Rec} (hR : RecOk r) (o : CxOk k X C Γ W) (elt : Expr) (gs : List Comprehension) (scope : Scope) (pos : Pos) : PE X (.ListComp elt gs scope pos) (tF X.K W (evE Γ (compC r C elt gs scope))) := by
  rcases compC_ok hR o elt gs scope with h | ⟨tg, iter, ifs, t, it, c, e, rfl, h, q⟩
  · rw [h]; exact pf_stopK
  · rw [h]
    exact pe_compV o.calm o.nd q.hi q.ok q.hts q.hg q.ht q.he q.hs
theorem compC_lst {r : Rec} (hR : RecOk r) (o : CxOk k X C Γ W) (elt : Expr) (gs : List Comprehension) (scope : Scope) : ∀ s G v G', evE Γ (compC r C elt gs scope) s G = .ok v G' → ∃ xs, v = .lst xs := fun s G v G' h => by
  rcases compC_ok hR o elt gs scope with q | ⟨tg, iter, ifs, t, it, c, e, rfl, q, _⟩
  · rw [q, evE] at h; cases h
  · rw [q] at h; exact comp_lst h
theorem lst_lst {es : Es} : ∀ s G v G', evE Γ (.lst es) s G = .ok v G' → ∃ xs, v = .lst xs := fun s G v G' h => by
  rw [evE] at h
  obtain ⟨vs, G1, _, h⟩ := R.bind_eq_ok h
  cases h
  exact ⟨vs, rfl⟩
theorem partOf_ok {r : Rec} (hr : ∀ e, ExOk X Γ W (r C) e) (e : Option Expr) : PO X e (tP X.K W (partE Γ (partOf r C e).1 (partOf r C e).2)) := by
  cases e with
  | none => exact po_noneK
  | some e => exact po_someK (hr e).v
theorem compCall_ok {r : Rec} (hr : ∀ e, ExOk X Γ W (r C) e) (o : CxOk k X C Γ W) (f : Str) (es : List Expr) (p pos : Pos) : PE X (.Call (.Name f p) es [] pos) (tE X.K W (evE Γ (compCall r C f es))) := by
  unfold compCall
  split
  · rename_i hs
    split
    · rename_i g n hg
      obtain ⟨h1, h2, h3, a, fd, ps, D⟩ := o.glob hg
      subst h3
      split
      · rename_i hl
        cases es with
        | nil =>
          subst hl
          exact pe_call0K D o.room o.tk h1 h2
        | cons e es => exact pe_callK D o.room o.tk h1 (by rw [mkEs_len]; exact hl) (pa_mkV (fun e => (hr e).v) hs) h2 (noStar_cons hs X.env).1 (noStar_any (noStar_cons hs X.env).2)
      · exact pe_stopK
    · rename_i hg
      obtain ⟨h1, _, h3⟩ := o.glob hg
      cases es with
      | nil => exact pe_stopK
      | cons e es =>
        rw [if_neg (List.cons_ne_nil e es)]
        split
        · rename_i b hb
          have hb := bfOf_of hb
          subst hb
          exact pe_bfK o.calm h1 h3 (pa_mkO (fun e => (hr e).o) hs) (noStar_cons hs X.env).1 (noStar_any (noStar_cons hs X.env).2)
        · exact pe_stopK
    · exact pe_stopK
  · exact pe_stopK
theorem compIsi_ok {r : Rec} (hr : ∀ e, ExOk X Γ W (r C) e) (o : CxOk k X C Γ W) (f : Str) (a : Expr) (t : Str) (p p2 pos : Pos) (hf : isIsi f = true) : PE X (.Call (.Name f p) [a, .Name t p2] [] pos) (tE X.K W (evE Γ (compIsi r C f a t))) := by
  have hf := eq_of_beq hf
  subst hf
  unfold compIsi
  split
  · rename_i h
    obtain ⟨h1, h2, h3⟩ := h
    split
    · rename_i ty ht
      obtain ⟨ht, hn⟩ := tyOf_of ht
      subst ht
      refine pe_isiK (o.free h1).1 (o.free h1).2 hn (o.free h2).1 (o.free h2).2 (hr a).o ?_
      exact (noStar_cons (es := [.Name (tyS ty) p2]) (by revert h3; cases a <;> first | exact fun _ => rfl | exact fun h => h) X.env).1
    · exact pe_stopK
  · exact pe_stopK
theorem compV_ok {r : Rec} (hR : RecOk r) (o : CxOk k X C Γ W) (e : Expr) : PE X e (tE X.K W (evE Γ (compV r C e))) := by
  have hr := hR k X C Γ W o
  unfold compV
  split
  · rename_i x p
    split
    · exact pe_stopK
    · split
      · rename_i i hi
        obtain ⟨h1, h2, h3, h4⟩ := o.slotV hi
        exact pe_varK h1 h2 h3 h4
      · split
        · rename_i c hc
          obtain ⟨h1, h2, u, v, h3, h4, h5⟩ := o.glob hc
          exact pe_conK (pe_glob h1 h3 h4 h2) h5
        · exact pe_stopK
  · split
    · rename_i v hv
      exact pe_conOf hv
    · exact pe_stopK
  · split
    · rename_i h
      exact pe_tupK (pa_mkV (fun e => (hr e).v) h.1) (by rw [mkEs_len]; exact h.2)
    · exact pe_stopK
  · split
    · rename_i h
      exact peF (pe_lstK (pa_mkV (fun e => (hr e).v) h.1) (by rw [mkEs_len]; exact h.2)) lst_lst
    · exact pe_stopK
  · exact pe_binK (hr _).o (hr _).o
  · exact pe_negK (hr _).v
  · exact pe_notK (hr _).o
  · split
    · rename_i h
      exact pe_cmpK o.un (hr _).o (hr _).o h
    · exact pe_stopK
  · split
    · rename_i h
      exact pe_cmp2K o.un (hr _).o (hr _).o (hr _).o h
    · exact pe_stopK
  · exact pe_one (hr _).v
  · exact pe_andK (hr _).v (hr _).v
  · exact pe_orK (hr _).v (hr _).v
  · exact pe_iteK (hr _).t (hr _).v (hr _).v
  · exact pe_sliceK (hr _).o (partOf_ok hr _) (partOf_ok hr _)
  · split
    · rename_i h
      exact pe_idxK (hr _).o (hr _).v (plainIx_of h)
    · exact pe_stopK
  · split
    · rename_i hf
      exact compIsi_ok hr o _ _ _ _ _ _ hf
    · exact compCall_ok hr o _ _ _ _
  · exact peF (pe_compC hR o _ _ _ _) (compC_lst hR o _ _ _)
  · exact pe_stopK
theorem compF_ok {r : Rec} (hR : RecOk r) (o : CxOk k X C Γ W) (e : Expr) : PE X e (tF X.K W (evE Γ (compF r C e))) := by
  have hr := hR k X C Γ W o
  unfold compF
  split
  · split
    · rename_i h
      exact pe_lstK (pa_mkV (fun e => (hr e).v) h.1) (by rw [mkEs_len]; exact h.2)
    · exact pf_stopK
  · exact pe_binF (hr _).o (hr _).o
  · exact pe_sliceF (hr _).o (partOf_ok hr _) (partOf_ok hr _)
  · rename_i f p es pos
    split
    · rename_i h
      obtain ⟨h1, h2, h3⟩ := h
      split
      · rename_i b hb
        have hb := bfOf_of hb
        subst hb
        cases es with
        | nil => exact absurd rfl h2
        | cons e es => exact pe_bfF o.calm (o.free h3).1 (o.free h3).2 (pa_mkO (fun e => (hr e).o) h1) (noStar_cons h1 X.env).1 (noStar_any (noStar_cons h1 X.env).2)
      · exact pf_stopK
    · exact pf_stopK
  · exact pe_compC hR o _ _ _ _
  · exact pf_stopK
theorem pw_of {op : BoolOp} {vs : List Expr} {p : Pos} {t : L2.TT} (h : PT X (.BoolOp op vs p) t) : PW X (.BoolOp op vs p) t := ⟨fun wh pins s σ H Q I q => h.run pins s σ H Q I q⟩
theorem pt_of {e : Expr} {t : L2.TT} (h : PW X e t) : PT X e t := ⟨fun pins s σ H Q I q => h.run _ pins s σ H Q I q⟩
theorem compT_ok {r : Rec} (hR : RecOk r) (o : CxOk k X C Γ W) (e : Expr) : PT X e (tT X.K W (evE Γ (compT r C e))) := by
  have hr := hR k X C Γ W o
  unfold compT
  split
  · split
    · rename_i h
      exact pt_cmpK o.un (hr _).o (hr _).o h
    · exact pt_stopK
  · split
    · rename_i h
      exact pt_cmp2K o.un (hr _).o (hr _).o (hr _).o h
    · exact pt_stopK
  · exact pt_notK (hr _).t
  · rename_i op a p
    cases op with
    | And => exact pt_of (pw_and1 (hr _).t)
    | Or => exact pt_of (pw_or1 (hr _).t)
  · exact pt_of (pw_andK (hr _).t (pw_of (hr _).t))
  · exact pt_of (pw_orK (hr _).t (pw_of (hr _).t))
  · split
    · rename_i h
      exact pt_valK (hr _).o fun whole => plainT_of h X.env whole
    · exact pt_stopK
theorem hot_ok {r : Rec} (hR : RecOk r) (o : CxOk k X C Γ W) (e : Expr) : PE X e (tE X.K W (evE Γ (compHot r C e))) := by
  unfold compHot
  split
  · exact pe_heapK (compF_ok hR o e)
  · exact compV_ok hR o e
theorem compO_ok {r : Rec} (hR : RecOk r) (o : CxOk k X C Γ W) (e : Expr) : PE X e (tO X.K W (evE Γ (compO r C e))) := by
  unfold compO
  split
  · split
    · split
      · rename_i i hi
        obtain ⟨h1, h2, h3, h4⟩ := o.slotV hi
        exact pe_ownK h1 h2 h3 h4
      · exact po_stopK
    · exact peO (compV_ok hR o _)
  · exact peO (hot_ok hR o _)
theorem step_ok {r : Rec} (hR : RecOk r) : RecOk (compStep r) := fun k X C Γ W o e => ⟨hot_ok hR o e, compO_ok hR o e, compF_ok hR o e, compT_ok hR o e⟩
theorem comp_ok : ∀ n : Nat, RecOk (comp n)
  | 0 => fun k X C Γ W o e => ⟨pe_stopK, po_stopK, pf_stopK, pt_stopK⟩
  | n + 1 => step_ok (comp_ok n)
end Fx

namespace Fx
open PySem PySem.Spec PyProof.Rows L2
theorem swC_ok {ts vs : List Expr} {k k2 : Nat} {p p2 : Pos} {env : Env} {r : Option (List Str)} (h : swC ts vs env.scope = some r) : swappedStores [.Tuple ts k p] (.Tuple vs k2 p2) env = pure r := by
  unfold swC at h
  split at h
  · cases h
  · rename_i hk
    have hk : env.scope.kind = .function := Classical.not_not.mp hk
    have hb : env.blockKind = .function := by unfold Env.blockKind; rw [hk]; rfl
    unfold swappedStores
    simp only [hb, bne_self_eq_false, Bool.or_false, pure_bind]
    split at h
    · rename_i h1
      cases h
      rw [if_pos h1]
    · rename_i h1
      rw [if_neg h1]
      have hst : (vs.any fun x => match x with | .Starred .. => true | _ => false) = vs.any isStarE := rfl
      have hnm : (List.filterMap (fun x => match x with
              | Expr.Name id pos => if (env.kindOf id == some NameKind.local && pos.line == (Option.map (fun x => x.pos.line) ts.head?).getD 0) = true then some id else none
              | x => none) ts) = swNames ts env.scope := rfl
      change (if (vs.any isStarE) = true then (pure none : Sem (Option (List Str))) else if ((swNames ts env.scope).length != ts.length || (swNames ts env.scope).eraseDups.length != (swNames ts env.scope).length) = true then pure none else if vs.all (foldedForSure 8) = true then pure none else if vs.all (constantsAlone 8) = true then _ else pure (some (swNames ts env.scope))) = pure r
      split at h
      · rename_i h2
        cases h
        rw [if_pos h2]
      · rename_i h2
        rw [if_neg h2]
        split at h
        · rename_i h3
          cases h
          rw [if_pos h3]
        · rename_i h3
          rw [if_neg h3]
          split at h
          · rename_i h4
            cases h
            rw [if_pos h4]
          · rename_i h4
            rw [if_neg h4]
            split at h
            · cases h
            · rename_i h5
              cases h
              rw [if_neg h5]
theorem swA_ok {tg e : Expr} {env : Env} {r : Option (List Str)} (h : swA tg e env.scope = some r) : swappedStores [tg] e env = pure r := by
  unfold swA at h
  split at h
  · exact swC_ok h
  · cases h
  · rename_i h1 h2
    cases h
    unfold swappedStores
    cases tg with
    | Tuple a b c =>
      cases e with
      | Tuple _ _ _ => exact (h2 _ _ _ _ _ _ rfl rfl).elim
      | _ => rfl
    | List a b => exact (h1 _ _ rfl).elim
    | _ => rfl

variable {X : Cx} {W : WX} {Γ : Calls} {C : CC} {k : Nat}
structure SxOk (k : Nat) (X : Cx) (C : CC) (Γ : Calls) (W : WX) : Prop extends CxOk k X C Γ W where
  own : PassesOwn (model X.prog X.w) X.A X.env X.xe
theorem notComp_sw {e : Expr} (h : isComp e = false) (t : Option Expr) (l : Nat) (env : Env) : swapsWith e t l env = pure false := by
  cases e <;> first | rfl | cases h
theorem notComp_sole {e tg : Expr} (h : isComp e = false) (l : Nat) (env : Env) : swapsWithSole [tg] e l env = pure false := notComp_sw h (some tg) l env
theorem bool_false {b : Bool} (h : ¬ b = true) : b = false := by cases b <;> simp_all
theorem assign1 {tg : Expr} (h : noStar [tg] = true) (env : Env) : (assignEach [tg] env).map (·.2) = [assign tg env] := by rw [(noStar_assign h env).1]; rfl
theorem sub_assign {o i : Expr} {p : Pos} {env : Env} (h : plainIx i = true) (v : Value) : assign (.Subscript o i p) env v = (do
      let ov ← holding [v] (eval o env)
      let iv ← holding [v, ov] (eval i env)
      standAt p
      holding [v, ov, iv] (setItem ov iv v)
      release [v, ov, iv] []) := by
  cases i <;> first | rfl | cases h
theorem few1 {a : Expr} {cpos : Pos} {env : Env} (h : noStar [a] = true) : ((backTo cpos (starEach [a] env)).all (fun x => !x.1) && (backToKw cpos (keywordEach [] env)).all (fun x => x.1.isSome)
      && decide ([a].length + ([] : List Keyword).length + (if ([] : List Keyword).isEmpty then 0 else 1) < 30)) = true := by
  rw [(noStar_cons h env).1]; rfl
theorem noStar_name {x : Str} {p : Pos} : noStar [.Name x p] = true := rfl
theorem compPT_ok {r : Rec} (hr : ∀ e, ExOk X Γ W (r C) e) (o : CxOk k X C Γ W) : ∀ (es : List Expr) (ts : PTgs), noStar es = true → compPT r C es = some ts → PGs X es (gPs X.K Γ ts) ∧ es.length = ts.len
  | [], ts, _, h => by cases h; exact ⟨pgs_nilP, rfl⟩
  | e :: es, ts, hs, h => by
    rw [compPT] at h
    cases q : compPT r C es with
    | none => rw [q] at h; cases h
    | some t2 =>
      rw [q] at h
      obtain ⟨h1, h2⟩ := noStar_assign hs X.env
      obtain ⟨i1, i2⟩ := compPT_ok hr o es t2 h2 q
      have h : compPT1 r C t2 e = some ts := h
      unfold compPT1 at h
      split at h
      · rename_i x p _
        cases q1 : C.slotL x with
        | none => rw [q1] at h; cases h
        | some i =>
          rw [q1] at h
          cases h
          obtain ⟨z1, z2, z3⟩ := o.slotL q1
          exact ⟨pgs_nameP o.nd z1 z2 z3 i1 (by rw [h1]; rfl), by rw [List.length_cons, i2]; rfl⟩
      · rename_i x p i p2 _
        split at h
        · rename_i hp
          split at h
          · cases q1 : C.slotV x with
            | none => rw [q1] at h; cases h
            | some j =>
              rw [q1] at h
              cases h
              obtain ⟨z1, z2, z3, z4⟩ := o.slotV q1
              exact ⟨pgs_itemPO z1 z2 z3 z4 (hr i).v i1 (by rw [h1]; rfl) (sub_assign hp), by rw [List.length_cons, i2]; rfl⟩
          · cases q1 : C.slotV x with
            | none => rw [q1] at h; cases h
            | some j =>
              rw [q1] at h
              cases h
              obtain ⟨z1, z2, z3, z4⟩ := o.slotV q1
              exact ⟨pgs_itemP (pe_varK z1 z2 z3 z4) (hr i).v i1 (by rw [h1]; rfl) (sub_assign hp), by rw [List.length_cons, i2]; rfl⟩
        · cases h
      · cases h
theorem comp_name {r : Rec} (hR : RecOk r) (o : CxOk k X C Γ W) {y : Str} {py pos : Pos} {e : Expr} {i : Nat} (hi : C.slotL y = some i) (hsw : swComp y py e C.sc = true) :
    PS X (.Assign [.Name y py] e pos) (tS X.K W (evS Γ (compName r C y i e))) := by
  obtain ⟨h1, h2, h3⟩ := o.slotL hi
  unfold swComp at hsw
  split at hsw
  · rename_i elt gs scope p2
    simp only [Bool.and_eq_true, decide_eq_true_eq, Bool.not_eq_true'] at hsw
    obtain ⟨⟨⟨a1, a2⟩, a3⟩, a4⟩ := hsw
    show PS X (.Assign [.Name y py] (.ListComp elt gs scope p2) pos) (tS X.K W (evS Γ (if C.isOwn y = true then .asgOwn i (compC r C elt gs scope) else .asg (.name i) (compC r C elt gs scope))))
    have st : ∀ (i : Nat), PS X (.Assign [.Name y py] (.ListComp elt gs scope p2) pos) (tS X.K W (evS Γ (.asg (.name i) .stop))) := fun i => ⟨fun pins s σ H Q I ⟨M, G, st, hh, hst, hm⟩ => by rw [evS, evE] at hm; exact hm.elim⟩
    have st2 : ∀ (i : Nat), PS X (.Assign [.Name y py] (.ListComp elt gs scope p2) pos) (tS X.K W (evS Γ (.asgOwn i .stop))) := fun i => ⟨fun pins s σ H Q I ⟨M, G, st, hh, hst, hm⟩ => by rw [evS, evE] at hm; exact hm.elim⟩
    rcases compC_ok hR o elt gs scope with h | ⟨tg, iter, ifs, t, it, c, e, rfl, h, q⟩
    · rw [h]
      split
      · exact st2 i
      · exact st i
    · rw [h]
      have hk : X.env.scope.kind = .function := by rw [o.sc]; exact a3
      have hl : X.env.scope.names.lookup y = some .local := by rw [o.sc]; exact a4
      have sw : swapsWith (.ListComp elt [⟨tg, iter, ifs, 0⟩] scope p2) (some (.Name y py)) pos.line X.env = pure true := sw_true hk hl a1 a2
      split
      · exact ps_compO o.calm o.nd h1 hl sw q.hi q.ok q.hts q.hg q.ht q.he q.hs
      · exact ps_compV o.calm o.nd h1 hl sw q.hi q.ok q.hts q.hg q.ht q.he q.hs
  · cases hsw
theorem plain_of (o : CxOk k X C Γ W) {x : Str} (h : C.plain x = true) : X.env.scope.names.lookup x = some .local := by rw [o.sc]; exact of_decide_eq_true h
theorem compAsg_ok {r : Rec} (hR : RecOk r) (o : CxOk k X C Γ W) (tg e : Expr) (pos : Pos) : PS X (.Assign [tg] e pos) (tS X.K W (evS Γ (compAsg r C tg e))) := by
  have hr := hR k X C Γ W o
  unfold compAsg
  split
  · rename_i y py
    split
    · exact ps_stopK
    · rename_i i hi
      obtain ⟨h1, h2, h3⟩ := o.slotL hi
      split
      · split
        · rename_i h
          exact comp_name hR o hi h.1
        · exact ps_stopK
      · rename_i hc
        have hc := bool_false hc
        split
        · exact ps_ownK o.nd h1 h2 (hr e).f (notComp_sw hc _ _ _) h3
        · exact ps_asgT (hr e).v (pg_nameK o.nd h1 h2 h3) (notComp_sole hc _ _) (by cases e <;> rfl) rfl
  · rename_i x px i p
    split
    · exact ps_stopK
    · rename_i h
      have hc : isComp e = false := bool_false fun z => h (.inl z)
      have hp : plainIx i = true := by cases q : plainIx i with | true => rfl | false => exact absurd (.inr q) h
      split
      · exact ps_stopK
      · rename_i j hj
        obtain ⟨z1, z2, z3, z4⟩ := o.slotV hj
        split
        · exact ps_setOK z1 z2 z3 z4 (hr e).v (hr i).v (notComp_sole hc _ _) (by cases e <;> rfl) rfl (sub_assign hp)
        · exact ps_setRK (hr e).v (pe_varK z1 z2 z3 z4) (hr i).v (notComp_sole hc _ _) (by cases e <;> rfl) rfl (sub_assign hp)
  · rename_i ts kk pt
    split
    · exact ps_stopK
    · rename_i hc
      have hc := bool_false hc
      split
      · exact ps_stopK
      · rename_i x y hsw
        split
        · rename_i x' px y' py a b k2 p2
          split
          · rename_i i j hi hj
            split
            · rename_i h
              obtain ⟨rfl, rfl, hij, hx, hy, hs⟩ := h
              rw [← o.sc] at hsw
              exact ps_asgP2 o.calm o.nd (by rw [o.N]; exact idx_of hi) (by rw [o.N]; exact idx_of hj) hij (plain_of o hx) (plain_of o hy) (pa_mkV (fun e => (hr e).v) hs) (mkEs_len _ _) (swA_ok hsw) (notComp_sole hc _ _)
            · exact ps_stopK
          · exact ps_stopK
        · exact ps_stopK
      · rename_i x y z hsw
        split
        · rename_i x' px y' py z' pz a b c k2 p2
          split
          · rename_i i j l hi hj hl
            split
            · rename_i h
              obtain ⟨rfl, rfl, rfl, hij, hil, hjl, hx, hy, hz, hs⟩ := h
              rw [← o.sc] at hsw
              exact ps_asgP3 o.calm o.nd (by rw [o.N]; exact idx_of hi) (by rw [o.N]; exact idx_of hj) (by rw [o.N]; exact idx_of hl) hij hil hjl (plain_of o hx) (plain_of o hy) (plain_of o hz) (pa_mkV (fun e => (hr e).v) hs) (mkEs_len _ _) (swA_ok hsw) (notComp_sole hc _ _)
            · exact ps_stopK
          · exact ps_stopK
        · exact ps_stopK
      · exact ps_stopK
      · rename_i hsw
        rw [← o.sc] at hsw
        split
        · rename_i t ht
          exact ps_asgT (hr e).v (compG_ok o 8 _ t ht) (notComp_sole hc _ _) (swA_ok hsw) rfl
        · split
          · rename_i hs
            split
            · rename_i ps hps
              obtain ⟨i1, i2⟩ := compPT_ok hr o ts ps hs hps
              exact ps_parK o.calm (hr e).v i1 (by rw [noStar_len hs, i2]) (noStar_find hs) (notComp_sole hc _ _) (swA_ok hsw) rfl
            · exact ps_stopK
          · exact ps_stopK
  · exact ps_stopK
theorem compExp_ok {r : Rec} (hR : RecOk r) (o : CxOk k X C Γ W) (e : Expr) (pos : Pos) : PS X (.Expr e pos) (tS X.K W (evS Γ (compExp r C e))) := by
  have hr := hR k X C Γ W o
  unfold compExp
  split
  · exact ps_docK
  · rename_i x p m apos es cpos
    split
    · exact ps_stopK
    · rename_i j hj
      obtain ⟨z1, z2, z3, z4⟩ := o.slotV hj
      split
      · rename_i hline
        split
        · split
          · rename_i h
            obtain ⟨rfl, _⟩ := h
            exact ps_popK z1 z2 z3 z4 hline
          · exact ps_stopK
        · rename_i a
          split
          · rename_i hs
            split
            · rename_i h
              subst h
              split
              · exact ps_appK z1 z2 z3 z4 (hr a).v (few1 hs) hline (noStar_cons hs X.env).1 (noStar_any (noStar_cons hs X.env).2)
              · exact ps_appRK (pe_varK z1 z2 z3 z4) (hr a).v rfl (few1 hs) hline (noStar_cons hs X.env).1 (noStar_any (noStar_cons hs X.env).2)
            · split
              · rename_i h
                obtain ⟨rfl, _⟩ := h
                exact ps_extK z1 z2 z3 z4 (hr a).v (few1 hs) hline (noStar_cons hs X.env).1 (noStar_any (noStar_cons hs X.env).2)
              · exact ps_stopK
          · exact ps_stopK
        · exact ps_stopK
      · exact ps_stopK
  · split
    · exact ps_stopK
    · rename_i hc
      exact ps_expK (hr e).v (notComp_sw (bool_false hc) _ _ _)
theorem compRet_ok {r : Rec} (hR : RecOk r) (o : CxOk k X C Γ W) (e : Expr) (pos : Pos) : PS X (.Return (some e) pos) (tS X.K W (evS Γ (compRet r C e))) := by
  have hr := hR k X C Γ W o
  unfold compRet
  split
  · split
    · split
      · rename_i j hj
        obtain ⟨z1, z2, z3, z4⟩ := o.slotV hj
        exact ps_retOK z1 z2 z3 z4
      · exact ps_stopK
    · exact ps_retK (hr _).v
  · exact ps_retK (hr _).v
theorem compSet_ok {r : Rec} (hR : RecOk r) (o : CxOk k X C Γ W) (tg e : Expr) (pos : Pos) : PS X (.Assign [tg] e pos) (tS X.K W (evS Γ (compSet r C tg e))) := by
  unfold compSet
  split
  · rename_i x p m apos cpos
    split
    · rename_i h
      obtain ⟨rfl, _, hl⟩ := h
      split
      · rename_i j t hj ht
        obtain ⟨z1, z2, z3, z4⟩ := o.slotV hj
        refine ps_popT z1 z2 z3 z4 hl (compG_ok o 8 tg t ht) rfl ?_ (compG_star ht X.env)
        unfold swappedStores
        cases tg <;> rfl
      · exact ps_stopK
    · exact compAsg_ok hR o tg _ pos
  · exact compAsg_ok hR o tg _ pos
theorem mkSs_ok {f : Stmt → S} (h : ∀ s, PS X s (tS X.K W (evS Γ (f s)))) : ∀ b : List Stmt, PSs X b (tS X.K W (evSs Γ (mkSs f b)))
  | [] => pss_nilK
  | s :: b => pss_consK (h s) (mkSs_ok h b)
theorem compSStep_ok {r : Rec} (hR : RecOk r) (o : SxOk k X C Γ W) {f : Stmt → S} (h : ∀ s, PS X s (tS X.K W (evS Γ (f s)))) (st : Stmt) : PS X st (tS X.K W (evS Γ (compSStep r C f st))) := by
  have o' := o.toCxOk
  have hr := hR k X C Γ W o'
  unfold compSStep
  split
  · exact ps_retNK
  · exact compRet_ok hR o' _ _
  · exact ps_passK
  · exact ps_breakK
  · exact ps_continueK
  · exact compExp_ok hR o' _ _
  · exact compSet_ok hR o' _ _ _
  · rename_i x p op e pos
    split
    · rename_i i hi
      obtain ⟨h1, h2, h3⟩ := o'.slotL hi
      split
      · rename_i hop
        exact ps_augK hop.1 o.nd h1 h2 (hr e).v h3
      · exact ps_stopK
    · exact ps_stopK
  · rename_i tg it body pos
    split
    · exact ps_stopK
    · rename_i hs
      split
      · rename_i t ht
        exact ps_forK o.own o.calm (compI_ok (fun _ _ _ _ l => l) Since.refl o' hr tg it (pi_ofS (hr it).v)) (compG_ok o' 8 tg t ht) (mkSs_ok h body) (isSet_of (bool_false hs) X.env)
      · exact ps_stopK
  · exact ps_whileK o.own (hr _).t (mkSs_ok h _)
  · exact ps_ifK (hr _).t (mkSs_ok h _) (mkSs_ok h _)
  · exact ps_stopK
theorem compS_ok (o : SxOk k X C Γ W) : ∀ (n : Nat) (st : Stmt), PS X st (tS X.K W (evS Γ (compS n C st)))
  | 0, _ => ps_stopK
  | n + 1, st => compSStep_ok (comp_ok 60) o (compS_ok o n) st
end Fx

namespace Fx
open PySem PySem.Spec PyProof.Rows L2
structure DD where
  name : String
  qual : Str
  params : Arguments
  ps : List Str
  N : List Str
  body : List Stmt
  scope : Scope
  own : List Str := []
  hot : List Pos := []
def DD.C (gl : List (Str × GK)) (d : DD) : CC := ⟨d.N, d.scope, d.scope, gl, d.own, d.hot⟩
def DD.fd (gl : List (Str × GK)) (d : DD) : Fd := ⟨d.ps.length, d.N.length, mkSs (compS 12 (d.C gl)) d.body⟩
def findD (D : List DD) (f : String) : Option DD := D.find? fun d => d.name == f
def progOf (gl : List (Str × GK)) (D : List DD) : Prog := fun f => (findD D f).map (DD.fd gl)
structure DOk (K : PySem.W.Frag) (mg : Str → Option Value) (d : DD) (a : Addr) (fd : FuncData) : Prop where
  glob : mg (Str.ofString d.name) = some (.ref a)
  fun_ : FunD K (Str.ofString d.name) d.qual d.params d.body d.scope [] [] a fd
  sc : FnScope d.N d.ps d.scope
  binds : Binds K fd d.ps []
def GOk (K : PySem.W.Frag) (mg : Str → Option Value) (D : List DD) (x : Str) : GK → Prop
  | .fn f n => Str.ofString f = x ∧ ∃ d, findD D f = some d ∧ n = d.ps.length
  | .free => mg x = none
  | .con c => ∃ u v, mg x = some u ∧ RelV v u ∧ ∀ M H, Rl K M H c v
variable {K : PySem.W.Frag} {M M' : Mp} {H H' : Hp} {G : Heap}
theorem since_noOw (h : M.ow = fun _ => none) (l : Since M H M' H') : Later M H M'.noOw H' :=
  ⟨l.pre, h.symm, l.xo, l.xo', fun a o hn e => l.keep a o (fun z => z.elim hn fun ⟨i, q⟩ => by rw [h] at q; cases q) e, l.there⟩
theorem HeapR.noOw (hh : HeapR K M G H) : HeapR K M.noOw G H :=
  ⟨⟨hh.ok.nodup, fun i a h => (by cases h), hh.ok.d2, fun i a h => (by cases h), fun i j a h => (by cases h), fun i a h => (by cases h), hh.ok.xth⟩, hh.len, fun n a o h1 h2 => by
    have := hh.obj n a o h1 h2
    cases o with
    | lst xs => obtain ⟨vs, e, t⟩ := this; exact ⟨vs, e, t.ext noOw_ext⟩⟩
theorem start_st {vs : List Val} {us : List V} (N : List Str) (r : Rls K M H vs us) : StoreR K M H (startS N.length vs) (L2.start N us) := by
  unfold startS L2.start
  rw [r.length]
  refine ⟨by simp [r.length], fun i => ?_⟩
  by_cases h : i < vs.length
  · obtain ⟨u, hu, ru⟩ := r.get (List.getElem?_eq_getElem h)
    have hi : i < us.length := by rw [← r.length]; exact h
    rw [List.getD_eq_getElem?_getD, List.getElem?_append_left (by simp; omega), List.getElem?_append_left (by simp; omega), List.getElem?_map, List.getElem?_map, hu, List.getElem?_eq_getElem h]
    exact ⟨u, rfl, ru⟩
  · have e : (vs.map Slot.val ++ List.replicate (N.length - us.length) Slot.no).getD i .no = .no := by
      rw [List.getD_eq_getElem?_getD, List.getElem?_append_right (by simpa using h), List.getElem?_replicate]
      split <;> rfl
    rw [e]
    trivial
theorem fn_step {P : Program} {w : World} {mg : Str → Option Value} {base : PySem.Heap} {gl : List (Str × GK)} {d : DD} {a : Addr} {fd : FuncData} {k : Nat} {Γ : Calls} (O : DOk K mg d a fd)
    (hgl : ∀ X : Cx, X.prog = P → X.w = w → X.K = K → X.mg = mg → X.base = base → ∀ p ∈ gl, GkOk k X Γ p.1 p.2) :
    FnOk P w K mg base (CX P w) (k + 1) a fd d.ps (spF K d.ps.length (runB Γ (d.fd gl))) := by
  refine O.fun_.ok O.sc (fun vs H Q E h => h.1) fun cdv A outer s H us Q E hr ⟨hlen, M, G, vs, how, hh, r, h⟩ => ?_
  let X : Cx := cxOf (CX P w) P w K mg base d.N d.qual d.scope a cdv A outer s H E
  let W : WX := fun cls dd _ H => E cls dd H
  have o : SxOk k X (d.C gl) Γ W := {
    N := rfl
    nd := O.sc.nd
    sc := rfl
    calm := rfl
    fn := fun _ _ => rfl
    tk := takes_of rfl rfl rfl rfl
    un := by have := hr.un; show (A.deeper _).units + 64 < cLine; omega
    room := hr
    gl := hgl X rfl rfl rfl rfl rfl
    own := passes_of rfl }
  refine ⟨tS K W (evSs Γ (mkSs (compS 12 (d.C gl)) d.body)), mkSs_ok (compS_ok o 12) d.body, M, G, startS d.N.length vs, hh, start_st d.N r, ?_⟩
  have hl : vs.length = d.ps.length := by rw [r.length, hlen]
  have h : (if vs.length = d.ps.length then match evSs Γ (mkSs (compS 12 (d.C gl)) d.body) (startS d.N.length vs) G with
    | .ret v G1 => R.ok v G1
    | .next _ G1 => .ok .none G1
    | .exc e _ G1 => .exc e G1
    | _ => .no
  else .no).wp _ _ := h
  rw [if_pos hl] at h
  revert h
  cases evSs Γ (mkSs (compS 12 (d.C gl)) d.body) (startS d.N.length vs) G with
  | no => exact fun h => h.elim
  | brk _ _ => exact fun h => h.elim
  | cont _ _ => exact fun h => h.elim
  | next s1 G1 => exact fun h M' H' st' l hh' _ => h M'.noOw .non H' (since_noOw how l) hh'.noOw .nn
  | ret v G1 => exact fun h M' H' u l hh' r' => h M'.noOw u H' (since_noOw how l) hh'.noOw r'
  | exc e s1 G1 => exact fun h M' H' st' cls dd l hh' _ x => h M'.noOw cls dd H' (since_noOw how l) hh'.noOw (x.ext noOw_ext)
theorem findD_name {D : List DD} {f : String} {d : DD} (h : findD D f = some d) : d ∈ D ∧ d.name = f := by
  refine ⟨List.mem_of_find?_eq_some h, ?_⟩
  have := List.find?_some (p := fun d : DD => d.name == f) h
  exact eq_of_beq this
theorem defs_ok {P : Program} {w : World} {mg : Str → Option Value} {base : PySem.Heap} {D : List DD} {gl : List (Str × GK)} (hD : ∀ d ∈ D, ∃ a fd, DOk K mg d a fd) (hgl : ∀ p ∈ gl, GOk K mg D p.1 p.2) :
    ∀ (k : Nat) (f : String) (d : DD), findD D f = some d → ∃ a fd, DOk K mg d a fd ∧ DefOk P w K mg base k f d.ps.length (callN (progOf gl D) k f) a fd d.ps
  | 0, f, d, hd => by
    obtain ⟨hm, hn⟩ := findD_name hd
    obtain ⟨a, fd, O⟩ := hD d hm
    refine ⟨a, fd, O, by rw [← hn]; exact O.glob, O.fun_.kp, rfl, O.binds, ⟨fun vs H Q E h => h.1, fun A outer s H args us vs Q E hr he hb hv ⟨_, M, G, ws, _, _, _, h⟩ => ?_⟩⟩
    exact h.elim
  | k + 1, f, d, hd => by
    obtain ⟨hm, hn⟩ := findD_name hd
    obtain ⟨a, fd, O⟩ := hD d hm
    refine ⟨a, fd, O, by rw [← hn]; exact O.glob, O.fun_.kp, rfl, O.binds, ?_⟩
    have e : callN (progOf gl D) (k + 1) f = runB (callN (progOf gl D) k) (d.fd gl) := by
      funext vs G
      show (match (findD D f).map (DD.fd gl) with
        | some d => runB (callN (progOf gl D) k) d vs G
        | none => .no) = _
      rw [hd]; rfl
    rw [e]
    have ih := defs_ok (P := P) (w := w) (base := base) hD hgl k
    refine fn_step O fun X h1 h2 h3 h4 h5 p hp => ?_
    have q := hgl p hp
    subst h1 h2 h3 h4 h5
    obtain ⟨x, g⟩ := p
    cases g with
    | fn f n =>
      obtain ⟨e1, d2, e2, e3⟩ := q
      subst e3
      obtain ⟨a2, fd2, _, q2⟩ := ih f d2 e2
      exact ⟨e1, a2, fd2, d2.ps, q2⟩
    | free => exact q
    | con c => exact q
end Fx

namespace Fx
open PySem PySem.Spec PyProof.Rows L2
def DD.toDefD (d : DD) : He.DefD := ⟨(Str.ofString d.name, none), Str.ofString d.name, d.qual, d.params, d.body, d.scope, [], []⟩
def faOf (D : List DD) (fr : List Str) (is : List (Str × Int)) : List He.Fa := D.map (fun d => .glo (Str.ofString d.name)) ++ (fr.map .free ++ is.map fun p => .int p.1 p.2)
def glOf (D : List DD) (fr : List Str) (is : List (Str × Int)) : List (Str × GK) := D.map (fun d => (Str.ofString d.name, .fn d.name d.ps.length)) ++ (fr.map (fun x => (x, .free)) ++ is.map fun p => (p.1, .con (.int p.2)))
def scB (d : DD) : Bool := decide (d.scope.kind = .function) && decide (d.scope.isCoroutine = false) && decide (d.scope.isGenerator = false) && decide d.N.Nodup && decide (d.N.take d.ps.length = d.ps) &&
  (d.ps.all fun x => decide (d.scope.names.lookup x = some .local) || decide (d.scope.names.lookup x = some .cell)) && (d.scope.names.all fun y => decide (y.2 ≠ .free))
theorem scB_ok {d : DD} (h : scB d = true) : FnScope d.N d.ps d.scope := by
  unfold scB at h
  simp only [Bool.and_eq_true, decide_eq_true_eq, List.all_eq_true, Bool.or_eq_true] at h
  obtain ⟨⟨⟨⟨⟨⟨h1, h2⟩, h3⟩, h4⟩, h5⟩, h6⟩, h7⟩ := h
  exact ⟨h1, h2, h3, h4, h5, h6, h7⟩
def BindOk (d : DD) : Prop := ∀ (kV doc pm : Value) (an : Option Addr) (cdv ct : Value) (us : List Value), us.length = d.ps.length → bindArgs (PySem.W.fnOf (Str.ofString d.name) d.qual d.params d.body d.scope .none kV doc pm an cdv ct) ⟨us, []⟩ = pure (d.ps.zip us)
def nameB (D : List DD) (d : DD) : Bool := match findD D d.name with
  | some e => decide (d.ps.length = e.ps.length)
  | none => false
section
variable {K : PySem.W.Frag} {h : PySem.Heap} {mg : Str → Option Value} {D : List DD} {fr : List Str} {is : List (Str × Int)}
theorem fact_mem {fa : List He.Fa} {fn : List He.DefD} (c : He.SaysD fa fn K) {f : He.Fa} (hf : f ∈ fa) : f.ok K = true := by
  have c1 := (He.ba (show ((fa.all fun f => f.ok K) && fn.all fun d => d.ok K) = true from congrArg (fun z : He.AlD => z.1) c)).1
  exact List.all_eq_true.mp c1 f hf
theorem def_mem {fa : List He.Fa} {fn : List He.DefD} (c : He.SaysD fa fn K) {d : He.DefD} (hd : d ∈ fn) : ∃ fd, FunD K d.name d.qual d.params d.body d.scope (d.dvs K) (d.kws K) (He.fAd K d.at_) fd := by
  obtain ⟨i, hi, e⟩ := List.mem_iff_getElem.mp hd
  exact c.def_ i (by rw [List.getElem?_eq_getElem hi, e])
theorem dOk_of (X : K.In h) (G : h.Ns mainGlobals mg) (c : He.SaysD (faOf D fr is) (D.map DD.toDefD) K) (hsc : D.all scB = true) (hb : ∀ d ∈ D, BindOk d) : ∀ d ∈ D, ∃ a fd, DOk K mg d a fd := fun d hd => by
  obtain ⟨fd, F⟩ := def_mem c (List.mem_map_of_mem (f := DD.toDefD) hd)
  have g := He.glo_ok X G (fact_mem c (f := .glo (Str.ofString d.name)) (List.mem_append_left _ (List.mem_map_of_mem (f := fun d : DD => He.Fa.glo (Str.ofString d.name)) hd)))
  exact ⟨_, fd, g, F, scB_ok (List.all_eq_true.mp hsc d hd), FunD.bindsN F (hb d hd)⟩
theorem gOk_of (X : K.In h) (G : h.Ns mainGlobals mg) (c : He.SaysD (faOf D fr is) (D.map DD.toDefD) K) (hn : D.all (nameB D) = true) : ∀ p ∈ glOf D fr is, GOk K mg D p.1 p.2 := fun p hp => by
  rcases List.mem_append.mp hp with hp | hp
  · obtain ⟨d, hd, rfl⟩ := List.mem_map.mp hp
    have := List.all_eq_true.mp hn d hd
    unfold nameB at this
    split at this
    · rename_i e he
      exact ⟨rfl, e, he, of_decide_eq_true this⟩
    · cases this
  · rcases List.mem_append.mp hp with hp | hp
    · obtain ⟨x, hx, rfl⟩ := List.mem_map.mp hp
      exact He.free_ok X G (fact_mem c (f := .free x) (List.mem_append_right _ (List.mem_append_left _ (List.mem_map_of_mem (f := He.Fa.free) hx))))
    · obtain ⟨q, hq, rfl⟩ := List.mem_map.mp hp
      obtain ⟨t, e⟩ := He.int_ok X G (fact_mem c (f := .int q.1 q.2) (List.mem_append_right _ (List.mem_append_right _ (List.mem_map_of_mem (f := fun p : Str × Int => He.Fa.int p.1 p.2) hq))))
      exact ⟨_, .int q.2, e, ⟨t, rfl⟩, fun _ _ => .int _⟩
theorem frz_of {H : Hp} {a : Addr} {ns : List Int} (hO : L2.Only H) (hS : SqL K H a (ns.map V.int)) : HeapR K ⟨[], fun _ => none, fun _ => False⟩ [] H ∧ Rl K ⟨[], fun _ => none, fun _ => False⟩ H (.frz (ns.map .int)) (.ref a) := by
  have ex : ∀ b, ¬ (Mp.mk [] (fun _ => none) (fun _ => False)).ex b := fun b z => by
    rcases z with z | ⟨_, z⟩ | z
    · cases z
    · cases z
    · exact z
  have rs : ∀ ns : List Int, Rls K ⟨[], fun _ => none, fun _ => False⟩ H (ns.map .int) (ns.map V.int) := fun ns => by
    induction ns with
    | nil => exact .nil
    | cons n ns ih => exact .cons (.int n) ih
  refine ⟨⟨⟨List.nodup_nil, fun i a e => (by cases e), fun a e => e.elim, fun i a e => (by cases e), fun i j a e => (by cases e), fun i a e => (by cases e), fun a e => e.elim⟩, rfl, fun n a o e => (by cases e)⟩, ?_⟩
  rcases hS with (e | ⟨o, e⟩) | ⟨o, its, n, h1, h2, h3, h4, h5, h6⟩
  · rcases hO a with z | ⟨o, xs, z⟩
    · rw [z] at e; cases e
    · rw [z] at e; cases e
  · exact .frzT (ex a) e (rs ns)
  · exact .frzK ⟨o, its, n, h1, h2, h3, h4, h5, h6⟩ (rs ns)
theorem law_F {P : Program} {w : World} {fa : Addr} {k : Nat} {dl : DD} {x : Str} {n : Nat} (X : K.In h) (G : h.Ns mainGlobals mg) (c : He.SaysD (faOf D fr is) (D.map DD.toDefD) K) (hfa : mg ("law" : Str) = some (.ref fa)) (hsc : D.all scB = true) (hb : ∀ d ∈ D, BindOk d) (hn : D.all (nameB D) = true)
    (hlaw : findD D "law" = some dl) (hps : dl.ps = [x]) (hpure : ∀ ns : List Int, ns.length ≤ n → ∃ G', callN (progOf (glOf D fr is) D) k "law" [.frz (ns.map .int)] [] = .ok (.bool true) G') :
    ∃ (fd : FuncData) (sp : Sp), (∀ (s : Shared) (u : Value), BindsTo s fd ⟨[u], []⟩ [(x, u)]) ∧ (∀ (H : Hp) (a : Addr) (ns : List Int), ns.length ≤ n → L2.Only H → SqL K H a (ns.map V.int) → sp [.ref a] H (fun v _ => v = .bl true) fun _ _ _ => False) ∧
      ∀ base : PySem.Heap, K.In base → base.Ns mainGlobals mg → FnOk P w K mg base (CX P w) k fa fd [x] sp := by
  have hD := dOk_of X G c hsc hb
  have hg := gOk_of X G c hn
  obtain ⟨hm, hnm⟩ := findD_name hlaw
  obtain ⟨a, fd, O⟩ := hD dl hm
  have e : a = fa := by
    have := O.glob
    rw [hnm] at this
    have h2 : (some (Value.ref a)) = some (.ref fa) := this.symm.trans hfa
    injection h2 with h2
    injection h2
  subst e
  refine ⟨fd, spF K 1 (callN (progOf (glOf D fr is) D) k "law"), fun s u => ?_, fun H b ns hl hO hS => ?_, fun base h1 h2 => ?_⟩
  · have := O.fun_.bindsA (hb dl hm) s [u] (by rw [hps]; rfl)
    rw [hps] at this
    exact this
  · obtain ⟨h1, h2⟩ := frz_of hO hS
    obtain ⟨G', e⟩ := hpure ns hl
    refine ⟨rfl, _, [], [.frz (ns.map .int)], rfl, h1, .cons h2 .nil, ?_⟩
    rw [e]
    intro M' u H' _ _ r
    cases r
    rfl
  · obtain ⟨a2, fd2, O2, Dk⟩ := defs_ok (P := P) (w := w) (base := base) hD hg k "law" dl hlaw
    have e2 : a2 = a := by
      have h1 := O.glob
      have h2 := O2.glob
      rw [h1] at h2
      injection h2 with h2
      injection h2 with h2
      exact h2.symm
    subst e2
    have ok := Dk.ok
    rw [hps] at ok
    have e3 : fd2 = fd := by
      obtain ⟨oc, od, dV, kV, doc, pm, an, cdv, ct, osl, _, lk, _⟩ := O.fun_.ex
      obtain ⟨oc2, od2, dV2, kV2, doc2, pm2, an2, cdv2, ct2, osl2, _, lk2, _⟩ := O2.fun_.ex
      rw [lk] at lk2
      injection lk2 with lk2
      injection lk2 with _ _ lk2 _
      injection lk2 with lk2
      exact lk2.symm
    subst e3
    exact ok
theorem cx_never {P : Program} {w : World} (H : Hp) (s : Shared) (e : Value) (s' : Shared) (h : L2.CX P w [] H s (fun _ _ _ => False) e s') : False := by
  obtain ⟨_, _, _, _, _, _, _, _, _, _, _, _, h⟩ := h
  exact h
end
end Fx

namespace Fx
open PySem PySem.Spec PyProof.Rows L2
theorem walkX {l : PySem.W.OpenLaw} {n k : Nat} {q : Program} {loose : List Str} {XP : (Str → Option Value) → PySem.Heap → Prop} {YP : World → PySem.Heap → Prop} {d : DefRec} {x : Str} (most : l.most = some n) (small : n ≤ sizeLine)
    (nodf : d.params.defaults = []) (room : Room k callerA)
    (law : ∀ (w : World) (mg : Str → Option Value) (fa : Addr) (h : PySem.Heap), YP w h → h.Ns mainGlobals mg → mg d.name = some (.ref fa) → ∃ (K : PySem.W.Frag) (fd : FuncData) (sp : Sp), K.In h ∧
      (∀ (s : Shared) (u : Value), BindsTo s fd ⟨[u], []⟩ [(x, u)]) ∧ (∀ (H : Hp) (a : Addr) (ns : List Int), ns.length ≤ n → L2.Only H → SqL K H a (ns.map V.int) → sp [.ref a] H (fun v _ => v = .bl true) fun _ _ _ => False) ∧
      ∀ base : PySem.Heap, K.In base → base.Ns mainGlobals mg → FnOk l.prog w K mg base (L2.CX l.prog w) k fa fd [x] sp) : PySem.W.WalkO q loose XP YP l.row.toRowW d [] (fun f vs => PySem.call f vs) := by
  apply Att.attach_call most nodf
  intro w s₀ s₁ mg mb fa o pm cd doc a vs ns G Y ho hd hcd hmg hobj hints hlen hg
  have z := law w mg fa _ Y G.T.g hmg
  obtain ⟨K, fd, sp, inK, bi, pr, ok⟩ := z
  refine law_call inK G.T.g G.T.b G.T.builtins G.T.nolimit hg hobj hints (Nat.le_trans hlen small) room ok bi (fun H hO hS => ?_) fun H e s' => ?_
  · exact pr H a ns hlen hO hS
  · exact cx_never H s₁ e s'
end Fx

namespace Fx
open PySem PySem.Spec PyProof.Rows L2
/-- ends well, with Q -/
def R.tot {α : Type} (r : R α) (Q : α → Heap → Prop) : Prop := match r with
  | .ok a G => Q a G
  | _ => False
@[simp] theorem R.tot_ok {α : Type} (a : α) (G : Heap) (Q : α → Heap → Prop) : (R.ok a G).tot Q ↔ Q a G := Iff.rfl
@[simp] theorem R.tot_no {α : Type} (Q : α → Heap → Prop) : (R.no : R α).tot Q ↔ False := Iff.rfl
theorem R.tot_bind {α β : Type} {m : R α} {f : α → Heap → R β} {Q : β → Heap → Prop} : (m.bind f).tot Q ↔ m.tot fun a G => (f a G).tot Q := by
  cases m <;> exact Iff.rfl
theorem R.tot_mono {α : Type} {r : R α} {Q Q' : α → Heap → Prop} (h : r.tot Q) (hq : ∀ a G, Q a G → Q' a G) : r.tot Q' := by
  cases r with
  | ok a G => exact hq a G h
  | no => exact h
  | exc _ _ => exact h
theorem R.tot_eq {α : Type} {r : R α} {Q : α → Heap → Prop} (h : r.tot Q) : ∃ a G, r = .ok a G ∧ Q a G := by
  cases r with
  | ok a G => exact ⟨a, G, rfl, h⟩
  | no => exact h.elim
  | exc _ _ => exact h.elim
theorem R.tot_of {α : Type} {r : R α} {a : α} {G : Heap} {Q : α → Heap → Prop} (e : r = .ok a G) (h : Q a G) : r.tot Q := by rw [e]; exact h
@[simp] theorem R.calm_ok {α : Type} (a : α) (G : Heap) : (R.ok a G).calm = .ok a G := rfl
/-- a call's first step, then -/
theorem tot_step {α β : Type} {m : R α} {f : α → Heap → R β} {P : α → Heap → Prop} {Q : β → Heap → Prop} (h : m.tot P) (k : ∀ a G, P a G → (f a G).tot Q) : (m.bind f).tot Q := R.tot_bind.mpr (R.tot_mono h k)
def RS.fin : RS → R Val
  | .ret v G => .ok v G
  | .next _ G => .ok .none G
  | .exc e _ G => .exc e G
  | _ => .no
@[simp] theorem RS.fin_ret (v : Val) (G : Heap) : (RS.ret v G).fin = .ok v G := rfl
@[simp] theorem RS.fin_next (s : Store) (G : Heap) : (RS.next s G).fin = .ok .none G := rfl
@[simp] theorem RS.fin_no : RS.no.fin = .no := rfl
theorem seq_thenS {α : Type} (m : R α) (s : Store) (f : α → Heap → RS) (g : Store → Heap → RS) : (m.thenS s f).seq g = m.thenS s fun a G => (f a G).seq g := by cases m <;> rfl
theorem turn_thenS {α : Type} (m : R α) (s : Store) (f : α → Heap → RS) (g : Store → Heap → RS) : (m.thenS s f).turn g = m.thenS s fun a G => (f a G).turn g := by cases m <;> rfl
theorem fin_thenS {α : Type} (m : R α) (s : Store) (f : α → Heap → RS) : (m.thenS s f).fin = m.bind fun a G => (f a G).fin := by cases m <;> rfl
theorem seq_seq (m : RS) (f g : Store → Heap → RS) : (m.seq f).seq g = m.seq fun s G => (f s G).seq g := by cases m <;> rfl
theorem seq_ite (c : Prop) [Decidable c] (a b : RS) (g : Store → Heap → RS) : (if c then a else b).seq g = if c then a.seq g else b.seq g := by split <;> rfl
theorem turn_ite (c : Prop) [Decidable c] (a b : RS) (g : Store → Heap → RS) : (if c then a else b).turn g = if c then a.turn g else b.turn g := by split <;> rfl
theorem fin_ite (c : Prop) [Decidable c] (a b : RS) : (if c then a else b).fin = if c then a.fin else b.fin := by split <;> rfl
theorem call_eq {P : Prog} {f : String} {d : Fd} (h : P f = some d) (k : Nat) (vs : List Val) (G : Heap) (hl : vs.length = d.par) : callN P (k + 1) f vs G = (evSs (callN P k) d.body (startS d.slots vs) G).fin := by
  show (match P f with
    | some d => runB (callN P k) d vs G
    | none => .no) = _
  rw [h]
  show (if vs.length = d.par then _ else _) = _
  rw [if_pos hl]
  cases evSs (callN P k) d.body (startS d.slots vs) G <;> rfl
theorem evSs_nil (Γ : Calls) (s : Store) (G : Heap) : evSs Γ .nil s G = .next s G := by rw [evSs]
theorem evSs_cons (Γ : Calls) (x : S) (xs : Ss) (s : Store) (G : Heap) : evSs Γ (.cons x xs) s G = (evS Γ x s G).seq (evSs Γ xs) := by rw [evSs]
/-- goes on with N, or returns with T -/
def RS.sat (r : RS) (N : Store → Heap → Prop) (T : Val → Heap → Prop) : Prop := match r with
  | .next s G => N s G
  | .ret v G => T v G
  | _ => False
/-- .. a turn of a loop: goes on with N, leaves it with B, or returns with T -/
def RS.satT (r : RS) (N B : Store → Heap → Prop) (T : Val → Heap → Prop) : Prop := match r with
  | .next s G => N s G
  | .cont s G => N s G
  | .brk s G => B s G
  | .ret v G => T v G
  | _ => False
theorem sat_thenS {α : Type} {m : R α} {s : Store} {f : α → Heap → RS} {N : Store → Heap → Prop} {T : Val → Heap → Prop} : (m.thenS s f).sat N T ↔ m.tot fun a G => (f a G).sat N T := by cases m <;> exact Iff.rfl
theorem satT_thenS {α : Type} {m : R α} {s : Store} {f : α → Heap → RS} {N B : Store → Heap → Prop} {T : Val → Heap → Prop} : (m.thenS s f).satT N B T ↔ m.tot fun a G => (f a G).satT N B T := by cases m <;> exact Iff.rfl
theorem sat_seq {m : RS} {f : Store → Heap → RS} {N : Store → Heap → Prop} {T : Val → Heap → Prop} : (m.seq f).sat N T ↔ m.sat (fun s G => (f s G).sat N T) T := by cases m <;> exact Iff.rfl
theorem sat_mono {m : RS} {N N' : Store → Heap → Prop} {T T' : Val → Heap → Prop} (h : m.sat N T) (h1 : ∀ s G, N s G → N' s G) (h2 : ∀ v G, T v G → T' v G) : m.sat N' T' := by
  cases m with
  | next s G => exact h1 _ _ h
  | ret v G => exact h2 _ _ h
  | _ => exact h
theorem fin_sat {m : RS} {Q : Val → Heap → Prop} (h : m.sat (fun _ G => Q .none G) Q) : m.fin.tot Q := by cases m <;> exact h
theorem seq_sat {m : RS} {f : Store → Heap → RS} {N : Store → Heap → Prop} {Q : Val → Heap → Prop} (h : m.sat N Q) (k : ∀ s G, N s G → (f s G).fin.tot Q) : (m.seq f).fin.tot Q := by
  cases m with
  | next s G => exact k s G h
  | ret v G => exact h
  | _ => exact h.elim
theorem forR_nil (tg : Val → Store → Option Store) (b : Store → Heap → RS) (s : Store) (G : Heap) : forR tg b [] s G = .next s G := rfl
theorem forR_sat {tg : Val → Store → Option Store} {b : Store → Heap → RS} {T : Val → Heap → Prop} {B : Store → Heap → Prop} {xs : List Val} (I : Nat → Store → Heap → Prop)
    (h : ∀ (i : Nat) (x : Val) (s : Store) (G : Heap), xs[i]? = some x → I i s G → ∃ s1, tg x s = some s1 ∧ (b s1 G).satT (I (i + 1)) B T) (hb : ∀ s G, I xs.length s G → B s G) {s : Store} {G : Heap} (h0 : I 0 s G) : (forR tg b xs s G).sat B T := by
  have main : ∀ (n : Nat) (i : Nat) (s : Store) (G : Heap), n + i = xs.length → I i s G → (forR tg b (xs.drop i) s G).sat B T := fun n => by
    induction n with
    | zero =>
      intro i s G e hi
      have e : i = xs.length := by omega
      subst e
      rw [List.drop_length]
      exact hb s G hi
    | succ n ih =>
      intro i s G e hi
      have hl : i < xs.length := by omega
      rw [List.drop_eq_getElem_cons hl, forR_cons]
      obtain ⟨s1, e1, q⟩ := h i xs[i] s G (List.getElem?_eq_getElem hl) hi
      rw [e1]
      show ((b s1 G).turn (forR tg b (xs.drop (i + 1)))).sat B T
      cases hq : b s1 G with
      | next s2 G2 => rw [hq] at q; exact ih (i + 1) s2 G2 (by omega) q
      | cont s2 G2 => rw [hq] at q; exact ih (i + 1) s2 G2 (by omega) q
      | brk s2 G2 => rw [hq] at q; exact q
      | ret v G2 => rw [hq] at q; exact q
      | no => rw [hq] at q; exact q.elim
      | exc _ _ _ => rw [hq] at q; exact q.elim
  have := main xs.length 0 s G (by omega) h0
  rwa [List.drop_zero] at this
theorem compR_nil (tg : Val → Store → Option Store) (c e : Store → Heap → R Val) (s : Store) (G : Heap) : compR tg c e [] s G = .ok [] G := rfl
/-- that leave the heap as it is -/
theorem compR_map {tg : Val → Store → Option Store} {c e : Store → Heap → R Val} {G : Heap} {s : Store} (p : Val → Bool) (f : Val → Val) : ∀ {xs : List Val},
    (∀ x ∈ xs, ∃ s1 cv, tg x s = some s1 ∧ c s1 G = .ok cv G ∧ truthV (rd G cv) = some (p x) ∧ (p x = true → e s1 G = .ok (f x) G)) → compR tg c e xs s G = .ok ((xs.filter p).map f) G
  | [], _ => rfl
  | x :: xs, h => by
    obtain ⟨s1, cv, e1, e2, e3, e4⟩ := h x List.mem_cons_self
    have ih := compR_map (tg := tg) (c := c) (e := e) (s := s) (G := G) p f (xs := xs) fun y hy => h y (List.mem_cons_of_mem _ hy)
    rw [compR_cons, e1, R.opt_some, R.bind_ok, e2, R.bind_ok, e3, R.opt_some, R.bind_ok, ih, List.filter_cons]
    cases hp : p x with
    | true => rw [if_pos rfl, if_pos rfl, e4 hp, R.bind_ok, ih, R.bind_ok, List.map_cons]
    | false => rw [if_neg Bool.false_ne_true, if_neg Bool.false_ne_true]
/-- without tests, with an invariant of the heap -/
theorem compR_inv {tg : Val → Store → Option Store} {c e : Store → Heap → R Val} {s : Store} (I : Heap → Prop) (V : Val → Prop) : ∀ {xs : List Val} {G : Heap}, I G →
    (∀ x ∈ xs, ∀ G, I G → ∃ s1, tg x s = some s1 ∧ c s1 G = .ok (.bool true) G ∧ (e s1 G).tot fun v G' => I G' ∧ V v) → (compR tg c e xs s G).tot fun vs G' => I G' ∧ vs.length = xs.length ∧ ∀ v ∈ vs, V v
  | [], G, h0, _ => ⟨h0, rfl, fun _ h => nomatch h⟩
  | x :: xs, G, h0, h => by
    obtain ⟨s1, e1, e2, e3⟩ := h x List.mem_cons_self G h0
    rw [compR_cons, e1, R.opt_some, R.bind_ok, e2, R.bind_ok]
    show R.tot ((e s1 G).bind _) _
    refine tot_step e3 fun v G' ⟨hi, hv⟩ => tot_step (compR_inv I V hi fun y hy => h y (List.mem_cons_of_mem _ hy)) fun vs G2 ⟨h1, h2, h3⟩ => ?_
    exact ⟨h1, by rw [List.length_cons, h2, List.length_cons], fun y hy => (List.mem_cons.mp hy).elim (fun e => by rw [e]; exact hv) (h3 y)⟩
abbrev vInts (xs : List Int) : List Val := xs.map .int
theorem ints_vInts : ∀ xs : List Int, ints? (vInts xs) = some xs
  | [] => rfl
  | x :: xs => by
    show (ints? (vInts xs)).map (x :: ·) = _
    rw [ints_vInts xs]; rfl
@[simp] theorem rd_int (G : Heap) (i : Int) : rd G (.int i) = .int i := rfl
@[simp] theorem rd_bool (G : Heap) (i : Bool) : rd G (.bool i) = .bool i := rfl
@[simp] theorem rd_none (G : Heap) : rd G .none = .none := rfl
@[simp] theorem rd_str (G : Heap) (i : String) : rd G (.str i) = .str i := rfl
@[simp] theorem rd_tup (G : Heap) (i : List Val) : rd G (.tup i) = .tup i := rfl
@[simp] theorem rd_lst (G : Heap) (i : List Val) : rd G (.lst i) = .lst i := rfl
@[simp] theorem rd_frz (G : Heap) (i : List Val) : rd G (.frz i) = .frz i := rfl
theorem rd_ref {G : Heap} {n : Nat} {xs : List Val} (h : G[n]? = some (.lst xs)) : rd G (.ref n) = .lst xs := by
  show (match G[n]? with | some (Obj.lst xs) => Val.lst xs | _ => Val.ref n) = _
  rw [h]
@[simp] theorem truthV_bool (b : Bool) : truthV (.bool b) = some b := rfl
@[simp] theorem truthV_int (i : Int) : truthV (.int i) = some (i != 0) := rfl
@[simp] theorem truthV_none : truthV .none = some false := rfl
theorem ixN_nat {n k : Nat} (h : k < n) : ixN n (k : Int) = some k := by
  unfold ixN
  rw [if_pos (by omega), if_pos (by omega), Int.toNat_natCast]
theorem ixN_int {n : Nat} {i : Int} (h0 : 0 ≤ i) (h : i < n) : ixN n i = some i.toNat := by
  unfold ixN
  rw [if_pos h0, if_pos h]
theorem ixN_neg {n : Nat} {i : Int} (h0 : i < 0) (h : -(n : Int) ≤ i) : ixN n i = some (i + n).toNat := by
  unfold ixN
  rw [if_neg (by omega), if_pos h]
theorem atI_int {α : Type} {xs : List α} {i : Int} (h0 : 0 ≤ i) (h : i < xs.length) : atI xs i = xs[i.toNat]? := by
  unfold atI
  rw [ixN_int h0 h]; rfl
theorem atI_neg {α : Type} {xs : List α} {i : Int} (h0 : i < 0) (h : -(xs.length : Int) ≤ i) : atI xs i = xs[(i + xs.length).toNat]? := by
  unfold atI
  rw [ixN_neg h0 h]; rfl
theorem cutL_to {α : Type} (xs : List α) (k : Int) (h : 0 ≤ k) : cutL xs none (some k) = xs.take k.toNat := by
  unfold cutL HT.sIx
  simp only [List.drop_zero, Nat.sub_zero]
  rw [if_neg (by omega)]
  by_cases h2 : k.toNat ≤ xs.length
  · rw [Nat.min_eq_left h2]
  · rw [Nat.min_eq_right (by omega), List.take_length, List.take_of_length_le (by omega)]
theorem cutL_from {α : Type} (xs : List α) (k : Int) (h : 0 ≤ k) : cutL xs (some k) none = xs.drop k.toNat := by
  unfold cutL HT.sIx
  simp only []
  rw [if_neg (by omega)]
  by_cases h2 : k.toNat ≤ xs.length
  · rw [Nat.min_eq_left h2, List.take_of_length_le (by rw [List.length_drop]; exact Nat.le_refl _)]
  · rw [Nat.min_eq_right (by omega), List.drop_of_length_le (Nat.le_refl _), List.drop_of_length_le (by omega), List.take_nil]
theorem cutL_mid {α : Type} (xs : List α) (i j : Int) (h : 0 ≤ i) (h2 : 0 ≤ j) (h3 : j ≤ xs.length) (h4 : i ≤ j) : cutL xs (some i) (some j) = (xs.drop i.toNat).take (j - i).toNat := by
  unfold cutL HT.sIx
  simp only []
  rw [if_neg (by omega), if_neg (by omega), Nat.min_eq_left (by omega), Nat.min_eq_left (by omega)]
  congr 1
  omega
theorem cutL_end {α : Type} (xs : List α) (i j : Int) (h : 0 ≤ i) (h2 : j < 0) (h3 : i ≤ xs.length + j) : cutL xs (some i) (some j) = (xs.drop i.toNat).take (xs.length + j - i).toNat := by
  unfold cutL HT.sIx
  simp only []
  have e1 : (if i < 0 then (i + (xs.length : Int)).toNat else min i.toNat xs.length) = i.toNat := by rw [if_neg (by omega), Nat.min_eq_left (by omega)]
  have e2 : (if j < 0 then (j + (xs.length : Int)).toNat else min j.toNat xs.length) = (j + xs.length).toNat := if_pos h2
  rw [e1, e2]
  congr 1
  omega
theorem cutL_map {α β : Type} (f : α → β) (xs : List α) (i j : Option Int) : cutL (xs.map f) i j = (cutL xs i j).map f := by
  unfold cutL
  rw [List.length_map, List.map_take, List.map_drop]
end Fx

namespace Fx
open PySem PySem.Spec PyProof.Rows L2
theorem add_i (a b : Int) : binK .Add (.int a) (.int b) = some (.int (a + b)) := rfl
theorem sub_i (a b : Int) : binK .Sub (.int a) (.int b) = some (.int (a - b)) := rfl
theorem mul_l (a b : Int) (h : (decide (-p64 < a) && decide (a < p64)) = true) : binK .Mult (.int a) (.int b) = some (.int (a * b)) := by
  show (if (-p64 < a ∧ a < p64) ∨ (-p64 < b ∧ b < p64) then some (Val.int (a * b)) else none) = _
  rw [if_pos (.inl (by simpa using h))]
theorem mul_r (a b : Int) (h : (decide (-p64 < b) && decide (b < p64)) = true) : binK .Mult (.int a) (.int b) = some (.int (a * b)) := by
  show (if (-p64 < a ∧ a < p64) ∨ (-p64 < b ∧ b < p64) then some (Val.int (a * b)) else none) = _
  rw [if_pos (.inr (by simpa using h))]
theorem mul_m (x c b : Int) (h : (decide (0 < c) && decide (c ≤ p64)) = true) : binK .Mult (.int (x % c)) (.int b) = some (.int (x % c * b)) := by
  simp only [Bool.and_eq_true, decide_eq_true_eq] at h
  have h1 := Int.emod_nonneg x (show c ≠ 0 by omega)
  have h2 := Int.emod_lt_of_pos x h.1
  refine mul_l _ _ ?_
  simp only [Bool.and_eq_true, decide_eq_true_eq]
  unfold p64 at *
  omega
theorem mod_i (a b : Int) (h : decide (0 < b) = true) : binK .Mod (.int a) (.int b) = some (.int (a % b)) := by
  show (if 0 < b then some (Val.int (a % b)) else none) = _
  rw [if_pos (of_decide_eq_true h)]
theorem div_i (a b : Int) (h : (decide (0 < b) && decide (b < p64)) = true) : binK .FloorDiv (.int a) (.int b) = some (.int (a / b)) := by
  show (if 0 < b ∧ b < p64 then some (Val.int (a / b)) else none) = _
  rw [if_pos (by simpa using h)]
theorem pow_i (a b : Int) (h : (decide (0 ≤ b) && decide (b ≤ 1000000) && decide (-p64 < a) && decide (a < p64)) = true) : binK .Pow (.int a) (.int b) = some (.int (a ^ b.toNat)) := by
  show (if 0 ≤ b ∧ b ≤ 1000000 ∧ (-p64 < a ∧ a < p64) then some (Val.int (a ^ b.toNat)) else none) = _
  rw [if_pos (by simpa [and_assoc] using h)]
theorem lt_i (a b : Int) : cmpK .Lt (.int a) (.int b) = some (decide (a < b)) := rfl
theorem le_i (a b : Int) : cmpK .LtE (.int a) (.int b) = some (decide (a ≤ b)) := rfl
theorem gt_i (a b : Int) : cmpK .Gt (.int a) (.int b) = some (decide (b < a)) := rfl
theorem ge_i (a b : Int) : cmpK .GtE (.int a) (.int b) = some (decide (b ≤ a)) := rfl
theorem is_n (x : Val) : cmpK .Is x .none = some (isNone x) := by cases x <;> rfl
theorem isnot_n (x : Val) : cmpK .IsNot x .none = some (!isNone x) := by cases x <;> rfl
theorem shaped_int (i : Int) : SeqAt.shaped (.int i) = true := by rfl
theorem eq_i (a b : Int) : cmpK .Eq (.int a) (.int b) = some (decide (a = b)) := by
  show eqK (.int a) (.int b) = _
  unfold eqK
  simp only [toD]
  rfl
theorem ne_i (a b : Int) : cmpK .NotEq (.int a) (.int b) = some (!decide (a = b)) := by
  show (eqK (.int a) (.int b)).map (!·) = _
  rw [show eqK (.int a) (.int b) = some (decide (a = b)) from eq_i a b]; rfl
theorem at_l0 {α : Type} (a : α) (r : List α) : atI (a :: r) 0 = some a := by rw [atI_int (by omega) (by simp <;> omega)]; rfl
theorem at_l1 {α : Type} (a b : α) (r : List α) : atI (a :: b :: r) 1 = some b := by rw [atI_int (by omega) (by simp <;> omega)]; rfl
theorem at_l2 {α : Type} (a b c : α) (r : List α) : atI (a :: b :: c :: r) 2 = some c := by rw [atI_int (by omega) (by simp <;> omega)]; rfl
theorem at_l3 {α : Type} (a b c d : α) (r : List α) : atI (a :: b :: c :: d :: r) 3 = some d := by rw [atI_int (by omega) (by simp <;> omega)]; rfl
theorem ix_l (xs : List Val) (k : Int) : idxK (.lst xs) (.int k) = atI xs k := rfl
theorem ix_t (xs : List Val) (k : Int) : idxK (.tup xs) (.int k) = atI xs k := rfl
theorem ix_f (xs : List Val) (k : Int) : idxK (.frz xs) (.int k) = atI xs k := rfl
theorem len_t (xs : List Val) : bfK .len [.tup xs] = some (.int xs.length) := rfl
theorem len_l (xs : List Val) : bfK .len [.lst xs] = some (.int xs.length) := rfl
theorem len_f (xs : List Val) : bfK .len [.frz xs] = some (.int xs.length) := rfl
theorem tuple_t (xs : List Val) : bfK .tuple [.tup xs] = some (.tup xs) := rfl
theorem tuple_l (xs : List Val) : bfK .tuple [.lst xs] = some (.tup xs) := rfl
theorem tuple_f (xs : List Val) : bfK .tuple [.frz xs] = some (.tup xs) := rfl
theorem list_t (xs : List Val) : bfK .list [.tup xs] = some (.lst xs) := rfl
theorem list_l (xs : List Val) : bfK .list [.lst xs] = some (.lst xs) := rfl
theorem list_f (xs : List Val) : bfK .list [.frz xs] = some (.lst xs) := rfl
theorem int_i (i : Int) : bfK .int [.int i] = some (.int i) := rfl
theorem abs_i (i : Int) : bfK .abs [.int i] = some (.int (if i < 0 then -i else i)) := rfl
theorem max_i (i j : Int) : bfK .max [.int i, .int j] = some (.int (if j > i then j else i)) := rfl
theorem min_i (i j : Int) : bfK .min [.int i, .int j] = some (.int (if j < i then j else i)) := rfl
theorem sum_l (xs : List Int) : bfK .sum [.lst (vInts xs)] = some (.int xs.sum) := by
  show (ints? (vInts xs)).map _ = _
  rw [ints_vInts]; rfl
theorem sum_t (xs : List Int) : bfK .sum [.tup (vInts xs)] = some (.int xs.sum) := by
  show (ints? (vInts xs)).map _ = _
  rw [ints_vInts]; rfl
theorem divmod_i (a b : Int) (h : (decide (0 < b) && decide (b < p64)) = true) : bfK .divmod [.int a, .int b] = some (.tup [.int (a / b), .int (a % b)]) := by
  show (if 0 < b ∧ b < p64 then some (Val.tup [.int (a / b), .int (a % b)]) else none) = _
  rw [if_pos (by simpa using h)]
theorem cat_t (a b : List Val) (h : decide (a.length + b.length ≤ lineN) = true) : binK .Add (.tup a) (.tup b) = some (.tup (a ++ b)) := by
  show (if a.length + b.length ≤ lineN then some (Val.tup (a ++ b)) else none) = _
  rw [if_pos (of_decide_eq_true h)]
theorem cat_l (a b : List Val) (h : decide (a.length + b.length ≤ lineN) = true) : binK .Add (.lst a) (.lst b) = some (.lst (a ++ b)) := by
  show (if a.length + b.length ≤ lineN then some (Val.lst (a ++ b)) else none) = _
  rw [if_pos (of_decide_eq_true h)]
theorem isi_int (i : Int) (t : Ty) : isO t (.int i) = some (.bool (match t with | .int => true | _ => false)) := by cases t <;> rfl
theorem isi_bool (i : Bool) (t : Ty) : isO t (.bool i) = some (.bool (match t with | .int => true | .bool => true | _ => false)) := by cases t <;> rfl
theorem isi_tup (i : List Val) (t : Ty) : isO t (.tup i) = some (.bool (match t with | .tuple => true | _ => false)) := by cases t <;> rfl
theorem isi_lst (i : List Val) (t : Ty) : isO t (.lst i) = some (.bool (match t with | .list => true | _ => false)) := by cases t <;> rfl
theorem isi_str (i : String) (t : Ty) : isO t (.str i) = some (.bool (match t with | .str => true | _ => false)) := by cases t <;> rfl
theorem isi_none (t : Ty) : isO t .none = some (.bool (match t with | .none_ => true | _ => false)) := by cases t <;> rfl
theorem setRef_eq {n : Nat} {xs : List Val} {k : Int} {v : Val} {G : Heap} {j : Nat} (h : G[n]? = some (.lst xs)) (hj : ixN xs.length k = some j) : setRef (.ref n) (.int k) v G = some (G.set n (.lst (xs.set j v))) := by
  show (match G[n]? with
    | some (Obj.lst xs) => (setK xs (.int k) v).map fun ys => G.set n (.lst ys)
    | _ => none) = _
  rw [h]
  show ((ixN xs.length k).map fun j => xs.set j v).map (fun ys => G.set n (.lst ys)) = _
  rw [hj]; rfl
theorem get_set {G : Heap} {n : Nat} {o : Obj} (h : n < G.length) : (G.set n o)[n]? = some o := List.getElem?_set_self h
end Fx

namespace Fx
open PySem PySem.Spec PyProof.Rows L2
theorem compR_ints {tg : Val → Store → Option Store} {c e : Store → Heap → R Val} {G : Heap} {s : Store} (f : Int → Val) : ∀ {xs : List Int},
    (∀ x ∈ xs, ∃ s1, tg (.int x) s = some s1 ∧ c s1 G = .ok (.bool true) G ∧ e s1 G = .ok (f x) G) → compR tg c e (vInts xs) s G = .ok (xs.map f) G
  | [], _ => rfl
  | x :: xs, h => by
    obtain ⟨s1, e1, e2, e3⟩ := h x List.mem_cons_self
    have ih := compR_ints (tg := tg) (c := c) (e := e) (s := s) (G := G) f (xs := xs) fun y hy => h y (List.mem_cons_of_mem _ hy)
    show compR tg c e (.int x :: vInts xs) s G = _
    rw [compR_cons, e1, R.opt_some, R.bind_ok, e2, R.bind_ok]
    show ((e s1 G).bind fun v G4 => (compR tg c e (vInts xs) s G4).bind fun vs G5 => R.ok (v :: vs) G5) = _
    rw [e3, R.bind_ok, ih]; rfl
theorem bools_map (q : Int → Bool) : ∀ xs : List Int, bools? (xs.map fun w => Val.bool (q w)) = some (xs.map q)
  | [] => rfl
  | x :: xs => by
    show (bools? (xs.map fun w => Val.bool (q w))).map (q x :: ·) = _
    rw [bools_map q xs]; rfl
theorem any_b (q : Int → Bool) (xs : List Int) : bfK .any [.lst (xs.map fun w => Val.bool (q w))] = some (.bool (xs.any q)) := by
  show (bools? _).map _ = _
  rw [bools_map]
  show some (Val.bool ((xs.map q).any id)) = _
  rw [List.any_map]; rfl
theorem bools_all : ∀ {vs : List Val}, (∀ v ∈ vs, v = .bool true) → ∃ bs, bools? vs = some bs ∧ bs.all id = true
  | [], _ => ⟨[], rfl, rfl⟩
  | v :: vs, h => by
    have e := h v List.mem_cons_self
    subst e
    obtain ⟨bs, h1, h2⟩ := bools_all fun v hv => h v (List.mem_cons_of_mem _ hv)
    exact ⟨true :: bs, by show (bools? vs).map _ = _; rw [h1]; rfl, by rw [List.all_cons, h2]; rfl⟩
theorem all_true {vs : List Val} (h : ∀ v ∈ vs, v = .bool true) : bfK .all [.lst vs] = some (.bool true) := by
  obtain ⟨bs, h1, h2⟩ := bools_all h
  show (bools? vs).map _ = _
  rw [h1]
  show some (Val.bool (bs.all id)) = _
  rw [h2]
def Well (G : Heap) (n : Nat) : Prop := ∃ a b c : Int, G[n]? = some (.lst [.int a, .int b, .int c])
/-- nothing but the well at n has changed -/
structure Keep (n : Nat) (G G' : Heap) : Prop where
  len : G.length ≤ G'.length
  at_ : ∀ m, m ≠ n → m < G.length → G'[m]? = G[m]?
theorem Keep.refl (n : Nat) (G : Heap) : Keep n G G := ⟨Nat.le_refl _, fun _ _ _ => rfl⟩
theorem Keep.trans {n : Nat} {G G1 G2 : Heap} (h : Keep n G G1) (k : Keep n G1 G2) : Keep n G G2 :=
  ⟨Nat.le_trans h.len k.len, fun m hm hl => (k.at_ m hm (Nat.lt_of_lt_of_le hl h.len)).trans (h.at_ m hm hl)⟩
theorem Keep.set (n : Nat) (G : Heap) (o : Obj) : Keep n G (G.set n o) := ⟨by rw [List.length_set]; exact Nat.le_refl _, fun m hm _ => List.getElem?_set_ne (Ne.symm hm)⟩
theorem Keep.new (n : Nat) (G : Heap) (o : Obj) : Keep n G (G ++ [o]) := ⟨by simp, fun m _ hl => List.getElem?_append_left hl⟩
theorem Well.lt {G : Heap} {n : Nat} (h : Well G n) : n < G.length := let ⟨_, _, _, e⟩ := h; (List.getElem?_eq_some_iff.mp e).1
theorem Well.new {G : Heap} {n : Nat} (h : Well G n) (o : Obj) : Well (G ++ [o]) n := let ⟨a, b, c, e⟩ := h; ⟨a, b, c, by rw [List.getElem?_append_left (List.getElem?_eq_some_iff.mp e).1]; exact e⟩
end Fx
namespace Fx
open PySem PySem.Spec PyProof.Rows L2
theorem satT_next (s : Store) (G : Heap) (N B : Store → Heap → Prop) (T : Val → Heap → Prop) : (RS.next s G).satT N B T ↔ N s G := Iff.rfl
theorem satT_ret (v : Val) (G : Heap) (N B : Store → Heap → Prop) (T : Val → Heap → Prop) : (RS.ret v G).satT N B T ↔ T v G := Iff.rfl
theorem sat_next (s : Store) (G : Heap) (N : Store → Heap → Prop) (T : Val → Heap → Prop) : (RS.next s G).sat N T ↔ N s G := Iff.rfl
theorem sat_ret (v : Val) (G : Heap) (N : Store → Heap → Prop) (T : Val → Heap → Prop) : (RS.ret v G).sat N T ↔ T v G := Iff.rfl
theorem satT_ite (c : Prop) [Decidable c] (a b : RS) (N B : Store → Heap → Prop) (T : Val → Heap → Prop) : (if c then a else b).satT N B T ↔ if c then a.satT N B T else b.satT N B T := by split <;> exact Iff.rfl
theorem rngK_ok {lo hi : Int} (h1 : -p62 ≤ lo) (h2 : lo < p62) (h3 : -p62 ≤ hi) (h4 : hi < p62) : rngK lo hi = some (rangeV lo (hi - lo).toNat) := by
  unfold rngK
  rw [if_pos ⟨h1, h2, h3, h4⟩]
theorem rangeV_len : ∀ (n : Nat) (lo : Int), (rangeV lo n).length = n
  | 0, _ => rfl
  | n + 1, lo => by rw [rangeV, List.length_cons, rangeV_len n]
theorem rangeV_mem : ∀ (n : Nat) (lo : Int) (v : Val), v ∈ rangeV lo n → ∃ i : Int, v = .int i ∧ lo ≤ i ∧ i < lo + n
  | 0, _, _, h => nomatch h
  | n + 1, lo, v, h => by
    rw [rangeV] at h
    rcases List.mem_cons.mp h with e | h
    · exact ⟨lo, e, by omega, by omega⟩
    · obtain ⟨i, e, h1, h2⟩ := rangeV_mem n (lo + 1) v h
      exact ⟨i, e, by omega, by omega⟩
theorem vInts_app (a b : List Int) : vInts a ++ vInts b = vInts (a ++ b) := (List.map_append).symm
theorem rep_l (xs : List Val) (k : Int) (h : (decide (-9223372036854775808 ≤ k) && decide (k < 9223372036854775808) && decide (xs.length * k.toNat ≤ lineN)) = true) : binK .Mult (.lst xs) (.int k) = some (.lst (List.replicate k.toNat xs).flatten) := by
  show (if -9223372036854775808 ≤ k ∧ k < 9223372036854775808 ∧ xs.length * k.toNat ≤ lineN then some (Val.lst (List.replicate k.toNat xs).flatten) else none) = _
  rw [if_pos (by simpa [and_assoc] using h)]
theorem rep_t (xs : List Val) (k : Int) (h : (!xs.isEmpty && decide (2 ≤ k) && decide (k ≤ 1000) && decide (xs.length ≤ 1000)) = true) : binK .Mult (.tup xs) (.int k) = some (.tup (List.replicate k.toNat xs).flatten) := by
  show (if (!xs.isEmpty) = true ∧ 2 ≤ k ∧ k ≤ 1000 ∧ xs.length ≤ 1000 then some (Val.tup (List.replicate k.toNat xs).flatten) else none) = _
  rw [if_pos (by simpa [and_assoc] using h)]
theorem flat_ints (k : Nat) (xs : List Int) : (List.replicate k (vInts xs)).flatten = vInts (List.replicate k xs).flatten := by
  rw [vInts, vInts, List.map_flatten, List.map_replicate]
theorem flat_len {α : Type} (k : Nat) (xs : List α) : (List.replicate k xs).flatten.length = k * xs.length := by
  rw [List.length_flatten, List.map_replicate, List.sum_replicate_nat]
theorem slice_l (xs : List Val) (l h : Option Int) : sliceV (.lst xs) l h = some (.lst (cutL xs l h)) := rfl
theorem slice_t (xs : List Val) (l h : Option Int) : sliceV (.tup xs) l h = some (.tup (cutL xs l h)) := rfl
theorem slice_f (xs : List Val) (l h : Option Int) : sliceV (.frz xs) l h = some (.lst (cutL xs l h)) := rfl
theorem ixO_no (v : Val) : ixO false v = some none := rfl
theorem ixO_int (i : Int) : ixO true (.int i) = some (some i) := rfl
end Fx

namespace Fx
open PySem PySem.Spec PyProof.Rows L2
theorem evE_var (Γ : Calls) (i : Nat) (s : Store) (G : Heap) : evE Γ (.var i) s G = (match s.getD i .no with
    | .val v => .ok v G
    | _ => .no) := by first | (rw [evE]; done) | (rw [evE]; rfl)
theorem evE_own (Γ : Calls) (i : Nat) (s : Store) (G : Heap) : evE Γ (.own i) s G = (match s.getD i .no with
    | .own xs => .ok (.lst xs) G
    | .frz xs => .ok (.lst xs) G
    | _ => .no) := by first | (rw [evE]; done) | (rw [evE]; rfl)
theorem evE_con (Γ : Calls) (v : Val) (s : Store) (G : Heap) : evE Γ (.con v) s G = (.ok v G) := by first | (rw [evE]; done) | (rw [evE]; rfl)
theorem evE_tup (Γ : Calls) (es : Es) (s : Store) (G : Heap) : evE Γ (.tup es) s G = ((evEs Γ es s G).bind fun vs G1 => .ok (.tup vs) G1) := by first | (rw [evE]; done) | (rw [evE]; rfl)
theorem evE_lst (Γ : Calls) (es : Es) (s : Store) (G : Heap) : evE Γ (.lst es) s G = ((evEs Γ es s G).bind fun vs G1 => .ok (.lst vs) G1) := by first | (rw [evE]; done) | (rw [evE]; rfl)
theorem evE_bin (Γ : Calls) (op : Operator) (a : E) (b : E) (s : Store) (G : Heap) : evE Γ (.bin op a b) s G = ((evE Γ a s G).bind fun x G1 => (evE Γ b s G1).bind fun y G2 => R.opt (binK op (rd G2 x) (rd G2 y)) G2) := by first | (rw [evE]; done) | (rw [evE]; rfl)
theorem evE_neg (Γ : Calls) (a : E) (s : Store) (G : Heap) : evE Γ (.neg a) s G = ((evE Γ a s G).bind fun x G1 => match x with
    | .int i => .ok (.int (-i)) G1
    | _ => .no) := by first | (rw [evE]; done) | (rw [evE]; rfl)
theorem evE_cmp (Γ : Calls) (op : CmpOp) (a : E) (b : E) (s : Store) (G : Heap) : evE Γ (.cmp op a b) s G = ((evE Γ a s G).bind fun x G1 => (evE Γ b s G1).bind fun y G2 => R.opt ((cmpK op (rd G2 x) (rd G2 y)).map .bool) G2) := by first | (rw [evE]; done) | (rw [evE]; rfl)
theorem evE_cmp2 (Γ : Calls) (op : CmpOp) (op2 : CmpOp) (a : E) (b : E) (c : E) (s : Store) (G : Heap) : evE Γ (.cmp2 op op2 a b c) s G = ((evE Γ a s G).bind fun x G1 => (evE Γ b s G1).bind fun y G2 => (R.opt (cmpK op (rd G2 x) (rd G2 y)) G2).bind fun k G3 =>
    if k then (evE Γ c s G3).bind fun z G4 => R.opt ((cmpK op2 (rd G4 y) (rd G4 z)).map .bool) G4 else .ok (.bool false) G3) := by first | (rw [evE]; done) | (rw [evE]; rfl)
theorem evE_not (Γ : Calls) (a : E) (s : Store) (G : Heap) : evE Γ (.not a) s G = ((evE Γ a s G).bind fun x G1 => R.opt ((truthV (rd G1 x)).map fun b => .bool (!b)) G1) := by first | (rw [evE]; done) | (rw [evE]; rfl)
theorem evE_and (Γ : Calls) (a : E) (b : E) (s : Store) (G : Heap) : evE Γ (.and a b) s G = ((evE Γ a s G).bind fun x G1 => (R.opt (truthV (rd G1 x)) G1).bind fun k G2 => if k then evE Γ b s G2 else .ok x G2) := by first | (rw [evE]; done) | (rw [evE]; rfl)
theorem evE_or (Γ : Calls) (a : E) (b : E) (s : Store) (G : Heap) : evE Γ (.or a b) s G = ((evE Γ a s G).bind fun x G1 => (R.opt (truthV (rd G1 x)) G1).bind fun k G2 => if k then .ok x G2 else evE Γ b s G2) := by first | (rw [evE]; done) | (rw [evE]; rfl)
theorem evE_ite (Γ : Calls) (c : E) (a : E) (b : E) (s : Store) (G : Heap) : evE Γ (.ite c a b) s G = ((evE Γ c s G).bind fun x G1 => (R.opt (truthV (rd G1 x)) G1).bind fun k G2 => if k then evE Γ a s G2 else evE Γ b s G2) := by first | (rw [evE]; done) | (rw [evE]; rfl)
theorem evE_idx (Γ : Calls) (a : E) (i : E) (s : Store) (G : Heap) : evE Γ (.idx a i) s G = ((evE Γ a s G).bind fun x G1 => (evE Γ i s G1).bind fun y G2 => R.opt (idxK (rd G2 x) y) G2) := by first | (rw [evE]; done) | (rw [evE]; rfl)
theorem evE_slice (Γ : Calls) (a : E) (bl : Bool) (lo : E) (bh : Bool) (hi : E) (s : Store) (G : Heap) : evE Γ (.slice a bl lo bh hi) s G = ((evE Γ a s G).bind fun x G1 => ((evE Γ lo s G1).bind fun y G2 => R.opt (ixO bl y) G2).bind fun l G2 => ((evE Γ hi s G2).bind fun z G3 => R.opt (ixO bh z) G3).bind fun h G3 => R.opt (sliceV (rd G3 x) l h) G3) := by first | (rw [evE]; done) | (rw [evE]; rfl)
theorem evE_call (Γ : Calls) (f : String) (es : Es) (s : Store) (G : Heap) : evE Γ (.call f es) s G = ((evEs Γ es s G).bind fun vs G1 => Γ f vs G1) := by first | (rw [evE]; done) | (rw [evE]; rfl)
theorem evE_bcall (Γ : Calls) (f : Bf) (es : Es) (s : Store) (G : Heap) : evE Γ (.bcall f es) s G = ((evEs Γ es s G).bind fun vs G1 => R.opt (bfK f (vs.map (rd G1))) G1) := by first | (rw [evE]; done) | (rw [evE]; rfl)
theorem evE_isi (Γ : Calls) (a : E) (t : Ty) (s : Store) (G : Heap) : evE Γ (.isi a t) s G = ((evE Γ a s G).bind fun x G1 => R.opt (isO t (rd G1 x)) G1) := by first | (rw [evE]; done) | (rw [evE]; rfl)
theorem evE_comp (Γ : Calls) (ws : (List Nat)) (t : Tg) (it : Itx) (c : E) (e : E) (s : Store) (G : Heap) : evE Γ (.comp ws t it c e) s G = ((evI Γ it s G).bind fun xs G1 => if lineN < xs.length then .no else ((compR (setT t) (evE Γ c) (evE Γ e) xs (wipeS s ws) G1).bind fun vs G2 => .ok (.lst vs) G2).calm) := by first | (rw [evE]; done) | (rw [evE]; rfl)
theorem evE_heap (Γ : Calls) (e : E) (s : Store) (G : Heap) : evE Γ (.heap e) s G = ((evE Γ e s G).bind fun v G1 => match v with
    | .lst xs => .ok (.ref G1.length) (G1 ++ [.lst xs])
    | _ => .no) := by first | (rw [evE]; done) | (rw [evE]; rfl)
theorem evE_stop (Γ : Calls)  (s : Store) (G : Heap) : evE Γ (.stop) s G = (.no) := by first | (rw [evE]; done) | (rw [evE]; rfl)
theorem evEs_nil (Γ : Calls)  (s : Store) (G : Heap) : evEs Γ (.nil) s G = (.ok [] G) := by first | (rw [evEs]; done) | (rw [evEs]; rfl)
theorem evEs_cons (Γ : Calls) (e : E) (es : Es) (s : Store) (G : Heap) : evEs Γ (.cons e es) s G = ((evE Γ e s G).bind fun v G1 => (evEs Γ es s G1).bind fun vs G2 => .ok (v :: vs) G2) := by first | (rw [evEs]; done) | (rw [evEs]; rfl)
theorem evI_of (Γ : Calls) (e : E) (s : Store) (G : Heap) : evI Γ (.of e) s G = ((evE Γ e s G).bind fun v G1 => R.opt (seq? v) G1) := by first | (rw [evI]; done) | (rw [evI]; rfl)
theorem evI_rng1 (Γ : Calls) (a : E) (s : Store) (G : Heap) : evI Γ (.rng1 a) s G = ((evE Γ a s G).bind fun x G1 => match x with
    | .int n => R.opt (rngK 0 n) G1
    | _ => .no) := by first | (rw [evI]; done) | (rw [evI]; rfl)
theorem evI_rng2 (Γ : Calls) (a : E) (b : E) (s : Store) (G : Heap) : evI Γ (.rng2 a b) s G = ((evE Γ a s G).bind fun x G1 => (evE Γ b s G1).bind fun y G2 => match x, y with
    | .int m, .int n => R.opt (rngK m n) G2
    | _, _ => .no) := by first | (rw [evI]; done) | (rw [evI]; rfl)
theorem evI_zip (Γ : Calls) (a : E) (b : E) (s : Store) (G : Heap) : evI Γ (.zip a b) s G = ((evE Γ a s G).bind fun x G1 => (evE Γ b s G1).bind fun y G2 => match x, y with
    | .tup xs, .tup ys => .ok (zipV xs ys) G2
    | .lst xs, .lst ys => .ok (zipV xs ys) G2
    | _, _ => .no) := by first | (rw [evI]; done) | (rw [evI]; rfl)
theorem evI_enum (Γ : Calls) (a : E) (s : Store) (G : Heap) : evI Γ (.enum a) s G = ((evE Γ a s G).bind fun x G1 => R.opt ((seqE? x).map (enumV 0)) G1) := by first | (rw [evI]; done) | (rw [evI]; rfl)
theorem evS_stop (Γ : Calls)  (s : Store) (G : Heap) : evS Γ (.stop) s G = (.no) := by first | (rw [evS]; done) | (rw [evS]; rfl)
theorem evS_exp (Γ : Calls) (e : E) (s : Store) (G : Heap) : evS Γ (.exp e) s G = ((evE Γ e s G).thenS s fun _ G1 => .next s G1) := by first | (rw [evS]; done) | (rw [evS]; rfl)
theorem evS_ret (Γ : Calls) (e : E) (s : Store) (G : Heap) : evS Γ (.ret e) s G = ((evE Γ e s G).thenS s fun v G1 => .ret v G1) := by first | (rw [evS]; done) | (rw [evS]; rfl)
theorem evS_retO (Γ : Calls) (k : Nat) (s : Store) (G : Heap) : evS Γ (.retO k) s G = (match s.getD k .no with
    | .own xs => .ret (.lst xs) G
    | _ => .no) := by first | (rw [evS]; done) | (rw [evS]; rfl)
theorem evS_retN (Γ : Calls)  (s : Store) (G : Heap) : evS Γ (.retN) s G = (.ret .none G) := by first | (rw [evS]; done) | (rw [evS]; rfl)
theorem evS_pass (Γ : Calls)  (s : Store) (G : Heap) : evS Γ (.pass) s G = (.next s G) := by first | (rw [evS]; done) | (rw [evS]; rfl)
theorem evS_brk (Γ : Calls)  (s : Store) (G : Heap) : evS Γ (.brk) s G = (.brk s G) := by first | (rw [evS]; done) | (rw [evS]; rfl)
theorem evS_cont (Γ : Calls)  (s : Store) (G : Heap) : evS Γ (.cont) s G = (.cont s G) := by first | (rw [evS]; done) | (rw [evS]; rfl)
theorem evS_asg (Γ : Calls) (t : Tg) (e : E) (s : Store) (G : Heap) : evS Γ (.asg t e) s G = ((evE Γ e s G).thenS s fun v G1 => (R.opt (setT t v s) G1).thenS s .next) := by first | (rw [evS]; done) | (rw [evS]; rfl)
theorem evS_asgOwn (Γ : Calls) (i : Nat) (e : E) (s : Store) (G : Heap) : evS Γ (.asgOwn i e) s G = ((evE Γ e s G).thenS s fun v G1 => match v with
    | .lst xs => .next (s.set i (.own xs)) G1
    | _ => .no) := by first | (rw [evS]; done) | (rw [evS]; rfl)
theorem evS_setR (Γ : Calls) (o : E) (i : E) (e : E) (s : Store) (G : Heap) : evS Γ (.setR o i e) s G = ((evE Γ e s G).thenS s fun v G1 => (evE Γ o s G1).thenS s fun ov G2 => (evE Γ i s G2).thenS s fun iv G3 => match setRef ov iv v G3 with
    | some G4 => .next s G4
    | none => .no) := by first | (rw [evS]; done) | (rw [evS]; rfl)
theorem evS_setO (Γ : Calls) (k : Nat) (i : E) (e : E) (s : Store) (G : Heap) : evS Γ (.setO k i e) s G = ((evE Γ e s G).thenS s fun v G1 => match s.getD k .no with
    | .own _ => (evE Γ i s G1).thenS s fun iv G2 => match setOwn k iv v s with
      | some s1 => .next s1 G2
      | none => .no
    | _ => .no) := by first | (rw [evS]; done) | (rw [evS]; rfl)
theorem evS_app (Γ : Calls) (k : Nat) (e : E) (s : Store) (G : Heap) : evS Γ (.app k e) s G = (match s.getD k .no with
    | .own xs => (evE Γ e s G).thenS s fun v G1 => if xs.length < lineN then .next (s.set k (.own (xs ++ [v]))) G1 else .no
    | _ => .no) := by first | (rw [evS]; done) | (rw [evS]; rfl)
theorem evS_appR (Γ : Calls) (o : E) (e : E) (s : Store) (G : Heap) : evS Γ (.appR o e) s G = ((evE Γ o s G).thenS s fun ov G1 => match rd G1 ov with
    | .lst _ => (evE Γ e s G1).thenS s fun v G2 => match ov with
      | .ref n => match G2[n]? with
        | some (.lst xs) => if xs.length < lineN then .next s (G2.set n (.lst (xs ++ [v]))) else .no
        | _ => .no
      | _ => .no
    | _ => .no) := by first | (rw [evS]; done) | (rw [evS]; rfl)
theorem evS_extO (Γ : Calls) (k : Nat) (e : E) (s : Store) (G : Heap) : evS Γ (.extO k e) s G = (match s.getD k .no with
    | .own xs => (evE Γ e s G).thenS s fun v G1 => match v with
      | .lst ys => if xs.length + ys.length ≤ lineN then .next (s.set k (.own (xs ++ ys))) G1 else .no
      | _ => .no
    | _ => .no) := by first | (rw [evS]; done) | (rw [evS]; rfl)
theorem evS_popT (Γ : Calls) (t : Tg) (k : Nat) (s : Store) (G : Heap) : evS Γ (.popT t k) s G = (match s.getD k .no with
    | .own xs => match xs[xs.length - 1]? with
      | some x => (R.opt (setT t x (s.set k (.own xs.dropLast))) G).thenS s .next
      | none => .no
    | _ => .no) := by first | (rw [evS]; done) | (rw [evS]; rfl)
theorem evS_popO (Γ : Calls) (k : Nat) (s : Store) (G : Heap) : evS Γ (.popO k) s G = (match s.getD k .no with
    | .own xs => match xs[xs.length - 1]? with
      | some _ => .next (s.set k (.own xs.dropLast)) G
      | none => .no
    | _ => .no) := by first | (rw [evS]; done) | (rw [evS]; rfl)
theorem evS_aug (Γ : Calls) (i : Nat) (op : Operator) (e : E) (s : Store) (G : Heap) : evS Γ (.aug i op e) s G = (match s.getD i .no with
    | .val (.int a) => (evE Γ e s G).thenS s fun v G1 => match op, v with
      | .Add, .int b => .next (s.set i (.val (.int (a + b)))) G1
      | .Sub, .int b => .next (s.set i (.val (.int (a - b)))) G1
      | _, _ => .no
    | _ => .no) := by first | (rw [evS]; done) | (rw [evS]; rfl)
theorem evS_par (Γ : Calls) (ts : PTgs) (e : E) (s : Store) (G : Heap) : evS Γ (.par ts e) s G = ((evE Γ e s G).thenS s fun v G1 => match v with
    | .tup xs => (evPTgs Γ ts xs s G1).calm.thenS s .next
    | _ => .no) := by first | (rw [evS]; done) | (rw [evS]; rfl)
theorem evS_ite (Γ : Calls) (c : E) (a : Ss) (b : Ss) (s : Store) (G : Heap) : evS Γ (.ite c a b) s G = ((evE Γ c s G).thenS s fun x G1 => (R.opt (truthV (rd G1 x)) G1).thenS s fun k G2 => if k then evSs Γ a s G2 else evSs Γ b s G2) := by first | (rw [evS]; done) | (rw [evS]; rfl)
theorem evS_for_ (Γ : Calls) (t : Tg) (it : Itx) (b : Ss) (s : Store) (G : Heap) : evS Γ (.for_ t it b) s G = ((evI Γ it s G).thenS s fun xs G1 => forR (setT t) (evSs Γ b) xs s G1) := by first | (rw [evS]; done) | (rw [evS]; rfl)
theorem evS_forO (Γ : Calls) (t : Tg) (k : Nat) (b : Ss) (s : Store) (G : Heap) : evS Γ (.forO t k b) s G = (match s.getD k .no with
    | .own xs => (forR (setT t) (evSs Γ b) xs (s.set k (.frz xs)) G).turn fun s1 G1 => match s1.getD k .no with
      | .frz _ => .next (s1.set k (.own xs)) G1
      | _ => .no
    | _ => .no) := by first | (rw [evS]; done) | (rw [evS]; rfl)
theorem evS_while_ (Γ : Calls) (c : E) (b : Ss) (s : Store) (G : Heap) : evS Γ (.while_ c b) s G = (whileR (evE Γ c) (evSs Γ b) fuelW s G) := by first | (rw [evS]; done) | (rw [evS]; rfl)
theorem setT_name (i : Nat) (v : Val) (s : Store) : setT (.name i) v s = some (s.set i (.val v)) := by rw [setT]
theorem setT_tup (ts : Tgs) (xs : List Val) (s : Store) : setT (.tup ts) (.tup xs) s = setTs ts xs s := by rw [setT]
theorem setTs_nil (s : Store) : setTs .nil [] s = some s := by rw [setTs]
theorem setTs_cons (t : Tg) (ts : Tgs) (x : Val) (xs : List Val) (s : Store) : setTs (.cons t ts) (x :: xs) s = (setT t x s).bind fun s' => setTs ts xs s' := by rw [setTs]
theorem evP_nil (Γ : Calls) (s : Store) (G : Heap) : evPTgs Γ .nil [] s G = .ok s G := by rw [evPTgs]
theorem evP_name (Γ : Calls) (i : Nat) (ts : PTgs) (x : Val) (xs : List Val) (s : Store) (G : Heap) : evPTgs Γ (.cons (.name i) ts) (x :: xs) s G = evPTgs Γ ts xs (s.set i (.val x)) G := by rw [evPTgs]
theorem evP_item (Γ : Calls) (o i : E) (ts : PTgs) (x : Val) (xs : List Val) (s : Store) (G : Heap) : evPTgs Γ (.cons (.item o i) ts) (x :: xs) s G = (evE Γ o s G).bind fun ov G1 => (evE Γ i s G1).bind fun iv G2 => (R.opt (setRef ov iv x G2) G2).bind fun G3 _ => evPTgs Γ ts xs s G3 := by rw [evPTgs]
theorem wipe_nil (s : Store) : wipeS s [] = s := rfl
theorem wipe_cons (s : Store) (v : Nat) (vs : List Nat) : wipeS s (v :: vs) = (wipeS s vs).set v .no := rfl
end Fx
namespace Fx
open PySem PySem.Spec PyProof.Rows L2
theorem seq_t (xs : List Val) : seq? (.tup xs) = some xs := rfl
theorem seq_l (xs : List Val) : seq? (.lst xs) = some xs := rfl
theorem seq_f (xs : List Val) : seq? (.frz xs) = some xs := rfl
theorem vInts_len (xs : List Int) : (vInts xs).length = xs.length := List.length_map ..
theorem getD_set_eq {s : Store} {i : Nat} {a d : Slot} (h : i < s.length) : (s.set i a).getD i d = a := by rw [getD_set, if_pos ⟨rfl, h⟩]
/-- [x != 0 for x in ..] -/
theorem ne0_comp (Γ : Calls) (i : Nat) {s : Store} (hi : i < s.length) (G : Heap) (l : List Int) : compR (setT (.name i)) (evE Γ (.con (.bool true))) (evE Γ (.cmp .NotEq (.var i) (.con (.int 0)))) (vInts l) s G = .ok (l.map fun w => .bool (!decide (w = 0))) G :=
  compR_ints _ fun x _ => ⟨s.set i (.val (.int x)), setT_name .., evE_con .., by
    rw [evE_cmp, evE_var, getD_set_eq hi]
    show (R.bind _ _) = _
    rw [R.bind_ok, evE_con, R.bind_ok, rd_int, rd_int, ne_i]; rfl⟩
theorem cut_from (xs : List Int) {c : Int} (h : 0 ≤ c) : cutL (vInts xs) (some c) none = vInts (xs.drop c.toNat) := by rw [vInts, cutL_map, cutL_from _ _ h]
theorem cut_to (xs : List Int) {c : Int} (h : 0 ≤ c) : cutL (vInts xs) none (some c) = vInts (xs.take c.toNat) := by rw [vInts, cutL_map, cutL_to _ _ h]
end Fx

namespace Fx.Law
open PySem PySem.Spec PyProof.Rows L2
abbrev pw := PySem.Challenge.pw_formstead_k80_devices_by_an_own_look
/-- the defs of the top -/
def defsOf : List Stmt → List (Arguments × List Stmt × Scope)
  | [] => []
  | .FunctionDef name args body _ _ _ scope _ _ _ :: r => (args, body, scope) :: defsOf r
  | _ :: r => defsOf r
def at_ (i : Nat) : Arguments × List Stmt × Scope := (defsOf pw.main.body).getD i (⟨[], [], none, [], [], none, []⟩, [], ⟨.function, [], false, false, []⟩)
def dd (i : Nat) (n : String) (ps N : List Str) (own : List Str) (hot : List Pos) : DD := ⟨n, Str.ofString n, (at_ i).1, ps, N, (at_ i).2.1, (at_ i).2.2, own, hot⟩
def d0 : DD := dd 0 "is_within" ["value", "low", "high"] ["value", "low", "high"] [] []
def d1 : DD := dd 1 "check_within" ["value", "low", "high"] ["value", "low", "high"] [] []
def d2 : DD := dd 2 "is_whole_number" ["value"] ["value"] [] []
def d3 : DD := dd 3 "check_device" ["device"] ["device", "index", "number"] [] []
def d4 : DD := dd 4 "slot_cells" ["device", "slot"] ["device", "slot", "many"] [] []
def d5 : DD := dd 5 "held_by" ["device", "slot"] ["device", "slot", "cells", "head", "count", "total", "words", "tail", "word"] [] []
def d6 : DD := dd 6 "current_by" ["device"] ["device", "found", "other"] [] []
def d7 : DD := dd 7 "mending_by" ["device"] ["device", "many", "slot"] [] []
def d8 : DD := dd 8 "put_all" ["device", "writes"] ["device", "writes", "cells", "cell", "number"] ["cells"] []
def d9 : DD := dd 9 "blank" ["width"] ["width"] [] []
def d10 : DD := dd 10 "held" ["device", "slot"] ["device", "slot"] [] []
def d11 : DD := dd 11 "current" ["device"] ["device"] [] []
def d12 : DD := dd 12 "is_mended" ["device"] ["device"] [] []
def d13 : DD := dd 13 "mending" ["device"] ["device"] [] []
def d14 : DD := dd 14 "mended" ["device"] ["device"] [] []
def d15 : DD := dd 15 "_law_well" ["_law_script", "_law_turn"] ["_law_script", "_law_turn", "_law_mixed", "_law_cell", "_law_own"] [] [⟨80, 11, 80, 88⟩]
def d16 : DD := dd 16 "_law_draw" ["_law_well_here", "_law_many"] ["_law_well_here", "_law_many", "_law_seed", "_law_figure"] [] []
def d17 : DD := dd 17 "_law_pick" ["_law_well_here", "_law_some"] ["_law_well_here", "_law_some"] [] []
def d18 : DD := dd 18 "_law_is_whole" ["_law_thing"] ["_law_thing"] [] []
def d19 : DD := dd 19 "_law_same" ["_law_told", "_law_due"] ["_law_told", "_law_due", "_law_x", "_law_y"] [] []
def d20 : DD := dd 20 "_law_held" ["_law_cells"] ["_law_cells", "_law_head", "_law_count", "_law_words", "_law_word"] [] []
def d21 : DD := dd 21 "_law_both" ["_law_device"] ["_law_device", "_law_size"] [] []
def d22 : DD := dd 22 "_law_now" ["_law_holds"] ["_law_holds"] [] []
def d23 : DD := dd 23 "_law_clears" ["_law_device"] ["_law_device", "_law_size", "_law_holds", "_law_at"] [] []
def d24 : DD := dd 24 "_law_put" ["_law_device", "_law_writes"] ["_law_device", "_law_writes", "_law_found", "_law_cell", "_law_number_here"] ["_law_found"] []
def d25 : DD := dd 25 "_law_number" ["_law_well_here"] ["_law_well_here"] [] []
def d26 : DD := dd 26 "_law_filled" ["_law_well_here", "_law_wide"] ["_law_well_here", "_law_wide", "_law_some", "_law_at", "_law_count", "_law_words", "_law_turn"] ["_law_some"] [⟨134, 11, 134, 136⟩]
def d27 : DD := dd 27 "_law_turned" ["_law_well_here", "_law_cells"] ["_law_well_here", "_law_cells", "_law_size", "_law_kind", "_law_again", "_law_by", "_law_spot", "_law_old"] [] []
def d28 : DD := dd 28 "_law_slot" ["_law_well_here", "_law_wide"] ["_law_well_here", "_law_wide", "_law_kind", "_law_cells"] [] []
def d29 : DD := dd 29 "_law_is_seen" ["_law_device"] ["_law_device", "_law_told", "_law_due", "_law_holds", "_law_writes"] [] []
def d30 : DD := dd 30 "_law_right" ["_law_well_here"] ["_law_well_here", "_law_wide", "_law_one", "_law_two", "_law_device", "_law_empty"] [] []
def d31 : DD := dd 31 "law" ["_law_script"] ["_law_script", "_law_turn"] [] []
def D : List DD := [d0, d1, d2, d3, d4, d5, d6, d7, d8, d9, d10, d11, d12, d13, d14, d15, d16, d17, d18, d19, d20, d21, d22, d23, d24, d25, d26, d27, d28, d29, d30, d31]
theorem b0 : BindOk d0 := fun _ _ _ _ _ _ us hl => match us, hl with | [_, _, _], _ => rfl
theorem b1 : BindOk d1 := fun _ _ _ _ _ _ us hl => match us, hl with | [_, _, _], _ => rfl
theorem b2 : BindOk d2 := fun _ _ _ _ _ _ us hl => match us, hl with | [_], _ => rfl
theorem b3 : BindOk d3 := fun _ _ _ _ _ _ us hl => match us, hl with | [_], _ => rfl
theorem b4 : BindOk d4 := fun _ _ _ _ _ _ us hl => match us, hl with | [_, _], _ => rfl
theorem b5 : BindOk d5 := fun _ _ _ _ _ _ us hl => match us, hl with | [_, _], _ => rfl
theorem b6 : BindOk d6 := fun _ _ _ _ _ _ us hl => match us, hl with | [_], _ => rfl
theorem b7 : BindOk d7 := fun _ _ _ _ _ _ us hl => match us, hl with | [_], _ => rfl
theorem b8 : BindOk d8 := fun _ _ _ _ _ _ us hl => match us, hl with | [_, _], _ => rfl
theorem b9 : BindOk d9 := fun _ _ _ _ _ _ us hl => match us, hl with | [_], _ => rfl
theorem b10 : BindOk d10 := fun _ _ _ _ _ _ us hl => match us, hl with | [_, _], _ => rfl
theorem b11 : BindOk d11 := fun _ _ _ _ _ _ us hl => match us, hl with | [_], _ => rfl
theorem b12 : BindOk d12 := fun _ _ _ _ _ _ us hl => match us, hl with | [_], _ => rfl
theorem b13 : BindOk d13 := fun _ _ _ _ _ _ us hl => match us, hl with | [_], _ => rfl
theorem b14 : BindOk d14 := fun _ _ _ _ _ _ us hl => match us, hl with | [_], _ => rfl
theorem b15 : BindOk d15 := fun _ _ _ _ _ _ us hl => match us, hl with | [_, _], _ => rfl
theorem b16 : BindOk d16 := fun _ _ _ _ _ _ us hl => match us, hl with | [_, _], _ => rfl
theorem b17 : BindOk d17 := fun _ _ _ _ _ _ us hl => match us, hl with | [_, _], _ => rfl
theorem b18 : BindOk d18 := fun _ _ _ _ _ _ us hl => match us, hl with | [_], _ => rfl
theorem b19 : BindOk d19 := fun _ _ _ _ _ _ us hl => match us, hl with | [_, _], _ => rfl
theorem b20 : BindOk d20 := fun _ _ _ _ _ _ us hl => match us, hl with | [_], _ => rfl
theorem b21 : BindOk d21 := fun _ _ _ _ _ _ us hl => match us, hl with | [_], _ => rfl
theorem b22 : BindOk d22 := fun _ _ _ _ _ _ us hl => match us, hl with | [_], _ => rfl
theorem b23 : BindOk d23 := fun _ _ _ _ _ _ us hl => match us, hl with | [_], _ => rfl
theorem b24 : BindOk d24 := fun _ _ _ _ _ _ us hl => match us, hl with | [_, _], _ => rfl
theorem b25 : BindOk d25 := fun _ _ _ _ _ _ us hl => match us, hl with | [_], _ => rfl
theorem b26 : BindOk d26 := fun _ _ _ _ _ _ us hl => match us, hl with | [_, _], _ => rfl
theorem b27 : BindOk d27 := fun _ _ _ _ _ _ us hl => match us, hl with | [_, _], _ => rfl
theorem b28 : BindOk d28 := fun _ _ _ _ _ _ us hl => match us, hl with | [_, _], _ => rfl
theorem b29 : BindOk d29 := fun _ _ _ _ _ _ us hl => match us, hl with | [_], _ => rfl
theorem b30 : BindOk d30 := fun _ _ _ _ _ _ us hl => match us, hl with | [_], _ => rfl
theorem b31 : BindOk d31 := fun _ _ _ _ _ _ us hl => match us, hl with | [_], _ => rfl
theorem bAll : ∀ d ∈ D, BindOk d := by
  exact (List.forall_mem_cons.mpr ⟨b0, (List.forall_mem_cons.mpr ⟨b1, (List.forall_mem_cons.mpr ⟨b2, (List.forall_mem_cons.mpr ⟨b3, (List.forall_mem_cons.mpr ⟨b4, (List.forall_mem_cons.mpr ⟨b5, (List.forall_mem_cons.mpr ⟨b6, (List.forall_mem_cons.mpr ⟨b7, (List.forall_mem_cons.mpr ⟨b8, (List.forall_mem_cons.mpr ⟨b9, (List.forall_mem_cons.mpr ⟨b10, (List.forall_mem_cons.mpr ⟨b11, (List.forall_mem_cons.mpr ⟨b12, (List.forall_mem_cons.mpr ⟨b13, (List.forall_mem_cons.mpr ⟨b14, (List.forall_mem_cons.mpr ⟨b15, (List.forall_mem_cons.mpr ⟨b16, (List.forall_mem_cons.mpr ⟨b17, (List.forall_mem_cons.mpr ⟨b18, (List.forall_mem_cons.mpr ⟨b19, (List.forall_mem_cons.mpr ⟨b20, (List.forall_mem_cons.mpr ⟨b21, (List.forall_mem_cons.mpr ⟨b22, (List.forall_mem_cons.mpr ⟨b23, (List.forall_mem_cons.mpr ⟨b24, (List.forall_mem_cons.mpr ⟨b25, (List.forall_mem_cons.mpr ⟨b26, (List.forall_mem_cons.mpr ⟨b27, (List.forall_mem_cons.mpr ⟨b28, (List.forall_mem_cons.mpr ⟨b29, (List.forall_mem_cons.mpr ⟨b30, (List.forall_mem_cons.mpr ⟨b31, (List.forall_mem_nil _)⟩)⟩)⟩)⟩)⟩)⟩)⟩)⟩)⟩)⟩)⟩)⟩)⟩)⟩)⟩)⟩)⟩)⟩)⟩)⟩)⟩)⟩)⟩)⟩)⟩)⟩)⟩)⟩)⟩)⟩)⟩)⟩)
def fr : List Str := ["abs", "all", "any", "bool", "divmod", "enumerate", "int", "isinstance", "len", "list", "max", "min", "range", "str", "sum", "tuple", "zip"]
def is : List (Str × Int) := [("LEAST_WIDTH", 26), ("MOST_WIDTH", 9000), ("BESIDE", 4)]
end Fx.Law

namespace Fx.Law
open PySem Fx
abbrev gl := glOf D fr is
abbrev P : Prog := progOf gl D
def Bis_within : Ss := (.cons (.ret (.and (.isi (.var 0) .int) (.and (.not (.isi (.var 0) .bool)) (.cmp2 .LtE .LtE (.var 1) (.var 0) (.var 2)))))
  .nil)
theorem pis_within : P "is_within" = some ⟨3, 3, Bis_within⟩ := by kernel_rfl
def Bcheck_within : Ss := (.cons (.ite (.not (.call "is_within" (.cons (.var 0) (.cons (.var 1) (.cons (.var 2) .nil)))))
  (.cons .stop
  .nil)
  .nil)
  .nil)
theorem pcheck_within : P "check_within" = some ⟨3, 3, Bcheck_within⟩ := by kernel_rfl
def Bis_whole_number : Ss := (.cons (.ret (.and (.isi (.var 0) .int) (.not (.isi (.var 0) .bool))))
  .nil)
theorem pis_whole_number : P "is_whole_number" = some ⟨1, 1, Bis_whole_number⟩ := by kernel_rfl
def Bcheck_device : Ss := (.cons (.ite (.or (.not (.isi (.var 0) .tuple)) (.or (.cmp .Eq (.bin .Mod (.bcall .len (.cons (.var 0) .nil)) (.con (.int (2)))) (.con (.int (1)))) (.cmp .Lt (.bcall .len (.cons (.var 0) .nil)) (.bin .Mult (.con (.int (2))) (.bin .Add (.con (.int (26))) (.con (.int (4))))))))
  (.cons .stop
  .nil)
  .nil)
  (.cons (.for_ (.tup (.cons (.name 1) (.cons (.name 2) .nil))) (.enum (.var 0))
  (.cons (.ite (.not (.call "is_whole_number" (.cons (.var 2) .nil)))
  (.cons .stop
  .nil)
  .nil)
  .nil))
  .nil))
theorem pcheck_device : P "check_device" = some ⟨1, 3, Bcheck_device⟩ := by kernel_rfl
def Bslot_cells : Ss := (.cons (.asg (.name 2) (.bin .FloorDiv (.bcall .len (.cons (.var 0) .nil)) (.con (.int (2)))))
  (.cons (.ret (.slice (.var 0) true (.bin .Mult (.var 1) (.var 2)) true (.bin .Mult (.bin .Add (.var 1) (.con (.int (1)))) (.var 2))))
  .nil))
theorem pslot_cells : P "slot_cells" = some ⟨2, 3, Bslot_cells⟩ := by kernel_rfl
def Bheld_by : Ss := (.cons (.asg (.name 2) (.call "slot_cells" (.cons (.var 0) (.cons (.var 1) .nil))))
  (.cons (.asg (.tup (.cons (.name 3) (.cons (.name 4) (.cons (.name 5) (.cons (.name 6) (.cons (.name 7) .nil)))))) (.tup (.cons (.idx (.var 2) (.con (.int (0)))) (.cons (.idx (.var 2) (.con (.int (1)))) (.cons (.idx (.var 2) (.con (.int (2)))) (.cons (.slice (.var 2) true (.con (.int (3))) true (.neg (.con (.int (1))))) (.cons (.idx (.var 2) (.neg (.con (.int (1))))) .nil)))))))
  (.cons (.ite (.or (.cmp .LtE (.var 3) (.con (.int (0)))) (.or (.cmp .NotEq (.var 3) (.var 7)) (.or (.not (.cmp2 .LtE .LtE (.con (.int (0))) (.var 4) (.bcall .len (.cons (.var 6) .nil)))) (.cmp .NotEq (.var 5) (.bin .Add (.bin .Add (.var 3) (.var 4)) (.bcall .sum (.cons (.var 6) .nil)))))))
  (.cons (.ret (.con .none))
  .nil)
  .nil)
  (.cons (.ite (.bcall .any (.cons (.comp [8] (.name 8) (.of (.slice (.var 6) true (.var 4) false (.con .none))) (.con (.bool true)) (.cmp .NotEq (.var 8) (.con (.int (0))))) .nil))
  (.cons (.ret (.con .none))
  .nil)
  .nil)
  (.cons (.ret (.tup (.cons (.var 3) (.cons (.slice (.var 6) false (.con .none) true (.var 4)) .nil))))
  .nil)))))
theorem pheld_by : P "held_by" = some ⟨2, 9, Bheld_by⟩ := by kernel_rfl
def Bcurrent_by : Ss := (.cons (.asg (.tup (.cons (.name 1) (.cons (.name 2) .nil))) (.tup (.cons (.call "held_by" (.cons (.var 0) (.cons (.con (.int (0))) .nil))) (.cons (.call "held_by" (.cons (.var 0) (.cons (.con (.int (1))) .nil))) .nil))))
  (.cons (.ite (.cmp .Is (.var 1) (.con .none))
  (.cons (.ret (.ite (.cmp .Is (.var 2) (.con .none)) (.con .none) (.con (.int (1)))))
  .nil)
  .nil)
  (.cons (.ret (.ite (.and (.cmp .IsNot (.var 2) (.con .none)) (.cmp .Gt (.idx (.var 2) (.con (.int (0)))) (.idx (.var 1) (.con (.int (0)))))) (.con (.int (1))) (.con (.int (0)))))
  .nil)))
theorem pcurrent_by : P "current_by" = some ⟨1, 3, Bcurrent_by⟩ := by kernel_rfl
def Bmending_by : Ss := (.cons (.asg (.name 1) (.bin .FloorDiv (.bcall .len (.cons (.var 0) .nil)) (.con (.int (2)))))
  (.cons (.ret (.bcall .tuple (.cons (.comp [2] (.name 2) (.rng1 (.con (.int (2)))) (.and (.cmp .NotEq (.idx (.var 0) (.bin .Mult (.var 2) (.var 1))) (.con (.int (0)))) (.cmp .Is (.call "held_by" (.cons (.var 0) (.cons (.var 2) .nil))) (.con .none))) (.tup (.cons (.bin .Mult (.var 2) (.var 1)) (.cons (.con (.int (0))) .nil)))) .nil)))
  .nil))
theorem pmending_by : P "mending_by" = some ⟨1, 3, Bmending_by⟩ := by kernel_rfl
def Bput_all : Ss := (.cons (.asgOwn 2 (.bcall .list (.cons (.var 0) .nil)))
  (.cons (.for_ (.tup (.cons (.name 3) (.cons (.name 4) .nil))) (.of (.var 1))
  (.cons (.setO 2 (.var 3) (.var 4))
  .nil))
  (.cons (.ret (.bcall .tuple (.cons (.own 2) .nil)))
  .nil)))
theorem pput_all : P "put_all" = some ⟨2, 5, Bput_all⟩ := by kernel_rfl
def Bblank : Ss := (.cons (.exp (.call "check_within" (.cons (.var 0) (.cons (.con (.int (26))) (.cons (.con (.int (9000))) .nil)))))
  (.cons (.ret (.bin .Mult (.tup (.cons (.con (.int (0))) .nil)) (.bin .Mult (.con (.int (2))) (.bin .Add (.var 0) (.con (.int (4)))))))
  .nil))
theorem pblank : P "blank" = some ⟨1, 1, Bblank⟩ := by kernel_rfl
def Bheld : Ss := (.cons (.exp (.call "check_device" (.cons (.var 0) .nil)))
  (.cons (.exp (.call "check_within" (.cons (.var 1) (.cons (.con (.int (0))) (.cons (.con (.int (1))) .nil)))))
  (.cons (.ret (.call "held_by" (.cons (.var 0) (.cons (.var 1) .nil))))
  .nil)))
theorem pheld : P "held" = some ⟨2, 2, Bheld⟩ := by kernel_rfl
def Bcurrent : Ss := (.cons (.exp (.call "check_device" (.cons (.var 0) .nil)))
  (.cons (.ret (.call "current_by" (.cons (.var 0) .nil)))
  .nil))
theorem pcurrent : P "current" = some ⟨1, 1, Bcurrent⟩ := by kernel_rfl
def Bis_mended : Ss := (.cons (.exp (.call "check_device" (.cons (.var 0) .nil)))
  (.cons (.ret (.cmp .Eq (.call "mending_by" (.cons (.var 0) .nil)) (.tup .nil)))
  .nil))
theorem pis_mended : P "is_mended" = some ⟨1, 1, Bis_mended⟩ := by kernel_rfl
def Bmending : Ss := (.cons (.exp (.call "check_device" (.cons (.var 0) .nil)))
  (.cons (.ret (.call "mending_by" (.cons (.var 0) .nil)))
  .nil))
theorem pmending : P "mending" = some ⟨1, 1, Bmending⟩ := by kernel_rfl
def Bmended : Ss := (.cons (.exp (.call "check_device" (.cons (.var 0) .nil)))
  (.cons (.ret (.call "put_all" (.cons (.var 0) (.cons (.call "mending_by" (.cons (.var 0) .nil)) .nil))))
  .nil))
theorem pmended : P "mended" = some ⟨1, 1, Bmended⟩ := by kernel_rfl
def Bw_law_well : Ss := (.cons (.asg (.name 2) (.bin .Add (.con (.int (902611))) (.bin .Mult (.con (.int (7129))) (.var 1))))
  (.cons (.for_ (.name 3) (.of (.slice (.var 0) false (.con .none) true (.con (.int (9)))))
  (.cons (.asg (.name 2) (.bin .Mod (.bcall .int (.cons (.bin .Add (.bin .Add (.bin .Mult (.var 2) (.con (.int (47123)))) (.bin .Mod (.bcall .int (.cons (.var 3) .nil)) (.con (.int (2147483587))))) (.con (.int (5)))) .nil)) (.con (.int (2147483563)))))
  .nil))
  (.cons (.asg (.name 4) (.ite (.cmp .Lt (.var 1) (.bcall .len (.cons (.var 0) .nil))) (.bcall .int (.cons (.idx (.var 0) (.var 1)) .nil)) (.con (.int (0)))))
  (.cons (.asg (.name 2) (.bin .Mod (.bcall .int (.cons (.bin .Add (.bin .Add (.bin .Mult (.var 2) (.con (.int (43)))) (.bin .Mult (.bin .Mod (.bcall .int (.cons (.var 4) .nil)) (.con (.int (2147483587)))) (.con (.int (20011))))) (.con (.int (7)))) .nil)) (.con (.int (2147483563)))))
  (.cons (.ret (.heap (.lst (.cons (.ite (.or (.cmp .Lt (.var 4) (.con (.int (0)))) (.cmp .GtE (.var 4) (.bin .Pow (.con (.int (10))) (.con (.int (14)))))) (.bcall .abs (.cons (.var 4) .nil)) (.con (.int (0)))) (.cons (.var 2) (.cons (.con (.int (0))) .nil))))))
  .nil)))))
theorem pw_law_well : P "_law_well" = some ⟨2, 5, Bw_law_well⟩ := by kernel_rfl
def Bw_law_draw : Ss := (.cons (.ite (.cmp .Gt (.idx (.var 0) (.con (.int (0)))) (.con (.int (0))))
  (.cons (.par (.cons (.item (.var 0) (.con (.int (0)))) (.cons (.name 3) .nil)) (.bcall .divmod (.cons (.idx (.var 0) (.con (.int (0)))) (.cons (.var 1) .nil))))
  (.cons (.ret (.var 3))
  .nil))
  .nil)
  (.cons (.setR (.var 0) (.con (.int (2))) (.bin .Add (.idx (.var 0) (.con (.int (2)))) (.con (.int (1)))))
  (.cons (.asg (.name 2) (.bin .Mod (.bcall .int (.cons (.bin .Add (.idx (.var 0) (.con (.int (1)))) (.bin .Mult (.con (.int (60013))) (.idx (.var 0) (.con (.int (2)))))) .nil)) (.con (.int (2147483563)))))
  (.cons (.setR (.var 0) (.con (.int (1))) (.bin .Mod (.bcall .int (.cons (.bin .Add (.bin .Mult (.var 2) (.bin .Add (.bin .Mod (.bcall .int (.cons (.var 2) .nil)) (.con (.int (5003)))) (.con (.int (40009))))) (.bin .Mult (.con (.int (31))) (.idx (.var 0) (.con (.int (2)))))) .nil)) (.con (.int (2147483563)))))
  (.cons (.ret (.bin .Mod (.bcall .int (.cons (.bin .FloorDiv (.idx (.var 0) (.con (.int (1)))) (.con (.int (641)))) .nil)) (.var 1)))
  .nil)))))
theorem pw_law_draw : P "_law_draw" = some ⟨2, 4, Bw_law_draw⟩ := by kernel_rfl
def Bw_law_pick : Ss := (.cons (.ret (.idx (.var 1) (.call "_law_draw" (.cons (.var 0) (.cons (.bcall .len (.cons (.var 1) .nil)) .nil)))))
  .nil)
theorem pw_law_pick : P "_law_pick" = some ⟨2, 2, Bw_law_pick⟩ := by kernel_rfl
def Bw_law_is_whole : Ss := (.cons (.ret (.and (.isi (.var 0) .int) (.not (.isi (.var 0) .bool))))
  .nil)
theorem pw_law_is_whole : P "_law_is_whole" = some ⟨1, 1, Bw_law_is_whole⟩ := by kernel_rfl
def Bw_law_same : Ss := (.cons (.ite (.isi (.var 1) .tuple)
  (.cons (.ret (.and (.isi (.var 0) .tuple) (.and (.cmp .Eq (.bcall .len (.cons (.var 0) .nil)) (.bcall .len (.cons (.var 1) .nil))) (.bcall .all (.cons (.comp [2, 3] (.tup (.cons (.name 2) (.cons (.name 3) .nil))) (.zip (.var 0) (.var 1)) (.con (.bool true)) (.call "_law_same" (.cons (.var 2) (.cons (.var 3) .nil)))) .nil)))))
  .nil)
  .nil)
  (.cons (.ite (.cmp .Is (.var 1) (.con .none))
  (.cons (.ret (.cmp .Is (.var 0) (.con .none)))
  .nil)
  .nil)
  (.cons (.ite (.isi (.var 1) .bool)
  (.cons (.ret (.and (.isi (.var 0) .bool) (.cmp .Eq (.var 0) (.var 1))))
  .nil)
  .nil)
  (.cons (.ite (.isi (.var 1) .str)
  (.cons (.ret (.and (.isi (.var 0) .str) (.cmp .Eq (.var 0) (.var 1))))
  .nil)
  .nil)
  (.cons (.ret (.and (.call "_law_is_whole" (.cons (.var 0) .nil)) (.cmp .Eq (.var 0) (.var 1))))
  .nil)))))
theorem pw_law_same : P "_law_same" = some ⟨2, 4, Bw_law_same⟩ := by kernel_rfl
def Bw_law_held : Ss := (.cons (.asg (.tup (.cons (.name 1) (.cons (.name 2) (.cons (.name 3) .nil)))) (.tup (.cons (.idx (.var 0) (.con (.int (0)))) (.cons (.idx (.var 0) (.con (.int (1)))) (.cons (.slice (.var 0) true (.con (.int (3))) true (.neg (.con (.int (1))))) .nil)))))
  (.cons (.ite (.or (.cmp .LtE (.var 1) (.con (.int (0)))) (.or (.cmp .NotEq (.var 1) (.idx (.var 0) (.neg (.con (.int (1)))))) (.not (.cmp2 .LtE .LtE (.con (.int (0))) (.var 2) (.bcall .len (.cons (.var 3) .nil))))))
  (.cons (.ret (.con .none))
  .nil)
  .nil)
  (.cons (.ite (.or (.bcall .any (.cons (.comp [4] (.name 4) (.of (.slice (.var 3) true (.var 2) false (.con .none))) (.con (.bool true)) (.cmp .NotEq (.var 4) (.con (.int (0))))) .nil)) (.cmp .NotEq (.idx (.var 0) (.con (.int (2)))) (.bin .Add (.bin .Add (.var 1) (.var 2)) (.bcall .sum (.cons (.var 3) .nil)))))
  (.cons (.ret (.con .none))
  .nil)
  .nil)
  (.cons (.ret (.tup (.cons (.var 1) (.cons (.bcall .tuple (.cons (.slice (.var 3) false (.con .none) true (.var 2)) .nil)) .nil))))
  .nil))))
theorem pw_law_held : P "_law_held" = some ⟨1, 5, Bw_law_held⟩ := by kernel_rfl
def Bw_law_both : Ss := (.cons (.asg (.name 1) (.bin .FloorDiv (.bcall .len (.cons (.var 0) .nil)) (.con (.int (2)))))
  (.cons (.ret (.tup (.cons (.call "_law_held" (.cons (.slice (.var 0) false (.con .none) true (.var 1)) .nil)) (.cons (.call "_law_held" (.cons (.slice (.var 0) true (.var 1) false (.con .none)) .nil)) .nil))))
  .nil))
theorem pw_law_both : P "_law_both" = some ⟨1, 2, Bw_law_both⟩ := by kernel_rfl
def Bw_law_now : Ss := (.cons (.ite (.and (.cmp .IsNot (.idx (.var 0) (.con (.int (1)))) (.con .none)) (.or (.cmp .Is (.idx (.var 0) (.con (.int (0)))) (.con .none)) (.cmp .Gt (.idx (.idx (.var 0) (.con (.int (1)))) (.con (.int (0)))) (.idx (.idx (.var 0) (.con (.int (0)))) (.con (.int (0)))))))
  (.cons (.ret (.con (.int (1))))
  .nil)
  .nil)
  (.cons (.ret (.ite (.cmp .Is (.idx (.var 0) (.con (.int (0)))) (.con .none)) (.con .none) (.con (.int (0)))))
  .nil))
theorem pw_law_now : P "_law_now" = some ⟨1, 1, Bw_law_now⟩ := by kernel_rfl
def Bw_law_clears : Ss := (.cons (.asg (.tup (.cons (.name 1) (.cons (.name 2) .nil))) (.tup (.cons (.bin .FloorDiv (.bcall .len (.cons (.var 0) .nil)) (.con (.int (2)))) (.cons (.call "_law_both" (.cons (.var 0) .nil)) .nil))))
  (.cons (.ret (.bcall .tuple (.cons (.comp [3] (.name 3) (.of (.tup (.cons (.con (.int (0))) (.cons (.con (.int (1))) .nil)))) (.and (.cmp .Is (.idx (.var 2) (.var 3)) (.con .none)) (.cmp .NotEq (.idx (.var 0) (.bin .Mult (.var 3) (.var 1))) (.con (.int (0))))) (.tup (.cons (.bin .Mult (.var 3) (.var 1)) (.cons (.con (.int (0))) .nil)))) .nil)))
  .nil))
theorem pw_law_clears : P "_law_clears" = some ⟨1, 4, Bw_law_clears⟩ := by kernel_rfl
def Bw_law_put : Ss := (.cons (.asgOwn 2 (.bcall .list (.cons (.var 0) .nil)))
  (.cons (.for_ (.tup (.cons (.name 3) (.cons (.name 4) .nil))) (.of (.var 1))
  (.cons (.setO 2 (.var 3) (.var 4))
  .nil))
  (.cons (.ret (.bcall .tuple (.cons (.own 2) .nil)))
  .nil)))
theorem pw_law_put : P "_law_put" = some ⟨2, 5, Bw_law_put⟩ := by kernel_rfl
def Bw_law_number : Ss := (.cons (.ret (.ite (.cmp .Gt (.call "_law_draw" (.cons (.var 0) (.cons (.con (.int (4))) .nil))) (.con (.int (0)))) (.bin .Sub (.call "_law_draw" (.cons (.var 0) (.cons (.con (.int (9))) .nil))) (.con (.int (3)))) (.bin .Sub (.call "_law_draw" (.cons (.var 0) (.cons (.bin .Pow (.con (.int (10))) (.con (.int (12)))) .nil))) (.con (.int (1500007))))))
  .nil)
theorem pw_law_number : P "_law_number" = some ⟨1, 1, Bw_law_number⟩ := by kernel_rfl
def Bw_law_filled : Ss := (.cons (.asgOwn 2 (.lst .nil))
  (.cons (.for_ (.name 3) (.rng1 (.bin .Add (.con (.int (1))) (.call "_law_draw" (.cons (.var 0) (.cons (.con (.int (6))) .nil)))))
  (.cons (.app 2 (.call "_law_number" (.cons (.var 0) .nil)))
  .nil))
  (.cons (.asg (.name 4) (.call "_law_pick" (.cons (.var 0) (.cons (.tup (.cons (.con (.int (0))) (.cons (.con (.int (1))) (.cons (.var 1) (.cons (.bin .Sub (.var 1) (.con (.int (1)))) (.cons (.con (.int (5))) (.cons (.call "_law_draw" (.cons (.var 0) (.cons (.bin .Add (.var 1) (.con (.int (1)))) .nil))) .nil))))))) .nil))))
  (.cons (.asg (.name 5) (.slice (.bin .Mult (.own 2) (.var 1)) false (.con .none) true (.var 4)))
  (.cons (.asg (.name 6) (.bin .Add (.con (.int (1))) (.ite (.cmp .Gt (.call "_law_draw" (.cons (.var 0) (.cons (.con (.int (3))) .nil))) (.con (.int (0)))) (.call "_law_draw" (.cons (.var 0) (.cons (.con (.int (3))) .nil))) (.call "_law_draw" (.cons (.var 0) (.cons (.con (.int (3000000))) .nil))))))
  (.cons (.ret (.heap (.bin .Add (.bin .Add (.bin .Add (.lst (.cons (.var 6) (.cons (.var 4) (.cons (.bin .Add (.bin .Add (.var 6) (.var 4)) (.bcall .sum (.cons (.var 5) .nil))) .nil)))) (.var 5)) (.bin .Mult (.lst (.cons (.con (.int (0))) .nil)) (.bin .Sub (.var 1) (.var 4)))) (.lst (.cons (.var 6) .nil)))))
  .nil))))))
theorem pw_law_filled : P "_law_filled" = some ⟨2, 7, Bw_law_filled⟩ := by kernel_rfl
def Bw_law_turned : Ss := (.cons (.asg (.name 2) (.bcall .len (.cons (.var 1) .nil)))
  (.cons (.asg (.name 3) (.call "_law_draw" (.cons (.var 0) (.cons (.con (.int (6))) .nil))))
  (.cons (.ite (.cmp .Eq (.var 3) (.con (.int (0))))
  (.cons (.asg (.name 5) (.call "_law_pick" (.cons (.var 0) (.cons (.tup (.cons (.con (.int (1))) (.cons (.neg (.con (.int (1)))) .nil))) .nil))))
  (.cons (.par (.cons (.item (.var 1) (.con (.int (1)))) (.cons (.item (.var 1) (.con (.int (2)))) .nil)) (.tup (.cons (.bin .Add (.idx (.var 1) (.con (.int (1)))) (.var 5)) (.cons (.bin .Add (.idx (.var 1) (.con (.int (2)))) (.var 5)) .nil))))
  (.cons (.ret (.var 1))
  .nil)))
  .nil)
  (.cons (.ite (.cmp .Eq (.var 3) (.con (.int (1))))
  (.cons (.asg (.name 5) (.ite (.cmp .Eq (.call "_law_draw" (.cons (.var 0) (.cons (.con (.int (2))) .nil))) (.con (.int (0)))) (.idx (.var 1) (.con (.int (0)))) (.bin .Mult (.con (.int (2))) (.idx (.var 1) (.con (.int (0)))))))
  (.cons (.par (.cons (.item (.var 1) (.con (.int (0)))) (.cons (.item (.var 1) (.con (.int (2)))) (.cons (.item (.var 1) (.neg (.con (.int (1))))) .nil))) (.tup (.cons (.bin .Sub (.idx (.var 1) (.con (.int (0)))) (.var 5)) (.cons (.bin .Sub (.idx (.var 1) (.con (.int (2)))) (.var 5)) (.cons (.bin .Sub (.idx (.var 1) (.neg (.con (.int (1))))) (.var 5)) .nil)))))
  (.cons (.ret (.var 1))
  .nil)))
  .nil)
  (.cons (.for_ (.name 4) (.rng1 (.ite (.cmp .Lt (.var 3) (.con (.int (5)))) (.con (.int (1))) (.con (.int (2)))))
  (.cons (.asg (.name 6) (.call "_law_pick" (.cons (.var 0) (.cons (.tup (.cons (.con (.int (0))) (.cons (.con (.int (1))) (.cons (.con (.int (2))) (.cons (.con (.int (3))) (.cons (.bin .Sub (.var 2) (.con (.int (2)))) (.cons (.bin .Sub (.var 2) (.con (.int (1)))) (.cons (.call "_law_draw" (.cons (.var 0) (.cons (.var 2) .nil))) .nil)))))))) .nil))))
  (.cons (.asg (.name 7) (.idx (.var 1) (.var 6)))
  (.cons (.setR (.var 1) (.var 6) (.call "_law_pick" (.cons (.var 0) (.cons (.tup (.cons (.bin .Add (.var 7) (.con (.int (1)))) (.cons (.bin .Sub (.var 7) (.con (.int (1)))) (.cons (.con (.int (0))) (.cons (.bin .Sub (.con (.int (0))) (.var 7)) (.cons (.idx (.var 1) (.con (.int (0)))) (.cons (.idx (.var 1) (.con (.int (1)))) (.cons (.call "_law_number" (.cons (.var 0) .nil)) .nil)))))))) .nil))))
  .nil))))
  (.cons (.ret (.var 1))
  .nil))))))
theorem pw_law_turned : P "_law_turned" = some ⟨2, 8, Bw_law_turned⟩ := by kernel_rfl
def Bw_law_slot : Ss := (.cons (.asg (.name 2) (.call "_law_draw" (.cons (.var 0) (.cons (.con (.int (8))) .nil))))
  (.cons (.ite (.cmp .Eq (.var 2) (.con (.int (0))))
  (.cons (.ret (.bin .Mult (.lst (.cons (.con (.int (0))) .nil)) (.bin .Add (.var 1) (.con (.int (4))))))
  .nil)
  .nil)
  (.cons (.asg (.name 3) (.call "_law_filled" (.cons (.var 0) (.cons (.var 1) .nil))))
  (.cons (.ret (.ite (.cmp .Lt (.var 2) (.con (.int (4)))) (.var 3) (.call "_law_turned" (.cons (.var 0) (.cons (.var 3) .nil)))))
  .nil))))
theorem pw_law_slot : P "_law_slot" = some ⟨2, 4, Bw_law_slot⟩ := by kernel_rfl
def Bw_law_is_seen : Ss := (.cons (.asg (.tup (.cons (.name 3) (.cons (.name 4) .nil))) (.tup (.cons (.call "_law_both" (.cons (.var 0) .nil)) (.cons (.call "_law_clears" (.cons (.var 0) .nil)) .nil))))
  (.cons (.asg (.name 1) (.tup (.cons (.call "held" (.cons (.var 0) (.cons (.con (.int (0))) .nil))) (.cons (.call "held" (.cons (.var 0) (.cons (.con (.int (1))) .nil))) (.cons (.call "current" (.cons (.var 0) .nil)) (.cons (.call "is_mended" (.cons (.var 0) .nil)) (.cons (.call "mending" (.cons (.var 0) .nil)) (.cons (.call "mended" (.cons (.var 0) .nil)) .nil))))))))
  (.cons (.asg (.name 2) (.bin .Add (.var 3) (.tup (.cons (.call "_law_now" (.cons (.var 3) .nil)) (.cons (.cmp .Eq (.var 4) (.tup .nil)) (.cons (.var 4) (.cons (.call "_law_put" (.cons (.var 0) (.cons (.var 4) .nil))) .nil)))))))
  (.cons (.ret (.call "_law_same" (.cons (.var 1) (.cons (.var 2) .nil))))
  .nil))))
theorem pw_law_is_seen : P "_law_is_seen" = some ⟨1, 5, Bw_law_is_seen⟩ := by kernel_rfl
def Bw_law_right : Ss := (.cons (.asg (.name 1) (.bin .Add (.con (.int (26))) (.call "_law_draw" (.cons (.var 0) (.cons (.con (.int (7))) .nil)))))
  (.cons (.asg (.name 2) (.call "_law_slot" (.cons (.var 0) (.cons (.var 1) .nil))))
  (.cons (.asg (.name 3) (.ite (.cmp .Eq (.call "_law_draw" (.cons (.var 0) (.cons (.con (.int (5))) .nil))) (.con (.int (0)))) (.bcall .list (.cons (.var 2) .nil)) (.call "_law_slot" (.cons (.var 0) (.cons (.var 1) .nil)))))
  (.cons (.asg (.tup (.cons (.name 4) (.cons (.name 5) .nil))) (.tup (.cons (.bcall .tuple (.cons (.bin .Add (.var 2) (.var 3)) .nil)) (.cons (.call "blank" (.cons (.var 1) .nil)) .nil))))
  (.cons (.ite (.or (.not (.call "_law_is_seen" (.cons (.var 4) .nil))) (.not (.call "_law_is_seen" (.cons (.call "_law_put" (.cons (.var 4) (.cons (.call "_law_clears" (.cons (.var 4) .nil)) .nil))) .nil))))
  (.cons (.ret (.con (.bool false)))
  .nil)
  .nil)
  (.cons (.ret (.and (.call "_law_same" (.cons (.var 5) (.cons (.bin .Mult (.tup (.cons (.con (.int (0))) .nil)) (.bin .Add (.bin .Mult (.con (.int (2))) (.var 1)) (.con (.int (8))))) .nil))) (.call "_law_is_seen" (.cons (.var 5) .nil))))
  .nil))))))
theorem pw_law_right : P "_law_right" = some ⟨1, 6, Bw_law_right⟩ := by kernel_rfl
def Blaw : Ss := (.cons (.ret (.bcall .all (.cons (.comp [1] (.name 1) (.rng1 (.bcall .max (.cons (.con (.int (2))) (.cons (.bcall .min (.cons (.bcall .len (.cons (.var 0) .nil)) (.cons (.con (.int (3))) .nil))) .nil)))) (.con (.bool true)) (.call "_law_right" (.cons (.call "_law_well" (.cons (.var 0) (.cons (.var 1) .nil))) .nil))) .nil)))
  .nil)
theorem plaw : P "law" = some ⟨1, 2, Blaw⟩ := by kernel_rfl
end Fx.Law

namespace Fx.Law
open PySem PySem.Spec PyProof.Rows L2 Fx
theorem draw_eq (k : Nat) (G : Heap) (n : Nat) (a b c m : Int) (h : G[n]? = some (.lst [.int a, .int b, .int c])) (hm : 0 < m) (hm2 : m < p64) :
    (callN P (k+1) "_law_draw" [.ref n, .int m] G).tot fun v G' => (∃ i, v = .int i ∧ 0 ≤ i ∧ i < m) ∧ ∃ a' b' c', G' = G.set n (.lst [.int a', .int b', .int c']) := by
  rw [call_eq pw_law_draw k _ _ rfl]
  have hn : n < G.length := (List.getElem?_eq_some_iff.mp h).1
  have i0 : ixN 3 0 = some 0 := by decide
  have i1 : ixN 3 1 = some 1 := by decide
  have i2 : ixN 3 2 = some 2 := by decide
  have e0 : ∀ (x y z v : Val) (H : Heap), H[n]? = some (.lst [x, y, z]) → setRef (.ref n) (.int 0) v H = some (H.set n (.lst [v, y, z])) := fun x y z v H h => setRef_eq h i0
  have e1 : ∀ (x y z v : Val) (H : Heap), H[n]? = some (.lst [x, y, z]) → setRef (.ref n) (.int 1) v H = some (H.set n (.lst [x, v, z])) := fun x y z v H h => setRef_eq h i1
  have e2 : ∀ (x y z v : Val) (H : Heap), H[n]? = some (.lst [x, y, z]) → setRef (.ref n) (.int 2) v H = some (H.set n (.lst [x, y, v])) := fun x y z v H h => setRef_eq h i2
  have dm := divmod_i a m (by simp [hm, hm2])
  have hs : ∀ o : Obj, (G.set n o)[n]? = some o := fun o => get_set hn
  simp only [Bw_law_draw, evSs_cons, evSs_nil, evE_var, evE_own, evE_con, evE_tup, evE_lst, evE_bin, evE_neg, evE_cmp, evE_cmp2, evE_not, evE_and, evE_or, evE_ite, evE_idx, evE_slice, evE_call, evE_bcall, evE_isi, evE_comp, evE_heap, evE_stop, evEs_nil, evEs_cons, evI_of, evI_rng1, evI_rng2, evI_zip, evI_enum, evS_stop, evS_exp, evS_ret, evS_retO, evS_retN, evS_pass, evS_brk, evS_cont, evS_asg, evS_asgOwn, evS_setR, evS_setO, evS_app, evS_appR, evS_extO, evS_popT, evS_popO, evS_aug, evS_par, evS_ite, evS_for_, evS_forO, evS_while_, startS, List.length_cons, List.length_nil, List.map_cons, List.map_nil, List.replicate, List.cons_append, List.nil_append, List.getD_cons_zero, List.getD_cons_succ, List.set_cons_zero, List.set_cons_succ, R.bind_ok, R.opt_some, R.calm_ok, R.thenS_ok, rd_int, rd_bool, rd_none, rd_str, rd_tup, rd_lst, rd_frz, seq_thenS, fin_thenS, seq_ite, fin_ite, RS.seq_next, RS.seq_ret, RS.fin_ret, RS.fin_next, Option.map_some, Option.bind_some, truthV_bool, truthV_int, truthV_none, setT_name, setT_tup, setTs_nil, setTs_cons, wipe_nil, wipe_cons, ix_l, ix_t, ix_f, at_l0, at_l1, at_l2, at_l3, add_i, sub_i, lt_i, le_i, gt_i, ge_i, eq_i, ne_i, is_n, isnot_n, isNone, len_t, len_l, len_f, tuple_t, tuple_l, tuple_f, list_t, list_l, list_f, int_i, abs_i, max_i, min_i, sum_l, sum_t, isi_int, isi_bool, isi_tup, isi_lst, isi_str, isi_none, slice_l, slice_t, slice_f, ixO_no, ixO_int, satT_thenS, satT_next, satT_ret, sat_thenS, sat_next, sat_ret, evP_nil, evP_name, evP_item, R.tot_bind, R.tot_ok, Nat.reduceAdd, Nat.reduceSub, Bool.not_true, Bool.not_false, if_true, Bool.false_eq_true, if_false, rd_ref h, dm, e0 _ _ _ _ _ h, e2 _ _ _ _ _ h]
  split
  · simp only [R.tot_ok]
    exact ⟨⟨_, rfl, Int.emod_nonneg _ (by omega), Int.emod_lt_of_pos _ hm⟩, _, _, _, rfl⟩
  · simp only [evSs_cons, evSs_nil, evE_var, evE_own, evE_con, evE_tup, evE_lst, evE_bin, evE_neg, evE_cmp, evE_cmp2, evE_not, evE_and, evE_or, evE_ite, evE_idx, evE_slice, evE_call, evE_bcall, evE_isi, evE_comp, evE_heap, evE_stop, evEs_nil, evEs_cons, evI_of, evI_rng1, evI_rng2, evI_zip, evI_enum, evS_stop, evS_exp, evS_ret, evS_retO, evS_retN, evS_pass, evS_brk, evS_cont, evS_asg, evS_asgOwn, evS_setR, evS_setO, evS_app, evS_appR, evS_extO, evS_popT, evS_popO, evS_aug, evS_par, evS_ite, evS_for_, evS_forO, evS_while_, startS, List.length_cons, List.length_nil, List.map_cons, List.map_nil, List.replicate, List.cons_append, List.nil_append, List.getD_cons_zero, List.getD_cons_succ, List.set_cons_zero, List.set_cons_succ, R.bind_ok, R.opt_some, R.calm_ok, R.thenS_ok, rd_int, rd_bool, rd_none, rd_str, rd_tup, rd_lst, rd_frz, seq_thenS, fin_thenS, seq_ite, fin_ite, RS.seq_next, RS.seq_ret, RS.fin_ret, RS.fin_next, Option.map_some, Option.bind_some, truthV_bool, truthV_int, truthV_none, setT_name, setT_tup, setTs_nil, setTs_cons, wipe_nil, wipe_cons, ix_l, ix_t, ix_f, at_l0, at_l1, at_l2, at_l3, add_i, sub_i, lt_i, le_i, gt_i, ge_i, eq_i, ne_i, is_n, isnot_n, isNone, len_t, len_l, len_f, tuple_t, tuple_l, tuple_f, list_t, list_l, list_f, int_i, abs_i, max_i, min_i, sum_l, sum_t, isi_int, isi_bool, isi_tup, isi_lst, isi_str, isi_none, slice_l, slice_t, slice_f, ixO_no, ixO_int, satT_thenS, satT_next, satT_ret, sat_thenS, sat_next, sat_ret, evP_nil, evP_name, evP_item, R.tot_bind, R.tot_ok, Nat.reduceAdd, Nat.reduceSub, Bool.not_true, Bool.not_false, if_true, Bool.false_eq_true, if_false, rd_ref (hs _), mul_l _ _ (show (decide (-p64 < 60013) && decide (60013 < p64)) = true by decide), mul_l _ _ (show (decide (-p64 < 31) && decide (31 < p64)) = true by decide), mod_i _ _ (show decide (0 < 2147483563) = true by decide), mod_i _ _ (show decide (0 < 5003) = true by decide), mul_m _ _ _ (show (decide (0 < 2147483563) && decide (2147483563 ≤ p64)) = true by decide), e1 _ _ _ _ _ (hs _), List.set_set, div_i _ _ (show (decide (0 < 641) && decide (641 < p64)) = true by decide), mod_i _ m (decide_eq_true hm), R.tot_ok]
    exact ⟨⟨_, rfl, Int.emod_nonneg _ (by omega), Int.emod_lt_of_pos _ hm⟩, _, _, _, rfl⟩
/-- what a drawing def leaves -/
def Dr (n : Nat) (G : Heap) (V : Val → Heap → Prop) : Val → Heap → Prop := fun v G' => Well G' n ∧ Keep n G G' ∧ V v G'
theorem draw_ok (k : Nat) {G : Heap} {n : Nat} {m : Int} (h : Well G n) (hm : 0 < m) (hm2 : m < p64) : (callN P (k+1) "_law_draw" [.ref n, .int m] G).tot (Dr n G fun v _ => ∃ i, v = .int i ∧ 0 ≤ i ∧ i < m) := by
  obtain ⟨a, b, c, e⟩ := h
  refine R.tot_mono (draw_eq k G n a b c m e hm hm2) fun v G' ⟨h1, a', b', c', e'⟩ => ?_
  subst e'
  exact ⟨⟨a', b', c', get_set (List.getElem?_eq_some_iff.mp e).1⟩, Keep.set _ _ _, h1⟩
theorem pick_ok (k : Nat) {G : Heap} {n : Nat} {xs : List Val} (h : Well G n) (hx : xs ≠ []) (hl : (xs.length : Int) < p64) : (callN P (k+2) "_law_pick" [.ref n, .tup xs] G).tot (Dr n G fun v _ => v ∈ xs) := by
  rw [call_eq pw_law_pick _ _ _ rfl]
  have h0 : 0 < xs.length := List.length_pos_iff.mpr hx
  simp only [Bw_law_pick, evSs_cons, evSs_nil, evE_var, evE_own, evE_con, evE_tup, evE_lst, evE_bin, evE_neg, evE_cmp, evE_cmp2, evE_not, evE_and, evE_or, evE_ite, evE_idx, evE_slice, evE_call, evE_bcall, evE_isi, evE_comp, evE_heap, evE_stop, evEs_nil, evEs_cons, evI_of, evI_rng1, evI_rng2, evI_zip, evI_enum, evS_stop, evS_exp, evS_ret, evS_retO, evS_retN, evS_pass, evS_brk, evS_cont, evS_asg, evS_asgOwn, evS_setR, evS_setO, evS_app, evS_appR, evS_extO, evS_popT, evS_popO, evS_aug, evS_par, evS_ite, evS_for_, evS_forO, evS_while_, startS, List.length_cons, List.length_nil, List.map_cons, List.map_nil, List.replicate, List.cons_append, List.nil_append, List.getD_cons_zero, List.getD_cons_succ, List.set_cons_zero, List.set_cons_succ, R.bind_ok, R.opt_some, R.calm_ok, R.thenS_ok, rd_int, rd_bool, rd_none, rd_str, rd_tup, rd_lst, rd_frz, seq_thenS, fin_thenS, seq_ite, fin_ite, RS.seq_next, RS.seq_ret, RS.fin_ret, RS.fin_next, Option.map_some, Option.bind_some, truthV_bool, truthV_int, truthV_none, setT_name, setT_tup, setTs_nil, setTs_cons, wipe_nil, wipe_cons, ix_l, ix_t, ix_f, at_l0, at_l1, at_l2, at_l3, add_i, sub_i, lt_i, le_i, gt_i, ge_i, eq_i, ne_i, is_n, isnot_n, isNone, len_t, len_l, len_f, tuple_t, tuple_l, tuple_f, list_t, list_l, list_f, int_i, abs_i, max_i, min_i, sum_l, sum_t, isi_int, isi_bool, isi_tup, isi_lst, isi_str, isi_none, slice_l, slice_t, slice_f, ixO_no, ixO_int, satT_thenS, satT_next, satT_ret, sat_thenS, sat_next, sat_ret, evP_nil, evP_name, evP_item, R.tot_bind, R.tot_ok, Nat.reduceAdd, Nat.reduceSub, Bool.not_true, Bool.not_false, if_true, Bool.false_eq_true, if_false]
  refine R.tot_mono (draw_ok k h (by omega) hl) fun v G' ⟨h1, h2, i, e, i0, i1⟩ => ?_
  subst e
  have hi : i.toNat < xs.length := by omega
  try simp only [evSs_cons, evSs_nil, evE_var, evE_own, evE_con, evE_tup, evE_lst, evE_bin, evE_neg, evE_cmp, evE_cmp2, evE_not, evE_and, evE_or, evE_ite, evE_idx, evE_slice, evE_call, evE_bcall, evE_isi, evE_comp, evE_heap, evE_stop, evEs_nil, evEs_cons, evI_of, evI_rng1, evI_rng2, evI_zip, evI_enum, evS_stop, evS_exp, evS_ret, evS_retO, evS_retN, evS_pass, evS_brk, evS_cont, evS_asg, evS_asgOwn, evS_setR, evS_setO, evS_app, evS_appR, evS_extO, evS_popT, evS_popO, evS_aug, evS_par, evS_ite, evS_for_, evS_forO, evS_while_, startS, List.length_cons, List.length_nil, List.map_cons, List.map_nil, List.replicate, List.cons_append, List.nil_append, List.getD_cons_zero, List.getD_cons_succ, List.set_cons_zero, List.set_cons_succ, R.bind_ok, R.opt_some, R.calm_ok, R.thenS_ok, rd_int, rd_bool, rd_none, rd_str, rd_tup, rd_lst, rd_frz, seq_thenS, fin_thenS, seq_ite, fin_ite, RS.seq_next, RS.seq_ret, RS.fin_ret, RS.fin_next, Option.map_some, Option.bind_some, truthV_bool, truthV_int, truthV_none, setT_name, setT_tup, setTs_nil, setTs_cons, wipe_nil, wipe_cons, ix_l, ix_t, ix_f, at_l0, at_l1, at_l2, at_l3, add_i, sub_i, lt_i, le_i, gt_i, ge_i, eq_i, ne_i, is_n, isnot_n, isNone, len_t, len_l, len_f, tuple_t, tuple_l, tuple_f, list_t, list_l, list_f, int_i, abs_i, max_i, min_i, sum_l, sum_t, isi_int, isi_bool, isi_tup, isi_lst, isi_str, isi_none, slice_l, slice_t, slice_f, ixO_no, ixO_int, satT_thenS, satT_next, satT_ret, sat_thenS, sat_next, sat_ret, evP_nil, evP_name, evP_item, R.tot_bind, R.tot_ok, Nat.reduceAdd, Nat.reduceSub, Bool.not_true, Bool.not_false, if_true, Bool.false_eq_true, if_false]
  rw [atI_int i0 i1, List.getElem?_eq_getElem hi]
  try simp only [evSs_cons, evSs_nil, evE_var, evE_own, evE_con, evE_tup, evE_lst, evE_bin, evE_neg, evE_cmp, evE_cmp2, evE_not, evE_and, evE_or, evE_ite, evE_idx, evE_slice, evE_call, evE_bcall, evE_isi, evE_comp, evE_heap, evE_stop, evEs_nil, evEs_cons, evI_of, evI_rng1, evI_rng2, evI_zip, evI_enum, evS_stop, evS_exp, evS_ret, evS_retO, evS_retN, evS_pass, evS_brk, evS_cont, evS_asg, evS_asgOwn, evS_setR, evS_setO, evS_app, evS_appR, evS_extO, evS_popT, evS_popO, evS_aug, evS_par, evS_ite, evS_for_, evS_forO, evS_while_, startS, List.length_cons, List.length_nil, List.map_cons, List.map_nil, List.replicate, List.cons_append, List.nil_append, List.getD_cons_zero, List.getD_cons_succ, List.set_cons_zero, List.set_cons_succ, R.bind_ok, R.opt_some, R.calm_ok, R.thenS_ok, rd_int, rd_bool, rd_none, rd_str, rd_tup, rd_lst, rd_frz, seq_thenS, fin_thenS, seq_ite, fin_ite, RS.seq_next, RS.seq_ret, RS.fin_ret, RS.fin_next, Option.map_some, Option.bind_some, truthV_bool, truthV_int, truthV_none, setT_name, setT_tup, setTs_nil, setTs_cons, wipe_nil, wipe_cons, ix_l, ix_t, ix_f, at_l0, at_l1, at_l2, at_l3, add_i, sub_i, lt_i, le_i, gt_i, ge_i, eq_i, ne_i, is_n, isnot_n, isNone, len_t, len_l, len_f, tuple_t, tuple_l, tuple_f, list_t, list_l, list_f, int_i, abs_i, max_i, min_i, sum_l, sum_t, isi_int, isi_bool, isi_tup, isi_lst, isi_str, isi_none, slice_l, slice_t, slice_f, ixO_no, ixO_int, satT_thenS, satT_next, satT_ret, sat_thenS, sat_next, sat_ret, evP_nil, evP_name, evP_item, R.tot_bind, R.tot_ok, Nat.reduceAdd, Nat.reduceSub, Bool.not_true, Bool.not_false, if_true, Bool.false_eq_true, if_false]
  exact ⟨h1, h2, List.getElem_mem hi⟩
theorem number_ok (k : Nat) {G : Heap} {n : Nat} (h : Well G n) : (callN P (k+2) "_law_number" [.ref n] G).tot (Dr n G fun v _ => ∃ i, v = .int i) := by
  rw [call_eq pw_law_number _ _ _ rfl]
  simp only [Bw_law_number, evSs_cons, evSs_nil, evE_var, evE_own, evE_con, evE_tup, evE_lst, evE_bin, evE_neg, evE_cmp, evE_cmp2, evE_not, evE_and, evE_or, evE_ite, evE_idx, evE_slice, evE_call, evE_bcall, evE_isi, evE_comp, evE_heap, evE_stop, evEs_nil, evEs_cons, evI_of, evI_rng1, evI_rng2, evI_zip, evI_enum, evS_stop, evS_exp, evS_ret, evS_retO, evS_retN, evS_pass, evS_brk, evS_cont, evS_asg, evS_asgOwn, evS_setR, evS_setO, evS_app, evS_appR, evS_extO, evS_popT, evS_popO, evS_aug, evS_par, evS_ite, evS_for_, evS_forO, evS_while_, startS, List.length_cons, List.length_nil, List.map_cons, List.map_nil, List.replicate, List.cons_append, List.nil_append, List.getD_cons_zero, List.getD_cons_succ, List.set_cons_zero, List.set_cons_succ, R.bind_ok, R.opt_some, R.calm_ok, R.thenS_ok, rd_int, rd_bool, rd_none, rd_str, rd_tup, rd_lst, rd_frz, seq_thenS, fin_thenS, seq_ite, fin_ite, RS.seq_next, RS.seq_ret, RS.fin_ret, RS.fin_next, Option.map_some, Option.bind_some, truthV_bool, truthV_int, truthV_none, setT_name, setT_tup, setTs_nil, setTs_cons, wipe_nil, wipe_cons, ix_l, ix_t, ix_f, at_l0, at_l1, at_l2, at_l3, add_i, sub_i, lt_i, le_i, gt_i, ge_i, eq_i, ne_i, is_n, isnot_n, isNone, len_t, len_l, len_f, tuple_t, tuple_l, tuple_f, list_t, list_l, list_f, int_i, abs_i, max_i, min_i, sum_l, sum_t, isi_int, isi_bool, isi_tup, isi_lst, isi_str, isi_none, slice_l, slice_t, slice_f, ixO_no, ixO_int, satT_thenS, satT_next, satT_ret, sat_thenS, sat_next, sat_ret, evP_nil, evP_name, evP_item, R.tot_bind, R.tot_ok, Nat.reduceAdd, Nat.reduceSub, Bool.not_true, Bool.not_false, if_true, Bool.false_eq_true, if_false, pow_i _ _ (show (decide ((0:Int) ≤ 12) && decide ((12:Int) ≤ 1000000) && decide (-p64 < 10) && decide (10 < p64)) = true by decide)]
  refine R.tot_mono (draw_ok k h (by omega) (by decide)) fun v G' ⟨h1, h2, i, e, _, _⟩ => ?_
  subst e
  try simp only [evSs_cons, evSs_nil, evE_var, evE_own, evE_con, evE_tup, evE_lst, evE_bin, evE_neg, evE_cmp, evE_cmp2, evE_not, evE_and, evE_or, evE_ite, evE_idx, evE_slice, evE_call, evE_bcall, evE_isi, evE_comp, evE_heap, evE_stop, evEs_nil, evEs_cons, evI_of, evI_rng1, evI_rng2, evI_zip, evI_enum, evS_stop, evS_exp, evS_ret, evS_retO, evS_retN, evS_pass, evS_brk, evS_cont, evS_asg, evS_asgOwn, evS_setR, evS_setO, evS_app, evS_appR, evS_extO, evS_popT, evS_popO, evS_aug, evS_par, evS_ite, evS_for_, evS_forO, evS_while_, startS, List.length_cons, List.length_nil, List.map_cons, List.map_nil, List.replicate, List.cons_append, List.nil_append, List.getD_cons_zero, List.getD_cons_succ, List.set_cons_zero, List.set_cons_succ, R.bind_ok, R.opt_some, R.calm_ok, R.thenS_ok, rd_int, rd_bool, rd_none, rd_str, rd_tup, rd_lst, rd_frz, seq_thenS, fin_thenS, seq_ite, fin_ite, RS.seq_next, RS.seq_ret, RS.fin_ret, RS.fin_next, Option.map_some, Option.bind_some, truthV_bool, truthV_int, truthV_none, setT_name, setT_tup, setTs_nil, setTs_cons, wipe_nil, wipe_cons, ix_l, ix_t, ix_f, at_l0, at_l1, at_l2, at_l3, add_i, sub_i, lt_i, le_i, gt_i, ge_i, eq_i, ne_i, is_n, isnot_n, isNone, len_t, len_l, len_f, tuple_t, tuple_l, tuple_f, list_t, list_l, list_f, int_i, abs_i, max_i, min_i, sum_l, sum_t, isi_int, isi_bool, isi_tup, isi_lst, isi_str, isi_none, slice_l, slice_t, slice_f, ixO_no, ixO_int, satT_thenS, satT_next, satT_ret, sat_thenS, sat_next, sat_ret, evP_nil, evP_name, evP_item, R.tot_bind, R.tot_ok, Nat.reduceAdd, Nat.reduceSub, Bool.not_true, Bool.not_false, if_true, Bool.false_eq_true, if_false]
  split
  · simp only [evSs_cons, evSs_nil, evE_var, evE_own, evE_con, evE_tup, evE_lst, evE_bin, evE_neg, evE_cmp, evE_cmp2, evE_not, evE_and, evE_or, evE_ite, evE_idx, evE_slice, evE_call, evE_bcall, evE_isi, evE_comp, evE_heap, evE_stop, evEs_nil, evEs_cons, evI_of, evI_rng1, evI_rng2, evI_zip, evI_enum, evS_stop, evS_exp, evS_ret, evS_retO, evS_retN, evS_pass, evS_brk, evS_cont, evS_asg, evS_asgOwn, evS_setR, evS_setO, evS_app, evS_appR, evS_extO, evS_popT, evS_popO, evS_aug, evS_par, evS_ite, evS_for_, evS_forO, evS_while_, startS, List.length_cons, List.length_nil, List.map_cons, List.map_nil, List.replicate, List.cons_append, List.nil_append, List.getD_cons_zero, List.getD_cons_succ, List.set_cons_zero, List.set_cons_succ, R.bind_ok, R.opt_some, R.calm_ok, R.thenS_ok, rd_int, rd_bool, rd_none, rd_str, rd_tup, rd_lst, rd_frz, seq_thenS, fin_thenS, seq_ite, fin_ite, RS.seq_next, RS.seq_ret, RS.fin_ret, RS.fin_next, Option.map_some, Option.bind_some, truthV_bool, truthV_int, truthV_none, setT_name, setT_tup, setTs_nil, setTs_cons, wipe_nil, wipe_cons, ix_l, ix_t, ix_f, at_l0, at_l1, at_l2, at_l3, add_i, sub_i, lt_i, le_i, gt_i, ge_i, eq_i, ne_i, is_n, isnot_n, isNone, len_t, len_l, len_f, tuple_t, tuple_l, tuple_f, list_t, list_l, list_f, int_i, abs_i, max_i, min_i, sum_l, sum_t, isi_int, isi_bool, isi_tup, isi_lst, isi_str, isi_none, slice_l, slice_t, slice_f, ixO_no, ixO_int, satT_thenS, satT_next, satT_ret, sat_thenS, sat_next, sat_ret, evP_nil, evP_name, evP_item, R.tot_bind, R.tot_ok, Nat.reduceAdd, Nat.reduceSub, Bool.not_true, Bool.not_false, if_true, Bool.false_eq_true, if_false]
    refine R.tot_mono (draw_ok k h1 (by omega) (by decide)) fun v G'' ⟨h3, h4, j, e, _, _⟩ => ?_
    subst e
    try simp only [evSs_cons, evSs_nil, evE_var, evE_own, evE_con, evE_tup, evE_lst, evE_bin, evE_neg, evE_cmp, evE_cmp2, evE_not, evE_and, evE_or, evE_ite, evE_idx, evE_slice, evE_call, evE_bcall, evE_isi, evE_comp, evE_heap, evE_stop, evEs_nil, evEs_cons, evI_of, evI_rng1, evI_rng2, evI_zip, evI_enum, evS_stop, evS_exp, evS_ret, evS_retO, evS_retN, evS_pass, evS_brk, evS_cont, evS_asg, evS_asgOwn, evS_setR, evS_setO, evS_app, evS_appR, evS_extO, evS_popT, evS_popO, evS_aug, evS_par, evS_ite, evS_for_, evS_forO, evS_while_, startS, List.length_cons, List.length_nil, List.map_cons, List.map_nil, List.replicate, List.cons_append, List.nil_append, List.getD_cons_zero, List.getD_cons_succ, List.set_cons_zero, List.set_cons_succ, R.bind_ok, R.opt_some, R.calm_ok, R.thenS_ok, rd_int, rd_bool, rd_none, rd_str, rd_tup, rd_lst, rd_frz, seq_thenS, fin_thenS, seq_ite, fin_ite, RS.seq_next, RS.seq_ret, RS.fin_ret, RS.fin_next, Option.map_some, Option.bind_some, truthV_bool, truthV_int, truthV_none, setT_name, setT_tup, setTs_nil, setTs_cons, wipe_nil, wipe_cons, ix_l, ix_t, ix_f, at_l0, at_l1, at_l2, at_l3, add_i, sub_i, lt_i, le_i, gt_i, ge_i, eq_i, ne_i, is_n, isnot_n, isNone, len_t, len_l, len_f, tuple_t, tuple_l, tuple_f, list_t, list_l, list_f, int_i, abs_i, max_i, min_i, sum_l, sum_t, isi_int, isi_bool, isi_tup, isi_lst, isi_str, isi_none, slice_l, slice_t, slice_f, ixO_no, ixO_int, satT_thenS, satT_next, satT_ret, sat_thenS, sat_next, sat_ret, evP_nil, evP_name, evP_item, R.tot_bind, R.tot_ok, Nat.reduceAdd, Nat.reduceSub, Bool.not_true, Bool.not_false, if_true, Bool.false_eq_true, if_false]
    exact ⟨h3, h2.trans h4, _, rfl⟩
  · simp only [evSs_cons, evSs_nil, evE_var, evE_own, evE_con, evE_tup, evE_lst, evE_bin, evE_neg, evE_cmp, evE_cmp2, evE_not, evE_and, evE_or, evE_ite, evE_idx, evE_slice, evE_call, evE_bcall, evE_isi, evE_comp, evE_heap, evE_stop, evEs_nil, evEs_cons, evI_of, evI_rng1, evI_rng2, evI_zip, evI_enum, evS_stop, evS_exp, evS_ret, evS_retO, evS_retN, evS_pass, evS_brk, evS_cont, evS_asg, evS_asgOwn, evS_setR, evS_setO, evS_app, evS_appR, evS_extO, evS_popT, evS_popO, evS_aug, evS_par, evS_ite, evS_for_, evS_forO, evS_while_, startS, List.length_cons, List.length_nil, List.map_cons, List.map_nil, List.replicate, List.cons_append, List.nil_append, List.getD_cons_zero, List.getD_cons_succ, List.set_cons_zero, List.set_cons_succ, R.bind_ok, R.opt_some, R.calm_ok, R.thenS_ok, rd_int, rd_bool, rd_none, rd_str, rd_tup, rd_lst, rd_frz, seq_thenS, fin_thenS, seq_ite, fin_ite, RS.seq_next, RS.seq_ret, RS.fin_ret, RS.fin_next, Option.map_some, Option.bind_some, truthV_bool, truthV_int, truthV_none, setT_name, setT_tup, setTs_nil, setTs_cons, wipe_nil, wipe_cons, ix_l, ix_t, ix_f, at_l0, at_l1, at_l2, at_l3, add_i, sub_i, lt_i, le_i, gt_i, ge_i, eq_i, ne_i, is_n, isnot_n, isNone, len_t, len_l, len_f, tuple_t, tuple_l, tuple_f, list_t, list_l, list_f, int_i, abs_i, max_i, min_i, sum_l, sum_t, isi_int, isi_bool, isi_tup, isi_lst, isi_str, isi_none, slice_l, slice_t, slice_f, ixO_no, ixO_int, satT_thenS, satT_next, satT_ret, sat_thenS, sat_next, sat_ret, evP_nil, evP_name, evP_item, R.tot_bind, R.tot_ok, Nat.reduceAdd, Nat.reduceSub, Bool.not_true, Bool.not_false, if_true, Bool.false_eq_true, if_false]
    refine R.tot_mono (draw_ok k h1 (by decide) (by decide)) fun v G'' ⟨h3, h4, j, e, _, _⟩ => ?_
    subst e
    try simp only [evSs_cons, evSs_nil, evE_var, evE_own, evE_con, evE_tup, evE_lst, evE_bin, evE_neg, evE_cmp, evE_cmp2, evE_not, evE_and, evE_or, evE_ite, evE_idx, evE_slice, evE_call, evE_bcall, evE_isi, evE_comp, evE_heap, evE_stop, evEs_nil, evEs_cons, evI_of, evI_rng1, evI_rng2, evI_zip, evI_enum, evS_stop, evS_exp, evS_ret, evS_retO, evS_retN, evS_pass, evS_brk, evS_cont, evS_asg, evS_asgOwn, evS_setR, evS_setO, evS_app, evS_appR, evS_extO, evS_popT, evS_popO, evS_aug, evS_par, evS_ite, evS_for_, evS_forO, evS_while_, startS, List.length_cons, List.length_nil, List.map_cons, List.map_nil, List.replicate, List.cons_append, List.nil_append, List.getD_cons_zero, List.getD_cons_succ, List.set_cons_zero, List.set_cons_succ, R.bind_ok, R.opt_some, R.calm_ok, R.thenS_ok, rd_int, rd_bool, rd_none, rd_str, rd_tup, rd_lst, rd_frz, seq_thenS, fin_thenS, seq_ite, fin_ite, RS.seq_next, RS.seq_ret, RS.fin_ret, RS.fin_next, Option.map_some, Option.bind_some, truthV_bool, truthV_int, truthV_none, setT_name, setT_tup, setTs_nil, setTs_cons, wipe_nil, wipe_cons, ix_l, ix_t, ix_f, at_l0, at_l1, at_l2, at_l3, add_i, sub_i, lt_i, le_i, gt_i, ge_i, eq_i, ne_i, is_n, isnot_n, isNone, len_t, len_l, len_f, tuple_t, tuple_l, tuple_f, list_t, list_l, list_f, int_i, abs_i, max_i, min_i, sum_l, sum_t, isi_int, isi_bool, isi_tup, isi_lst, isi_str, isi_none, slice_l, slice_t, slice_f, ixO_no, ixO_int, satT_thenS, satT_next, satT_ret, sat_thenS, sat_next, sat_ret, evP_nil, evP_name, evP_item, R.tot_bind, R.tot_ok, Nat.reduceAdd, Nat.reduceSub, Bool.not_true, Bool.not_false, if_true, Bool.false_eq_true, if_false]
    exact ⟨h3, h2.trans h4, _, rfl⟩
/-- filled: a new list of ints, as long as a slot is -/
theorem filled_ok (k : Nat) {G : Heap} {n : Nat} {w : Int} (h : Well G n) (w0 : 26 ≤ w) (w1 : w ≤ 32) : (callN P (k+3) "_law_filled" [.ref n, .int w] G).tot (Dr n G fun v G' => ∃ m cs, v = .ref m ∧ G.length ≤ m ∧ G'[m]? = some (.lst (vInts cs)) ∧ (cs.length : Int) = w + 4) := by
  rw [call_eq pw_law_filled _ _ _ rfl]
  simp only [Bw_law_filled, evSs_cons, evSs_nil, evE_var, evE_own, evE_con, evE_tup, evE_lst, evE_bin, evE_neg, evE_cmp, evE_cmp2, evE_not, evE_and, evE_or, evE_ite, evE_idx, evE_slice, evE_call, evE_bcall, evE_isi, evE_comp, evE_heap, evE_stop, evEs_nil, evEs_cons, evI_of, evI_rng1, evI_rng2, evI_zip, evI_enum, evS_stop, evS_exp, evS_ret, evS_retO, evS_retN, evS_pass, evS_brk, evS_cont, evS_asg, evS_asgOwn, evS_setR, evS_setO, evS_app, evS_appR, evS_extO, evS_popT, evS_popO, evS_aug, evS_par, evS_ite, evS_for_, evS_forO, evS_while_, startS, List.length_cons, List.length_nil, List.map_cons, List.map_nil, List.replicate, List.cons_append, List.nil_append, List.getD_cons_zero, List.getD_cons_succ, List.set_cons_zero, List.set_cons_succ, R.bind_ok, R.opt_some, R.calm_ok, R.thenS_ok, rd_int, rd_bool, rd_none, rd_str, rd_tup, rd_lst, rd_frz, seq_thenS, fin_thenS, seq_ite, fin_ite, RS.seq_next, RS.seq_ret, RS.fin_ret, RS.fin_next, Option.map_some, Option.bind_some, truthV_bool, truthV_int, truthV_none, setT_name, setT_tup, setTs_nil, setTs_cons, wipe_nil, wipe_cons, ix_l, ix_t, ix_f, at_l0, at_l1, at_l2, at_l3, add_i, sub_i, lt_i, le_i, gt_i, ge_i, eq_i, ne_i, is_n, isnot_n, isNone, len_t, len_l, len_f, tuple_t, tuple_l, tuple_f, list_t, list_l, list_f, int_i, abs_i, max_i, min_i, sum_l, sum_t, isi_int, isi_bool, isi_tup, isi_lst, isi_str, isi_none, slice_l, slice_t, slice_f, ixO_no, ixO_int, satT_thenS, satT_next, satT_ret, sat_thenS, sat_next, sat_ret, evP_nil, evP_name, evP_item, R.tot_bind, R.tot_ok, Nat.reduceAdd, Nat.reduceSub, Bool.not_true, Bool.not_false, if_true, Bool.false_eq_true, if_false]
  refine R.tot_mono (draw_ok _ h (by omega) (by decide)) fun v G1 ⟨h1, k1, i, e, i0, i1⟩ => ?_
  subst e
  try simp only [evSs_cons, evSs_nil, evE_var, evE_own, evE_con, evE_tup, evE_lst, evE_bin, evE_neg, evE_cmp, evE_cmp2, evE_not, evE_and, evE_or, evE_ite, evE_idx, evE_slice, evE_call, evE_bcall, evE_isi, evE_comp, evE_heap, evE_stop, evEs_nil, evEs_cons, evI_of, evI_rng1, evI_rng2, evI_zip, evI_enum, evS_stop, evS_exp, evS_ret, evS_retO, evS_retN, evS_pass, evS_brk, evS_cont, evS_asg, evS_asgOwn, evS_setR, evS_setO, evS_app, evS_appR, evS_extO, evS_popT, evS_popO, evS_aug, evS_par, evS_ite, evS_for_, evS_forO, evS_while_, startS, List.length_cons, List.length_nil, List.map_cons, List.map_nil, List.replicate, List.cons_append, List.nil_append, List.getD_cons_zero, List.getD_cons_succ, List.set_cons_zero, List.set_cons_succ, R.bind_ok, R.opt_some, R.calm_ok, R.thenS_ok, rd_int, rd_bool, rd_none, rd_str, rd_tup, rd_lst, rd_frz, seq_thenS, fin_thenS, seq_ite, fin_ite, RS.seq_next, RS.seq_ret, RS.fin_ret, RS.fin_next, Option.map_some, Option.bind_some, truthV_bool, truthV_int, truthV_none, setT_name, setT_tup, setTs_nil, setTs_cons, wipe_nil, wipe_cons, ix_l, ix_t, ix_f, at_l0, at_l1, at_l2, at_l3, add_i, sub_i, lt_i, le_i, gt_i, ge_i, eq_i, ne_i, is_n, isnot_n, isNone, len_t, len_l, len_f, tuple_t, tuple_l, tuple_f, list_t, list_l, list_f, int_i, abs_i, max_i, min_i, sum_l, sum_t, isi_int, isi_bool, isi_tup, isi_lst, isi_str, isi_none, slice_l, slice_t, slice_f, ixO_no, ixO_int, satT_thenS, satT_next, satT_ret, sat_thenS, sat_next, sat_ret, evP_nil, evP_name, evP_item, R.tot_bind, R.tot_ok, Nat.reduceAdd, Nat.reduceSub, Bool.not_true, Bool.not_false, if_true, Bool.false_eq_true, if_false]
  rw [rngK_ok (by decide) (by decide) (by unfold p62; omega) (by unfold p62; omega)]
  try simp only [evSs_cons, evSs_nil, evE_var, evE_own, evE_con, evE_tup, evE_lst, evE_bin, evE_neg, evE_cmp, evE_cmp2, evE_not, evE_and, evE_or, evE_ite, evE_idx, evE_slice, evE_call, evE_bcall, evE_isi, evE_comp, evE_heap, evE_stop, evEs_nil, evEs_cons, evI_of, evI_rng1, evI_rng2, evI_zip, evI_enum, evS_stop, evS_exp, evS_ret, evS_retO, evS_retN, evS_pass, evS_brk, evS_cont, evS_asg, evS_asgOwn, evS_setR, evS_setO, evS_app, evS_appR, evS_extO, evS_popT, evS_popO, evS_aug, evS_par, evS_ite, evS_for_, evS_forO, evS_while_, startS, List.length_cons, List.length_nil, List.map_cons, List.map_nil, List.replicate, List.cons_append, List.nil_append, List.getD_cons_zero, List.getD_cons_succ, List.set_cons_zero, List.set_cons_succ, R.bind_ok, R.opt_some, R.calm_ok, R.thenS_ok, rd_int, rd_bool, rd_none, rd_str, rd_tup, rd_lst, rd_frz, seq_thenS, fin_thenS, seq_ite, fin_ite, RS.seq_next, RS.seq_ret, RS.fin_ret, RS.fin_next, Option.map_some, Option.bind_some, truthV_bool, truthV_int, truthV_none, setT_name, setT_tup, setTs_nil, setTs_cons, wipe_nil, wipe_cons, ix_l, ix_t, ix_f, at_l0, at_l1, at_l2, at_l3, add_i, sub_i, lt_i, le_i, gt_i, ge_i, eq_i, ne_i, is_n, isnot_n, isNone, len_t, len_l, len_f, tuple_t, tuple_l, tuple_f, list_t, list_l, list_f, int_i, abs_i, max_i, min_i, sum_l, sum_t, isi_int, isi_bool, isi_tup, isi_lst, isi_str, isi_none, slice_l, slice_t, slice_f, ixO_no, ixO_int, satT_thenS, satT_next, satT_ret, sat_thenS, sat_next, sat_ret, evP_nil, evP_name, evP_item, R.tot_bind, R.tot_ok, Nat.reduceAdd, Nat.reduceSub, Bool.not_true, Bool.not_false, if_true, Bool.false_eq_true, if_false]
  have hlen : (rangeV 0 (1 + i - 0).toNat).length = (1 + i).toNat := by rw [rangeV_len]; omega
  refine seq_sat (N := fun s G' => ∃ (zs : List Int) (sl : Slot), zs.length = (1 + i).toNat ∧ s = [.val (.ref n), .val (.int w), .own (vInts zs), sl, .no, .no, .no] ∧ Well G' n ∧ Keep n G G') (forR_sat (fun j s G' => ∃ (zs : List Int) (sl : Slot), zs.length = j ∧ s = [.val (.ref n), .val (.int w), .own (vInts zs), sl, .no, .no, .no] ∧ Well G' n ∧ Keep n G G') ?_ ?_ ⟨[], .no, rfl, rfl, h1, k1⟩) ?_
  · rintro j x s G2 hx ⟨zs, sl, hz, rfl, h2, k2⟩
    have hj : j < (1 + i).toNat := by rw [← hlen]; exact (List.getElem?_eq_some_iff.mp hx).1
    refine ⟨_, rfl, ?_⟩
    try simp only [evSs_cons, evSs_nil, evE_var, evE_own, evE_con, evE_tup, evE_lst, evE_bin, evE_neg, evE_cmp, evE_cmp2, evE_not, evE_and, evE_or, evE_ite, evE_idx, evE_slice, evE_call, evE_bcall, evE_isi, evE_comp, evE_heap, evE_stop, evEs_nil, evEs_cons, evI_of, evI_rng1, evI_rng2, evI_zip, evI_enum, evS_stop, evS_exp, evS_ret, evS_retO, evS_retN, evS_pass, evS_brk, evS_cont, evS_asg, evS_asgOwn, evS_setR, evS_setO, evS_app, evS_appR, evS_extO, evS_popT, evS_popO, evS_aug, evS_par, evS_ite, evS_for_, evS_forO, evS_while_, startS, List.length_cons, List.length_nil, List.map_cons, List.map_nil, List.replicate, List.cons_append, List.nil_append, List.getD_cons_zero, List.getD_cons_succ, List.set_cons_zero, List.set_cons_succ, R.bind_ok, R.opt_some, R.calm_ok, R.thenS_ok, rd_int, rd_bool, rd_none, rd_str, rd_tup, rd_lst, rd_frz, seq_thenS, fin_thenS, seq_ite, fin_ite, RS.seq_next, RS.seq_ret, RS.fin_ret, RS.fin_next, Option.map_some, Option.bind_some, truthV_bool, truthV_int, truthV_none, setT_name, setT_tup, setTs_nil, setTs_cons, wipe_nil, wipe_cons, ix_l, ix_t, ix_f, at_l0, at_l1, at_l2, at_l3, add_i, sub_i, lt_i, le_i, gt_i, ge_i, eq_i, ne_i, is_n, isnot_n, isNone, len_t, len_l, len_f, tuple_t, tuple_l, tuple_f, list_t, list_l, list_f, int_i, abs_i, max_i, min_i, sum_l, sum_t, isi_int, isi_bool, isi_tup, isi_lst, isi_str, isi_none, slice_l, slice_t, slice_f, ixO_no, ixO_int, satT_thenS, satT_next, satT_ret, sat_thenS, sat_next, sat_ret, evP_nil, evP_name, evP_item, R.tot_bind, R.tot_ok, Nat.reduceAdd, Nat.reduceSub, Bool.not_true, Bool.not_false, if_true, Bool.false_eq_true, if_false]
    refine R.tot_mono (number_ok k h2) fun v G3 ⟨h3, k3, q, e⟩ => ?_
    subst e
    rw [if_pos (by unfold lineN; rw [List.length_map]; omega)]
    refine ⟨zs ++ [q], .val x, by rw [List.length_append, hz]; rfl, ?_, h3, k2.trans k3⟩
    rw [← vInts_app]; rfl
  · rintro s G2 ⟨zs, sl, hz, q⟩
    exact ⟨zs, sl, by rw [hz, hlen], q⟩
  rintro s G2 ⟨zs, sl, hz, rfl, h2, k2⟩
  try simp only [evSs_cons, evSs_nil, evE_var, evE_own, evE_con, evE_tup, evE_lst, evE_bin, evE_neg, evE_cmp, evE_cmp2, evE_not, evE_and, evE_or, evE_ite, evE_idx, evE_slice, evE_call, evE_bcall, evE_isi, evE_comp, evE_heap, evE_stop, evEs_nil, evEs_cons, evI_of, evI_rng1, evI_rng2, evI_zip, evI_enum, evS_stop, evS_exp, evS_ret, evS_retO, evS_retN, evS_pass, evS_brk, evS_cont, evS_asg, evS_asgOwn, evS_setR, evS_setO, evS_app, evS_appR, evS_extO, evS_popT, evS_popO, evS_aug, evS_par, evS_ite, evS_for_, evS_forO, evS_while_, startS, List.length_cons, List.length_nil, List.map_cons, List.map_nil, List.replicate, List.cons_append, List.nil_append, List.getD_cons_zero, List.getD_cons_succ, List.set_cons_zero, List.set_cons_succ, R.bind_ok, R.opt_some, R.calm_ok, R.thenS_ok, rd_int, rd_bool, rd_none, rd_str, rd_tup, rd_lst, rd_frz, seq_thenS, fin_thenS, seq_ite, fin_ite, RS.seq_next, RS.seq_ret, RS.fin_ret, RS.fin_next, Option.map_some, Option.bind_some, truthV_bool, truthV_int, truthV_none, setT_name, setT_tup, setTs_nil, setTs_cons, wipe_nil, wipe_cons, ix_l, ix_t, ix_f, at_l0, at_l1, at_l2, at_l3, add_i, sub_i, lt_i, le_i, gt_i, ge_i, eq_i, ne_i, is_n, isnot_n, isNone, len_t, len_l, len_f, tuple_t, tuple_l, tuple_f, list_t, list_l, list_f, int_i, abs_i, max_i, min_i, sum_l, sum_t, isi_int, isi_bool, isi_tup, isi_lst, isi_str, isi_none, slice_l, slice_t, slice_f, ixO_no, ixO_int, satT_thenS, satT_next, satT_ret, sat_thenS, sat_next, sat_ret, evP_nil, evP_name, evP_item, R.tot_bind, R.tot_ok, Nat.reduceAdd, Nat.reduceSub, Bool.not_true, Bool.not_false, if_true, Bool.false_eq_true, if_false]
  refine R.tot_mono (draw_ok _ h2 (by omega) (by unfold p64; omega)) fun v G3 ⟨h3, k3, d, e, d0, d1⟩ => ?_
  subst e
  refine R.tot_mono (pick_ok _ h3 (by simp) (by unfold p64; simp)) fun v G4 ⟨h4, k4, hv⟩ => ?_
  have hc : ∃ c : Int, v = .int c ∧ 0 ≤ c ∧ c ≤ w := by
    simp only [List.mem_cons, List.not_mem_nil, or_false] at hv
    rcases hv with e | e | e | e | e | e <;> exact ⟨_, e, by omega, by omega⟩
  obtain ⟨c, e, c0, c1⟩ := hc
  subst e
  have hzl : zs.length ≤ 7 := by rw [hz]; omega
  have hzl0 : 0 < zs.length := by rw [hz]; omega
  have hrep := rep_l (vInts zs) w (by
    have h1 : zs.length * w.toNat ≤ 7 * 32 := Nat.mul_le_mul hzl (by omega)
    simp only [Bool.and_eq_true, decide_eq_true_eq, List.length_map]
    refine ⟨⟨by omega, by omega⟩, ?_⟩
    unfold lineN
    omega)
  simp only [evSs_cons, evSs_nil, evE_var, evE_own, evE_con, evE_tup, evE_lst, evE_bin, evE_neg, evE_cmp, evE_cmp2, evE_not, evE_and, evE_or, evE_ite, evE_idx, evE_slice, evE_call, evE_bcall, evE_isi, evE_comp, evE_heap, evE_stop, evEs_nil, evEs_cons, evI_of, evI_rng1, evI_rng2, evI_zip, evI_enum, evS_stop, evS_exp, evS_ret, evS_retO, evS_retN, evS_pass, evS_brk, evS_cont, evS_asg, evS_asgOwn, evS_setR, evS_setO, evS_app, evS_appR, evS_extO, evS_popT, evS_popO, evS_aug, evS_par, evS_ite, evS_for_, evS_forO, evS_while_, startS, List.length_cons, List.length_nil, List.map_cons, List.map_nil, List.replicate, List.cons_append, List.nil_append, List.getD_cons_zero, List.getD_cons_succ, List.set_cons_zero, List.set_cons_succ, R.bind_ok, R.opt_some, R.calm_ok, R.thenS_ok, rd_int, rd_bool, rd_none, rd_str, rd_tup, rd_lst, rd_frz, seq_thenS, fin_thenS, seq_ite, fin_ite, RS.seq_next, RS.seq_ret, RS.fin_ret, RS.fin_next, Option.map_some, Option.bind_some, truthV_bool, truthV_int, truthV_none, setT_name, setT_tup, setTs_nil, setTs_cons, wipe_nil, wipe_cons, ix_l, ix_t, ix_f, at_l0, at_l1, at_l2, at_l3, add_i, sub_i, lt_i, le_i, gt_i, ge_i, eq_i, ne_i, is_n, isnot_n, isNone, len_t, len_l, len_f, tuple_t, tuple_l, tuple_f, list_t, list_l, list_f, int_i, abs_i, max_i, min_i, sum_l, sum_t, isi_int, isi_bool, isi_tup, isi_lst, isi_str, isi_none, slice_l, slice_t, slice_f, ixO_no, ixO_int, satT_thenS, satT_next, satT_ret, sat_thenS, sat_next, sat_ret, evP_nil, evP_name, evP_item, R.tot_bind, R.tot_ok, Nat.reduceAdd, Nat.reduceSub, Bool.not_true, Bool.not_false, if_true, Bool.false_eq_true, if_false, hrep, flat_ints]
  have hcut : cutL (vInts (List.replicate w.toNat zs).flatten) none (some c) = vInts ((List.replicate w.toNat zs).flatten.take c.toNat) := by
    rw [vInts, cutL_map, cutL_to _ _ c0]
  rw [hcut]
  generalize hws : (List.replicate w.toNat zs).flatten.take c.toNat = ws
  have hwl : (ws.length : Int) = c := by
    rw [← hws, List.length_take, flat_len]
    have : w.toNat * 1 ≤ w.toNat * zs.length := Nat.mul_le_mul (Nat.le_refl _) hzl0
    omega
  refine R.tot_mono (draw_ok _ h4 (by omega) (by decide)) fun v G5 ⟨h5, k5, p, e, _, _⟩ => ?_
  subst e
  try simp only [evSs_cons, evSs_nil, evE_var, evE_own, evE_con, evE_tup, evE_lst, evE_bin, evE_neg, evE_cmp, evE_cmp2, evE_not, evE_and, evE_or, evE_ite, evE_idx, evE_slice, evE_call, evE_bcall, evE_isi, evE_comp, evE_heap, evE_stop, evEs_nil, evEs_cons, evI_of, evI_rng1, evI_rng2, evI_zip, evI_enum, evS_stop, evS_exp, evS_ret, evS_retO, evS_retN, evS_pass, evS_brk, evS_cont, evS_asg, evS_asgOwn, evS_setR, evS_setO, evS_app, evS_appR, evS_extO, evS_popT, evS_popO, evS_aug, evS_par, evS_ite, evS_for_, evS_forO, evS_while_, startS, List.length_cons, List.length_nil, List.map_cons, List.map_nil, List.replicate, List.cons_append, List.nil_append, List.getD_cons_zero, List.getD_cons_succ, List.set_cons_zero, List.set_cons_succ, R.bind_ok, R.opt_some, R.calm_ok, R.thenS_ok, rd_int, rd_bool, rd_none, rd_str, rd_tup, rd_lst, rd_frz, seq_thenS, fin_thenS, seq_ite, fin_ite, RS.seq_next, RS.seq_ret, RS.fin_ret, RS.fin_next, Option.map_some, Option.bind_some, truthV_bool, truthV_int, truthV_none, setT_name, setT_tup, setTs_nil, setTs_cons, wipe_nil, wipe_cons, ix_l, ix_t, ix_f, at_l0, at_l1, at_l2, at_l3, add_i, sub_i, lt_i, le_i, gt_i, ge_i, eq_i, ne_i, is_n, isnot_n, isNone, len_t, len_l, len_f, tuple_t, tuple_l, tuple_f, list_t, list_l, list_f, int_i, abs_i, max_i, min_i, sum_l, sum_t, isi_int, isi_bool, isi_tup, isi_lst, isi_str, isi_none, slice_l, slice_t, slice_f, ixO_no, ixO_int, satT_thenS, satT_next, satT_ret, sat_thenS, sat_next, sat_ret, evP_nil, evP_name, evP_item, R.tot_bind, R.tot_ok, Nat.reduceAdd, Nat.reduceSub, Bool.not_true, Bool.not_false, if_true, Bool.false_eq_true, if_false]
  have hd : (if decide (0 < p) = true then callN P (k + 2) "_law_draw" [Val.ref n, Val.int 3] G5 else callN P (k + 2) "_law_draw" [Val.ref n, Val.int 3000000] G5).tot (Dr n G5 fun v _ => ∃ i, v = .int i) := by
    split
    · exact R.tot_mono (draw_ok _ h5 (by omega) (by decide)) fun v G ⟨a, b, i, e, _, _⟩ => ⟨a, b, i, e⟩
    · exact R.tot_mono (draw_ok _ h5 (by omega) (by decide)) fun v G ⟨a, b, i, e, _, _⟩ => ⟨a, b, i, e⟩
  refine R.tot_mono hd fun v G6 ⟨h6, k6, t, e⟩ => ?_
  subst e
  have hr2 := rep_l [.int 0] (w - c) (by
    simp only [Bool.and_eq_true, decide_eq_true_eq, List.length_cons, List.length_nil]
    refine ⟨⟨by omega, by omega⟩, ?_⟩
    unfold lineN
    omega)
  have hl2 : ((List.replicate (w - c).toNat [Val.int 0]).flatten).length = (w - c).toNat := by rw [flat_len]; simp
  try simp only [evSs_cons, evSs_nil, evE_var, evE_own, evE_con, evE_tup, evE_lst, evE_bin, evE_neg, evE_cmp, evE_cmp2, evE_not, evE_and, evE_or, evE_ite, evE_idx, evE_slice, evE_call, evE_bcall, evE_isi, evE_comp, evE_heap, evE_stop, evEs_nil, evEs_cons, evI_of, evI_rng1, evI_rng2, evI_zip, evI_enum, evS_stop, evS_exp, evS_ret, evS_retO, evS_retN, evS_pass, evS_brk, evS_cont, evS_asg, evS_asgOwn, evS_setR, evS_setO, evS_app, evS_appR, evS_extO, evS_popT, evS_popO, evS_aug, evS_par, evS_ite, evS_for_, evS_forO, evS_while_, startS, List.length_cons, List.length_nil, List.map_cons, List.map_nil, List.replicate, List.cons_append, List.nil_append, List.getD_cons_zero, List.getD_cons_succ, List.set_cons_zero, List.set_cons_succ, R.bind_ok, R.opt_some, R.calm_ok, R.thenS_ok, rd_int, rd_bool, rd_none, rd_str, rd_tup, rd_lst, rd_frz, seq_thenS, fin_thenS, seq_ite, fin_ite, RS.seq_next, RS.seq_ret, RS.fin_ret, RS.fin_next, Option.map_some, Option.bind_some, truthV_bool, truthV_int, truthV_none, setT_name, setT_tup, setTs_nil, setTs_cons, wipe_nil, wipe_cons, ix_l, ix_t, ix_f, at_l0, at_l1, at_l2, at_l3, add_i, sub_i, lt_i, le_i, gt_i, ge_i, eq_i, ne_i, is_n, isnot_n, isNone, len_t, len_l, len_f, tuple_t, tuple_l, tuple_f, list_t, list_l, list_f, int_i, abs_i, max_i, min_i, sum_l, sum_t, isi_int, isi_bool, isi_tup, isi_lst, isi_str, isi_none, slice_l, slice_t, slice_f, ixO_no, ixO_int, satT_thenS, satT_next, satT_ret, sat_thenS, sat_next, sat_ret, evP_nil, evP_name, evP_item, R.tot_bind, R.tot_ok, Nat.reduceAdd, Nat.reduceSub, Bool.not_true, Bool.not_false, if_true, Bool.false_eq_true, if_false, hr2]
  rw [cat_l _ _ (by simp only [List.length_cons, List.length_nil, List.length_map, decide_eq_true_eq]; unfold lineN; omega)]
  try simp only [evSs_cons, evSs_nil, evE_var, evE_own, evE_con, evE_tup, evE_lst, evE_bin, evE_neg, evE_cmp, evE_cmp2, evE_not, evE_and, evE_or, evE_ite, evE_idx, evE_slice, evE_call, evE_bcall, evE_isi, evE_comp, evE_heap, evE_stop, evEs_nil, evEs_cons, evI_of, evI_rng1, evI_rng2, evI_zip, evI_enum, evS_stop, evS_exp, evS_ret, evS_retO, evS_retN, evS_pass, evS_brk, evS_cont, evS_asg, evS_asgOwn, evS_setR, evS_setO, evS_app, evS_appR, evS_extO, evS_popT, evS_popO, evS_aug, evS_par, evS_ite, evS_for_, evS_forO, evS_while_, startS, List.length_cons, List.length_nil, List.map_cons, List.map_nil, List.replicate, List.cons_append, List.nil_append, List.getD_cons_zero, List.getD_cons_succ, List.set_cons_zero, List.set_cons_succ, R.bind_ok, R.opt_some, R.calm_ok, R.thenS_ok, rd_int, rd_bool, rd_none, rd_str, rd_tup, rd_lst, rd_frz, seq_thenS, fin_thenS, seq_ite, fin_ite, RS.seq_next, RS.seq_ret, RS.fin_ret, RS.fin_next, Option.map_some, Option.bind_some, truthV_bool, truthV_int, truthV_none, setT_name, setT_tup, setTs_nil, setTs_cons, wipe_nil, wipe_cons, ix_l, ix_t, ix_f, at_l0, at_l1, at_l2, at_l3, add_i, sub_i, lt_i, le_i, gt_i, ge_i, eq_i, ne_i, is_n, isnot_n, isNone, len_t, len_l, len_f, tuple_t, tuple_l, tuple_f, list_t, list_l, list_f, int_i, abs_i, max_i, min_i, sum_l, sum_t, isi_int, isi_bool, isi_tup, isi_lst, isi_str, isi_none, slice_l, slice_t, slice_f, ixO_no, ixO_int, satT_thenS, satT_next, satT_ret, sat_thenS, sat_next, sat_ret, evP_nil, evP_name, evP_item, R.tot_bind, R.tot_ok, Nat.reduceAdd, Nat.reduceSub, Bool.not_true, Bool.not_false, if_true, Bool.false_eq_true, if_false]
  rw [cat_l _ _ (by rw [hl2]; simp only [List.length_cons, List.length_map, decide_eq_true_eq]; unfold lineN; omega)]
  try simp only [evSs_cons, evSs_nil, evE_var, evE_own, evE_con, evE_tup, evE_lst, evE_bin, evE_neg, evE_cmp, evE_cmp2, evE_not, evE_and, evE_or, evE_ite, evE_idx, evE_slice, evE_call, evE_bcall, evE_isi, evE_comp, evE_heap, evE_stop, evEs_nil, evEs_cons, evI_of, evI_rng1, evI_rng2, evI_zip, evI_enum, evS_stop, evS_exp, evS_ret, evS_retO, evS_retN, evS_pass, evS_brk, evS_cont, evS_asg, evS_asgOwn, evS_setR, evS_setO, evS_app, evS_appR, evS_extO, evS_popT, evS_popO, evS_aug, evS_par, evS_ite, evS_for_, evS_forO, evS_while_, startS, List.length_cons, List.length_nil, List.map_cons, List.map_nil, List.replicate, List.cons_append, List.nil_append, List.getD_cons_zero, List.getD_cons_succ, List.set_cons_zero, List.set_cons_succ, R.bind_ok, R.opt_some, R.calm_ok, R.thenS_ok, rd_int, rd_bool, rd_none, rd_str, rd_tup, rd_lst, rd_frz, seq_thenS, fin_thenS, seq_ite, fin_ite, RS.seq_next, RS.seq_ret, RS.fin_ret, RS.fin_next, Option.map_some, Option.bind_some, truthV_bool, truthV_int, truthV_none, setT_name, setT_tup, setTs_nil, setTs_cons, wipe_nil, wipe_cons, ix_l, ix_t, ix_f, at_l0, at_l1, at_l2, at_l3, add_i, sub_i, lt_i, le_i, gt_i, ge_i, eq_i, ne_i, is_n, isnot_n, isNone, len_t, len_l, len_f, tuple_t, tuple_l, tuple_f, list_t, list_l, list_f, int_i, abs_i, max_i, min_i, sum_l, sum_t, isi_int, isi_bool, isi_tup, isi_lst, isi_str, isi_none, slice_l, slice_t, slice_f, ixO_no, ixO_int, satT_thenS, satT_next, satT_ret, sat_thenS, sat_next, sat_ret, evP_nil, evP_name, evP_item, R.tot_bind, R.tot_ok, Nat.reduceAdd, Nat.reduceSub, Bool.not_true, Bool.not_false, if_true, Bool.false_eq_true, if_false]
  rw [cat_l _ _ (by simp only [List.length_append, List.length_cons, List.length_nil, List.length_map, decide_eq_true_eq, hl2]; unfold lineN; omega)]
  try simp only [evSs_cons, evSs_nil, evE_var, evE_own, evE_con, evE_tup, evE_lst, evE_bin, evE_neg, evE_cmp, evE_cmp2, evE_not, evE_and, evE_or, evE_ite, evE_idx, evE_slice, evE_call, evE_bcall, evE_isi, evE_comp, evE_heap, evE_stop, evEs_nil, evEs_cons, evI_of, evI_rng1, evI_rng2, evI_zip, evI_enum, evS_stop, evS_exp, evS_ret, evS_retO, evS_retN, evS_pass, evS_brk, evS_cont, evS_asg, evS_asgOwn, evS_setR, evS_setO, evS_app, evS_appR, evS_extO, evS_popT, evS_popO, evS_aug, evS_par, evS_ite, evS_for_, evS_forO, evS_while_, startS, List.length_cons, List.length_nil, List.map_cons, List.map_nil, List.replicate, List.cons_append, List.nil_append, List.getD_cons_zero, List.getD_cons_succ, List.set_cons_zero, List.set_cons_succ, R.bind_ok, R.opt_some, R.calm_ok, R.thenS_ok, rd_int, rd_bool, rd_none, rd_str, rd_tup, rd_lst, rd_frz, seq_thenS, fin_thenS, seq_ite, fin_ite, RS.seq_next, RS.seq_ret, RS.fin_ret, RS.fin_next, Option.map_some, Option.bind_some, truthV_bool, truthV_int, truthV_none, setT_name, setT_tup, setTs_nil, setTs_cons, wipe_nil, wipe_cons, ix_l, ix_t, ix_f, at_l0, at_l1, at_l2, at_l3, add_i, sub_i, lt_i, le_i, gt_i, ge_i, eq_i, ne_i, is_n, isnot_n, isNone, len_t, len_l, len_f, tuple_t, tuple_l, tuple_f, list_t, list_l, list_f, int_i, abs_i, max_i, min_i, sum_l, sum_t, isi_int, isi_bool, isi_tup, isi_lst, isi_str, isi_none, slice_l, slice_t, slice_f, ixO_no, ixO_int, satT_thenS, satT_next, satT_ret, sat_thenS, sat_next, sat_ret, evP_nil, evP_name, evP_item, R.tot_bind, R.tot_ok, Nat.reduceAdd, Nat.reduceSub, Bool.not_true, Bool.not_false, if_true, Bool.false_eq_true, if_false]
  have kk : Keep n G G6 := ((((k2.trans k3).trans k4).trans k5).trans k6)
  refine ⟨h6.new _, kk.trans (Keep.new _ _ _), G6.length, (1 + t) :: c :: (1 + t + c + ws.sum) :: (ws ++ (List.replicate (w - c).toNat [0]).flatten ++ [1 + t]), rfl, kk.len, ?_, ?_⟩
  · rw [List.getElem?_append_right (Nat.le_refl _), Nat.sub_self]
    rw [show [Val.int 0] = vInts [0] from rfl, flat_ints]
    simp only [vInts, List.map_cons, List.map_append, List.map_nil, List.cons_append, List.nil_append, List.getElem?_cons_zero]
  · simp only [List.length_cons, List.length_append, List.length_nil, flat_len]
    omega
end Fx.Law

namespace Fx.Law
open PySem PySem.Spec PyProof.Rows L2 Fx
theorem atV {cs : List Int} {k : Int} (h0 : 0 ≤ k) (h : k < cs.length) : ∃ x, atI (vInts cs) k = some (.int x) := by
  have hk : k.toNat < cs.length := by omega
  exact ⟨cs[k.toNat], by rw [atI_int h0 (by rw [List.length_map]; exact h), vInts, List.getElem?_map, List.getElem?_eq_getElem hk]; rfl⟩
theorem atVn {cs : List Int} {k : Int} (h0 : k < 0) (h : -(cs.length : Int) ≤ k) : ∃ x, atI (vInts cs) k = some (.int x) := by
  have hk : (k + cs.length).toNat < cs.length := by omega
  exact ⟨cs[(k + cs.length).toNat], by rw [atI_neg h0 (by rw [List.length_map]; exact h), vInts, List.getElem?_map, List.length_map, List.getElem?_eq_getElem hk]; rfl⟩
/-- the well at n and the list at m may have changed -/
structure Tu (n m L : Nat) (G G' : Heap) : Prop where
  well : Well G' n
  len : G.length ≤ G'.length
  at_ : ∀ j, j ≠ n → j ≠ m → j < G.length → G'[j]? = G[j]?
  cs : ∃ cs : List Int, cs.length = L ∧ G'[m]? = some (.lst (vInts cs))
section
variable {n m L : Nat} {G G1 G2 : Heap}
theorem Tu.dr {V : Val → Heap → Prop} {v : Val} (hm : m ≠ n) (t : Tu n m L G G1) (d : Dr n G1 V v G2) : Tu n m L G G2 := by
  obtain ⟨h1, k, _⟩ := d
  obtain ⟨cs, hl, hc⟩ := t.cs
  have hlt := (List.getElem?_eq_some_iff.mp hc).1
  exact ⟨h1, Nat.le_trans t.len k.len, fun j h2 h3 h4 => (k.at_ j h2 (Nat.lt_of_lt_of_le h4 t.len)).trans (t.at_ j h2 h3 h4), cs, hl, (k.at_ m hm hlt).trans hc⟩
theorem Tu.set (hm : m ≠ n) (t : Tu n m L G G1) (k v : Int) (h : -(L : Int) ≤ k) (h2 : k < L) : ∃ G2, setRef (.ref m) (.int k) (.int v) G1 = some G2 ∧ Tu n m L G G2 := by
  obtain ⟨cs, hl, hc⟩ := t.cs
  have hlt := (List.getElem?_eq_some_iff.mp hc).1
  have hj : ∃ j, ixN cs.length k = some j := by
    rw [hl]
    by_cases q : 0 ≤ k
    · exact ⟨_, ixN_int q h2⟩
    · exact ⟨_, ixN_neg (by omega) h⟩
  obtain ⟨j, hj⟩ := hj
  refine ⟨_, setRef_eq hc (by rw [List.length_map]; exact hj), ⟨?_, by rw [List.length_set]; exact t.len, fun i h3 h4 h5 => by rw [List.getElem?_set_ne (Ne.symm h4)]; exact t.at_ i h3 h4 h5, cs.set j v, by rw [List.length_set, hl], ?_⟩⟩
  · obtain ⟨a, b, c, e⟩ := t.well
    exact ⟨a, b, c, by rw [List.getElem?_set_ne hm]; exact e⟩
  · rw [get_set hlt]; simp only [vInts, List.map_set]
theorem Tu.get (t : Tu n m L G G1) : ∃ cs : List Int, cs.length = L ∧ rd G1 (.ref m) = .lst (vInts cs) := by
  obtain ⟨cs, hl, hc⟩ := t.cs
  exact ⟨cs, hl, rd_ref hc⟩
end
theorem turned_ok (k : Nat) {G : Heap} {n m : Nat} {cs : List Int} (h : Well G n) (hm : m ≠ n) (hc : G[m]? = some (.lst (vInts cs))) (c0 : 30 ≤ cs.length) (c1 : cs.length ≤ 36) :
    (callN P (k+3) "_law_turned" [.ref n, .ref m] G).tot fun v G' => v = .ref m ∧ Tu n m cs.length G G' := by
  rw [call_eq pw_law_turned _ _ _ rfl]
  have t0 : Tu n m cs.length G G := ⟨h, Nat.le_refl _, fun _ _ _ _ => rfl, cs, rfl, hc⟩
  simp only [Bw_law_turned, evSs_cons, evSs_nil, evE_var, evE_own, evE_con, evE_tup, evE_lst, evE_bin, evE_neg, evE_cmp, evE_cmp2, evE_not, evE_and, evE_or, evE_ite, evE_idx, evE_slice, evE_call, evE_bcall, evE_isi, evE_comp, evE_heap, evE_stop, evEs_nil, evEs_cons, evI_of, evI_rng1, evI_rng2, evI_zip, evI_enum, evS_stop, evS_exp, evS_ret, evS_retO, evS_retN, evS_pass, evS_brk, evS_cont, evS_asg, evS_asgOwn, evS_setR, evS_setO, evS_app, evS_appR, evS_extO, evS_popT, evS_popO, evS_aug, evS_par, evS_ite, evS_for_, evS_forO, evS_while_, startS, List.length_cons, List.length_nil, List.map_cons, List.map_nil, List.replicate, List.cons_append, List.nil_append, List.getD_cons_zero, List.getD_cons_succ, List.set_cons_zero, List.set_cons_succ, R.bind_ok, R.opt_some, R.calm_ok, R.thenS_ok, rd_int, rd_bool, rd_none, rd_str, rd_tup, rd_lst, rd_frz, seq_thenS, fin_thenS, seq_ite, fin_ite, RS.seq_next, RS.seq_ret, RS.fin_ret, RS.fin_next, Option.map_some, Option.bind_some, truthV_bool, truthV_int, truthV_none, setT_name, setT_tup, setTs_nil, setTs_cons, wipe_nil, wipe_cons, ix_l, ix_t, ix_f, at_l0, at_l1, at_l2, at_l3, add_i, sub_i, lt_i, le_i, gt_i, ge_i, eq_i, ne_i, is_n, isnot_n, isNone, len_t, len_l, len_f, tuple_t, tuple_l, tuple_f, list_t, list_l, list_f, int_i, abs_i, max_i, min_i, sum_l, sum_t, isi_int, isi_bool, isi_tup, isi_lst, isi_str, isi_none, slice_l, slice_t, slice_f, ixO_no, ixO_int, satT_thenS, satT_next, satT_ret, sat_thenS, sat_next, sat_ret, evP_nil, evP_name, evP_item, R.tot_bind, R.tot_ok, Nat.reduceAdd, Nat.reduceSub, Bool.not_true, Bool.not_false, if_true, Bool.false_eq_true, if_false, rd_ref hc]
  refine R.tot_mono (draw_ok _ h (by omega) (by decide)) fun v G1 d1 => ?_
  have t1 := t0.dr hm d1
  obtain ⟨h1, k1, kd, e, q0, q1⟩ := d1
  subst e
  try simp only [evSs_cons, evSs_nil, evE_var, evE_own, evE_con, evE_tup, evE_lst, evE_bin, evE_neg, evE_cmp, evE_cmp2, evE_not, evE_and, evE_or, evE_ite, evE_idx, evE_slice, evE_call, evE_bcall, evE_isi, evE_comp, evE_heap, evE_stop, evEs_nil, evEs_cons, evI_of, evI_rng1, evI_rng2, evI_zip, evI_enum, evS_stop, evS_exp, evS_ret, evS_retO, evS_retN, evS_pass, evS_brk, evS_cont, evS_asg, evS_asgOwn, evS_setR, evS_setO, evS_app, evS_appR, evS_extO, evS_popT, evS_popO, evS_aug, evS_par, evS_ite, evS_for_, evS_forO, evS_while_, startS, List.length_cons, List.length_nil, List.map_cons, List.map_nil, List.replicate, List.cons_append, List.nil_append, List.getD_cons_zero, List.getD_cons_succ, List.set_cons_zero, List.set_cons_succ, R.bind_ok, R.opt_some, R.calm_ok, R.thenS_ok, rd_int, rd_bool, rd_none, rd_str, rd_tup, rd_lst, rd_frz, seq_thenS, fin_thenS, seq_ite, fin_ite, RS.seq_next, RS.seq_ret, RS.fin_ret, RS.fin_next, Option.map_some, Option.bind_some, truthV_bool, truthV_int, truthV_none, setT_name, setT_tup, setTs_nil, setTs_cons, wipe_nil, wipe_cons, ix_l, ix_t, ix_f, at_l0, at_l1, at_l2, at_l3, add_i, sub_i, lt_i, le_i, gt_i, ge_i, eq_i, ne_i, is_n, isnot_n, isNone, len_t, len_l, len_f, tuple_t, tuple_l, tuple_f, list_t, list_l, list_f, int_i, abs_i, max_i, min_i, sum_l, sum_t, isi_int, isi_bool, isi_tup, isi_lst, isi_str, isi_none, slice_l, slice_t, slice_f, ixO_no, ixO_int, satT_thenS, satT_next, satT_ret, sat_thenS, sat_next, sat_ret, evP_nil, evP_name, evP_item, R.tot_bind, R.tot_ok, Nat.reduceAdd, Nat.reduceSub, Bool.not_true, Bool.not_false, if_true, Bool.false_eq_true, if_false]
  split
  · try simp only [evSs_cons, evSs_nil, evE_var, evE_own, evE_con, evE_tup, evE_lst, evE_bin, evE_neg, evE_cmp, evE_cmp2, evE_not, evE_and, evE_or, evE_ite, evE_idx, evE_slice, evE_call, evE_bcall, evE_isi, evE_comp, evE_heap, evE_stop, evEs_nil, evEs_cons, evI_of, evI_rng1, evI_rng2, evI_zip, evI_enum, evS_stop, evS_exp, evS_ret, evS_retO, evS_retN, evS_pass, evS_brk, evS_cont, evS_asg, evS_asgOwn, evS_setR, evS_setO, evS_app, evS_appR, evS_extO, evS_popT, evS_popO, evS_aug, evS_par, evS_ite, evS_for_, evS_forO, evS_while_, startS, List.length_cons, List.length_nil, List.map_cons, List.map_nil, List.replicate, List.cons_append, List.nil_append, List.getD_cons_zero, List.getD_cons_succ, List.set_cons_zero, List.set_cons_succ, R.bind_ok, R.opt_some, R.calm_ok, R.thenS_ok, rd_int, rd_bool, rd_none, rd_str, rd_tup, rd_lst, rd_frz, seq_thenS, fin_thenS, seq_ite, fin_ite, RS.seq_next, RS.seq_ret, RS.fin_ret, RS.fin_next, Option.map_some, Option.bind_some, truthV_bool, truthV_int, truthV_none, setT_name, setT_tup, setTs_nil, setTs_cons, wipe_nil, wipe_cons, ix_l, ix_t, ix_f, at_l0, at_l1, at_l2, at_l3, add_i, sub_i, lt_i, le_i, gt_i, ge_i, eq_i, ne_i, is_n, isnot_n, isNone, len_t, len_l, len_f, tuple_t, tuple_l, tuple_f, list_t, list_l, list_f, int_i, abs_i, max_i, min_i, sum_l, sum_t, isi_int, isi_bool, isi_tup, isi_lst, isi_str, isi_none, slice_l, slice_t, slice_f, ixO_no, ixO_int, satT_thenS, satT_next, satT_ret, sat_thenS, sat_next, sat_ret, evP_nil, evP_name, evP_item, R.tot_bind, R.tot_ok, Nat.reduceAdd, Nat.reduceSub, Bool.not_true, Bool.not_false, if_true, Bool.false_eq_true, if_false]
    refine R.tot_mono (pick_ok _ h1 (by simp) (by unfold p64; simp)) fun v G2 d2 => ?_
    have t2 := t1.dr hm d2
    obtain ⟨h2, k2, hv⟩ := d2
    have hb : ∃ b : Int, v = .int b := by
      simp only [List.mem_cons, List.not_mem_nil, or_false] at hv
      rcases hv with e | e <;> exact ⟨_, e⟩
    obtain ⟨b, e⟩ := hb
    subst e
    obtain ⟨cs2, l2, r2⟩ := t2.get
    obtain ⟨x1, e1⟩ := atV (cs := cs2) (k := 1) (by omega) (by omega)
    obtain ⟨x2, e2⟩ := atV (cs := cs2) (k := 2) (by omega) (by omega)
    obtain ⟨G3, s3, t3⟩ := t2.set hm 1 (x1 + b) (by omega) (by omega)
    obtain ⟨G4, s4, t4⟩ := t3.set hm 2 (x2 + b) (by omega) (by omega)
    simp only [evSs_cons, evSs_nil, evE_var, evE_own, evE_con, evE_tup, evE_lst, evE_bin, evE_neg, evE_cmp, evE_cmp2, evE_not, evE_and, evE_or, evE_ite, evE_idx, evE_slice, evE_call, evE_bcall, evE_isi, evE_comp, evE_heap, evE_stop, evEs_nil, evEs_cons, evI_of, evI_rng1, evI_rng2, evI_zip, evI_enum, evS_stop, evS_exp, evS_ret, evS_retO, evS_retN, evS_pass, evS_brk, evS_cont, evS_asg, evS_asgOwn, evS_setR, evS_setO, evS_app, evS_appR, evS_extO, evS_popT, evS_popO, evS_aug, evS_par, evS_ite, evS_for_, evS_forO, evS_while_, startS, List.length_cons, List.length_nil, List.map_cons, List.map_nil, List.replicate, List.cons_append, List.nil_append, List.getD_cons_zero, List.getD_cons_succ, List.set_cons_zero, List.set_cons_succ, R.bind_ok, R.opt_some, R.calm_ok, R.thenS_ok, rd_int, rd_bool, rd_none, rd_str, rd_tup, rd_lst, rd_frz, seq_thenS, fin_thenS, seq_ite, fin_ite, RS.seq_next, RS.seq_ret, RS.fin_ret, RS.fin_next, Option.map_some, Option.bind_some, truthV_bool, truthV_int, truthV_none, setT_name, setT_tup, setTs_nil, setTs_cons, wipe_nil, wipe_cons, ix_l, ix_t, ix_f, at_l0, at_l1, at_l2, at_l3, add_i, sub_i, lt_i, le_i, gt_i, ge_i, eq_i, ne_i, is_n, isnot_n, isNone, len_t, len_l, len_f, tuple_t, tuple_l, tuple_f, list_t, list_l, list_f, int_i, abs_i, max_i, min_i, sum_l, sum_t, isi_int, isi_bool, isi_tup, isi_lst, isi_str, isi_none, slice_l, slice_t, slice_f, ixO_no, ixO_int, satT_thenS, satT_next, satT_ret, sat_thenS, sat_next, sat_ret, evP_nil, evP_name, evP_item, R.tot_bind, R.tot_ok, Nat.reduceAdd, Nat.reduceSub, Bool.not_true, Bool.not_false, if_true, Bool.false_eq_true, if_false, r2, e1, e2, s3, s4, List.map]
    exact ⟨by first | rfl | trivial, t4⟩
  · try simp only [evSs_cons, evSs_nil, evE_var, evE_own, evE_con, evE_tup, evE_lst, evE_bin, evE_neg, evE_cmp, evE_cmp2, evE_not, evE_and, evE_or, evE_ite, evE_idx, evE_slice, evE_call, evE_bcall, evE_isi, evE_comp, evE_heap, evE_stop, evEs_nil, evEs_cons, evI_of, evI_rng1, evI_rng2, evI_zip, evI_enum, evS_stop, evS_exp, evS_ret, evS_retO, evS_retN, evS_pass, evS_brk, evS_cont, evS_asg, evS_asgOwn, evS_setR, evS_setO, evS_app, evS_appR, evS_extO, evS_popT, evS_popO, evS_aug, evS_par, evS_ite, evS_for_, evS_forO, evS_while_, startS, List.length_cons, List.length_nil, List.map_cons, List.map_nil, List.replicate, List.cons_append, List.nil_append, List.getD_cons_zero, List.getD_cons_succ, List.set_cons_zero, List.set_cons_succ, R.bind_ok, R.opt_some, R.calm_ok, R.thenS_ok, rd_int, rd_bool, rd_none, rd_str, rd_tup, rd_lst, rd_frz, seq_thenS, fin_thenS, seq_ite, fin_ite, RS.seq_next, RS.seq_ret, RS.fin_ret, RS.fin_next, Option.map_some, Option.bind_some, truthV_bool, truthV_int, truthV_none, setT_name, setT_tup, setTs_nil, setTs_cons, wipe_nil, wipe_cons, ix_l, ix_t, ix_f, at_l0, at_l1, at_l2, at_l3, add_i, sub_i, lt_i, le_i, gt_i, ge_i, eq_i, ne_i, is_n, isnot_n, isNone, len_t, len_l, len_f, tuple_t, tuple_l, tuple_f, list_t, list_l, list_f, int_i, abs_i, max_i, min_i, sum_l, sum_t, isi_int, isi_bool, isi_tup, isi_lst, isi_str, isi_none, slice_l, slice_t, slice_f, ixO_no, ixO_int, satT_thenS, satT_next, satT_ret, sat_thenS, sat_next, sat_ret, evP_nil, evP_name, evP_item, R.tot_bind, R.tot_ok, Nat.reduceAdd, Nat.reduceSub, Bool.not_true, Bool.not_false, if_true, Bool.false_eq_true, if_false]
    split
    · try simp only [evSs_cons, evSs_nil, evE_var, evE_own, evE_con, evE_tup, evE_lst, evE_bin, evE_neg, evE_cmp, evE_cmp2, evE_not, evE_and, evE_or, evE_ite, evE_idx, evE_slice, evE_call, evE_bcall, evE_isi, evE_comp, evE_heap, evE_stop, evEs_nil, evEs_cons, evI_of, evI_rng1, evI_rng2, evI_zip, evI_enum, evS_stop, evS_exp, evS_ret, evS_retO, evS_retN, evS_pass, evS_brk, evS_cont, evS_asg, evS_asgOwn, evS_setR, evS_setO, evS_app, evS_appR, evS_extO, evS_popT, evS_popO, evS_aug, evS_par, evS_ite, evS_for_, evS_forO, evS_while_, startS, List.length_cons, List.length_nil, List.map_cons, List.map_nil, List.replicate, List.cons_append, List.nil_append, List.getD_cons_zero, List.getD_cons_succ, List.set_cons_zero, List.set_cons_succ, R.bind_ok, R.opt_some, R.calm_ok, R.thenS_ok, rd_int, rd_bool, rd_none, rd_str, rd_tup, rd_lst, rd_frz, seq_thenS, fin_thenS, seq_ite, fin_ite, RS.seq_next, RS.seq_ret, RS.fin_ret, RS.fin_next, Option.map_some, Option.bind_some, truthV_bool, truthV_int, truthV_none, setT_name, setT_tup, setTs_nil, setTs_cons, wipe_nil, wipe_cons, ix_l, ix_t, ix_f, at_l0, at_l1, at_l2, at_l3, add_i, sub_i, lt_i, le_i, gt_i, ge_i, eq_i, ne_i, is_n, isnot_n, isNone, len_t, len_l, len_f, tuple_t, tuple_l, tuple_f, list_t, list_l, list_f, int_i, abs_i, max_i, min_i, sum_l, sum_t, isi_int, isi_bool, isi_tup, isi_lst, isi_str, isi_none, slice_l, slice_t, slice_f, ixO_no, ixO_int, satT_thenS, satT_next, satT_ret, sat_thenS, sat_next, sat_ret, evP_nil, evP_name, evP_item, R.tot_bind, R.tot_ok, Nat.reduceAdd, Nat.reduceSub, Bool.not_true, Bool.not_false, if_true, Bool.false_eq_true, if_false]
      refine R.tot_mono (draw_ok _ h1 (by omega) (by decide)) fun v G2 d2 => ?_
      have t2 := t1.dr hm d2
      obtain ⟨h2, k2, j, e, _, _⟩ := d2
      subst e
      obtain ⟨cs2, l2, r2⟩ := t2.get
      obtain ⟨x0, e0⟩ := atV (cs := cs2) (k := 0) (by omega) (by omega)
      obtain ⟨x2, e2⟩ := atV (cs := cs2) (k := 2) (by omega) (by omega)
      obtain ⟨xn, en⟩ := atVn (cs := cs2) (k := -1) (by omega) (by omega)
      have go : ∀ b : Int, (R.ok (Val.int b) G2).tot (fun v G' => v = .int b ∧ G' = G2) := fun b => ⟨rfl, rfl⟩
      have main : ∀ b : Int, ∃ G5, (setRef (.ref m) (.int 0) (.int (x0 - b)) G2).bind (fun G3 => (setRef (.ref m) (.int 2) (.int (x2 - b)) G3).bind fun G4 => setRef (.ref m) (.int (-1)) (.int (xn - b)) G4) = some G5 ∧ Tu n m cs.length G G5 := fun b => by
        obtain ⟨G3, s3, t3⟩ := t2.set hm 0 (x0 - b) (by omega) (by omega)
        obtain ⟨G4, s4, t4⟩ := t3.set hm 2 (x2 - b) (by omega) (by omega)
        obtain ⟨G5, s5, t5⟩ := t4.set hm (-1) (xn - b) (by omega) (by omega)
        exact ⟨G5, by rw [s3, Option.bind_some, s4, Option.bind_some, s5], t5⟩
      simp only [evSs_cons, evSs_nil, evE_var, evE_own, evE_con, evE_tup, evE_lst, evE_bin, evE_neg, evE_cmp, evE_cmp2, evE_not, evE_and, evE_or, evE_ite, evE_idx, evE_slice, evE_call, evE_bcall, evE_isi, evE_comp, evE_heap, evE_stop, evEs_nil, evEs_cons, evI_of, evI_rng1, evI_rng2, evI_zip, evI_enum, evS_stop, evS_exp, evS_ret, evS_retO, evS_retN, evS_pass, evS_brk, evS_cont, evS_asg, evS_asgOwn, evS_setR, evS_setO, evS_app, evS_appR, evS_extO, evS_popT, evS_popO, evS_aug, evS_par, evS_ite, evS_for_, evS_forO, evS_while_, startS, List.length_cons, List.length_nil, List.map_cons, List.map_nil, List.replicate, List.cons_append, List.nil_append, List.getD_cons_zero, List.getD_cons_succ, List.set_cons_zero, List.set_cons_succ, R.bind_ok, R.opt_some, R.calm_ok, R.thenS_ok, rd_int, rd_bool, rd_none, rd_str, rd_tup, rd_lst, rd_frz, seq_thenS, fin_thenS, seq_ite, fin_ite, RS.seq_next, RS.seq_ret, RS.fin_ret, RS.fin_next, Option.map_some, Option.bind_some, truthV_bool, truthV_int, truthV_none, setT_name, setT_tup, setTs_nil, setTs_cons, wipe_nil, wipe_cons, ix_l, ix_t, ix_f, at_l0, at_l1, at_l2, at_l3, add_i, sub_i, lt_i, le_i, gt_i, ge_i, eq_i, ne_i, is_n, isnot_n, isNone, len_t, len_l, len_f, tuple_t, tuple_l, tuple_f, list_t, list_l, list_f, int_i, abs_i, max_i, min_i, sum_l, sum_t, isi_int, isi_bool, isi_tup, isi_lst, isi_str, isi_none, slice_l, slice_t, slice_f, ixO_no, ixO_int, satT_thenS, satT_next, satT_ret, sat_thenS, sat_next, sat_ret, evP_nil, evP_name, evP_item, R.tot_bind, R.tot_ok, Nat.reduceAdd, Nat.reduceSub, Bool.not_true, Bool.not_false, if_true, Bool.false_eq_true, if_false, r2, e0, e2, en]
      split
      · obtain ⟨G3, s3, t3⟩ := t2.set hm 0 (x0 - x0) (by omega) (by omega)
        obtain ⟨G4, s4, t4⟩ := t3.set hm 2 (x2 - x0) (by omega) (by omega)
        obtain ⟨G5, s5, t5⟩ := t4.set hm (-1) (xn - x0) (by omega) (by omega)
        simp only [evSs_cons, evSs_nil, evE_var, evE_own, evE_con, evE_tup, evE_lst, evE_bin, evE_neg, evE_cmp, evE_cmp2, evE_not, evE_and, evE_or, evE_ite, evE_idx, evE_slice, evE_call, evE_bcall, evE_isi, evE_comp, evE_heap, evE_stop, evEs_nil, evEs_cons, evI_of, evI_rng1, evI_rng2, evI_zip, evI_enum, evS_stop, evS_exp, evS_ret, evS_retO, evS_retN, evS_pass, evS_brk, evS_cont, evS_asg, evS_asgOwn, evS_setR, evS_setO, evS_app, evS_appR, evS_extO, evS_popT, evS_popO, evS_aug, evS_par, evS_ite, evS_for_, evS_forO, evS_while_, startS, List.length_cons, List.length_nil, List.map_cons, List.map_nil, List.replicate, List.cons_append, List.nil_append, List.getD_cons_zero, List.getD_cons_succ, List.set_cons_zero, List.set_cons_succ, R.bind_ok, R.opt_some, R.calm_ok, R.thenS_ok, rd_int, rd_bool, rd_none, rd_str, rd_tup, rd_lst, rd_frz, seq_thenS, fin_thenS, seq_ite, fin_ite, RS.seq_next, RS.seq_ret, RS.fin_ret, RS.fin_next, Option.map_some, Option.bind_some, truthV_bool, truthV_int, truthV_none, setT_name, setT_tup, setTs_nil, setTs_cons, wipe_nil, wipe_cons, ix_l, ix_t, ix_f, at_l0, at_l1, at_l2, at_l3, add_i, sub_i, lt_i, le_i, gt_i, ge_i, eq_i, ne_i, is_n, isnot_n, isNone, len_t, len_l, len_f, tuple_t, tuple_l, tuple_f, list_t, list_l, list_f, int_i, abs_i, max_i, min_i, sum_l, sum_t, isi_int, isi_bool, isi_tup, isi_lst, isi_str, isi_none, slice_l, slice_t, slice_f, ixO_no, ixO_int, satT_thenS, satT_next, satT_ret, sat_thenS, sat_next, sat_ret, evP_nil, evP_name, evP_item, R.tot_bind, R.tot_ok, Nat.reduceAdd, Nat.reduceSub, Bool.not_true, Bool.not_false, if_true, Bool.false_eq_true, if_false, r2, e0, e2, en, s3, s4, s5, Int.reduceNeg]
        exact ⟨by first | rfl | trivial, t5⟩
      · simp only [evSs_cons, evSs_nil, evE_var, evE_own, evE_con, evE_tup, evE_lst, evE_bin, evE_neg, evE_cmp, evE_cmp2, evE_not, evE_and, evE_or, evE_ite, evE_idx, evE_slice, evE_call, evE_bcall, evE_isi, evE_comp, evE_heap, evE_stop, evEs_nil, evEs_cons, evI_of, evI_rng1, evI_rng2, evI_zip, evI_enum, evS_stop, evS_exp, evS_ret, evS_retO, evS_retN, evS_pass, evS_brk, evS_cont, evS_asg, evS_asgOwn, evS_setR, evS_setO, evS_app, evS_appR, evS_extO, evS_popT, evS_popO, evS_aug, evS_par, evS_ite, evS_for_, evS_forO, evS_while_, startS, List.length_cons, List.length_nil, List.map_cons, List.map_nil, List.replicate, List.cons_append, List.nil_append, List.getD_cons_zero, List.getD_cons_succ, List.set_cons_zero, List.set_cons_succ, R.bind_ok, R.opt_some, R.calm_ok, R.thenS_ok, rd_int, rd_bool, rd_none, rd_str, rd_tup, rd_lst, rd_frz, seq_thenS, fin_thenS, seq_ite, fin_ite, RS.seq_next, RS.seq_ret, RS.fin_ret, RS.fin_next, Option.map_some, Option.bind_some, truthV_bool, truthV_int, truthV_none, setT_name, setT_tup, setTs_nil, setTs_cons, wipe_nil, wipe_cons, ix_l, ix_t, ix_f, at_l0, at_l1, at_l2, at_l3, add_i, sub_i, lt_i, le_i, gt_i, ge_i, eq_i, ne_i, is_n, isnot_n, isNone, len_t, len_l, len_f, tuple_t, tuple_l, tuple_f, list_t, list_l, list_f, int_i, abs_i, max_i, min_i, sum_l, sum_t, isi_int, isi_bool, isi_tup, isi_lst, isi_str, isi_none, slice_l, slice_t, slice_f, ixO_no, ixO_int, satT_thenS, satT_next, satT_ret, sat_thenS, sat_next, sat_ret, evP_nil, evP_name, evP_item, R.tot_bind, R.tot_ok, Nat.reduceAdd, Nat.reduceSub, Bool.not_true, Bool.not_false, if_true, Bool.false_eq_true, if_false, r2, e0, e2, en, mul_l 2 x0 (by decide), Int.reduceNeg]
        obtain ⟨G3, s3, t3⟩ := t2.set hm 0 (x0 - 2 * x0) (by omega) (by omega)
        obtain ⟨G4, s4, t4⟩ := t3.set hm 2 (x2 - 2 * x0) (by omega) (by omega)
        obtain ⟨G5, s5, t5⟩ := t4.set hm (-1) (xn - 2 * x0) (by omega) (by omega)
        simp only [evSs_cons, evSs_nil, evE_var, evE_own, evE_con, evE_tup, evE_lst, evE_bin, evE_neg, evE_cmp, evE_cmp2, evE_not, evE_and, evE_or, evE_ite, evE_idx, evE_slice, evE_call, evE_bcall, evE_isi, evE_comp, evE_heap, evE_stop, evEs_nil, evEs_cons, evI_of, evI_rng1, evI_rng2, evI_zip, evI_enum, evS_stop, evS_exp, evS_ret, evS_retO, evS_retN, evS_pass, evS_brk, evS_cont, evS_asg, evS_asgOwn, evS_setR, evS_setO, evS_app, evS_appR, evS_extO, evS_popT, evS_popO, evS_aug, evS_par, evS_ite, evS_for_, evS_forO, evS_while_, startS, List.length_cons, List.length_nil, List.map_cons, List.map_nil, List.replicate, List.cons_append, List.nil_append, List.getD_cons_zero, List.getD_cons_succ, List.set_cons_zero, List.set_cons_succ, R.bind_ok, R.opt_some, R.calm_ok, R.thenS_ok, rd_int, rd_bool, rd_none, rd_str, rd_tup, rd_lst, rd_frz, seq_thenS, fin_thenS, seq_ite, fin_ite, RS.seq_next, RS.seq_ret, RS.fin_ret, RS.fin_next, Option.map_some, Option.bind_some, truthV_bool, truthV_int, truthV_none, setT_name, setT_tup, setTs_nil, setTs_cons, wipe_nil, wipe_cons, ix_l, ix_t, ix_f, at_l0, at_l1, at_l2, at_l3, add_i, sub_i, lt_i, le_i, gt_i, ge_i, eq_i, ne_i, is_n, isnot_n, isNone, len_t, len_l, len_f, tuple_t, tuple_l, tuple_f, list_t, list_l, list_f, int_i, abs_i, max_i, min_i, sum_l, sum_t, isi_int, isi_bool, isi_tup, isi_lst, isi_str, isi_none, slice_l, slice_t, slice_f, ixO_no, ixO_int, satT_thenS, satT_next, satT_ret, sat_thenS, sat_next, sat_ret, evP_nil, evP_name, evP_item, R.tot_bind, R.tot_ok, Nat.reduceAdd, Nat.reduceSub, Bool.not_true, Bool.not_false, if_true, Bool.false_eq_true, if_false, r2, e0, e2, en, s3, s4, s5, Int.reduceNeg]
        exact ⟨by first | rfl | trivial, t5⟩
    · try simp only [evSs_cons, evSs_nil, evE_var, evE_own, evE_con, evE_tup, evE_lst, evE_bin, evE_neg, evE_cmp, evE_cmp2, evE_not, evE_and, evE_or, evE_ite, evE_idx, evE_slice, evE_call, evE_bcall, evE_isi, evE_comp, evE_heap, evE_stop, evEs_nil, evEs_cons, evI_of, evI_rng1, evI_rng2, evI_zip, evI_enum, evS_stop, evS_exp, evS_ret, evS_retO, evS_retN, evS_pass, evS_brk, evS_cont, evS_asg, evS_asgOwn, evS_setR, evS_setO, evS_app, evS_appR, evS_extO, evS_popT, evS_popO, evS_aug, evS_par, evS_ite, evS_for_, evS_forO, evS_while_, startS, List.length_cons, List.length_nil, List.map_cons, List.map_nil, List.replicate, List.cons_append, List.nil_append, List.getD_cons_zero, List.getD_cons_succ, List.set_cons_zero, List.set_cons_succ, R.bind_ok, R.opt_some, R.calm_ok, R.thenS_ok, rd_int, rd_bool, rd_none, rd_str, rd_tup, rd_lst, rd_frz, seq_thenS, fin_thenS, seq_ite, fin_ite, RS.seq_next, RS.seq_ret, RS.fin_ret, RS.fin_next, Option.map_some, Option.bind_some, truthV_bool, truthV_int, truthV_none, setT_name, setT_tup, setTs_nil, setTs_cons, wipe_nil, wipe_cons, ix_l, ix_t, ix_f, at_l0, at_l1, at_l2, at_l3, add_i, sub_i, lt_i, le_i, gt_i, ge_i, eq_i, ne_i, is_n, isnot_n, isNone, len_t, len_l, len_f, tuple_t, tuple_l, tuple_f, list_t, list_l, list_f, int_i, abs_i, max_i, min_i, sum_l, sum_t, isi_int, isi_bool, isi_tup, isi_lst, isi_str, isi_none, slice_l, slice_t, slice_f, ixO_no, ixO_int, satT_thenS, satT_next, satT_ret, sat_thenS, sat_next, sat_ret, evP_nil, evP_name, evP_item, R.tot_bind, R.tot_ok, Nat.reduceAdd, Nat.reduceSub, Bool.not_true, Bool.not_false, if_true, Bool.false_eq_true, if_false]
      have hr : ∃ r : Int, 1 ≤ r ∧ r ≤ 2 ∧ ∀ Γ : Calls, (if decide (kd < 5) = true then (R.ok (Val.int 1) G1) else (R.ok (Val.int 2) G1)) = .ok (.int r) G1 := by
        by_cases q : kd < 5
        · exact ⟨1, by omega, by omega, fun _ => by rw [if_pos (decide_eq_true q)]⟩
        · exact ⟨2, by omega, by omega, fun _ => by rw [if_neg (by simpa using q)]⟩
      obtain ⟨r, r0, r1, hr⟩ := hr
      rw [hr (callN P k)]
      try simp only [evSs_cons, evSs_nil, evE_var, evE_own, evE_con, evE_tup, evE_lst, evE_bin, evE_neg, evE_cmp, evE_cmp2, evE_not, evE_and, evE_or, evE_ite, evE_idx, evE_slice, evE_call, evE_bcall, evE_isi, evE_comp, evE_heap, evE_stop, evEs_nil, evEs_cons, evI_of, evI_rng1, evI_rng2, evI_zip, evI_enum, evS_stop, evS_exp, evS_ret, evS_retO, evS_retN, evS_pass, evS_brk, evS_cont, evS_asg, evS_asgOwn, evS_setR, evS_setO, evS_app, evS_appR, evS_extO, evS_popT, evS_popO, evS_aug, evS_par, evS_ite, evS_for_, evS_forO, evS_while_, startS, List.length_cons, List.length_nil, List.map_cons, List.map_nil, List.replicate, List.cons_append, List.nil_append, List.getD_cons_zero, List.getD_cons_succ, List.set_cons_zero, List.set_cons_succ, R.bind_ok, R.opt_some, R.calm_ok, R.thenS_ok, rd_int, rd_bool, rd_none, rd_str, rd_tup, rd_lst, rd_frz, seq_thenS, fin_thenS, seq_ite, fin_ite, RS.seq_next, RS.seq_ret, RS.fin_ret, RS.fin_next, Option.map_some, Option.bind_some, truthV_bool, truthV_int, truthV_none, setT_name, setT_tup, setTs_nil, setTs_cons, wipe_nil, wipe_cons, ix_l, ix_t, ix_f, at_l0, at_l1, at_l2, at_l3, add_i, sub_i, lt_i, le_i, gt_i, ge_i, eq_i, ne_i, is_n, isnot_n, isNone, len_t, len_l, len_f, tuple_t, tuple_l, tuple_f, list_t, list_l, list_f, int_i, abs_i, max_i, min_i, sum_l, sum_t, isi_int, isi_bool, isi_tup, isi_lst, isi_str, isi_none, slice_l, slice_t, slice_f, ixO_no, ixO_int, satT_thenS, satT_next, satT_ret, sat_thenS, sat_next, sat_ret, evP_nil, evP_name, evP_item, R.tot_bind, R.tot_ok, Nat.reduceAdd, Nat.reduceSub, Bool.not_true, Bool.not_false, if_true, Bool.false_eq_true, if_false]
      rw [rngK_ok (by decide) (by decide) (by unfold p62; omega) (by unfold p62; omega)]
      try simp only [evSs_cons, evSs_nil, evE_var, evE_own, evE_con, evE_tup, evE_lst, evE_bin, evE_neg, evE_cmp, evE_cmp2, evE_not, evE_and, evE_or, evE_ite, evE_idx, evE_slice, evE_call, evE_bcall, evE_isi, evE_comp, evE_heap, evE_stop, evEs_nil, evEs_cons, evI_of, evI_rng1, evI_rng2, evI_zip, evI_enum, evS_stop, evS_exp, evS_ret, evS_retO, evS_retN, evS_pass, evS_brk, evS_cont, evS_asg, evS_asgOwn, evS_setR, evS_setO, evS_app, evS_appR, evS_extO, evS_popT, evS_popO, evS_aug, evS_par, evS_ite, evS_for_, evS_forO, evS_while_, startS, List.length_cons, List.length_nil, List.map_cons, List.map_nil, List.replicate, List.cons_append, List.nil_append, List.getD_cons_zero, List.getD_cons_succ, List.set_cons_zero, List.set_cons_succ, R.bind_ok, R.opt_some, R.calm_ok, R.thenS_ok, rd_int, rd_bool, rd_none, rd_str, rd_tup, rd_lst, rd_frz, seq_thenS, fin_thenS, seq_ite, fin_ite, RS.seq_next, RS.seq_ret, RS.fin_ret, RS.fin_next, Option.map_some, Option.bind_some, truthV_bool, truthV_int, truthV_none, setT_name, setT_tup, setTs_nil, setTs_cons, wipe_nil, wipe_cons, ix_l, ix_t, ix_f, at_l0, at_l1, at_l2, at_l3, add_i, sub_i, lt_i, le_i, gt_i, ge_i, eq_i, ne_i, is_n, isnot_n, isNone, len_t, len_l, len_f, tuple_t, tuple_l, tuple_f, list_t, list_l, list_f, int_i, abs_i, max_i, min_i, sum_l, sum_t, isi_int, isi_bool, isi_tup, isi_lst, isi_str, isi_none, slice_l, slice_t, slice_f, ixO_no, ixO_int, satT_thenS, satT_next, satT_ret, sat_thenS, sat_next, sat_ret, evP_nil, evP_name, evP_item, R.tot_bind, R.tot_ok, Nat.reduceAdd, Nat.reduceSub, Bool.not_true, Bool.not_false, if_true, Bool.false_eq_true, if_false]
      have hvl : (vInts cs).length = cs.length := List.length_map ..
      rw [hvl]
      refine seq_sat (N := fun s G' => (∃ b c d e, s = [.val (.ref n), .val (.ref m), .val (.int cs.length), .val (.int kd), b, c, d, e]) ∧ Tu n m cs.length G G') (forR_sat (fun j s G' => (∃ b c d e, s = [.val (.ref n), .val (.ref m), .val (.int cs.length), .val (.int kd), b, c, d, e]) ∧ Tu n m cs.length G G') ?_ ?_ ⟨⟨_, _, _, _, rfl⟩, t1⟩) ?_
      · rintro j x s G2 hx ⟨⟨b, c, d, e, rfl⟩, t2⟩
        refine ⟨_, rfl, ?_⟩
        simp only [evSs_cons, evSs_nil, evE_var, evE_own, evE_con, evE_tup, evE_lst, evE_bin, evE_neg, evE_cmp, evE_cmp2, evE_not, evE_and, evE_or, evE_ite, evE_idx, evE_slice, evE_call, evE_bcall, evE_isi, evE_comp, evE_heap, evE_stop, evEs_nil, evEs_cons, evI_of, evI_rng1, evI_rng2, evI_zip, evI_enum, evS_stop, evS_exp, evS_ret, evS_retO, evS_retN, evS_pass, evS_brk, evS_cont, evS_asg, evS_asgOwn, evS_setR, evS_setO, evS_app, evS_appR, evS_extO, evS_popT, evS_popO, evS_aug, evS_par, evS_ite, evS_for_, evS_forO, evS_while_, startS, List.length_cons, List.length_nil, List.map_cons, List.map_nil, List.replicate, List.cons_append, List.nil_append, List.getD_cons_zero, List.getD_cons_succ, List.set_cons_zero, List.set_cons_succ, R.bind_ok, R.opt_some, R.calm_ok, R.thenS_ok, rd_int, rd_bool, rd_none, rd_str, rd_tup, rd_lst, rd_frz, seq_thenS, fin_thenS, seq_ite, fin_ite, RS.seq_next, RS.seq_ret, RS.fin_ret, RS.fin_next, Option.map_some, Option.bind_some, truthV_bool, truthV_int, truthV_none, setT_name, setT_tup, setTs_nil, setTs_cons, wipe_nil, wipe_cons, ix_l, ix_t, ix_f, at_l0, at_l1, at_l2, at_l3, add_i, sub_i, lt_i, le_i, gt_i, ge_i, eq_i, ne_i, is_n, isnot_n, isNone, len_t, len_l, len_f, tuple_t, tuple_l, tuple_f, list_t, list_l, list_f, int_i, abs_i, max_i, min_i, sum_l, sum_t, isi_int, isi_bool, isi_tup, isi_lst, isi_str, isi_none, slice_l, slice_t, slice_f, ixO_no, ixO_int, satT_thenS, satT_next, satT_ret, sat_thenS, sat_next, sat_ret, evP_nil, evP_name, evP_item, R.tot_bind, R.tot_ok, Nat.reduceAdd, Nat.reduceSub, Bool.not_true, Bool.not_false, if_true, Bool.false_eq_true, if_false]
        refine R.tot_mono (draw_ok _ t2.well (by omega) (by unfold p64; omega)) fun v G3 d3 => ?_
        have t3 := t2.dr hm d3
        obtain ⟨h3, k3, q, e, q0, q1⟩ := d3
        subst e
        try simp only [evSs_cons, evSs_nil, evE_var, evE_own, evE_con, evE_tup, evE_lst, evE_bin, evE_neg, evE_cmp, evE_cmp2, evE_not, evE_and, evE_or, evE_ite, evE_idx, evE_slice, evE_call, evE_bcall, evE_isi, evE_comp, evE_heap, evE_stop, evEs_nil, evEs_cons, evI_of, evI_rng1, evI_rng2, evI_zip, evI_enum, evS_stop, evS_exp, evS_ret, evS_retO, evS_retN, evS_pass, evS_brk, evS_cont, evS_asg, evS_asgOwn, evS_setR, evS_setO, evS_app, evS_appR, evS_extO, evS_popT, evS_popO, evS_aug, evS_par, evS_ite, evS_for_, evS_forO, evS_while_, startS, List.length_cons, List.length_nil, List.map_cons, List.map_nil, List.replicate, List.cons_append, List.nil_append, List.getD_cons_zero, List.getD_cons_succ, List.set_cons_zero, List.set_cons_succ, R.bind_ok, R.opt_some, R.calm_ok, R.thenS_ok, rd_int, rd_bool, rd_none, rd_str, rd_tup, rd_lst, rd_frz, seq_thenS, fin_thenS, seq_ite, fin_ite, RS.seq_next, RS.seq_ret, RS.fin_ret, RS.fin_next, Option.map_some, Option.bind_some, truthV_bool, truthV_int, truthV_none, setT_name, setT_tup, setTs_nil, setTs_cons, wipe_nil, wipe_cons, ix_l, ix_t, ix_f, at_l0, at_l1, at_l2, at_l3, add_i, sub_i, lt_i, le_i, gt_i, ge_i, eq_i, ne_i, is_n, isnot_n, isNone, len_t, len_l, len_f, tuple_t, tuple_l, tuple_f, list_t, list_l, list_f, int_i, abs_i, max_i, min_i, sum_l, sum_t, isi_int, isi_bool, isi_tup, isi_lst, isi_str, isi_none, slice_l, slice_t, slice_f, ixO_no, ixO_int, satT_thenS, satT_next, satT_ret, sat_thenS, sat_next, sat_ret, evP_nil, evP_name, evP_item, R.tot_bind, R.tot_ok, Nat.reduceAdd, Nat.reduceSub, Bool.not_true, Bool.not_false, if_true, Bool.false_eq_true, if_false]
        refine R.tot_mono (pick_ok _ h3 (by simp) (by unfold p64; simp)) fun v G4 d4 => ?_
        have t4 := t3.dr hm d4
        obtain ⟨h4, k4, hv⟩ := d4
        have hs : ∃ sp : Int, v = .int sp ∧ 0 ≤ sp ∧ sp < cs.length := by
          simp only [List.mem_cons, List.not_mem_nil, or_false] at hv
          rcases hv with e | e | e | e | e | e | e <;> exact ⟨_, e, by omega, by omega⟩
        obtain ⟨sp, e, s0, s1⟩ := hs
        subst e
        obtain ⟨cs4, l4, r4⟩ := t4.get
        obtain ⟨y, ey⟩ := atV (cs := cs4) s0 (by omega)
        obtain ⟨y0, ey0⟩ := atV (cs := cs4) (k := 0) (by omega) (by omega)
        obtain ⟨y1, ey1⟩ := atV (cs := cs4) (k := 1) (by omega) (by omega)
        simp only [evSs_cons, evSs_nil, evE_var, evE_own, evE_con, evE_tup, evE_lst, evE_bin, evE_neg, evE_cmp, evE_cmp2, evE_not, evE_and, evE_or, evE_ite, evE_idx, evE_slice, evE_call, evE_bcall, evE_isi, evE_comp, evE_heap, evE_stop, evEs_nil, evEs_cons, evI_of, evI_rng1, evI_rng2, evI_zip, evI_enum, evS_stop, evS_exp, evS_ret, evS_retO, evS_retN, evS_pass, evS_brk, evS_cont, evS_asg, evS_asgOwn, evS_setR, evS_setO, evS_app, evS_appR, evS_extO, evS_popT, evS_popO, evS_aug, evS_par, evS_ite, evS_for_, evS_forO, evS_while_, startS, List.length_cons, List.length_nil, List.map_cons, List.map_nil, List.replicate, List.cons_append, List.nil_append, List.getD_cons_zero, List.getD_cons_succ, List.set_cons_zero, List.set_cons_succ, R.bind_ok, R.opt_some, R.calm_ok, R.thenS_ok, rd_int, rd_bool, rd_none, rd_str, rd_tup, rd_lst, rd_frz, seq_thenS, fin_thenS, seq_ite, fin_ite, RS.seq_next, RS.seq_ret, RS.fin_ret, RS.fin_next, Option.map_some, Option.bind_some, truthV_bool, truthV_int, truthV_none, setT_name, setT_tup, setTs_nil, setTs_cons, wipe_nil, wipe_cons, ix_l, ix_t, ix_f, at_l0, at_l1, at_l2, at_l3, add_i, sub_i, lt_i, le_i, gt_i, ge_i, eq_i, ne_i, is_n, isnot_n, isNone, len_t, len_l, len_f, tuple_t, tuple_l, tuple_f, list_t, list_l, list_f, int_i, abs_i, max_i, min_i, sum_l, sum_t, isi_int, isi_bool, isi_tup, isi_lst, isi_str, isi_none, slice_l, slice_t, slice_f, ixO_no, ixO_int, satT_thenS, satT_next, satT_ret, sat_thenS, sat_next, sat_ret, evP_nil, evP_name, evP_item, R.tot_bind, R.tot_ok, Nat.reduceAdd, Nat.reduceSub, Bool.not_true, Bool.not_false, if_true, Bool.false_eq_true, if_false, r4, ey, ey0, ey1]
        refine R.tot_mono (number_ok _ h4) fun v G5 d5 => ?_
        have t5 := t4.dr hm d5
        obtain ⟨h5, k5, z, e⟩ := d5
        subst e
        try simp only [evSs_cons, evSs_nil, evE_var, evE_own, evE_con, evE_tup, evE_lst, evE_bin, evE_neg, evE_cmp, evE_cmp2, evE_not, evE_and, evE_or, evE_ite, evE_idx, evE_slice, evE_call, evE_bcall, evE_isi, evE_comp, evE_heap, evE_stop, evEs_nil, evEs_cons, evI_of, evI_rng1, evI_rng2, evI_zip, evI_enum, evS_stop, evS_exp, evS_ret, evS_retO, evS_retN, evS_pass, evS_brk, evS_cont, evS_asg, evS_asgOwn, evS_setR, evS_setO, evS_app, evS_appR, evS_extO, evS_popT, evS_popO, evS_aug, evS_par, evS_ite, evS_for_, evS_forO, evS_while_, startS, List.length_cons, List.length_nil, List.map_cons, List.map_nil, List.replicate, List.cons_append, List.nil_append, List.getD_cons_zero, List.getD_cons_succ, List.set_cons_zero, List.set_cons_succ, R.bind_ok, R.opt_some, R.calm_ok, R.thenS_ok, rd_int, rd_bool, rd_none, rd_str, rd_tup, rd_lst, rd_frz, seq_thenS, fin_thenS, seq_ite, fin_ite, RS.seq_next, RS.seq_ret, RS.fin_ret, RS.fin_next, Option.map_some, Option.bind_some, truthV_bool, truthV_int, truthV_none, setT_name, setT_tup, setTs_nil, setTs_cons, wipe_nil, wipe_cons, ix_l, ix_t, ix_f, at_l0, at_l1, at_l2, at_l3, add_i, sub_i, lt_i, le_i, gt_i, ge_i, eq_i, ne_i, is_n, isnot_n, isNone, len_t, len_l, len_f, tuple_t, tuple_l, tuple_f, list_t, list_l, list_f, int_i, abs_i, max_i, min_i, sum_l, sum_t, isi_int, isi_bool, isi_tup, isi_lst, isi_str, isi_none, slice_l, slice_t, slice_f, ixO_no, ixO_int, satT_thenS, satT_next, satT_ret, sat_thenS, sat_next, sat_ret, evP_nil, evP_name, evP_item, R.tot_bind, R.tot_ok, Nat.reduceAdd, Nat.reduceSub, Bool.not_true, Bool.not_false, if_true, Bool.false_eq_true, if_false]
        refine R.tot_mono (pick_ok _ h5 (by simp) (by unfold p64; simp)) fun v G6 d6 => ?_
        have t6 := t5.dr hm d6
        obtain ⟨h6, k6, hv⟩ := d6
        have hs : ∃ u : Int, v = .int u := by
          simp only [List.mem_cons, List.not_mem_nil, or_false] at hv
          rcases hv with e | e | e | e | e | e | e <;> exact ⟨_, e⟩
        obtain ⟨u, e⟩ := hs
        subst e
        obtain ⟨G7, s7, t7⟩ := t6.set hm sp u (by omega) (by omega)
        simp only [evSs_cons, evSs_nil, evE_var, evE_own, evE_con, evE_tup, evE_lst, evE_bin, evE_neg, evE_cmp, evE_cmp2, evE_not, evE_and, evE_or, evE_ite, evE_idx, evE_slice, evE_call, evE_bcall, evE_isi, evE_comp, evE_heap, evE_stop, evEs_nil, evEs_cons, evI_of, evI_rng1, evI_rng2, evI_zip, evI_enum, evS_stop, evS_exp, evS_ret, evS_retO, evS_retN, evS_pass, evS_brk, evS_cont, evS_asg, evS_asgOwn, evS_setR, evS_setO, evS_app, evS_appR, evS_extO, evS_popT, evS_popO, evS_aug, evS_par, evS_ite, evS_for_, evS_forO, evS_while_, startS, List.length_cons, List.length_nil, List.map_cons, List.map_nil, List.replicate, List.cons_append, List.nil_append, List.getD_cons_zero, List.getD_cons_succ, List.set_cons_zero, List.set_cons_succ, R.bind_ok, R.opt_some, R.calm_ok, R.thenS_ok, rd_int, rd_bool, rd_none, rd_str, rd_tup, rd_lst, rd_frz, seq_thenS, fin_thenS, seq_ite, fin_ite, RS.seq_next, RS.seq_ret, RS.fin_ret, RS.fin_next, Option.map_some, Option.bind_some, truthV_bool, truthV_int, truthV_none, setT_name, setT_tup, setTs_nil, setTs_cons, wipe_nil, wipe_cons, ix_l, ix_t, ix_f, at_l0, at_l1, at_l2, at_l3, add_i, sub_i, lt_i, le_i, gt_i, ge_i, eq_i, ne_i, is_n, isnot_n, isNone, len_t, len_l, len_f, tuple_t, tuple_l, tuple_f, list_t, list_l, list_f, int_i, abs_i, max_i, min_i, sum_l, sum_t, isi_int, isi_bool, isi_tup, isi_lst, isi_str, isi_none, slice_l, slice_t, slice_f, ixO_no, ixO_int, satT_thenS, satT_next, satT_ret, sat_thenS, sat_next, sat_ret, evP_nil, evP_name, evP_item, R.tot_bind, R.tot_ok, Nat.reduceAdd, Nat.reduceSub, Bool.not_true, Bool.not_false, if_true, Bool.false_eq_true, if_false, s7]
        exact ⟨⟨_, _, _, _, rfl⟩, t7⟩
      · exact fun s G2 q => q
      · rintro s G2 ⟨⟨b, c, d, e, rfl⟩, t2⟩
        simp only [evSs_cons, evSs_nil, evE_var, evE_own, evE_con, evE_tup, evE_lst, evE_bin, evE_neg, evE_cmp, evE_cmp2, evE_not, evE_and, evE_or, evE_ite, evE_idx, evE_slice, evE_call, evE_bcall, evE_isi, evE_comp, evE_heap, evE_stop, evEs_nil, evEs_cons, evI_of, evI_rng1, evI_rng2, evI_zip, evI_enum, evS_stop, evS_exp, evS_ret, evS_retO, evS_retN, evS_pass, evS_brk, evS_cont, evS_asg, evS_asgOwn, evS_setR, evS_setO, evS_app, evS_appR, evS_extO, evS_popT, evS_popO, evS_aug, evS_par, evS_ite, evS_for_, evS_forO, evS_while_, startS, List.length_cons, List.length_nil, List.map_cons, List.map_nil, List.replicate, List.cons_append, List.nil_append, List.getD_cons_zero, List.getD_cons_succ, List.set_cons_zero, List.set_cons_succ, R.bind_ok, R.opt_some, R.calm_ok, R.thenS_ok, rd_int, rd_bool, rd_none, rd_str, rd_tup, rd_lst, rd_frz, seq_thenS, fin_thenS, seq_ite, fin_ite, RS.seq_next, RS.seq_ret, RS.fin_ret, RS.fin_next, Option.map_some, Option.bind_some, truthV_bool, truthV_int, truthV_none, setT_name, setT_tup, setTs_nil, setTs_cons, wipe_nil, wipe_cons, ix_l, ix_t, ix_f, at_l0, at_l1, at_l2, at_l3, add_i, sub_i, lt_i, le_i, gt_i, ge_i, eq_i, ne_i, is_n, isnot_n, isNone, len_t, len_l, len_f, tuple_t, tuple_l, tuple_f, list_t, list_l, list_f, int_i, abs_i, max_i, min_i, sum_l, sum_t, isi_int, isi_bool, isi_tup, isi_lst, isi_str, isi_none, slice_l, slice_t, slice_f, ixO_no, ixO_int, satT_thenS, satT_next, satT_ret, sat_thenS, sat_next, sat_ret, evP_nil, evP_name, evP_item, R.tot_bind, R.tot_ok, Nat.reduceAdd, Nat.reduceSub, Bool.not_true, Bool.not_false, if_true, Bool.false_eq_true, if_false]
        exact ⟨by first | rfl | trivial, t2⟩
end Fx.Law

namespace Fx.Law
open PySem PySem.Spec PyProof.Rows L2 Fx
/-- a list of ints, a value or at a place apart from the well -/
def LV (n : Nat) (G : Heap) (v : Val) (L : Int) : Prop := ∃ cs : List Int, (cs.length : Int) = L ∧ (v = .lst (vInts cs) ∨ ∃ m, v = .ref m ∧ m ≠ n ∧ G[m]? = some (.lst (vInts cs)))
theorem LV.keep {n : Nat} {G G' : Heap} {v : Val} {L : Int} (h : LV n G v L) (k : Keep n G G') : LV n G' v L := by
  obtain ⟨cs, hl, h | ⟨m, e, hm, h⟩⟩ := h
  · exact ⟨cs, hl, .inl h⟩
  · exact ⟨cs, hl, .inr ⟨m, e, hm, (k.at_ m hm (List.getElem?_eq_some_iff.mp h).1).trans h⟩⟩
theorem LV.rd {n : Nat} {G : Heap} {v : Val} {L : Int} (h : LV n G v L) : ∃ cs : List Int, (cs.length : Int) = L ∧ rd G v = .lst (vInts cs) := by
  obtain ⟨cs, hl, h | ⟨m, e, hm, h⟩⟩ := h
  · exact ⟨cs, hl, by rw [h]; rfl⟩
  · exact ⟨cs, hl, by rw [e]; exact rd_ref h⟩
theorem slot_ok (k : Nat) {G : Heap} {n : Nat} {w : Int} (h : Well G n) (w0 : 26 ≤ w) (w1 : w ≤ 32) : (callN P (k+4) "_law_slot" [.ref n, .int w] G).tot (Dr n G fun v G' => LV n G' v (w + 4)) := by
  rw [call_eq pw_law_slot _ _ _ rfl]
  simp only [Bw_law_slot, evSs_cons, evSs_nil, evE_var, evE_own, evE_con, evE_tup, evE_lst, evE_bin, evE_neg, evE_cmp, evE_cmp2, evE_not, evE_and, evE_or, evE_ite, evE_idx, evE_slice, evE_call, evE_bcall, evE_isi, evE_comp, evE_heap, evE_stop, evEs_nil, evEs_cons, evI_of, evI_rng1, evI_rng2, evI_zip, evI_enum, evS_stop, evS_exp, evS_ret, evS_retO, evS_retN, evS_pass, evS_brk, evS_cont, evS_asg, evS_asgOwn, evS_setR, evS_setO, evS_app, evS_appR, evS_extO, evS_popT, evS_popO, evS_aug, evS_par, evS_ite, evS_for_, evS_forO, evS_while_, startS, List.length_cons, List.length_nil, List.map_cons, List.map_nil, List.replicate, List.cons_append, List.nil_append, List.getD_cons_zero, List.getD_cons_succ, List.set_cons_zero, List.set_cons_succ, R.bind_ok, R.opt_some, R.calm_ok, R.thenS_ok, rd_int, rd_bool, rd_none, rd_str, rd_tup, rd_lst, rd_frz, seq_thenS, fin_thenS, seq_ite, fin_ite, RS.seq_next, RS.seq_ret, RS.fin_ret, RS.fin_next, Option.map_some, Option.bind_some, truthV_bool, truthV_int, truthV_none, setT_name, setT_tup, setTs_nil, setTs_cons, wipe_nil, wipe_cons, ix_l, ix_t, ix_f, at_l0, at_l1, at_l2, at_l3, add_i, sub_i, lt_i, le_i, gt_i, ge_i, eq_i, ne_i, is_n, isnot_n, isNone, len_t, len_l, len_f, tuple_t, tuple_l, tuple_f, list_t, list_l, list_f, int_i, abs_i, max_i, min_i, sum_l, sum_t, isi_int, isi_bool, isi_tup, isi_lst, isi_str, isi_none, slice_l, slice_t, slice_f, ixO_no, ixO_int, satT_thenS, satT_next, satT_ret, sat_thenS, sat_next, sat_ret, evP_nil, evP_name, evP_item, R.tot_bind, R.tot_ok, Nat.reduceAdd, Nat.reduceSub, Bool.not_true, Bool.not_false, if_true, Bool.false_eq_true, if_false]
  refine R.tot_mono (draw_ok _ h (by omega) (by decide)) fun v G1 ⟨h1, k1, i, e, _, _⟩ => ?_
  subst e
  try simp only [evSs_cons, evSs_nil, evE_var, evE_own, evE_con, evE_tup, evE_lst, evE_bin, evE_neg, evE_cmp, evE_cmp2, evE_not, evE_and, evE_or, evE_ite, evE_idx, evE_slice, evE_call, evE_bcall, evE_isi, evE_comp, evE_heap, evE_stop, evEs_nil, evEs_cons, evI_of, evI_rng1, evI_rng2, evI_zip, evI_enum, evS_stop, evS_exp, evS_ret, evS_retO, evS_retN, evS_pass, evS_brk, evS_cont, evS_asg, evS_asgOwn, evS_setR, evS_setO, evS_app, evS_appR, evS_extO, evS_popT, evS_popO, evS_aug, evS_par, evS_ite, evS_for_, evS_forO, evS_while_, startS, List.length_cons, List.length_nil, List.map_cons, List.map_nil, List.replicate, List.cons_append, List.nil_append, List.getD_cons_zero, List.getD_cons_succ, List.set_cons_zero, List.set_cons_succ, R.bind_ok, R.opt_some, R.calm_ok, R.thenS_ok, rd_int, rd_bool, rd_none, rd_str, rd_tup, rd_lst, rd_frz, seq_thenS, fin_thenS, seq_ite, fin_ite, RS.seq_next, RS.seq_ret, RS.fin_ret, RS.fin_next, Option.map_some, Option.bind_some, truthV_bool, truthV_int, truthV_none, setT_name, setT_tup, setTs_nil, setTs_cons, wipe_nil, wipe_cons, ix_l, ix_t, ix_f, at_l0, at_l1, at_l2, at_l3, add_i, sub_i, lt_i, le_i, gt_i, ge_i, eq_i, ne_i, is_n, isnot_n, isNone, len_t, len_l, len_f, tuple_t, tuple_l, tuple_f, list_t, list_l, list_f, int_i, abs_i, max_i, min_i, sum_l, sum_t, isi_int, isi_bool, isi_tup, isi_lst, isi_str, isi_none, slice_l, slice_t, slice_f, ixO_no, ixO_int, satT_thenS, satT_next, satT_ret, sat_thenS, sat_next, sat_ret, evP_nil, evP_name, evP_item, R.tot_bind, R.tot_ok, Nat.reduceAdd, Nat.reduceSub, Bool.not_true, Bool.not_false, if_true, Bool.false_eq_true, if_false]
  split
  · have hr := rep_l [.int 0] (w + 4) (by
      simp only [Bool.and_eq_true, decide_eq_true_eq, List.length_cons, List.length_nil]
      refine ⟨⟨by omega, by omega⟩, ?_⟩
      unfold lineN
      omega)
    simp only [evSs_cons, evSs_nil, evE_var, evE_own, evE_con, evE_tup, evE_lst, evE_bin, evE_neg, evE_cmp, evE_cmp2, evE_not, evE_and, evE_or, evE_ite, evE_idx, evE_slice, evE_call, evE_bcall, evE_isi, evE_comp, evE_heap, evE_stop, evEs_nil, evEs_cons, evI_of, evI_rng1, evI_rng2, evI_zip, evI_enum, evS_stop, evS_exp, evS_ret, evS_retO, evS_retN, evS_pass, evS_brk, evS_cont, evS_asg, evS_asgOwn, evS_setR, evS_setO, evS_app, evS_appR, evS_extO, evS_popT, evS_popO, evS_aug, evS_par, evS_ite, evS_for_, evS_forO, evS_while_, startS, List.length_cons, List.length_nil, List.map_cons, List.map_nil, List.replicate, List.cons_append, List.nil_append, List.getD_cons_zero, List.getD_cons_succ, List.set_cons_zero, List.set_cons_succ, R.bind_ok, R.opt_some, R.calm_ok, R.thenS_ok, rd_int, rd_bool, rd_none, rd_str, rd_tup, rd_lst, rd_frz, seq_thenS, fin_thenS, seq_ite, fin_ite, RS.seq_next, RS.seq_ret, RS.fin_ret, RS.fin_next, Option.map_some, Option.bind_some, truthV_bool, truthV_int, truthV_none, setT_name, setT_tup, setTs_nil, setTs_cons, wipe_nil, wipe_cons, ix_l, ix_t, ix_f, at_l0, at_l1, at_l2, at_l3, add_i, sub_i, lt_i, le_i, gt_i, ge_i, eq_i, ne_i, is_n, isnot_n, isNone, len_t, len_l, len_f, tuple_t, tuple_l, tuple_f, list_t, list_l, list_f, int_i, abs_i, max_i, min_i, sum_l, sum_t, isi_int, isi_bool, isi_tup, isi_lst, isi_str, isi_none, slice_l, slice_t, slice_f, ixO_no, ixO_int, satT_thenS, satT_next, satT_ret, sat_thenS, sat_next, sat_ret, evP_nil, evP_name, evP_item, R.tot_bind, R.tot_ok, Nat.reduceAdd, Nat.reduceSub, Bool.not_true, Bool.not_false, if_true, Bool.false_eq_true, if_false, hr]
    refine ⟨h1, k1, (List.replicate (w + 4).toNat [0]).flatten, by rw [flat_len]; simp; omega, .inl ?_⟩
    rw [← flat_ints]; rfl
  · try simp only [evSs_cons, evSs_nil, evE_var, evE_own, evE_con, evE_tup, evE_lst, evE_bin, evE_neg, evE_cmp, evE_cmp2, evE_not, evE_and, evE_or, evE_ite, evE_idx, evE_slice, evE_call, evE_bcall, evE_isi, evE_comp, evE_heap, evE_stop, evEs_nil, evEs_cons, evI_of, evI_rng1, evI_rng2, evI_zip, evI_enum, evS_stop, evS_exp, evS_ret, evS_retO, evS_retN, evS_pass, evS_brk, evS_cont, evS_asg, evS_asgOwn, evS_setR, evS_setO, evS_app, evS_appR, evS_extO, evS_popT, evS_popO, evS_aug, evS_par, evS_ite, evS_for_, evS_forO, evS_while_, startS, List.length_cons, List.length_nil, List.map_cons, List.map_nil, List.replicate, List.cons_append, List.nil_append, List.getD_cons_zero, List.getD_cons_succ, List.set_cons_zero, List.set_cons_succ, R.bind_ok, R.opt_some, R.calm_ok, R.thenS_ok, rd_int, rd_bool, rd_none, rd_str, rd_tup, rd_lst, rd_frz, seq_thenS, fin_thenS, seq_ite, fin_ite, RS.seq_next, RS.seq_ret, RS.fin_ret, RS.fin_next, Option.map_some, Option.bind_some, truthV_bool, truthV_int, truthV_none, setT_name, setT_tup, setTs_nil, setTs_cons, wipe_nil, wipe_cons, ix_l, ix_t, ix_f, at_l0, at_l1, at_l2, at_l3, add_i, sub_i, lt_i, le_i, gt_i, ge_i, eq_i, ne_i, is_n, isnot_n, isNone, len_t, len_l, len_f, tuple_t, tuple_l, tuple_f, list_t, list_l, list_f, int_i, abs_i, max_i, min_i, sum_l, sum_t, isi_int, isi_bool, isi_tup, isi_lst, isi_str, isi_none, slice_l, slice_t, slice_f, ixO_no, ixO_int, satT_thenS, satT_next, satT_ret, sat_thenS, sat_next, sat_ret, evP_nil, evP_name, evP_item, R.tot_bind, R.tot_ok, Nat.reduceAdd, Nat.reduceSub, Bool.not_true, Bool.not_false, if_true, Bool.false_eq_true, if_false]
    refine R.tot_mono (filled_ok k h1 w0 w1) fun v G2 ⟨h2, k2, m, cs, e, hm, hc, hl⟩ => ?_
    subst e
    have hn : m ≠ n := fun z => by have := h1.lt; omega
    try simp only [evSs_cons, evSs_nil, evE_var, evE_own, evE_con, evE_tup, evE_lst, evE_bin, evE_neg, evE_cmp, evE_cmp2, evE_not, evE_and, evE_or, evE_ite, evE_idx, evE_slice, evE_call, evE_bcall, evE_isi, evE_comp, evE_heap, evE_stop, evEs_nil, evEs_cons, evI_of, evI_rng1, evI_rng2, evI_zip, evI_enum, evS_stop, evS_exp, evS_ret, evS_retO, evS_retN, evS_pass, evS_brk, evS_cont, evS_asg, evS_asgOwn, evS_setR, evS_setO, evS_app, evS_appR, evS_extO, evS_popT, evS_popO, evS_aug, evS_par, evS_ite, evS_for_, evS_forO, evS_while_, startS, List.length_cons, List.length_nil, List.map_cons, List.map_nil, List.replicate, List.cons_append, List.nil_append, List.getD_cons_zero, List.getD_cons_succ, List.set_cons_zero, List.set_cons_succ, R.bind_ok, R.opt_some, R.calm_ok, R.thenS_ok, rd_int, rd_bool, rd_none, rd_str, rd_tup, rd_lst, rd_frz, seq_thenS, fin_thenS, seq_ite, fin_ite, RS.seq_next, RS.seq_ret, RS.fin_ret, RS.fin_next, Option.map_some, Option.bind_some, truthV_bool, truthV_int, truthV_none, setT_name, setT_tup, setTs_nil, setTs_cons, wipe_nil, wipe_cons, ix_l, ix_t, ix_f, at_l0, at_l1, at_l2, at_l3, add_i, sub_i, lt_i, le_i, gt_i, ge_i, eq_i, ne_i, is_n, isnot_n, isNone, len_t, len_l, len_f, tuple_t, tuple_l, tuple_f, list_t, list_l, list_f, int_i, abs_i, max_i, min_i, sum_l, sum_t, isi_int, isi_bool, isi_tup, isi_lst, isi_str, isi_none, slice_l, slice_t, slice_f, ixO_no, ixO_int, satT_thenS, satT_next, satT_ret, sat_thenS, sat_next, sat_ret, evP_nil, evP_name, evP_item, R.tot_bind, R.tot_ok, Nat.reduceAdd, Nat.reduceSub, Bool.not_true, Bool.not_false, if_true, Bool.false_eq_true, if_false]
    split
    · try simp only [evSs_cons, evSs_nil, evE_var, evE_own, evE_con, evE_tup, evE_lst, evE_bin, evE_neg, evE_cmp, evE_cmp2, evE_not, evE_and, evE_or, evE_ite, evE_idx, evE_slice, evE_call, evE_bcall, evE_isi, evE_comp, evE_heap, evE_stop, evEs_nil, evEs_cons, evI_of, evI_rng1, evI_rng2, evI_zip, evI_enum, evS_stop, evS_exp, evS_ret, evS_retO, evS_retN, evS_pass, evS_brk, evS_cont, evS_asg, evS_asgOwn, evS_setR, evS_setO, evS_app, evS_appR, evS_extO, evS_popT, evS_popO, evS_aug, evS_par, evS_ite, evS_for_, evS_forO, evS_while_, startS, List.length_cons, List.length_nil, List.map_cons, List.map_nil, List.replicate, List.cons_append, List.nil_append, List.getD_cons_zero, List.getD_cons_succ, List.set_cons_zero, List.set_cons_succ, R.bind_ok, R.opt_some, R.calm_ok, R.thenS_ok, rd_int, rd_bool, rd_none, rd_str, rd_tup, rd_lst, rd_frz, seq_thenS, fin_thenS, seq_ite, fin_ite, RS.seq_next, RS.seq_ret, RS.fin_ret, RS.fin_next, Option.map_some, Option.bind_some, truthV_bool, truthV_int, truthV_none, setT_name, setT_tup, setTs_nil, setTs_cons, wipe_nil, wipe_cons, ix_l, ix_t, ix_f, at_l0, at_l1, at_l2, at_l3, add_i, sub_i, lt_i, le_i, gt_i, ge_i, eq_i, ne_i, is_n, isnot_n, isNone, len_t, len_l, len_f, tuple_t, tuple_l, tuple_f, list_t, list_l, list_f, int_i, abs_i, max_i, min_i, sum_l, sum_t, isi_int, isi_bool, isi_tup, isi_lst, isi_str, isi_none, slice_l, slice_t, slice_f, ixO_no, ixO_int, satT_thenS, satT_next, satT_ret, sat_thenS, sat_next, sat_ret, evP_nil, evP_name, evP_item, R.tot_bind, R.tot_ok, Nat.reduceAdd, Nat.reduceSub, Bool.not_true, Bool.not_false, if_true, Bool.false_eq_true, if_false]
      exact ⟨h2, k1.trans k2, cs, hl, .inr ⟨m, rfl, hn, hc⟩⟩
    · try simp only [evSs_cons, evSs_nil, evE_var, evE_own, evE_con, evE_tup, evE_lst, evE_bin, evE_neg, evE_cmp, evE_cmp2, evE_not, evE_and, evE_or, evE_ite, evE_idx, evE_slice, evE_call, evE_bcall, evE_isi, evE_comp, evE_heap, evE_stop, evEs_nil, evEs_cons, evI_of, evI_rng1, evI_rng2, evI_zip, evI_enum, evS_stop, evS_exp, evS_ret, evS_retO, evS_retN, evS_pass, evS_brk, evS_cont, evS_asg, evS_asgOwn, evS_setR, evS_setO, evS_app, evS_appR, evS_extO, evS_popT, evS_popO, evS_aug, evS_par, evS_ite, evS_for_, evS_forO, evS_while_, startS, List.length_cons, List.length_nil, List.map_cons, List.map_nil, List.replicate, List.cons_append, List.nil_append, List.getD_cons_zero, List.getD_cons_succ, List.set_cons_zero, List.set_cons_succ, R.bind_ok, R.opt_some, R.calm_ok, R.thenS_ok, rd_int, rd_bool, rd_none, rd_str, rd_tup, rd_lst, rd_frz, seq_thenS, fin_thenS, seq_ite, fin_ite, RS.seq_next, RS.seq_ret, RS.fin_ret, RS.fin_next, Option.map_some, Option.bind_some, truthV_bool, truthV_int, truthV_none, setT_name, setT_tup, setTs_nil, setTs_cons, wipe_nil, wipe_cons, ix_l, ix_t, ix_f, at_l0, at_l1, at_l2, at_l3, add_i, sub_i, lt_i, le_i, gt_i, ge_i, eq_i, ne_i, is_n, isnot_n, isNone, len_t, len_l, len_f, tuple_t, tuple_l, tuple_f, list_t, list_l, list_f, int_i, abs_i, max_i, min_i, sum_l, sum_t, isi_int, isi_bool, isi_tup, isi_lst, isi_str, isi_none, slice_l, slice_t, slice_f, ixO_no, ixO_int, satT_thenS, satT_next, satT_ret, sat_thenS, sat_next, sat_ret, evP_nil, evP_name, evP_item, R.tot_bind, R.tot_ok, Nat.reduceAdd, Nat.reduceSub, Bool.not_true, Bool.not_false, if_true, Bool.false_eq_true, if_false]
      refine R.tot_mono (turned_ok k h2 hn hc (by omega) (by omega)) fun v G3 ⟨e, t⟩ => ?_
      subst e
      try simp only [evSs_cons, evSs_nil, evE_var, evE_own, evE_con, evE_tup, evE_lst, evE_bin, evE_neg, evE_cmp, evE_cmp2, evE_not, evE_and, evE_or, evE_ite, evE_idx, evE_slice, evE_call, evE_bcall, evE_isi, evE_comp, evE_heap, evE_stop, evEs_nil, evEs_cons, evI_of, evI_rng1, evI_rng2, evI_zip, evI_enum, evS_stop, evS_exp, evS_ret, evS_retO, evS_retN, evS_pass, evS_brk, evS_cont, evS_asg, evS_asgOwn, evS_setR, evS_setO, evS_app, evS_appR, evS_extO, evS_popT, evS_popO, evS_aug, evS_par, evS_ite, evS_for_, evS_forO, evS_while_, startS, List.length_cons, List.length_nil, List.map_cons, List.map_nil, List.replicate, List.cons_append, List.nil_append, List.getD_cons_zero, List.getD_cons_succ, List.set_cons_zero, List.set_cons_succ, R.bind_ok, R.opt_some, R.calm_ok, R.thenS_ok, rd_int, rd_bool, rd_none, rd_str, rd_tup, rd_lst, rd_frz, seq_thenS, fin_thenS, seq_ite, fin_ite, RS.seq_next, RS.seq_ret, RS.fin_ret, RS.fin_next, Option.map_some, Option.bind_some, truthV_bool, truthV_int, truthV_none, setT_name, setT_tup, setTs_nil, setTs_cons, wipe_nil, wipe_cons, ix_l, ix_t, ix_f, at_l0, at_l1, at_l2, at_l3, add_i, sub_i, lt_i, le_i, gt_i, ge_i, eq_i, ne_i, is_n, isnot_n, isNone, len_t, len_l, len_f, tuple_t, tuple_l, tuple_f, list_t, list_l, list_f, int_i, abs_i, max_i, min_i, sum_l, sum_t, isi_int, isi_bool, isi_tup, isi_lst, isi_str, isi_none, slice_l, slice_t, slice_f, ixO_no, ixO_int, satT_thenS, satT_next, satT_ret, sat_thenS, sat_next, sat_ret, evP_nil, evP_name, evP_item, R.tot_bind, R.tot_ok, Nat.reduceAdd, Nat.reduceSub, Bool.not_true, Bool.not_false, if_true, Bool.false_eq_true, if_false]
      obtain ⟨cs3, l3, e3⟩ := t.cs
      refine ⟨t.well, k1.trans ⟨Nat.le_trans k2.len t.len, fun j hj hlt => ?_⟩, cs3, by rw [l3]; exact hl, .inr ⟨m, rfl, hn, e3⟩⟩
      have hlt2 : j < G2.length := Nat.lt_of_lt_of_le hlt k2.len
      exact (t.at_ j hj (by omega) hlt2).trans (k2.at_ j hj hlt)
end Fx.Law

namespace Fx.Law
open PySem PySem.Spec PyProof.Rows L2 Fx
def heldV (h c t : Int) (ws : List Int) (tl : Int) : Val :=
  if decide (h ≤ 0) || !decide (h = tl) || !(decide (0 ≤ c) && decide (c ≤ ws.length)) || !decide (t = h + c + ws.sum) || (ws.drop c.toNat).any (fun w => !decide (w = 0)) then .none
  else .tup [.int h, .tup (vInts (ws.take c.toNat))]
theorem at_tl (h c t : Int) (ws : List Int) (tl : Int) : atI (vInts (h :: c :: t :: (ws ++ [tl]))) (-1) = some (.int tl) := by
  rw [atI_neg (by omega) (by simp; omega)]
  have e : (-1 + ((vInts (h :: c :: t :: (ws ++ [tl]))).length : Int)).toNat = ws.length + 3 := by simp; omega
  rw [e]
  simp [vInts]
theorem cut_ws (h c t : Int) (ws : List Int) (tl : Int) : cutL (vInts (h :: c :: t :: (ws ++ [tl]))) (some 3) (some (-1)) = vInts ws := by
  rw [vInts, cutL_map, cutL_end _ _ _ (by omega) (by omega) (by simp; omega)]
  have e : (((h :: c :: t :: (ws ++ [tl])).length : Int) + -1 - 3).toNat = ws.length := by simp; omega
  rw [e]
  show List.map Val.int ((ws ++ [tl]).take ws.length) = _
  rw [List.take_left']
  rfl
/-- what is asked of the cells of a slot -/
structure Cells (cells : List Val) (h c t : Int) (ws : List Int) (tl : Int) : Prop where
  a0 : atI cells 0 = some (.int h)
  a1 : atI cells 1 = some (.int c)
  a2 : atI cells 2 = some (.int t)
  a9 : atI cells (-1) = some (.int tl)
  ac : cutL cells (some 3) (some (-1)) = vInts ws
theorem cells_of (h c t : Int) (ws : List Int) (tl : Int) : Cells (vInts (h :: c :: t :: (ws ++ [tl]))) h c t ws tl := ⟨at_l0 _ _, at_l1 _ _ _, at_l2 _ _ _ _, at_tl .., cut_ws ..⟩
theorem law_held_eq (k : Nat) (G : Heap) {cells : List Val} {h c t : Int} {ws : List Int} {tl : Int} (q : Cells cells h c t ws tl) (hl : ws.length ≤ 1000) : callN P (k+1) "_law_held" [.tup cells] G = .ok (heldV h c t ws tl) G := by
  rw [call_eq pw_law_held k _ _ rfl]
  obtain ⟨a0, a1, a2, a9, ac⟩ := q
  simp only [Bw_law_held, evSs_cons, evSs_nil, evE_var, evE_own, evE_con, evE_tup, evE_lst, evE_bin, evE_neg, evE_cmp, evE_cmp2, evE_not, evE_and, evE_or, evE_ite, evE_idx, evE_slice, evE_call, evE_bcall, evE_isi, evE_comp, evE_heap, evE_stop, evEs_nil, evEs_cons, evI_of, evI_rng1, evI_rng2, evI_zip, evI_enum, evS_stop, evS_exp, evS_ret, evS_retO, evS_retN, evS_pass, evS_brk, evS_cont, evS_asg, evS_asgOwn, evS_setR, evS_setO, evS_app, evS_appR, evS_extO, evS_popT, evS_popO, evS_aug, evS_par, evS_ite, evS_for_, evS_forO, evS_while_, startS, List.length_cons, List.length_nil, List.map_cons, List.map_nil, List.replicate, List.cons_append, List.nil_append, List.getD_cons_zero, List.getD_cons_succ, List.set_cons_zero, List.set_cons_succ, R.bind_ok, R.opt_some, R.calm_ok, R.thenS_ok, rd_int, rd_bool, rd_none, rd_str, rd_tup, rd_lst, rd_frz, seq_thenS, fin_thenS, seq_ite, fin_ite, RS.seq_next, RS.seq_ret, RS.fin_ret, RS.fin_next, Option.map_some, Option.bind_some, truthV_bool, truthV_int, truthV_none, setT_name, setT_tup, setTs_nil, setTs_cons, wipe_nil, wipe_cons, ix_l, ix_t, ix_f, at_l0, at_l1, at_l2, at_l3, add_i, sub_i, lt_i, le_i, gt_i, ge_i, eq_i, ne_i, is_n, isnot_n, isNone, len_t, len_l, len_f, tuple_t, tuple_l, tuple_f, list_t, list_l, list_f, int_i, abs_i, max_i, min_i, sum_l, sum_t, isi_int, isi_bool, isi_tup, isi_lst, isi_str, isi_none, slice_l, slice_t, slice_f, ixO_no, ixO_int, satT_thenS, satT_next, satT_ret, sat_thenS, sat_next, sat_ret, seq_t, seq_l, seq_f, vInts_len, evP_nil, evP_name, evP_item, R.tot_bind, R.tot_ok, Nat.reduceAdd, Nat.reduceSub, Bool.not_true, Bool.not_false, if_true, Bool.false_eq_true, if_false, a0, a1, a2, a9, ac]
  have hn : ¬ lineN < (ws.drop c.toNat).length := by rw [List.length_drop]; unfold lineN; omega
  have run : ∀ (hC : decide (0 ≤ c) = true), compR (setT (Tg.name 4)) (evE (callN P k) (E.con (Val.bool true))) (evE (callN P k) (E.cmp CmpOp.NotEq (E.var 4) (E.con (Val.int 0)))) (cutL (vInts ws) (some c) none) [Slot.val (Val.tup cells), Slot.val (Val.int h), Slot.val (Val.int c), Slot.val (Val.tup (vInts ws)), Slot.no] G = .ok ((ws.drop c.toNat).map fun w => .bool (!decide (w = 0))) G := fun hC => by
    rw [cut_from _ (of_decide_eq_true hC)]
    exact ne0_comp _ 4 (by simp) G _
  have hcl : ∀ (hC : decide (0 ≤ c) = true), ¬ lineN < (cutL (vInts ws) (some c) none).length := fun hC => by
    rw [cut_from _ (of_decide_eq_true hC), vInts_len]; exact hn
  unfold heldV
  cases hA : decide (h ≤ 0)
  · cases hB : decide (h = tl)
    · simp only [evSs_cons, evSs_nil, evE_var, evE_own, evE_con, evE_tup, evE_lst, evE_bin, evE_neg, evE_cmp, evE_cmp2, evE_not, evE_and, evE_or, evE_ite, evE_idx, evE_slice, evE_call, evE_bcall, evE_isi, evE_comp, evE_heap, evE_stop, evEs_nil, evEs_cons, evI_of, evI_rng1, evI_rng2, evI_zip, evI_enum, evS_stop, evS_exp, evS_ret, evS_retO, evS_retN, evS_pass, evS_brk, evS_cont, evS_asg, evS_asgOwn, evS_setR, evS_setO, evS_app, evS_appR, evS_extO, evS_popT, evS_popO, evS_aug, evS_par, evS_ite, evS_for_, evS_forO, evS_while_, startS, List.length_cons, List.length_nil, List.map_cons, List.map_nil, List.replicate, List.cons_append, List.nil_append, List.getD_cons_zero, List.getD_cons_succ, List.set_cons_zero, List.set_cons_succ, R.bind_ok, R.opt_some, R.calm_ok, R.thenS_ok, rd_int, rd_bool, rd_none, rd_str, rd_tup, rd_lst, rd_frz, seq_thenS, fin_thenS, seq_ite, fin_ite, RS.seq_next, RS.seq_ret, RS.fin_ret, RS.fin_next, Option.map_some, Option.bind_some, truthV_bool, truthV_int, truthV_none, setT_name, setT_tup, setTs_nil, setTs_cons, wipe_nil, wipe_cons, ix_l, ix_t, ix_f, at_l0, at_l1, at_l2, at_l3, add_i, sub_i, lt_i, le_i, gt_i, ge_i, eq_i, ne_i, is_n, isnot_n, isNone, len_t, len_l, len_f, tuple_t, tuple_l, tuple_f, list_t, list_l, list_f, int_i, abs_i, max_i, min_i, sum_l, sum_t, isi_int, isi_bool, isi_tup, isi_lst, isi_str, isi_none, slice_l, slice_t, slice_f, ixO_no, ixO_int, satT_thenS, satT_next, satT_ret, sat_thenS, sat_next, sat_ret, seq_t, seq_l, seq_f, vInts_len, evP_nil, evP_name, evP_item, R.tot_bind, R.tot_ok, Nat.reduceAdd, Nat.reduceSub, Bool.not_true, Bool.not_false, if_true, Bool.false_eq_true, if_false, hA, hB, Bool.true_or, Bool.or_true, Bool.false_or]
    · cases hC : decide (0 ≤ c)
      · simp only [evSs_cons, evSs_nil, evE_var, evE_own, evE_con, evE_tup, evE_lst, evE_bin, evE_neg, evE_cmp, evE_cmp2, evE_not, evE_and, evE_or, evE_ite, evE_idx, evE_slice, evE_call, evE_bcall, evE_isi, evE_comp, evE_heap, evE_stop, evEs_nil, evEs_cons, evI_of, evI_rng1, evI_rng2, evI_zip, evI_enum, evS_stop, evS_exp, evS_ret, evS_retO, evS_retN, evS_pass, evS_brk, evS_cont, evS_asg, evS_asgOwn, evS_setR, evS_setO, evS_app, evS_appR, evS_extO, evS_popT, evS_popO, evS_aug, evS_par, evS_ite, evS_for_, evS_forO, evS_while_, startS, List.length_cons, List.length_nil, List.map_cons, List.map_nil, List.replicate, List.cons_append, List.nil_append, List.getD_cons_zero, List.getD_cons_succ, List.set_cons_zero, List.set_cons_succ, R.bind_ok, R.opt_some, R.calm_ok, R.thenS_ok, rd_int, rd_bool, rd_none, rd_str, rd_tup, rd_lst, rd_frz, seq_thenS, fin_thenS, seq_ite, fin_ite, RS.seq_next, RS.seq_ret, RS.fin_ret, RS.fin_next, Option.map_some, Option.bind_some, truthV_bool, truthV_int, truthV_none, setT_name, setT_tup, setTs_nil, setTs_cons, wipe_nil, wipe_cons, ix_l, ix_t, ix_f, at_l0, at_l1, at_l2, at_l3, add_i, sub_i, lt_i, le_i, gt_i, ge_i, eq_i, ne_i, is_n, isnot_n, isNone, len_t, len_l, len_f, tuple_t, tuple_l, tuple_f, list_t, list_l, list_f, int_i, abs_i, max_i, min_i, sum_l, sum_t, isi_int, isi_bool, isi_tup, isi_lst, isi_str, isi_none, slice_l, slice_t, slice_f, ixO_no, ixO_int, satT_thenS, satT_next, satT_ret, sat_thenS, sat_next, sat_ret, seq_t, seq_l, seq_f, vInts_len, evP_nil, evP_name, evP_item, R.tot_bind, R.tot_ok, Nat.reduceAdd, Nat.reduceSub, Bool.not_true, Bool.not_false, if_true, Bool.false_eq_true, if_false, hA, hB, hC, Bool.true_or, Bool.or_true, Bool.false_or, Bool.false_and]
      · cases hD : decide (c ≤ (ws.length : Int))
        · simp only [evSs_cons, evSs_nil, evE_var, evE_own, evE_con, evE_tup, evE_lst, evE_bin, evE_neg, evE_cmp, evE_cmp2, evE_not, evE_and, evE_or, evE_ite, evE_idx, evE_slice, evE_call, evE_bcall, evE_isi, evE_comp, evE_heap, evE_stop, evEs_nil, evEs_cons, evI_of, evI_rng1, evI_rng2, evI_zip, evI_enum, evS_stop, evS_exp, evS_ret, evS_retO, evS_retN, evS_pass, evS_brk, evS_cont, evS_asg, evS_asgOwn, evS_setR, evS_setO, evS_app, evS_appR, evS_extO, evS_popT, evS_popO, evS_aug, evS_par, evS_ite, evS_for_, evS_forO, evS_while_, startS, List.length_cons, List.length_nil, List.map_cons, List.map_nil, List.replicate, List.cons_append, List.nil_append, List.getD_cons_zero, List.getD_cons_succ, List.set_cons_zero, List.set_cons_succ, R.bind_ok, R.opt_some, R.calm_ok, R.thenS_ok, rd_int, rd_bool, rd_none, rd_str, rd_tup, rd_lst, rd_frz, seq_thenS, fin_thenS, seq_ite, fin_ite, RS.seq_next, RS.seq_ret, RS.fin_ret, RS.fin_next, Option.map_some, Option.bind_some, truthV_bool, truthV_int, truthV_none, setT_name, setT_tup, setTs_nil, setTs_cons, wipe_nil, wipe_cons, ix_l, ix_t, ix_f, at_l0, at_l1, at_l2, at_l3, add_i, sub_i, lt_i, le_i, gt_i, ge_i, eq_i, ne_i, is_n, isnot_n, isNone, len_t, len_l, len_f, tuple_t, tuple_l, tuple_f, list_t, list_l, list_f, int_i, abs_i, max_i, min_i, sum_l, sum_t, isi_int, isi_bool, isi_tup, isi_lst, isi_str, isi_none, slice_l, slice_t, slice_f, ixO_no, ixO_int, satT_thenS, satT_next, satT_ret, sat_thenS, sat_next, sat_ret, seq_t, seq_l, seq_f, vInts_len, evP_nil, evP_name, evP_item, R.tot_bind, R.tot_ok, Nat.reduceAdd, Nat.reduceSub, Bool.not_true, Bool.not_false, if_true, Bool.false_eq_true, if_false, hA, hB, hC, hD, Bool.true_or, Bool.or_true, Bool.false_or, Bool.and_false]
        · simp only [evSs_cons, evSs_nil, evE_var, evE_own, evE_con, evE_tup, evE_lst, evE_bin, evE_neg, evE_cmp, evE_cmp2, evE_not, evE_and, evE_or, evE_ite, evE_idx, evE_slice, evE_call, evE_bcall, evE_isi, evE_comp, evE_heap, evE_stop, evEs_nil, evEs_cons, evI_of, evI_rng1, evI_rng2, evI_zip, evI_enum, evS_stop, evS_exp, evS_ret, evS_retO, evS_retN, evS_pass, evS_brk, evS_cont, evS_asg, evS_asgOwn, evS_setR, evS_setO, evS_app, evS_appR, evS_extO, evS_popT, evS_popO, evS_aug, evS_par, evS_ite, evS_for_, evS_forO, evS_while_, startS, List.length_cons, List.length_nil, List.map_cons, List.map_nil, List.replicate, List.cons_append, List.nil_append, List.getD_cons_zero, List.getD_cons_succ, List.set_cons_zero, List.set_cons_succ, R.bind_ok, R.opt_some, R.calm_ok, R.thenS_ok, rd_int, rd_bool, rd_none, rd_str, rd_tup, rd_lst, rd_frz, seq_thenS, fin_thenS, seq_ite, fin_ite, RS.seq_next, RS.seq_ret, RS.fin_ret, RS.fin_next, Option.map_some, Option.bind_some, truthV_bool, truthV_int, truthV_none, setT_name, setT_tup, setTs_nil, setTs_cons, wipe_nil, wipe_cons, ix_l, ix_t, ix_f, at_l0, at_l1, at_l2, at_l3, add_i, sub_i, lt_i, le_i, gt_i, ge_i, eq_i, ne_i, is_n, isnot_n, isNone, len_t, len_l, len_f, tuple_t, tuple_l, tuple_f, list_t, list_l, list_f, int_i, abs_i, max_i, min_i, sum_l, sum_t, isi_int, isi_bool, isi_tup, isi_lst, isi_str, isi_none, slice_l, slice_t, slice_f, ixO_no, ixO_int, satT_thenS, satT_next, satT_ret, sat_thenS, sat_next, sat_ret, seq_t, seq_l, seq_f, vInts_len, evP_nil, evP_name, evP_item, R.tot_bind, R.tot_ok, Nat.reduceAdd, Nat.reduceSub, Bool.not_true, Bool.not_false, if_true, Bool.false_eq_true, if_false, hA, hB, hC, hD, Bool.true_or, Bool.or_true, Bool.false_or, Bool.and_true, if_neg (hcl hC), run hC, any_b, cut_to _ (of_decide_eq_true hC)]
          cases hE : (ws.drop c.toNat).any (fun w => !decide (w = 0))
          · cases hF : decide (t = h + c + ws.sum)
            · simp only [evSs_cons, evSs_nil, evE_var, evE_own, evE_con, evE_tup, evE_lst, evE_bin, evE_neg, evE_cmp, evE_cmp2, evE_not, evE_and, evE_or, evE_ite, evE_idx, evE_slice, evE_call, evE_bcall, evE_isi, evE_comp, evE_heap, evE_stop, evEs_nil, evEs_cons, evI_of, evI_rng1, evI_rng2, evI_zip, evI_enum, evS_stop, evS_exp, evS_ret, evS_retO, evS_retN, evS_pass, evS_brk, evS_cont, evS_asg, evS_asgOwn, evS_setR, evS_setO, evS_app, evS_appR, evS_extO, evS_popT, evS_popO, evS_aug, evS_par, evS_ite, evS_for_, evS_forO, evS_while_, startS, List.length_cons, List.length_nil, List.map_cons, List.map_nil, List.replicate, List.cons_append, List.nil_append, List.getD_cons_zero, List.getD_cons_succ, List.set_cons_zero, List.set_cons_succ, R.bind_ok, R.opt_some, R.calm_ok, R.thenS_ok, rd_int, rd_bool, rd_none, rd_str, rd_tup, rd_lst, rd_frz, seq_thenS, fin_thenS, seq_ite, fin_ite, RS.seq_next, RS.seq_ret, RS.fin_ret, RS.fin_next, Option.map_some, Option.bind_some, truthV_bool, truthV_int, truthV_none, setT_name, setT_tup, setTs_nil, setTs_cons, wipe_nil, wipe_cons, ix_l, ix_t, ix_f, at_l0, at_l1, at_l2, at_l3, add_i, sub_i, lt_i, le_i, gt_i, ge_i, eq_i, ne_i, is_n, isnot_n, isNone, len_t, len_l, len_f, tuple_t, tuple_l, tuple_f, list_t, list_l, list_f, int_i, abs_i, max_i, min_i, sum_l, sum_t, isi_int, isi_bool, isi_tup, isi_lst, isi_str, isi_none, slice_l, slice_t, slice_f, ixO_no, ixO_int, satT_thenS, satT_next, satT_ret, sat_thenS, sat_next, sat_ret, seq_t, seq_l, seq_f, vInts_len, evP_nil, evP_name, evP_item, R.tot_bind, R.tot_ok, Nat.reduceAdd, Nat.reduceSub, Bool.not_true, Bool.not_false, if_true, Bool.false_eq_true, if_false, Bool.true_or, Bool.or_true, Bool.false_or]
            · simp only [evSs_cons, evSs_nil, evE_var, evE_own, evE_con, evE_tup, evE_lst, evE_bin, evE_neg, evE_cmp, evE_cmp2, evE_not, evE_and, evE_or, evE_ite, evE_idx, evE_slice, evE_call, evE_bcall, evE_isi, evE_comp, evE_heap, evE_stop, evEs_nil, evEs_cons, evI_of, evI_rng1, evI_rng2, evI_zip, evI_enum, evS_stop, evS_exp, evS_ret, evS_retO, evS_retN, evS_pass, evS_brk, evS_cont, evS_asg, evS_asgOwn, evS_setR, evS_setO, evS_app, evS_appR, evS_extO, evS_popT, evS_popO, evS_aug, evS_par, evS_ite, evS_for_, evS_forO, evS_while_, startS, List.length_cons, List.length_nil, List.map_cons, List.map_nil, List.replicate, List.cons_append, List.nil_append, List.getD_cons_zero, List.getD_cons_succ, List.set_cons_zero, List.set_cons_succ, R.bind_ok, R.opt_some, R.calm_ok, R.thenS_ok, rd_int, rd_bool, rd_none, rd_str, rd_tup, rd_lst, rd_frz, seq_thenS, fin_thenS, seq_ite, fin_ite, RS.seq_next, RS.seq_ret, RS.fin_ret, RS.fin_next, Option.map_some, Option.bind_some, truthV_bool, truthV_int, truthV_none, setT_name, setT_tup, setTs_nil, setTs_cons, wipe_nil, wipe_cons, ix_l, ix_t, ix_f, at_l0, at_l1, at_l2, at_l3, add_i, sub_i, lt_i, le_i, gt_i, ge_i, eq_i, ne_i, is_n, isnot_n, isNone, len_t, len_l, len_f, tuple_t, tuple_l, tuple_f, list_t, list_l, list_f, int_i, abs_i, max_i, min_i, sum_l, sum_t, isi_int, isi_bool, isi_tup, isi_lst, isi_str, isi_none, slice_l, slice_t, slice_f, ixO_no, ixO_int, satT_thenS, satT_next, satT_ret, sat_thenS, sat_next, sat_ret, seq_t, seq_l, seq_f, vInts_len, evP_nil, evP_name, evP_item, R.tot_bind, R.tot_ok, Nat.reduceAdd, Nat.reduceSub, Bool.not_true, Bool.not_false, if_true, Bool.false_eq_true, if_false, Bool.true_or, Bool.or_true, Bool.false_or, Bool.or_false]
          · simp only [evSs_cons, evSs_nil, evE_var, evE_own, evE_con, evE_tup, evE_lst, evE_bin, evE_neg, evE_cmp, evE_cmp2, evE_not, evE_and, evE_or, evE_ite, evE_idx, evE_slice, evE_call, evE_bcall, evE_isi, evE_comp, evE_heap, evE_stop, evEs_nil, evEs_cons, evI_of, evI_rng1, evI_rng2, evI_zip, evI_enum, evS_stop, evS_exp, evS_ret, evS_retO, evS_retN, evS_pass, evS_brk, evS_cont, evS_asg, evS_asgOwn, evS_setR, evS_setO, evS_app, evS_appR, evS_extO, evS_popT, evS_popO, evS_aug, evS_par, evS_ite, evS_for_, evS_forO, evS_while_, startS, List.length_cons, List.length_nil, List.map_cons, List.map_nil, List.replicate, List.cons_append, List.nil_append, List.getD_cons_zero, List.getD_cons_succ, List.set_cons_zero, List.set_cons_succ, R.bind_ok, R.opt_some, R.calm_ok, R.thenS_ok, rd_int, rd_bool, rd_none, rd_str, rd_tup, rd_lst, rd_frz, seq_thenS, fin_thenS, seq_ite, fin_ite, RS.seq_next, RS.seq_ret, RS.fin_ret, RS.fin_next, Option.map_some, Option.bind_some, truthV_bool, truthV_int, truthV_none, setT_name, setT_tup, setTs_nil, setTs_cons, wipe_nil, wipe_cons, ix_l, ix_t, ix_f, at_l0, at_l1, at_l2, at_l3, add_i, sub_i, lt_i, le_i, gt_i, ge_i, eq_i, ne_i, is_n, isnot_n, isNone, len_t, len_l, len_f, tuple_t, tuple_l, tuple_f, list_t, list_l, list_f, int_i, abs_i, max_i, min_i, sum_l, sum_t, isi_int, isi_bool, isi_tup, isi_lst, isi_str, isi_none, slice_l, slice_t, slice_f, ixO_no, ixO_int, satT_thenS, satT_next, satT_ret, sat_thenS, sat_next, sat_ret, seq_t, seq_l, seq_f, vInts_len, evP_nil, evP_name, evP_item, R.tot_bind, R.tot_ok, Nat.reduceAdd, Nat.reduceSub, Bool.not_true, Bool.not_false, if_true, Bool.false_eq_true, if_false, Bool.true_or, Bool.or_true, Bool.false_or]
  · simp only [evSs_cons, evSs_nil, evE_var, evE_own, evE_con, evE_tup, evE_lst, evE_bin, evE_neg, evE_cmp, evE_cmp2, evE_not, evE_and, evE_or, evE_ite, evE_idx, evE_slice, evE_call, evE_bcall, evE_isi, evE_comp, evE_heap, evE_stop, evEs_nil, evEs_cons, evI_of, evI_rng1, evI_rng2, evI_zip, evI_enum, evS_stop, evS_exp, evS_ret, evS_retO, evS_retN, evS_pass, evS_brk, evS_cont, evS_asg, evS_asgOwn, evS_setR, evS_setO, evS_app, evS_appR, evS_extO, evS_popT, evS_popO, evS_aug, evS_par, evS_ite, evS_for_, evS_forO, evS_while_, startS, List.length_cons, List.length_nil, List.map_cons, List.map_nil, List.replicate, List.cons_append, List.nil_append, List.getD_cons_zero, List.getD_cons_succ, List.set_cons_zero, List.set_cons_succ, R.bind_ok, R.opt_some, R.calm_ok, R.thenS_ok, rd_int, rd_bool, rd_none, rd_str, rd_tup, rd_lst, rd_frz, seq_thenS, fin_thenS, seq_ite, fin_ite, RS.seq_next, RS.seq_ret, RS.fin_ret, RS.fin_next, Option.map_some, Option.bind_some, truthV_bool, truthV_int, truthV_none, setT_name, setT_tup, setTs_nil, setTs_cons, wipe_nil, wipe_cons, ix_l, ix_t, ix_f, at_l0, at_l1, at_l2, at_l3, add_i, sub_i, lt_i, le_i, gt_i, ge_i, eq_i, ne_i, is_n, isnot_n, isNone, len_t, len_l, len_f, tuple_t, tuple_l, tuple_f, list_t, list_l, list_f, int_i, abs_i, max_i, min_i, sum_l, sum_t, isi_int, isi_bool, isi_tup, isi_lst, isi_str, isi_none, slice_l, slice_t, slice_f, ixO_no, ixO_int, satT_thenS, satT_next, satT_ret, sat_thenS, sat_next, sat_ret, seq_t, seq_l, seq_f, vInts_len, evP_nil, evP_name, evP_item, R.tot_bind, R.tot_ok, Nat.reduceAdd, Nat.reduceSub, Bool.not_true, Bool.not_false, if_true, Bool.false_eq_true, if_false, hA, Bool.true_or, Bool.or_true, Bool.false_or]
end Fx.Law

namespace Fx.Law
open PySem PySem.Spec PyProof.Rows L2 Fx
/-- the cells of slot s -/
def slotC (dev : List Val) (s : Int) : List Val := cutL dev (some (s * ((dev.length : Int) / 2))) (some ((s + 1) * ((dev.length : Int) / 2)))
theorem slot_cells_eq (k : Nat) (G : Heap) (dev : List Val) {s : Int} (hs : s = 0 ∨ s = 1) : callN P (k+1) "slot_cells" [.tup dev, .int s] G = .ok (.tup (slotC dev s)) G := by
  rw [call_eq pslot_cells k _ _ rfl]
  have m1 : ∀ x, binK .Mult (.int s) (.int x) = some (.int (s * x)) := fun x => mul_l _ _ (by rcases hs with e | e <;> subst e <;> decide)
  have m2 : ∀ x, binK .Mult (.int (s + 1)) (.int x) = some (.int ((s + 1) * x)) := fun x => mul_l _ _ (by rcases hs with e | e <;> subst e <;> decide)
  simp only [Bslot_cells, evSs_cons, evSs_nil, evE_var, evE_own, evE_con, evE_tup, evE_lst, evE_bin, evE_neg, evE_cmp, evE_cmp2, evE_not, evE_and, evE_or, evE_ite, evE_idx, evE_slice, evE_call, evE_bcall, evE_isi, evE_comp, evE_heap, evE_stop, evEs_nil, evEs_cons, evI_of, evI_rng1, evI_rng2, evI_zip, evI_enum, evS_stop, evS_exp, evS_ret, evS_retO, evS_retN, evS_pass, evS_brk, evS_cont, evS_asg, evS_asgOwn, evS_setR, evS_setO, evS_app, evS_appR, evS_extO, evS_popT, evS_popO, evS_aug, evS_par, evS_ite, evS_for_, evS_forO, evS_while_, startS, List.length_cons, List.length_nil, List.map_cons, List.map_nil, List.replicate, List.cons_append, List.nil_append, List.getD_cons_zero, List.getD_cons_succ, List.set_cons_zero, List.set_cons_succ, R.bind_ok, R.opt_some, R.calm_ok, R.thenS_ok, rd_int, rd_bool, rd_none, rd_str, rd_tup, rd_lst, rd_frz, seq_thenS, fin_thenS, seq_ite, fin_ite, RS.seq_next, RS.seq_ret, RS.fin_ret, RS.fin_next, Option.map_some, Option.bind_some, truthV_bool, truthV_int, truthV_none, setT_name, setT_tup, setTs_nil, setTs_cons, wipe_nil, wipe_cons, ix_l, ix_t, ix_f, at_l0, at_l1, at_l2, at_l3, add_i, sub_i, lt_i, le_i, gt_i, ge_i, eq_i, ne_i, is_n, isnot_n, isNone, len_t, len_l, len_f, tuple_t, tuple_l, tuple_f, list_t, list_l, list_f, int_i, abs_i, max_i, min_i, sum_l, sum_t, isi_int, isi_bool, isi_tup, isi_lst, isi_str, isi_none, slice_l, slice_t, slice_f, ixO_no, ixO_int, satT_thenS, satT_next, satT_ret, sat_thenS, sat_next, sat_ret, seq_t, seq_l, seq_f, vInts_len, evP_nil, evP_name, evP_item, R.tot_bind, R.tot_ok, Nat.reduceAdd, Nat.reduceSub, Bool.not_true, Bool.not_false, if_true, Bool.false_eq_true, if_false, m1, m2, div_i _ 2 (show (decide ((0:Int) < 2) && decide ((2:Int) < p64)) = true by decide)]
  rfl
theorem held_by_eq (k : Nat) (G : Heap) {dev : List Val} {s : Int} (hs : s = 0 ∨ s = 1) {h c t : Int} {ws : List Int} {tl : Int} (q : Cells (slotC dev s) h c t ws tl) (hl : ws.length ≤ 1000) : callN P (k+2) "held_by" [.tup dev, .int s] G = .ok (heldV h c t ws tl) G := by
  rw [call_eq pheld_by _ _ _ rfl]
  obtain ⟨a0, a1, a2, a9, ac⟩ := q
  generalize hcs : slotC dev s = cells at a0 a1 a2 a9 ac
  have sc := slot_cells_eq k G dev hs
  rw [hcs] at sc
  simp only [Bheld_by, evSs_cons, evSs_nil, evE_var, evE_own, evE_con, evE_tup, evE_lst, evE_bin, evE_neg, evE_cmp, evE_cmp2, evE_not, evE_and, evE_or, evE_ite, evE_idx, evE_slice, evE_call, evE_bcall, evE_isi, evE_comp, evE_heap, evE_stop, evEs_nil, evEs_cons, evI_of, evI_rng1, evI_rng2, evI_zip, evI_enum, evS_stop, evS_exp, evS_ret, evS_retO, evS_retN, evS_pass, evS_brk, evS_cont, evS_asg, evS_asgOwn, evS_setR, evS_setO, evS_app, evS_appR, evS_extO, evS_popT, evS_popO, evS_aug, evS_par, evS_ite, evS_for_, evS_forO, evS_while_, startS, List.length_cons, List.length_nil, List.map_cons, List.map_nil, List.replicate, List.cons_append, List.nil_append, List.getD_cons_zero, List.getD_cons_succ, List.set_cons_zero, List.set_cons_succ, R.bind_ok, R.opt_some, R.calm_ok, R.thenS_ok, rd_int, rd_bool, rd_none, rd_str, rd_tup, rd_lst, rd_frz, seq_thenS, fin_thenS, seq_ite, fin_ite, RS.seq_next, RS.seq_ret, RS.fin_ret, RS.fin_next, Option.map_some, Option.bind_some, truthV_bool, truthV_int, truthV_none, setT_name, setT_tup, setTs_nil, setTs_cons, wipe_nil, wipe_cons, ix_l, ix_t, ix_f, at_l0, at_l1, at_l2, at_l3, add_i, sub_i, lt_i, le_i, gt_i, ge_i, eq_i, ne_i, is_n, isnot_n, isNone, len_t, len_l, len_f, tuple_t, tuple_l, tuple_f, list_t, list_l, list_f, int_i, abs_i, max_i, min_i, sum_l, sum_t, isi_int, isi_bool, isi_tup, isi_lst, isi_str, isi_none, slice_l, slice_t, slice_f, ixO_no, ixO_int, satT_thenS, satT_next, satT_ret, sat_thenS, sat_next, sat_ret, seq_t, seq_l, seq_f, vInts_len, evP_nil, evP_name, evP_item, R.tot_bind, R.tot_ok, Nat.reduceAdd, Nat.reduceSub, Bool.not_true, Bool.not_false, if_true, Bool.false_eq_true, if_false, sc, a0, a1, a2, a9, ac]
  have hn : ¬ lineN < (ws.drop c.toNat).length := by rw [List.length_drop]; unfold lineN; omega
  have run : ∀ (hC : decide (0 ≤ c) = true) st, 8 < st.length → compR (setT (Tg.name 8)) (evE (callN P (k + 1)) (E.con (Val.bool true))) (evE (callN P (k + 1)) (E.cmp CmpOp.NotEq (E.var 8) (E.con (Val.int 0)))) (cutL (vInts ws) (some c) none) st G = .ok ((ws.drop c.toNat).map fun w => .bool (!decide (w = 0))) G := fun hC st hst => by
    rw [cut_from _ (of_decide_eq_true hC)]
    exact ne0_comp _ 8 hst G _
  have hcl : ∀ (hC : decide (0 ≤ c) = true), ¬ lineN < (cutL (vInts ws) (some c) none).length := fun hC => by
    rw [cut_from _ (of_decide_eq_true hC), vInts_len]; exact hn
  unfold heldV
  cases hA : decide (h ≤ 0)
  · cases hB : decide (h = tl)
    · simp only [evSs_cons, evSs_nil, evE_var, evE_own, evE_con, evE_tup, evE_lst, evE_bin, evE_neg, evE_cmp, evE_cmp2, evE_not, evE_and, evE_or, evE_ite, evE_idx, evE_slice, evE_call, evE_bcall, evE_isi, evE_comp, evE_heap, evE_stop, evEs_nil, evEs_cons, evI_of, evI_rng1, evI_rng2, evI_zip, evI_enum, evS_stop, evS_exp, evS_ret, evS_retO, evS_retN, evS_pass, evS_brk, evS_cont, evS_asg, evS_asgOwn, evS_setR, evS_setO, evS_app, evS_appR, evS_extO, evS_popT, evS_popO, evS_aug, evS_par, evS_ite, evS_for_, evS_forO, evS_while_, startS, List.length_cons, List.length_nil, List.map_cons, List.map_nil, List.replicate, List.cons_append, List.nil_append, List.getD_cons_zero, List.getD_cons_succ, List.set_cons_zero, List.set_cons_succ, R.bind_ok, R.opt_some, R.calm_ok, R.thenS_ok, rd_int, rd_bool, rd_none, rd_str, rd_tup, rd_lst, rd_frz, seq_thenS, fin_thenS, seq_ite, fin_ite, RS.seq_next, RS.seq_ret, RS.fin_ret, RS.fin_next, Option.map_some, Option.bind_some, truthV_bool, truthV_int, truthV_none, setT_name, setT_tup, setTs_nil, setTs_cons, wipe_nil, wipe_cons, ix_l, ix_t, ix_f, at_l0, at_l1, at_l2, at_l3, add_i, sub_i, lt_i, le_i, gt_i, ge_i, eq_i, ne_i, is_n, isnot_n, isNone, len_t, len_l, len_f, tuple_t, tuple_l, tuple_f, list_t, list_l, list_f, int_i, abs_i, max_i, min_i, sum_l, sum_t, isi_int, isi_bool, isi_tup, isi_lst, isi_str, isi_none, slice_l, slice_t, slice_f, ixO_no, ixO_int, satT_thenS, satT_next, satT_ret, sat_thenS, sat_next, sat_ret, seq_t, seq_l, seq_f, vInts_len, evP_nil, evP_name, evP_item, R.tot_bind, R.tot_ok, Nat.reduceAdd, Nat.reduceSub, Bool.not_true, Bool.not_false, if_true, Bool.false_eq_true, if_false, hA, hB, Bool.true_or, Bool.or_true, Bool.false_or]
    · cases hC : decide (0 ≤ c)
      · simp only [evSs_cons, evSs_nil, evE_var, evE_own, evE_con, evE_tup, evE_lst, evE_bin, evE_neg, evE_cmp, evE_cmp2, evE_not, evE_and, evE_or, evE_ite, evE_idx, evE_slice, evE_call, evE_bcall, evE_isi, evE_comp, evE_heap, evE_stop, evEs_nil, evEs_cons, evI_of, evI_rng1, evI_rng2, evI_zip, evI_enum, evS_stop, evS_exp, evS_ret, evS_retO, evS_retN, evS_pass, evS_brk, evS_cont, evS_asg, evS_asgOwn, evS_setR, evS_setO, evS_app, evS_appR, evS_extO, evS_popT, evS_popO, evS_aug, evS_par, evS_ite, evS_for_, evS_forO, evS_while_, startS, List.length_cons, List.length_nil, List.map_cons, List.map_nil, List.replicate, List.cons_append, List.nil_append, List.getD_cons_zero, List.getD_cons_succ, List.set_cons_zero, List.set_cons_succ, R.bind_ok, R.opt_some, R.calm_ok, R.thenS_ok, rd_int, rd_bool, rd_none, rd_str, rd_tup, rd_lst, rd_frz, seq_thenS, fin_thenS, seq_ite, fin_ite, RS.seq_next, RS.seq_ret, RS.fin_ret, RS.fin_next, Option.map_some, Option.bind_some, truthV_bool, truthV_int, truthV_none, setT_name, setT_tup, setTs_nil, setTs_cons, wipe_nil, wipe_cons, ix_l, ix_t, ix_f, at_l0, at_l1, at_l2, at_l3, add_i, sub_i, lt_i, le_i, gt_i, ge_i, eq_i, ne_i, is_n, isnot_n, isNone, len_t, len_l, len_f, tuple_t, tuple_l, tuple_f, list_t, list_l, list_f, int_i, abs_i, max_i, min_i, sum_l, sum_t, isi_int, isi_bool, isi_tup, isi_lst, isi_str, isi_none, slice_l, slice_t, slice_f, ixO_no, ixO_int, satT_thenS, satT_next, satT_ret, sat_thenS, sat_next, sat_ret, seq_t, seq_l, seq_f, vInts_len, evP_nil, evP_name, evP_item, R.tot_bind, R.tot_ok, Nat.reduceAdd, Nat.reduceSub, Bool.not_true, Bool.not_false, if_true, Bool.false_eq_true, if_false, hA, hB, hC, Bool.true_or, Bool.or_true, Bool.false_or, Bool.false_and]
      · cases hD : decide (c ≤ (ws.length : Int))
        · simp only [evSs_cons, evSs_nil, evE_var, evE_own, evE_con, evE_tup, evE_lst, evE_bin, evE_neg, evE_cmp, evE_cmp2, evE_not, evE_and, evE_or, evE_ite, evE_idx, evE_slice, evE_call, evE_bcall, evE_isi, evE_comp, evE_heap, evE_stop, evEs_nil, evEs_cons, evI_of, evI_rng1, evI_rng2, evI_zip, evI_enum, evS_stop, evS_exp, evS_ret, evS_retO, evS_retN, evS_pass, evS_brk, evS_cont, evS_asg, evS_asgOwn, evS_setR, evS_setO, evS_app, evS_appR, evS_extO, evS_popT, evS_popO, evS_aug, evS_par, evS_ite, evS_for_, evS_forO, evS_while_, startS, List.length_cons, List.length_nil, List.map_cons, List.map_nil, List.replicate, List.cons_append, List.nil_append, List.getD_cons_zero, List.getD_cons_succ, List.set_cons_zero, List.set_cons_succ, R.bind_ok, R.opt_some, R.calm_ok, R.thenS_ok, rd_int, rd_bool, rd_none, rd_str, rd_tup, rd_lst, rd_frz, seq_thenS, fin_thenS, seq_ite, fin_ite, RS.seq_next, RS.seq_ret, RS.fin_ret, RS.fin_next, Option.map_some, Option.bind_some, truthV_bool, truthV_int, truthV_none, setT_name, setT_tup, setTs_nil, setTs_cons, wipe_nil, wipe_cons, ix_l, ix_t, ix_f, at_l0, at_l1, at_l2, at_l3, add_i, sub_i, lt_i, le_i, gt_i, ge_i, eq_i, ne_i, is_n, isnot_n, isNone, len_t, len_l, len_f, tuple_t, tuple_l, tuple_f, list_t, list_l, list_f, int_i, abs_i, max_i, min_i, sum_l, sum_t, isi_int, isi_bool, isi_tup, isi_lst, isi_str, isi_none, slice_l, slice_t, slice_f, ixO_no, ixO_int, satT_thenS, satT_next, satT_ret, sat_thenS, sat_next, sat_ret, seq_t, seq_l, seq_f, vInts_len, evP_nil, evP_name, evP_item, R.tot_bind, R.tot_ok, Nat.reduceAdd, Nat.reduceSub, Bool.not_true, Bool.not_false, if_true, Bool.false_eq_true, if_false, hA, hB, hC, hD, Bool.true_or, Bool.or_true, Bool.false_or, Bool.and_false]
        · cases hF : decide (t = h + c + ws.sum)
          · simp only [evSs_cons, evSs_nil, evE_var, evE_own, evE_con, evE_tup, evE_lst, evE_bin, evE_neg, evE_cmp, evE_cmp2, evE_not, evE_and, evE_or, evE_ite, evE_idx, evE_slice, evE_call, evE_bcall, evE_isi, evE_comp, evE_heap, evE_stop, evEs_nil, evEs_cons, evI_of, evI_rng1, evI_rng2, evI_zip, evI_enum, evS_stop, evS_exp, evS_ret, evS_retO, evS_retN, evS_pass, evS_brk, evS_cont, evS_asg, evS_asgOwn, evS_setR, evS_setO, evS_app, evS_appR, evS_extO, evS_popT, evS_popO, evS_aug, evS_par, evS_ite, evS_for_, evS_forO, evS_while_, startS, List.length_cons, List.length_nil, List.map_cons, List.map_nil, List.replicate, List.cons_append, List.nil_append, List.getD_cons_zero, List.getD_cons_succ, List.set_cons_zero, List.set_cons_succ, R.bind_ok, R.opt_some, R.calm_ok, R.thenS_ok, rd_int, rd_bool, rd_none, rd_str, rd_tup, rd_lst, rd_frz, seq_thenS, fin_thenS, seq_ite, fin_ite, RS.seq_next, RS.seq_ret, RS.fin_ret, RS.fin_next, Option.map_some, Option.bind_some, truthV_bool, truthV_int, truthV_none, setT_name, setT_tup, setTs_nil, setTs_cons, wipe_nil, wipe_cons, ix_l, ix_t, ix_f, at_l0, at_l1, at_l2, at_l3, add_i, sub_i, lt_i, le_i, gt_i, ge_i, eq_i, ne_i, is_n, isnot_n, isNone, len_t, len_l, len_f, tuple_t, tuple_l, tuple_f, list_t, list_l, list_f, int_i, abs_i, max_i, min_i, sum_l, sum_t, isi_int, isi_bool, isi_tup, isi_lst, isi_str, isi_none, slice_l, slice_t, slice_f, ixO_no, ixO_int, satT_thenS, satT_next, satT_ret, sat_thenS, sat_next, sat_ret, seq_t, seq_l, seq_f, vInts_len, evP_nil, evP_name, evP_item, R.tot_bind, R.tot_ok, Nat.reduceAdd, Nat.reduceSub, Bool.not_true, Bool.not_false, if_true, Bool.false_eq_true, if_false, hA, hB, hC, hD, Bool.true_or, Bool.or_true, Bool.false_or, Bool.and_true]
          · simp only [evSs_cons, evSs_nil, evE_var, evE_own, evE_con, evE_tup, evE_lst, evE_bin, evE_neg, evE_cmp, evE_cmp2, evE_not, evE_and, evE_or, evE_ite, evE_idx, evE_slice, evE_call, evE_bcall, evE_isi, evE_comp, evE_heap, evE_stop, evEs_nil, evEs_cons, evI_of, evI_rng1, evI_rng2, evI_zip, evI_enum, evS_stop, evS_exp, evS_ret, evS_retO, evS_retN, evS_pass, evS_brk, evS_cont, evS_asg, evS_asgOwn, evS_setR, evS_setO, evS_app, evS_appR, evS_extO, evS_popT, evS_popO, evS_aug, evS_par, evS_ite, evS_for_, evS_forO, evS_while_, startS, List.length_cons, List.length_nil, List.map_cons, List.map_nil, List.replicate, List.cons_append, List.nil_append, List.getD_cons_zero, List.getD_cons_succ, List.set_cons_zero, List.set_cons_succ, R.bind_ok, R.opt_some, R.calm_ok, R.thenS_ok, rd_int, rd_bool, rd_none, rd_str, rd_tup, rd_lst, rd_frz, seq_thenS, fin_thenS, seq_ite, fin_ite, RS.seq_next, RS.seq_ret, RS.fin_ret, RS.fin_next, Option.map_some, Option.bind_some, truthV_bool, truthV_int, truthV_none, setT_name, setT_tup, setTs_nil, setTs_cons, wipe_nil, wipe_cons, ix_l, ix_t, ix_f, at_l0, at_l1, at_l2, at_l3, add_i, sub_i, lt_i, le_i, gt_i, ge_i, eq_i, ne_i, is_n, isnot_n, isNone, len_t, len_l, len_f, tuple_t, tuple_l, tuple_f, list_t, list_l, list_f, int_i, abs_i, max_i, min_i, sum_l, sum_t, isi_int, isi_bool, isi_tup, isi_lst, isi_str, isi_none, slice_l, slice_t, slice_f, ixO_no, ixO_int, satT_thenS, satT_next, satT_ret, sat_thenS, sat_next, sat_ret, seq_t, seq_l, seq_f, vInts_len, evP_nil, evP_name, evP_item, R.tot_bind, R.tot_ok, Nat.reduceAdd, Nat.reduceSub, Bool.not_true, Bool.not_false, if_true, Bool.false_eq_true, if_false, hA, hB, hC, hD, Bool.true_or, Bool.or_true, Bool.false_or, Bool.and_true]
            rw [if_neg (hcl hC), run hC _ (by simp)]
            simp only [evSs_cons, evSs_nil, evE_var, evE_own, evE_con, evE_tup, evE_lst, evE_bin, evE_neg, evE_cmp, evE_cmp2, evE_not, evE_and, evE_or, evE_ite, evE_idx, evE_slice, evE_call, evE_bcall, evE_isi, evE_comp, evE_heap, evE_stop, evEs_nil, evEs_cons, evI_of, evI_rng1, evI_rng2, evI_zip, evI_enum, evS_stop, evS_exp, evS_ret, evS_retO, evS_retN, evS_pass, evS_brk, evS_cont, evS_asg, evS_asgOwn, evS_setR, evS_setO, evS_app, evS_appR, evS_extO, evS_popT, evS_popO, evS_aug, evS_par, evS_ite, evS_for_, evS_forO, evS_while_, startS, List.length_cons, List.length_nil, List.map_cons, List.map_nil, List.replicate, List.cons_append, List.nil_append, List.getD_cons_zero, List.getD_cons_succ, List.set_cons_zero, List.set_cons_succ, R.bind_ok, R.opt_some, R.calm_ok, R.thenS_ok, rd_int, rd_bool, rd_none, rd_str, rd_tup, rd_lst, rd_frz, seq_thenS, fin_thenS, seq_ite, fin_ite, RS.seq_next, RS.seq_ret, RS.fin_ret, RS.fin_next, Option.map_some, Option.bind_some, truthV_bool, truthV_int, truthV_none, setT_name, setT_tup, setTs_nil, setTs_cons, wipe_nil, wipe_cons, ix_l, ix_t, ix_f, at_l0, at_l1, at_l2, at_l3, add_i, sub_i, lt_i, le_i, gt_i, ge_i, eq_i, ne_i, is_n, isnot_n, isNone, len_t, len_l, len_f, tuple_t, tuple_l, tuple_f, list_t, list_l, list_f, int_i, abs_i, max_i, min_i, sum_l, sum_t, isi_int, isi_bool, isi_tup, isi_lst, isi_str, isi_none, slice_l, slice_t, slice_f, ixO_no, ixO_int, satT_thenS, satT_next, satT_ret, sat_thenS, sat_next, sat_ret, seq_t, seq_l, seq_f, vInts_len, evP_nil, evP_name, evP_item, R.tot_bind, R.tot_ok, Nat.reduceAdd, Nat.reduceSub, Bool.not_true, Bool.not_false, if_true, Bool.false_eq_true, if_false, any_b, cut_to _ (of_decide_eq_true hC)]
            cases hE : (ws.drop c.toNat).any (fun w => !decide (w = 0))
            · simp only [evSs_cons, evSs_nil, evE_var, evE_own, evE_con, evE_tup, evE_lst, evE_bin, evE_neg, evE_cmp, evE_cmp2, evE_not, evE_and, evE_or, evE_ite, evE_idx, evE_slice, evE_call, evE_bcall, evE_isi, evE_comp, evE_heap, evE_stop, evEs_nil, evEs_cons, evI_of, evI_rng1, evI_rng2, evI_zip, evI_enum, evS_stop, evS_exp, evS_ret, evS_retO, evS_retN, evS_pass, evS_brk, evS_cont, evS_asg, evS_asgOwn, evS_setR, evS_setO, evS_app, evS_appR, evS_extO, evS_popT, evS_popO, evS_aug, evS_par, evS_ite, evS_for_, evS_forO, evS_while_, startS, List.length_cons, List.length_nil, List.map_cons, List.map_nil, List.replicate, List.cons_append, List.nil_append, List.getD_cons_zero, List.getD_cons_succ, List.set_cons_zero, List.set_cons_succ, R.bind_ok, R.opt_some, R.calm_ok, R.thenS_ok, rd_int, rd_bool, rd_none, rd_str, rd_tup, rd_lst, rd_frz, seq_thenS, fin_thenS, seq_ite, fin_ite, RS.seq_next, RS.seq_ret, RS.fin_ret, RS.fin_next, Option.map_some, Option.bind_some, truthV_bool, truthV_int, truthV_none, setT_name, setT_tup, setTs_nil, setTs_cons, wipe_nil, wipe_cons, ix_l, ix_t, ix_f, at_l0, at_l1, at_l2, at_l3, add_i, sub_i, lt_i, le_i, gt_i, ge_i, eq_i, ne_i, is_n, isnot_n, isNone, len_t, len_l, len_f, tuple_t, tuple_l, tuple_f, list_t, list_l, list_f, int_i, abs_i, max_i, min_i, sum_l, sum_t, isi_int, isi_bool, isi_tup, isi_lst, isi_str, isi_none, slice_l, slice_t, slice_f, ixO_no, ixO_int, satT_thenS, satT_next, satT_ret, sat_thenS, sat_next, sat_ret, seq_t, seq_l, seq_f, vInts_len, evP_nil, evP_name, evP_item, R.tot_bind, R.tot_ok, Nat.reduceAdd, Nat.reduceSub, Bool.not_true, Bool.not_false, if_true, Bool.false_eq_true, if_false, Bool.true_or, Bool.or_true, Bool.false_or, Bool.or_false]
            · simp only [evSs_cons, evSs_nil, evE_var, evE_own, evE_con, evE_tup, evE_lst, evE_bin, evE_neg, evE_cmp, evE_cmp2, evE_not, evE_and, evE_or, evE_ite, evE_idx, evE_slice, evE_call, evE_bcall, evE_isi, evE_comp, evE_heap, evE_stop, evEs_nil, evEs_cons, evI_of, evI_rng1, evI_rng2, evI_zip, evI_enum, evS_stop, evS_exp, evS_ret, evS_retO, evS_retN, evS_pass, evS_brk, evS_cont, evS_asg, evS_asgOwn, evS_setR, evS_setO, evS_app, evS_appR, evS_extO, evS_popT, evS_popO, evS_aug, evS_par, evS_ite, evS_for_, evS_forO, evS_while_, startS, List.length_cons, List.length_nil, List.map_cons, List.map_nil, List.replicate, List.cons_append, List.nil_append, List.getD_cons_zero, List.getD_cons_succ, List.set_cons_zero, List.set_cons_succ, R.bind_ok, R.opt_some, R.calm_ok, R.thenS_ok, rd_int, rd_bool, rd_none, rd_str, rd_tup, rd_lst, rd_frz, seq_thenS, fin_thenS, seq_ite, fin_ite, RS.seq_next, RS.seq_ret, RS.fin_ret, RS.fin_next, Option.map_some, Option.bind_some, truthV_bool, truthV_int, truthV_none, setT_name, setT_tup, setTs_nil, setTs_cons, wipe_nil, wipe_cons, ix_l, ix_t, ix_f, at_l0, at_l1, at_l2, at_l3, add_i, sub_i, lt_i, le_i, gt_i, ge_i, eq_i, ne_i, is_n, isnot_n, isNone, len_t, len_l, len_f, tuple_t, tuple_l, tuple_f, list_t, list_l, list_f, int_i, abs_i, max_i, min_i, sum_l, sum_t, isi_int, isi_bool, isi_tup, isi_lst, isi_str, isi_none, slice_l, slice_t, slice_f, ixO_no, ixO_int, satT_thenS, satT_next, satT_ret, sat_thenS, sat_next, sat_ret, seq_t, seq_l, seq_f, vInts_len, evP_nil, evP_name, evP_item, R.tot_bind, R.tot_ok, Nat.reduceAdd, Nat.reduceSub, Bool.not_true, Bool.not_false, if_true, Bool.false_eq_true, if_false, Bool.true_or, Bool.or_true, Bool.false_or]
  · simp only [evSs_cons, evSs_nil, evE_var, evE_own, evE_con, evE_tup, evE_lst, evE_bin, evE_neg, evE_cmp, evE_cmp2, evE_not, evE_and, evE_or, evE_ite, evE_idx, evE_slice, evE_call, evE_bcall, evE_isi, evE_comp, evE_heap, evE_stop, evEs_nil, evEs_cons, evI_of, evI_rng1, evI_rng2, evI_zip, evI_enum, evS_stop, evS_exp, evS_ret, evS_retO, evS_retN, evS_pass, evS_brk, evS_cont, evS_asg, evS_asgOwn, evS_setR, evS_setO, evS_app, evS_appR, evS_extO, evS_popT, evS_popO, evS_aug, evS_par, evS_ite, evS_for_, evS_forO, evS_while_, startS, List.length_cons, List.length_nil, List.map_cons, List.map_nil, List.replicate, List.cons_append, List.nil_append, List.getD_cons_zero, List.getD_cons_succ, List.set_cons_zero, List.set_cons_succ, R.bind_ok, R.opt_some, R.calm_ok, R.thenS_ok, rd_int, rd_bool, rd_none, rd_str, rd_tup, rd_lst, rd_frz, seq_thenS, fin_thenS, seq_ite, fin_ite, RS.seq_next, RS.seq_ret, RS.fin_ret, RS.fin_next, Option.map_some, Option.bind_some, truthV_bool, truthV_int, truthV_none, setT_name, setT_tup, setTs_nil, setTs_cons, wipe_nil, wipe_cons, ix_l, ix_t, ix_f, at_l0, at_l1, at_l2, at_l3, add_i, sub_i, lt_i, le_i, gt_i, ge_i, eq_i, ne_i, is_n, isnot_n, isNone, len_t, len_l, len_f, tuple_t, tuple_l, tuple_f, list_t, list_l, list_f, int_i, abs_i, max_i, min_i, sum_l, sum_t, isi_int, isi_bool, isi_tup, isi_lst, isi_str, isi_none, slice_l, slice_t, slice_f, ixO_no, ixO_int, satT_thenS, satT_next, satT_ret, sat_thenS, sat_next, sat_ret, seq_t, seq_l, seq_f, vInts_len, evP_nil, evP_name, evP_item, R.tot_bind, R.tot_ok, Nat.reduceAdd, Nat.reduceSub, Bool.not_true, Bool.not_false, if_true, Bool.false_eq_true, if_false, hA, Bool.true_or, Bool.or_true, Bool.false_or]
end Fx.Law

namespace Fx.Law
open PySem PySem.Spec PyProof.Rows L2 Fx
theorem cellForm (l : List Int) (h : 4 ≤ l.length) : ∃ a b c ws tl, l = a :: b :: c :: (ws ++ [tl]) ∧ ws.length + 4 = l.length := by
  match l, h with
  | a :: b :: c :: d :: r, _ =>
    have hne : (d :: r) ≠ [] := by simp
    refine ⟨a, b, c, (d :: r).dropLast, (d :: r).getLast hne, ?_, ?_⟩
    · rw [List.dropLast_concat_getLast hne]
    · simp
def HV (v : Val) : Prop := v = .none ∨ ∃ (h : Int) (w : List Int), v = .tup [.int h, .tup (vInts w)] ∧ w.length ≤ 1000
theorem heldV_hv (h c t : Int) (ws : List Int) (tl : Int) (hl : ws.length ≤ 1000) : HV (heldV h c t ws tl) := by
  unfold heldV
  split
  · exact .inl rfl
  · exact .inr ⟨h, _, rfl, by rw [List.length_take]; omega⟩
structure DevOk (xs : List Int) (V0 V1 : Val) : Prop where
  hb0 : ∀ k G, callN P (k+2) "held_by" [.tup (vInts xs), .int 0] G = .ok V0 G
  hb1 : ∀ k G, callN P (k+2) "held_by" [.tup (vInts xs), .int 1] G = .ok V1 G
  lh0 : ∀ k G, callN P (k+1) "_law_held" [.tup (cutL (vInts xs) none (some ((xs.length : Int) / 2)))] G = .ok V0 G
  lh1 : ∀ k G, callN P (k+1) "_law_held" [.tup (cutL (vInts xs) (some ((xs.length : Int) / 2)) none)] G = .ok V1 G
  f0 : HV V0
  f1 : HV V1
theorem dev_of (xs : List Int) (L : Nat) (hl : xs.length = 2 * L) (l0 : 30 ≤ L) (l1 : L ≤ 40) : ∃ V0 V1, DevOk xs V0 V1 := by
  obtain ⟨a, b, c, ws, tl, e, hw⟩ := cellForm (xs.take L) (by rw [List.length_take]; omega)
  obtain ⟨a', b', c', ws', tl', e', hw'⟩ := cellForm (xs.drop L) (by rw [List.length_drop]; omega)
  have hL : ((xs.length : Int) / 2) = L := by omega
  have t1 : (xs.take L).length = L := by rw [List.length_take]; omega
  have t2 : (xs.drop L).length = L := by rw [List.length_drop]; omega
  have s0 : slotC (vInts xs) 0 = vInts (xs.take L) := by
    unfold slotC
    rw [vInts_len, hL, vInts, cutL_map, cutL_mid _ _ _ (by omega) (by omega) (by omega) (by omega)]
    have q1 : ((0 : Int) * L).toNat = 0 := by omega
    have q2 : ((0 + 1) * (L : Int) - 0 * L).toNat = L := by omega
    rw [q1, q2]; rfl
  have s1 : slotC (vInts xs) 1 = vInts (xs.drop L) := by
    unfold slotC
    rw [vInts_len, hL, vInts, cutL_map, cutL_mid _ _ _ (by omega) (by omega) (by omega) (by omega)]
    have q1 : ((1 : Int) * L).toNat = L := by omega
    have q2 : ((1 + 1) * (L : Int) - 1 * L).toNat = L := by omega
    rw [q1, q2, List.take_of_length_le (by omega)]
  have c0 : cutL (vInts xs) none (some ((xs.length : Int) / 2)) = vInts (xs.take L) := by rw [hL, cut_to _ (by omega), Int.toNat_natCast]
  have c1 : cutL (vInts xs) (some ((xs.length : Int) / 2)) none = vInts (xs.drop L) := by rw [hL, cut_from _ (by omega), Int.toNat_natCast]
  refine ⟨heldV a b c ws tl, heldV a' b' c' ws' tl', fun k G => held_by_eq k G (.inl rfl) ?_ (by omega), fun k G => held_by_eq k G (.inr rfl) ?_ (by omega), fun k G => ?_, fun k G => ?_, heldV_hv _ _ _ _ _ (by omega), heldV_hv _ _ _ _ _ (by omega)⟩
  · rw [s0, e]; exact cells_of ..
  · rw [s1, e']; exact cells_of ..
  · rw [c0, e]; exact law_held_eq k G (cells_of ..) (by omega)
  · rw [c1, e']; exact law_held_eq k G (cells_of ..) (by omega)
section
variable {xs : List Int} {V0 V1 : Val}
theorem both_eq (d : DevOk xs V0 V1) (k : Nat) (G : Heap) : callN P (k+2) "_law_both" [.tup (vInts xs)] G = .ok (.tup [V0, V1]) G := by
  rw [call_eq pw_law_both _ _ _ rfl]
  simp only [Bw_law_both, evSs_cons, evSs_nil, evE_var, evE_own, evE_con, evE_tup, evE_lst, evE_bin, evE_neg, evE_cmp, evE_cmp2, evE_not, evE_and, evE_or, evE_ite, evE_idx, evE_slice, evE_call, evE_bcall, evE_isi, evE_comp, evE_heap, evE_stop, evEs_nil, evEs_cons, evI_of, evI_rng1, evI_rng2, evI_zip, evI_enum, evS_stop, evS_exp, evS_ret, evS_retO, evS_retN, evS_pass, evS_brk, evS_cont, evS_asg, evS_asgOwn, evS_setR, evS_setO, evS_app, evS_appR, evS_extO, evS_popT, evS_popO, evS_aug, evS_par, evS_ite, evS_for_, evS_forO, evS_while_, startS, List.length_cons, List.length_nil, List.map_cons, List.map_nil, List.replicate, List.cons_append, List.nil_append, List.getD_cons_zero, List.getD_cons_succ, List.set_cons_zero, List.set_cons_succ, R.bind_ok, R.opt_some, R.calm_ok, R.thenS_ok, rd_int, rd_bool, rd_none, rd_str, rd_tup, rd_lst, rd_frz, seq_thenS, fin_thenS, seq_ite, fin_ite, RS.seq_next, RS.seq_ret, RS.fin_ret, RS.fin_next, Option.map_some, Option.bind_some, truthV_bool, truthV_int, truthV_none, setT_name, setT_tup, setTs_nil, setTs_cons, wipe_nil, wipe_cons, ix_l, ix_t, ix_f, at_l0, at_l1, at_l2, at_l3, add_i, sub_i, lt_i, le_i, gt_i, ge_i, eq_i, ne_i, is_n, isnot_n, isNone, len_t, len_l, len_f, tuple_t, tuple_l, tuple_f, list_t, list_l, list_f, int_i, abs_i, max_i, min_i, sum_l, sum_t, isi_int, isi_bool, isi_tup, isi_lst, isi_str, isi_none, slice_l, slice_t, slice_f, ixO_no, ixO_int, satT_thenS, satT_next, satT_ret, sat_thenS, sat_next, sat_ret, seq_t, seq_l, seq_f, vInts_len, evP_nil, evP_name, evP_item, R.tot_bind, R.tot_ok, Nat.reduceAdd, Nat.reduceSub, Bool.not_true, Bool.not_false, if_true, Bool.false_eq_true, if_false, div_i _ 2 (show (decide ((0:Int) < 2) && decide ((2:Int) < p64)) = true by decide), d.lh0, d.lh1]
def nowV (V0 V1 : Val) : Val := match V0, V1 with
  | .tup (.int a :: _), .tup (.int b :: _) => .int (if decide (a < b) then 1 else 0)
  | .none, .none => .none
  | .none, _ => .int 1
  | _, _ => .int 0
theorem current_eq (d : DevOk xs V0 V1) (k : Nat) (G : Heap) : callN P (k+3) "current_by" [.tup (vInts xs)] G = .ok (nowV V0 V1) G := by
  rw [call_eq pcurrent_by _ _ _ rfl]
  simp only [Bcurrent_by, evSs_cons, evSs_nil, evE_var, evE_own, evE_con, evE_tup, evE_lst, evE_bin, evE_neg, evE_cmp, evE_cmp2, evE_not, evE_and, evE_or, evE_ite, evE_idx, evE_slice, evE_call, evE_bcall, evE_isi, evE_comp, evE_heap, evE_stop, evEs_nil, evEs_cons, evI_of, evI_rng1, evI_rng2, evI_zip, evI_enum, evS_stop, evS_exp, evS_ret, evS_retO, evS_retN, evS_pass, evS_brk, evS_cont, evS_asg, evS_asgOwn, evS_setR, evS_setO, evS_app, evS_appR, evS_extO, evS_popT, evS_popO, evS_aug, evS_par, evS_ite, evS_for_, evS_forO, evS_while_, startS, List.length_cons, List.length_nil, List.map_cons, List.map_nil, List.replicate, List.cons_append, List.nil_append, List.getD_cons_zero, List.getD_cons_succ, List.set_cons_zero, List.set_cons_succ, R.bind_ok, R.opt_some, R.calm_ok, R.thenS_ok, rd_int, rd_bool, rd_none, rd_str, rd_tup, rd_lst, rd_frz, seq_thenS, fin_thenS, seq_ite, fin_ite, RS.seq_next, RS.seq_ret, RS.fin_ret, RS.fin_next, Option.map_some, Option.bind_some, truthV_bool, truthV_int, truthV_none, setT_name, setT_tup, setTs_nil, setTs_cons, wipe_nil, wipe_cons, ix_l, ix_t, ix_f, at_l0, at_l1, at_l2, at_l3, add_i, sub_i, lt_i, le_i, gt_i, ge_i, eq_i, ne_i, is_n, isnot_n, isNone, len_t, len_l, len_f, tuple_t, tuple_l, tuple_f, list_t, list_l, list_f, int_i, abs_i, max_i, min_i, sum_l, sum_t, isi_int, isi_bool, isi_tup, isi_lst, isi_str, isi_none, slice_l, slice_t, slice_f, ixO_no, ixO_int, satT_thenS, satT_next, satT_ret, sat_thenS, sat_next, sat_ret, seq_t, seq_l, seq_f, vInts_len, evP_nil, evP_name, evP_item, R.tot_bind, R.tot_ok, Nat.reduceAdd, Nat.reduceSub, Bool.not_true, Bool.not_false, if_true, Bool.false_eq_true, if_false, d.hb0 k, d.hb1 k]
  rcases d.f0 with e0 | ⟨h0, w0, e0, _⟩ <;> rcases d.f1 with e1 | ⟨h1, w1, e1, _⟩ <;> subst e0 e1 <;> simp only [evSs_cons, evSs_nil, evE_var, evE_own, evE_con, evE_tup, evE_lst, evE_bin, evE_neg, evE_cmp, evE_cmp2, evE_not, evE_and, evE_or, evE_ite, evE_idx, evE_slice, evE_call, evE_bcall, evE_isi, evE_comp, evE_heap, evE_stop, evEs_nil, evEs_cons, evI_of, evI_rng1, evI_rng2, evI_zip, evI_enum, evS_stop, evS_exp, evS_ret, evS_retO, evS_retN, evS_pass, evS_brk, evS_cont, evS_asg, evS_asgOwn, evS_setR, evS_setO, evS_app, evS_appR, evS_extO, evS_popT, evS_popO, evS_aug, evS_par, evS_ite, evS_for_, evS_forO, evS_while_, startS, List.length_cons, List.length_nil, List.map_cons, List.map_nil, List.replicate, List.cons_append, List.nil_append, List.getD_cons_zero, List.getD_cons_succ, List.set_cons_zero, List.set_cons_succ, R.bind_ok, R.opt_some, R.calm_ok, R.thenS_ok, rd_int, rd_bool, rd_none, rd_str, rd_tup, rd_lst, rd_frz, seq_thenS, fin_thenS, seq_ite, fin_ite, RS.seq_next, RS.seq_ret, RS.fin_ret, RS.fin_next, Option.map_some, Option.bind_some, truthV_bool, truthV_int, truthV_none, setT_name, setT_tup, setTs_nil, setTs_cons, wipe_nil, wipe_cons, ix_l, ix_t, ix_f, at_l0, at_l1, at_l2, at_l3, add_i, sub_i, lt_i, le_i, gt_i, ge_i, eq_i, ne_i, is_n, isnot_n, isNone, len_t, len_l, len_f, tuple_t, tuple_l, tuple_f, list_t, list_l, list_f, int_i, abs_i, max_i, min_i, sum_l, sum_t, isi_int, isi_bool, isi_tup, isi_lst, isi_str, isi_none, slice_l, slice_t, slice_f, ixO_no, ixO_int, satT_thenS, satT_next, satT_ret, sat_thenS, sat_next, sat_ret, seq_t, seq_l, seq_f, vInts_len, evP_nil, evP_name, evP_item, R.tot_bind, R.tot_ok, Nat.reduceAdd, Nat.reduceSub, Bool.not_true, Bool.not_false, if_true, Bool.false_eq_true, if_false, nowV]
  split <;> rfl
theorem now_eq (f0 : HV V0) (f1 : HV V1) (k : Nat) (G : Heap) : callN P (k+1) "_law_now" [.tup [V0, V1]] G = .ok (nowV V0 V1) G := by
  rw [call_eq pw_law_now _ _ _ rfl]
  rcases f0 with e0 | ⟨h0, w0, e0, _⟩ <;> rcases f1 with e1 | ⟨h1, w1, e1, _⟩ <;> subst e0 e1 <;> simp only [Bw_law_now, evSs_cons, evSs_nil, evE_var, evE_own, evE_con, evE_tup, evE_lst, evE_bin, evE_neg, evE_cmp, evE_cmp2, evE_not, evE_and, evE_or, evE_ite, evE_idx, evE_slice, evE_call, evE_bcall, evE_isi, evE_comp, evE_heap, evE_stop, evEs_nil, evEs_cons, evI_of, evI_rng1, evI_rng2, evI_zip, evI_enum, evS_stop, evS_exp, evS_ret, evS_retO, evS_retN, evS_pass, evS_brk, evS_cont, evS_asg, evS_asgOwn, evS_setR, evS_setO, evS_app, evS_appR, evS_extO, evS_popT, evS_popO, evS_aug, evS_par, evS_ite, evS_for_, evS_forO, evS_while_, startS, List.length_cons, List.length_nil, List.map_cons, List.map_nil, List.replicate, List.cons_append, List.nil_append, List.getD_cons_zero, List.getD_cons_succ, List.set_cons_zero, List.set_cons_succ, R.bind_ok, R.opt_some, R.calm_ok, R.thenS_ok, rd_int, rd_bool, rd_none, rd_str, rd_tup, rd_lst, rd_frz, seq_thenS, fin_thenS, seq_ite, fin_ite, RS.seq_next, RS.seq_ret, RS.fin_ret, RS.fin_next, Option.map_some, Option.bind_some, truthV_bool, truthV_int, truthV_none, setT_name, setT_tup, setTs_nil, setTs_cons, wipe_nil, wipe_cons, ix_l, ix_t, ix_f, at_l0, at_l1, at_l2, at_l3, add_i, sub_i, lt_i, le_i, gt_i, ge_i, eq_i, ne_i, is_n, isnot_n, isNone, len_t, len_l, len_f, tuple_t, tuple_l, tuple_f, list_t, list_l, list_f, int_i, abs_i, max_i, min_i, sum_l, sum_t, isi_int, isi_bool, isi_tup, isi_lst, isi_str, isi_none, slice_l, slice_t, slice_f, ixO_no, ixO_int, satT_thenS, satT_next, satT_ret, sat_thenS, sat_next, sat_ret, seq_t, seq_l, seq_f, vInts_len, evP_nil, evP_name, evP_item, R.tot_bind, R.tot_ok, Nat.reduceAdd, Nat.reduceSub, Bool.not_true, Bool.not_false, if_true, Bool.false_eq_true, if_false, nowV]
  split <;> rfl
end
end Fx.Law

namespace Fx.Law
open PySem PySem.Spec PyProof.Rows L2 Fx
/-- a write that clears a slot's first cell -/
def wr (i : Int) : Val := .tup [.int i, .int 0]
theorem clears_of {xs : List Int} {V0 V1 : Val} (d : DevOk xs V0 V1) (L : Nat) (hl : xs.length = 2 * L) (l0 : 30 ≤ L) (l1 : L ≤ 40) :
    ∃ ps : List Int, ps.length ≤ 2 ∧ (∀ i ∈ ps, 0 ≤ i ∧ i < xs.length) ∧ (∀ k G, callN P (k+3) "mending_by" [.tup (vInts xs)] G = .ok (.tup (ps.map wr)) G) ∧ (∀ k G, callN P (k+3) "_law_clears" [.tup (vInts xs)] G = .ok (.tup (ps.map wr)) G) := by
  have hL : ((xs.length : Int) / 2) = L := by omega
  obtain ⟨d0, e0⟩ := atV (cs := xs) (k := 0 * (L : Int)) (by omega) (by omega)
  obtain ⟨d1, e1⟩ := atV (cs := xs) (k := 1 * (L : Int)) (by omega) (by omega)
  have m0 : ∀ x, binK .Mult (.int 0) (.int x) = some (.int (0 * x)) := fun x => mul_l _ _ (by decide)
  have m1 : ∀ x, binK .Mult (.int 1) (.int x) = some (.int (1 * x)) := fun x => mul_l _ _ (by decide)
  let p : Int → Bool := fun i => if i = 0 then !decide (d0 = 0) && isNone V0 else !decide (d1 = 0) && isNone V1
  have t0 : truthV V0 = some (!isNone V0) := by rcases d.f0 with e | ⟨_, _, e, _⟩ <;> subst e <;> rfl
  refine ⟨([0, 1].filter p).map (· * (L : Int)), ?_, ?_, ?_, ?_⟩
  · rw [List.length_map]; exact List.length_filter_le ..
  · intro i hi
    obtain ⟨j, hj, rfl⟩ := List.mem_map.mp hi
    have hj := (List.mem_filter.mp hj).1
    simp only [List.mem_cons, List.not_mem_nil, or_false] at hj
    rcases hj with rfl | rfl <;> omega
  · intro k G
    rw [call_eq pmending_by _ _ _ rfl]
    have run : ∀ st : Store, st.length = 3 → st.getD 0 .no = .val (.tup (vInts xs)) → st.getD 1 .no = .val (.int L) → compR (setT (Tg.name 2)) (evE (callN P (k+2)) (.and (.cmp .NotEq (.idx (.var 0) (.bin .Mult (.var 2) (.var 1))) (.con (.int (0)))) (.cmp .Is (.call "held_by" (.cons (.var 0) (.cons (.var 2) .nil))) (.con .none)))) (evE (callN P (k+2)) (.tup (.cons (.bin .Mult (.var 2) (.var 1)) (.cons (.con (.int (0))) .nil)))) [.int 0, .int 1] st G = .ok ((([0, 1].filter p).map (· * (L : Int))).map wr) G := by
      intro st hlen g0 g1
      have q := compR_map (tg := setT (Tg.name 2)) (c := evE (callN P (k+2)) (.and (.cmp .NotEq (.idx (.var 0) (.bin .Mult (.var 2) (.var 1))) (.con (.int (0)))) (.cmp .Is (.call "held_by" (.cons (.var 0) (.cons (.var 2) .nil))) (.con .none)))) (e := evE (callN P (k+2)) (.tup (.cons (.bin .Mult (.var 2) (.var 1)) (.cons (.con (.int (0))) .nil)))) (G := G) (s := st) (fun v => match v with | .int i => p i | _ => false) (fun v => match v with | .int i => wr (i * L) | v => v) (xs := [.int 0, .int 1]) ?_
      · rw [q]
        simp only [List.filter_cons, List.filter_nil]
        by_cases q0 : p 0 = true <;> by_cases q1 : p 1 = true <;> simp only [q0, q1, if_true, Bool.false_eq_true, if_false, List.map_cons, List.map_nil]
      · match st, hlen, g0, g1 with
        | [a, b, c], _, g0, g1 =>
          have g0 : a = .val (.tup (vInts xs)) := g0
          have g1 : b = .val (.int L) := g1
          subst g0 g1
          intro x hx
          simp only [List.mem_cons, List.not_mem_nil, or_false] at hx
          rcases hx with rfl | rfl
          · refine ⟨_, .bool (p 0), setT_name .., ?_, rfl, fun _ => ?_⟩
            · simp only [evSs_cons, evSs_nil, evE_var, evE_own, evE_con, evE_tup, evE_lst, evE_bin, evE_neg, evE_cmp, evE_cmp2, evE_not, evE_and, evE_or, evE_ite, evE_idx, evE_slice, evE_call, evE_bcall, evE_isi, evE_comp, evE_heap, evE_stop, evEs_nil, evEs_cons, evI_of, evI_rng1, evI_rng2, evI_zip, evI_enum, evS_stop, evS_exp, evS_ret, evS_retO, evS_retN, evS_pass, evS_brk, evS_cont, evS_asg, evS_asgOwn, evS_setR, evS_setO, evS_app, evS_appR, evS_extO, evS_popT, evS_popO, evS_aug, evS_par, evS_ite, evS_for_, evS_forO, evS_while_, startS, List.length_cons, List.length_nil, List.map_cons, List.map_nil, List.replicate, List.cons_append, List.nil_append, List.getD_cons_zero, List.getD_cons_succ, List.set_cons_zero, List.set_cons_succ, R.bind_ok, R.opt_some, R.calm_ok, R.thenS_ok, rd_int, rd_bool, rd_none, rd_str, rd_tup, rd_lst, rd_frz, seq_thenS, fin_thenS, seq_ite, fin_ite, RS.seq_next, RS.seq_ret, RS.fin_ret, RS.fin_next, Option.map_some, Option.bind_some, truthV_bool, truthV_int, truthV_none, setT_name, setT_tup, setTs_nil, setTs_cons, wipe_nil, wipe_cons, ix_l, ix_t, ix_f, at_l0, at_l1, at_l2, at_l3, add_i, sub_i, lt_i, le_i, gt_i, ge_i, eq_i, ne_i, is_n, isnot_n, isNone, len_t, len_l, len_f, tuple_t, tuple_l, tuple_f, list_t, list_l, list_f, int_i, abs_i, max_i, min_i, sum_l, sum_t, isi_int, isi_bool, isi_tup, isi_lst, isi_str, isi_none, slice_l, slice_t, slice_f, ixO_no, ixO_int, satT_thenS, satT_next, satT_ret, sat_thenS, sat_next, sat_ret, seq_t, seq_l, seq_f, vInts_len, evP_nil, evP_name, evP_item, R.tot_bind, R.tot_ok, Nat.reduceAdd, Nat.reduceSub, Bool.not_true, Bool.not_false, if_true, Bool.false_eq_true, if_false, m0, e0, d.hb0 k]
              show _ = R.ok (Val.bool (!decide (d0 = 0) && isNone V0)) G
              cases decide (d0 = 0)
              · rcases d.f0 with e | ⟨_, _, e, _⟩ <;> subst e <;> simp only [evSs_cons, evSs_nil, evE_var, evE_own, evE_con, evE_tup, evE_lst, evE_bin, evE_neg, evE_cmp, evE_cmp2, evE_not, evE_and, evE_or, evE_ite, evE_idx, evE_slice, evE_call, evE_bcall, evE_isi, evE_comp, evE_heap, evE_stop, evEs_nil, evEs_cons, evI_of, evI_rng1, evI_rng2, evI_zip, evI_enum, evS_stop, evS_exp, evS_ret, evS_retO, evS_retN, evS_pass, evS_brk, evS_cont, evS_asg, evS_asgOwn, evS_setR, evS_setO, evS_app, evS_appR, evS_extO, evS_popT, evS_popO, evS_aug, evS_par, evS_ite, evS_for_, evS_forO, evS_while_, startS, List.length_cons, List.length_nil, List.map_cons, List.map_nil, List.replicate, List.cons_append, List.nil_append, List.getD_cons_zero, List.getD_cons_succ, List.set_cons_zero, List.set_cons_succ, R.bind_ok, R.opt_some, R.calm_ok, R.thenS_ok, rd_int, rd_bool, rd_none, rd_str, rd_tup, rd_lst, rd_frz, seq_thenS, fin_thenS, seq_ite, fin_ite, RS.seq_next, RS.seq_ret, RS.fin_ret, RS.fin_next, Option.map_some, Option.bind_some, truthV_bool, truthV_int, truthV_none, setT_name, setT_tup, setTs_nil, setTs_cons, wipe_nil, wipe_cons, ix_l, ix_t, ix_f, at_l0, at_l1, at_l2, at_l3, add_i, sub_i, lt_i, le_i, gt_i, ge_i, eq_i, ne_i, is_n, isnot_n, isNone, len_t, len_l, len_f, tuple_t, tuple_l, tuple_f, list_t, list_l, list_f, int_i, abs_i, max_i, min_i, sum_l, sum_t, isi_int, isi_bool, isi_tup, isi_lst, isi_str, isi_none, slice_l, slice_t, slice_f, ixO_no, ixO_int, satT_thenS, satT_next, satT_ret, sat_thenS, sat_next, sat_ret, seq_t, seq_l, seq_f, vInts_len, evP_nil, evP_name, evP_item, R.tot_bind, R.tot_ok, Nat.reduceAdd, Nat.reduceSub, Bool.not_true, Bool.not_false, if_true, Bool.false_eq_true, if_false, Bool.true_and, Bool.false_and]
              · simp only [evSs_cons, evSs_nil, evE_var, evE_own, evE_con, evE_tup, evE_lst, evE_bin, evE_neg, evE_cmp, evE_cmp2, evE_not, evE_and, evE_or, evE_ite, evE_idx, evE_slice, evE_call, evE_bcall, evE_isi, evE_comp, evE_heap, evE_stop, evEs_nil, evEs_cons, evI_of, evI_rng1, evI_rng2, evI_zip, evI_enum, evS_stop, evS_exp, evS_ret, evS_retO, evS_retN, evS_pass, evS_brk, evS_cont, evS_asg, evS_asgOwn, evS_setR, evS_setO, evS_app, evS_appR, evS_extO, evS_popT, evS_popO, evS_aug, evS_par, evS_ite, evS_for_, evS_forO, evS_while_, startS, List.length_cons, List.length_nil, List.map_cons, List.map_nil, List.replicate, List.cons_append, List.nil_append, List.getD_cons_zero, List.getD_cons_succ, List.set_cons_zero, List.set_cons_succ, R.bind_ok, R.opt_some, R.calm_ok, R.thenS_ok, rd_int, rd_bool, rd_none, rd_str, rd_tup, rd_lst, rd_frz, seq_thenS, fin_thenS, seq_ite, fin_ite, RS.seq_next, RS.seq_ret, RS.fin_ret, RS.fin_next, Option.map_some, Option.bind_some, truthV_bool, truthV_int, truthV_none, setT_name, setT_tup, setTs_nil, setTs_cons, wipe_nil, wipe_cons, ix_l, ix_t, ix_f, at_l0, at_l1, at_l2, at_l3, add_i, sub_i, lt_i, le_i, gt_i, ge_i, eq_i, ne_i, is_n, isnot_n, isNone, len_t, len_l, len_f, tuple_t, tuple_l, tuple_f, list_t, list_l, list_f, int_i, abs_i, max_i, min_i, sum_l, sum_t, isi_int, isi_bool, isi_tup, isi_lst, isi_str, isi_none, slice_l, slice_t, slice_f, ixO_no, ixO_int, satT_thenS, satT_next, satT_ret, sat_thenS, sat_next, sat_ret, seq_t, seq_l, seq_f, vInts_len, evP_nil, evP_name, evP_item, R.tot_bind, R.tot_ok, Nat.reduceAdd, Nat.reduceSub, Bool.not_true, Bool.not_false, if_true, Bool.false_eq_true, if_false, Bool.true_and, Bool.false_and]
            · simp only [evSs_cons, evSs_nil, evE_var, evE_own, evE_con, evE_tup, evE_lst, evE_bin, evE_neg, evE_cmp, evE_cmp2, evE_not, evE_and, evE_or, evE_ite, evE_idx, evE_slice, evE_call, evE_bcall, evE_isi, evE_comp, evE_heap, evE_stop, evEs_nil, evEs_cons, evI_of, evI_rng1, evI_rng2, evI_zip, evI_enum, evS_stop, evS_exp, evS_ret, evS_retO, evS_retN, evS_pass, evS_brk, evS_cont, evS_asg, evS_asgOwn, evS_setR, evS_setO, evS_app, evS_appR, evS_extO, evS_popT, evS_popO, evS_aug, evS_par, evS_ite, evS_for_, evS_forO, evS_while_, startS, List.length_cons, List.length_nil, List.map_cons, List.map_nil, List.replicate, List.cons_append, List.nil_append, List.getD_cons_zero, List.getD_cons_succ, List.set_cons_zero, List.set_cons_succ, R.bind_ok, R.opt_some, R.calm_ok, R.thenS_ok, rd_int, rd_bool, rd_none, rd_str, rd_tup, rd_lst, rd_frz, seq_thenS, fin_thenS, seq_ite, fin_ite, RS.seq_next, RS.seq_ret, RS.fin_ret, RS.fin_next, Option.map_some, Option.bind_some, truthV_bool, truthV_int, truthV_none, setT_name, setT_tup, setTs_nil, setTs_cons, wipe_nil, wipe_cons, ix_l, ix_t, ix_f, at_l0, at_l1, at_l2, at_l3, add_i, sub_i, lt_i, le_i, gt_i, ge_i, eq_i, ne_i, is_n, isnot_n, isNone, len_t, len_l, len_f, tuple_t, tuple_l, tuple_f, list_t, list_l, list_f, int_i, abs_i, max_i, min_i, sum_l, sum_t, isi_int, isi_bool, isi_tup, isi_lst, isi_str, isi_none, slice_l, slice_t, slice_f, ixO_no, ixO_int, satT_thenS, satT_next, satT_ret, sat_thenS, sat_next, sat_ret, seq_t, seq_l, seq_f, vInts_len, evP_nil, evP_name, evP_item, R.tot_bind, R.tot_ok, Nat.reduceAdd, Nat.reduceSub, Bool.not_true, Bool.not_false, if_true, Bool.false_eq_true, if_false, m0]; rfl
          · refine ⟨_, .bool (p 1), setT_name .., ?_, rfl, fun _ => ?_⟩
            · simp only [evSs_cons, evSs_nil, evE_var, evE_own, evE_con, evE_tup, evE_lst, evE_bin, evE_neg, evE_cmp, evE_cmp2, evE_not, evE_and, evE_or, evE_ite, evE_idx, evE_slice, evE_call, evE_bcall, evE_isi, evE_comp, evE_heap, evE_stop, evEs_nil, evEs_cons, evI_of, evI_rng1, evI_rng2, evI_zip, evI_enum, evS_stop, evS_exp, evS_ret, evS_retO, evS_retN, evS_pass, evS_brk, evS_cont, evS_asg, evS_asgOwn, evS_setR, evS_setO, evS_app, evS_appR, evS_extO, evS_popT, evS_popO, evS_aug, evS_par, evS_ite, evS_for_, evS_forO, evS_while_, startS, List.length_cons, List.length_nil, List.map_cons, List.map_nil, List.replicate, List.cons_append, List.nil_append, List.getD_cons_zero, List.getD_cons_succ, List.set_cons_zero, List.set_cons_succ, R.bind_ok, R.opt_some, R.calm_ok, R.thenS_ok, rd_int, rd_bool, rd_none, rd_str, rd_tup, rd_lst, rd_frz, seq_thenS, fin_thenS, seq_ite, fin_ite, RS.seq_next, RS.seq_ret, RS.fin_ret, RS.fin_next, Option.map_some, Option.bind_some, truthV_bool, truthV_int, truthV_none, setT_name, setT_tup, setTs_nil, setTs_cons, wipe_nil, wipe_cons, ix_l, ix_t, ix_f, at_l0, at_l1, at_l2, at_l3, add_i, sub_i, lt_i, le_i, gt_i, ge_i, eq_i, ne_i, is_n, isnot_n, isNone, len_t, len_l, len_f, tuple_t, tuple_l, tuple_f, list_t, list_l, list_f, int_i, abs_i, max_i, min_i, sum_l, sum_t, isi_int, isi_bool, isi_tup, isi_lst, isi_str, isi_none, slice_l, slice_t, slice_f, ixO_no, ixO_int, satT_thenS, satT_next, satT_ret, sat_thenS, sat_next, sat_ret, seq_t, seq_l, seq_f, vInts_len, evP_nil, evP_name, evP_item, R.tot_bind, R.tot_ok, Nat.reduceAdd, Nat.reduceSub, Bool.not_true, Bool.not_false, if_true, Bool.false_eq_true, if_false, m1, e1, d.hb1 k]
              show _ = R.ok (Val.bool (!decide (d1 = 0) && isNone V1)) G
              cases decide (d1 = 0)
              · rcases d.f1 with e | ⟨_, _, e, _⟩ <;> subst e <;> simp only [evSs_cons, evSs_nil, evE_var, evE_own, evE_con, evE_tup, evE_lst, evE_bin, evE_neg, evE_cmp, evE_cmp2, evE_not, evE_and, evE_or, evE_ite, evE_idx, evE_slice, evE_call, evE_bcall, evE_isi, evE_comp, evE_heap, evE_stop, evEs_nil, evEs_cons, evI_of, evI_rng1, evI_rng2, evI_zip, evI_enum, evS_stop, evS_exp, evS_ret, evS_retO, evS_retN, evS_pass, evS_brk, evS_cont, evS_asg, evS_asgOwn, evS_setR, evS_setO, evS_app, evS_appR, evS_extO, evS_popT, evS_popO, evS_aug, evS_par, evS_ite, evS_for_, evS_forO, evS_while_, startS, List.length_cons, List.length_nil, List.map_cons, List.map_nil, List.replicate, List.cons_append, List.nil_append, List.getD_cons_zero, List.getD_cons_succ, List.set_cons_zero, List.set_cons_succ, R.bind_ok, R.opt_some, R.calm_ok, R.thenS_ok, rd_int, rd_bool, rd_none, rd_str, rd_tup, rd_lst, rd_frz, seq_thenS, fin_thenS, seq_ite, fin_ite, RS.seq_next, RS.seq_ret, RS.fin_ret, RS.fin_next, Option.map_some, Option.bind_some, truthV_bool, truthV_int, truthV_none, setT_name, setT_tup, setTs_nil, setTs_cons, wipe_nil, wipe_cons, ix_l, ix_t, ix_f, at_l0, at_l1, at_l2, at_l3, add_i, sub_i, lt_i, le_i, gt_i, ge_i, eq_i, ne_i, is_n, isnot_n, isNone, len_t, len_l, len_f, tuple_t, tuple_l, tuple_f, list_t, list_l, list_f, int_i, abs_i, max_i, min_i, sum_l, sum_t, isi_int, isi_bool, isi_tup, isi_lst, isi_str, isi_none, slice_l, slice_t, slice_f, ixO_no, ixO_int, satT_thenS, satT_next, satT_ret, sat_thenS, sat_next, sat_ret, seq_t, seq_l, seq_f, vInts_len, evP_nil, evP_name, evP_item, R.tot_bind, R.tot_ok, Nat.reduceAdd, Nat.reduceSub, Bool.not_true, Bool.not_false, if_true, Bool.false_eq_true, if_false, Bool.true_and, Bool.false_and]
              · simp only [evSs_cons, evSs_nil, evE_var, evE_own, evE_con, evE_tup, evE_lst, evE_bin, evE_neg, evE_cmp, evE_cmp2, evE_not, evE_and, evE_or, evE_ite, evE_idx, evE_slice, evE_call, evE_bcall, evE_isi, evE_comp, evE_heap, evE_stop, evEs_nil, evEs_cons, evI_of, evI_rng1, evI_rng2, evI_zip, evI_enum, evS_stop, evS_exp, evS_ret, evS_retO, evS_retN, evS_pass, evS_brk, evS_cont, evS_asg, evS_asgOwn, evS_setR, evS_setO, evS_app, evS_appR, evS_extO, evS_popT, evS_popO, evS_aug, evS_par, evS_ite, evS_for_, evS_forO, evS_while_, startS, List.length_cons, List.length_nil, List.map_cons, List.map_nil, List.replicate, List.cons_append, List.nil_append, List.getD_cons_zero, List.getD_cons_succ, List.set_cons_zero, List.set_cons_succ, R.bind_ok, R.opt_some, R.calm_ok, R.thenS_ok, rd_int, rd_bool, rd_none, rd_str, rd_tup, rd_lst, rd_frz, seq_thenS, fin_thenS, seq_ite, fin_ite, RS.seq_next, RS.seq_ret, RS.fin_ret, RS.fin_next, Option.map_some, Option.bind_some, truthV_bool, truthV_int, truthV_none, setT_name, setT_tup, setTs_nil, setTs_cons, wipe_nil, wipe_cons, ix_l, ix_t, ix_f, at_l0, at_l1, at_l2, at_l3, add_i, sub_i, lt_i, le_i, gt_i, ge_i, eq_i, ne_i, is_n, isnot_n, isNone, len_t, len_l, len_f, tuple_t, tuple_l, tuple_f, list_t, list_l, list_f, int_i, abs_i, max_i, min_i, sum_l, sum_t, isi_int, isi_bool, isi_tup, isi_lst, isi_str, isi_none, slice_l, slice_t, slice_f, ixO_no, ixO_int, satT_thenS, satT_next, satT_ret, sat_thenS, sat_next, sat_ret, seq_t, seq_l, seq_f, vInts_len, evP_nil, evP_name, evP_item, R.tot_bind, R.tot_ok, Nat.reduceAdd, Nat.reduceSub, Bool.not_true, Bool.not_false, if_true, Bool.false_eq_true, if_false, Bool.true_and, Bool.false_and]
            · simp only [evSs_cons, evSs_nil, evE_var, evE_own, evE_con, evE_tup, evE_lst, evE_bin, evE_neg, evE_cmp, evE_cmp2, evE_not, evE_and, evE_or, evE_ite, evE_idx, evE_slice, evE_call, evE_bcall, evE_isi, evE_comp, evE_heap, evE_stop, evEs_nil, evEs_cons, evI_of, evI_rng1, evI_rng2, evI_zip, evI_enum, evS_stop, evS_exp, evS_ret, evS_retO, evS_retN, evS_pass, evS_brk, evS_cont, evS_asg, evS_asgOwn, evS_setR, evS_setO, evS_app, evS_appR, evS_extO, evS_popT, evS_popO, evS_aug, evS_par, evS_ite, evS_for_, evS_forO, evS_while_, startS, List.length_cons, List.length_nil, List.map_cons, List.map_nil, List.replicate, List.cons_append, List.nil_append, List.getD_cons_zero, List.getD_cons_succ, List.set_cons_zero, List.set_cons_succ, R.bind_ok, R.opt_some, R.calm_ok, R.thenS_ok, rd_int, rd_bool, rd_none, rd_str, rd_tup, rd_lst, rd_frz, seq_thenS, fin_thenS, seq_ite, fin_ite, RS.seq_next, RS.seq_ret, RS.fin_ret, RS.fin_next, Option.map_some, Option.bind_some, truthV_bool, truthV_int, truthV_none, setT_name, setT_tup, setTs_nil, setTs_cons, wipe_nil, wipe_cons, ix_l, ix_t, ix_f, at_l0, at_l1, at_l2, at_l3, add_i, sub_i, lt_i, le_i, gt_i, ge_i, eq_i, ne_i, is_n, isnot_n, isNone, len_t, len_l, len_f, tuple_t, tuple_l, tuple_f, list_t, list_l, list_f, int_i, abs_i, max_i, min_i, sum_l, sum_t, isi_int, isi_bool, isi_tup, isi_lst, isi_str, isi_none, slice_l, slice_t, slice_f, ixO_no, ixO_int, satT_thenS, satT_next, satT_ret, sat_thenS, sat_next, sat_ret, seq_t, seq_l, seq_f, vInts_len, evP_nil, evP_name, evP_item, R.tot_bind, R.tot_ok, Nat.reduceAdd, Nat.reduceSub, Bool.not_true, Bool.not_false, if_true, Bool.false_eq_true, if_false, m1]; rfl
    have hr : rngK 0 2 = some [.int 0, .int 1] := by rw [rngK_ok (by decide) (by decide) (by decide) (by decide)]; rfl
    have hz : ¬ lineN < 2 := by decide
    simp only [Bmending_by, evSs_cons, evSs_nil, evE_var, evE_own, evE_con, evE_tup, evE_lst, evE_bin, evE_neg, evE_cmp, evE_cmp2, evE_not, evE_and, evE_or, evE_ite, evE_idx, evE_slice, evE_call, evE_bcall, evE_isi, evE_comp, evE_heap, evE_stop, evEs_nil, evEs_cons, evI_of, evI_rng1, evI_rng2, evI_zip, evI_enum, evS_stop, evS_exp, evS_ret, evS_retO, evS_retN, evS_pass, evS_brk, evS_cont, evS_asg, evS_asgOwn, evS_setR, evS_setO, evS_app, evS_appR, evS_extO, evS_popT, evS_popO, evS_aug, evS_par, evS_ite, evS_for_, evS_forO, evS_while_, startS, List.length_cons, List.length_nil, List.map_cons, List.map_nil, List.replicate, List.cons_append, List.nil_append, List.getD_cons_zero, List.getD_cons_succ, List.set_cons_zero, List.set_cons_succ, R.bind_ok, R.opt_some, R.calm_ok, R.thenS_ok, rd_int, rd_bool, rd_none, rd_str, rd_tup, rd_lst, rd_frz, seq_thenS, fin_thenS, seq_ite, fin_ite, RS.seq_next, RS.seq_ret, RS.fin_ret, RS.fin_next, Option.map_some, Option.bind_some, truthV_bool, truthV_int, truthV_none, setT_name, setT_tup, setTs_nil, setTs_cons, wipe_nil, wipe_cons, ix_l, ix_t, ix_f, at_l0, at_l1, at_l2, at_l3, add_i, sub_i, lt_i, le_i, gt_i, ge_i, eq_i, ne_i, is_n, isnot_n, isNone, len_t, len_l, len_f, tuple_t, tuple_l, tuple_f, list_t, list_l, list_f, int_i, abs_i, max_i, min_i, sum_l, sum_t, isi_int, isi_bool, isi_tup, isi_lst, isi_str, isi_none, slice_l, slice_t, slice_f, ixO_no, ixO_int, satT_thenS, satT_next, satT_ret, sat_thenS, sat_next, sat_ret, seq_t, seq_l, seq_f, vInts_len, evP_nil, evP_name, evP_item, R.tot_bind, R.tot_ok, Nat.reduceAdd, Nat.reduceSub, Bool.not_true, Bool.not_false, if_true, Bool.false_eq_true, if_false, div_i _ 2 (show (decide ((0:Int) < 2) && decide ((2:Int) < p64)) = true by decide), hL, hr]
    rw [if_neg hz, run _ rfl rfl rfl]
    simp only [evSs_cons, evSs_nil, evE_var, evE_own, evE_con, evE_tup, evE_lst, evE_bin, evE_neg, evE_cmp, evE_cmp2, evE_not, evE_and, evE_or, evE_ite, evE_idx, evE_slice, evE_call, evE_bcall, evE_isi, evE_comp, evE_heap, evE_stop, evEs_nil, evEs_cons, evI_of, evI_rng1, evI_rng2, evI_zip, evI_enum, evS_stop, evS_exp, evS_ret, evS_retO, evS_retN, evS_pass, evS_brk, evS_cont, evS_asg, evS_asgOwn, evS_setR, evS_setO, evS_app, evS_appR, evS_extO, evS_popT, evS_popO, evS_aug, evS_par, evS_ite, evS_for_, evS_forO, evS_while_, startS, List.length_cons, List.length_nil, List.map_cons, List.map_nil, List.replicate, List.cons_append, List.nil_append, List.getD_cons_zero, List.getD_cons_succ, List.set_cons_zero, List.set_cons_succ, R.bind_ok, R.opt_some, R.calm_ok, R.thenS_ok, rd_int, rd_bool, rd_none, rd_str, rd_tup, rd_lst, rd_frz, seq_thenS, fin_thenS, seq_ite, fin_ite, RS.seq_next, RS.seq_ret, RS.fin_ret, RS.fin_next, Option.map_some, Option.bind_some, truthV_bool, truthV_int, truthV_none, setT_name, setT_tup, setTs_nil, setTs_cons, wipe_nil, wipe_cons, ix_l, ix_t, ix_f, at_l0, at_l1, at_l2, at_l3, add_i, sub_i, lt_i, le_i, gt_i, ge_i, eq_i, ne_i, is_n, isnot_n, isNone, len_t, len_l, len_f, tuple_t, tuple_l, tuple_f, list_t, list_l, list_f, int_i, abs_i, max_i, min_i, sum_l, sum_t, isi_int, isi_bool, isi_tup, isi_lst, isi_str, isi_none, slice_l, slice_t, slice_f, ixO_no, ixO_int, satT_thenS, satT_next, satT_ret, sat_thenS, sat_next, sat_ret, seq_t, seq_l, seq_f, vInts_len, evP_nil, evP_name, evP_item, R.tot_bind, R.tot_ok, Nat.reduceAdd, Nat.reduceSub, Bool.not_true, Bool.not_false, if_true, Bool.false_eq_true, if_false]
  · intro k G
    rw [call_eq pw_law_clears _ _ _ rfl]
    have run : ∀ st : Store, st.length = 4 → st.getD 0 .no = .val (.tup (vInts xs)) → st.getD 1 .no = .val (.int L) → st.getD 2 .no = .val (.tup [V0, V1]) → compR (setT (Tg.name 3)) (evE (callN P (k+2)) (.and (.cmp .Is (.idx (.var 2) (.var 3)) (.con .none)) (.cmp .NotEq (.idx (.var 0) (.bin .Mult (.var 3) (.var 1))) (.con (.int (0)))))) (evE (callN P (k+2)) (.tup (.cons (.bin .Mult (.var 3) (.var 1)) (.cons (.con (.int (0))) .nil)))) [.int 0, .int 1] st G = .ok ((([0, 1].filter p).map (· * (L : Int))).map wr) G := by
      intro st hlen g0 g1 g2
      have q := compR_map (tg := setT (Tg.name 3)) (c := evE (callN P (k+2)) (.and (.cmp .Is (.idx (.var 2) (.var 3)) (.con .none)) (.cmp .NotEq (.idx (.var 0) (.bin .Mult (.var 3) (.var 1))) (.con (.int (0)))))) (e := evE (callN P (k+2)) (.tup (.cons (.bin .Mult (.var 3) (.var 1)) (.cons (.con (.int (0))) .nil)))) (G := G) (s := st) (fun v => match v with | .int i => p i | _ => false) (fun v => match v with | .int i => wr (i * L) | v => v) (xs := [.int 0, .int 1]) ?_
      · rw [q]
        simp only [List.filter_cons, List.filter_nil]
        by_cases q0 : p 0 = true <;> by_cases q1 : p 1 = true <;> simp only [q0, q1, if_true, Bool.false_eq_true, if_false, List.map_cons, List.map_nil]
      · match st, hlen, g0, g1, g2 with
        | [a, b, c, x4], _, g0, g1, g2 =>
          have g0 : a = .val (.tup (vInts xs)) := g0
          have g1 : b = .val (.int L) := g1
          have g2 : c = .val (.tup [V0, V1]) := g2
          subst g0 g1 g2
          intro x hx
          simp only [List.mem_cons, List.not_mem_nil, or_false] at hx
          rcases hx with rfl | rfl
          · refine ⟨_, .bool (p 0), setT_name .., ?_, rfl, fun _ => ?_⟩
            · simp only [evSs_cons, evSs_nil, evE_var, evE_own, evE_con, evE_tup, evE_lst, evE_bin, evE_neg, evE_cmp, evE_cmp2, evE_not, evE_and, evE_or, evE_ite, evE_idx, evE_slice, evE_call, evE_bcall, evE_isi, evE_comp, evE_heap, evE_stop, evEs_nil, evEs_cons, evI_of, evI_rng1, evI_rng2, evI_zip, evI_enum, evS_stop, evS_exp, evS_ret, evS_retO, evS_retN, evS_pass, evS_brk, evS_cont, evS_asg, evS_asgOwn, evS_setR, evS_setO, evS_app, evS_appR, evS_extO, evS_popT, evS_popO, evS_aug, evS_par, evS_ite, evS_for_, evS_forO, evS_while_, startS, List.length_cons, List.length_nil, List.map_cons, List.map_nil, List.replicate, List.cons_append, List.nil_append, List.getD_cons_zero, List.getD_cons_succ, List.set_cons_zero, List.set_cons_succ, R.bind_ok, R.opt_some, R.calm_ok, R.thenS_ok, rd_int, rd_bool, rd_none, rd_str, rd_tup, rd_lst, rd_frz, seq_thenS, fin_thenS, seq_ite, fin_ite, RS.seq_next, RS.seq_ret, RS.fin_ret, RS.fin_next, Option.map_some, Option.bind_some, truthV_bool, truthV_int, truthV_none, setT_name, setT_tup, setTs_nil, setTs_cons, wipe_nil, wipe_cons, ix_l, ix_t, ix_f, at_l0, at_l1, at_l2, at_l3, add_i, sub_i, lt_i, le_i, gt_i, ge_i, eq_i, ne_i, is_n, isnot_n, isNone, len_t, len_l, len_f, tuple_t, tuple_l, tuple_f, list_t, list_l, list_f, int_i, abs_i, max_i, min_i, sum_l, sum_t, isi_int, isi_bool, isi_tup, isi_lst, isi_str, isi_none, slice_l, slice_t, slice_f, ixO_no, ixO_int, satT_thenS, satT_next, satT_ret, sat_thenS, sat_next, sat_ret, seq_t, seq_l, seq_f, vInts_len, evP_nil, evP_name, evP_item, R.tot_bind, R.tot_ok, Nat.reduceAdd, Nat.reduceSub, Bool.not_true, Bool.not_false, if_true, Bool.false_eq_true, if_false, m0, e0]
              show _ = R.ok (Val.bool (!decide (d0 = 0) && isNone V0)) G
              rcases d.f0 with e | ⟨_, _, e, _⟩ <;> subst e <;> simp only [evSs_cons, evSs_nil, evE_var, evE_own, evE_con, evE_tup, evE_lst, evE_bin, evE_neg, evE_cmp, evE_cmp2, evE_not, evE_and, evE_or, evE_ite, evE_idx, evE_slice, evE_call, evE_bcall, evE_isi, evE_comp, evE_heap, evE_stop, evEs_nil, evEs_cons, evI_of, evI_rng1, evI_rng2, evI_zip, evI_enum, evS_stop, evS_exp, evS_ret, evS_retO, evS_retN, evS_pass, evS_brk, evS_cont, evS_asg, evS_asgOwn, evS_setR, evS_setO, evS_app, evS_appR, evS_extO, evS_popT, evS_popO, evS_aug, evS_par, evS_ite, evS_for_, evS_forO, evS_while_, startS, List.length_cons, List.length_nil, List.map_cons, List.map_nil, List.replicate, List.cons_append, List.nil_append, List.getD_cons_zero, List.getD_cons_succ, List.set_cons_zero, List.set_cons_succ, R.bind_ok, R.opt_some, R.calm_ok, R.thenS_ok, rd_int, rd_bool, rd_none, rd_str, rd_tup, rd_lst, rd_frz, seq_thenS, fin_thenS, seq_ite, fin_ite, RS.seq_next, RS.seq_ret, RS.fin_ret, RS.fin_next, Option.map_some, Option.bind_some, truthV_bool, truthV_int, truthV_none, setT_name, setT_tup, setTs_nil, setTs_cons, wipe_nil, wipe_cons, ix_l, ix_t, ix_f, at_l0, at_l1, at_l2, at_l3, add_i, sub_i, lt_i, le_i, gt_i, ge_i, eq_i, ne_i, is_n, isnot_n, isNone, len_t, len_l, len_f, tuple_t, tuple_l, tuple_f, list_t, list_l, list_f, int_i, abs_i, max_i, min_i, sum_l, sum_t, isi_int, isi_bool, isi_tup, isi_lst, isi_str, isi_none, slice_l, slice_t, slice_f, ixO_no, ixO_int, satT_thenS, satT_next, satT_ret, sat_thenS, sat_next, sat_ret, seq_t, seq_l, seq_f, vInts_len, evP_nil, evP_name, evP_item, R.tot_bind, R.tot_ok, Nat.reduceAdd, Nat.reduceSub, Bool.not_true, Bool.not_false, if_true, Bool.false_eq_true, if_false, Bool.and_true, Bool.and_false]
            · simp only [evSs_cons, evSs_nil, evE_var, evE_own, evE_con, evE_tup, evE_lst, evE_bin, evE_neg, evE_cmp, evE_cmp2, evE_not, evE_and, evE_or, evE_ite, evE_idx, evE_slice, evE_call, evE_bcall, evE_isi, evE_comp, evE_heap, evE_stop, evEs_nil, evEs_cons, evI_of, evI_rng1, evI_rng2, evI_zip, evI_enum, evS_stop, evS_exp, evS_ret, evS_retO, evS_retN, evS_pass, evS_brk, evS_cont, evS_asg, evS_asgOwn, evS_setR, evS_setO, evS_app, evS_appR, evS_extO, evS_popT, evS_popO, evS_aug, evS_par, evS_ite, evS_for_, evS_forO, evS_while_, startS, List.length_cons, List.length_nil, List.map_cons, List.map_nil, List.replicate, List.cons_append, List.nil_append, List.getD_cons_zero, List.getD_cons_succ, List.set_cons_zero, List.set_cons_succ, R.bind_ok, R.opt_some, R.calm_ok, R.thenS_ok, rd_int, rd_bool, rd_none, rd_str, rd_tup, rd_lst, rd_frz, seq_thenS, fin_thenS, seq_ite, fin_ite, RS.seq_next, RS.seq_ret, RS.fin_ret, RS.fin_next, Option.map_some, Option.bind_some, truthV_bool, truthV_int, truthV_none, setT_name, setT_tup, setTs_nil, setTs_cons, wipe_nil, wipe_cons, ix_l, ix_t, ix_f, at_l0, at_l1, at_l2, at_l3, add_i, sub_i, lt_i, le_i, gt_i, ge_i, eq_i, ne_i, is_n, isnot_n, isNone, len_t, len_l, len_f, tuple_t, tuple_l, tuple_f, list_t, list_l, list_f, int_i, abs_i, max_i, min_i, sum_l, sum_t, isi_int, isi_bool, isi_tup, isi_lst, isi_str, isi_none, slice_l, slice_t, slice_f, ixO_no, ixO_int, satT_thenS, satT_next, satT_ret, sat_thenS, sat_next, sat_ret, seq_t, seq_l, seq_f, vInts_len, evP_nil, evP_name, evP_item, R.tot_bind, R.tot_ok, Nat.reduceAdd, Nat.reduceSub, Bool.not_true, Bool.not_false, if_true, Bool.false_eq_true, if_false, m0]; rfl
          · refine ⟨_, .bool (p 1), setT_name .., ?_, rfl, fun _ => ?_⟩
            · simp only [evSs_cons, evSs_nil, evE_var, evE_own, evE_con, evE_tup, evE_lst, evE_bin, evE_neg, evE_cmp, evE_cmp2, evE_not, evE_and, evE_or, evE_ite, evE_idx, evE_slice, evE_call, evE_bcall, evE_isi, evE_comp, evE_heap, evE_stop, evEs_nil, evEs_cons, evI_of, evI_rng1, evI_rng2, evI_zip, evI_enum, evS_stop, evS_exp, evS_ret, evS_retO, evS_retN, evS_pass, evS_brk, evS_cont, evS_asg, evS_asgOwn, evS_setR, evS_setO, evS_app, evS_appR, evS_extO, evS_popT, evS_popO, evS_aug, evS_par, evS_ite, evS_for_, evS_forO, evS_while_, startS, List.length_cons, List.length_nil, List.map_cons, List.map_nil, List.replicate, List.cons_append, List.nil_append, List.getD_cons_zero, List.getD_cons_succ, List.set_cons_zero, List.set_cons_succ, R.bind_ok, R.opt_some, R.calm_ok, R.thenS_ok, rd_int, rd_bool, rd_none, rd_str, rd_tup, rd_lst, rd_frz, seq_thenS, fin_thenS, seq_ite, fin_ite, RS.seq_next, RS.seq_ret, RS.fin_ret, RS.fin_next, Option.map_some, Option.bind_some, truthV_bool, truthV_int, truthV_none, setT_name, setT_tup, setTs_nil, setTs_cons, wipe_nil, wipe_cons, ix_l, ix_t, ix_f, at_l0, at_l1, at_l2, at_l3, add_i, sub_i, lt_i, le_i, gt_i, ge_i, eq_i, ne_i, is_n, isnot_n, isNone, len_t, len_l, len_f, tuple_t, tuple_l, tuple_f, list_t, list_l, list_f, int_i, abs_i, max_i, min_i, sum_l, sum_t, isi_int, isi_bool, isi_tup, isi_lst, isi_str, isi_none, slice_l, slice_t, slice_f, ixO_no, ixO_int, satT_thenS, satT_next, satT_ret, sat_thenS, sat_next, sat_ret, seq_t, seq_l, seq_f, vInts_len, evP_nil, evP_name, evP_item, R.tot_bind, R.tot_ok, Nat.reduceAdd, Nat.reduceSub, Bool.not_true, Bool.not_false, if_true, Bool.false_eq_true, if_false, m1, e1]
              show _ = R.ok (Val.bool (!decide (d1 = 0) && isNone V1)) G
              rcases d.f1 with e | ⟨_, _, e, _⟩ <;> subst e <;> simp only [evSs_cons, evSs_nil, evE_var, evE_own, evE_con, evE_tup, evE_lst, evE_bin, evE_neg, evE_cmp, evE_cmp2, evE_not, evE_and, evE_or, evE_ite, evE_idx, evE_slice, evE_call, evE_bcall, evE_isi, evE_comp, evE_heap, evE_stop, evEs_nil, evEs_cons, evI_of, evI_rng1, evI_rng2, evI_zip, evI_enum, evS_stop, evS_exp, evS_ret, evS_retO, evS_retN, evS_pass, evS_brk, evS_cont, evS_asg, evS_asgOwn, evS_setR, evS_setO, evS_app, evS_appR, evS_extO, evS_popT, evS_popO, evS_aug, evS_par, evS_ite, evS_for_, evS_forO, evS_while_, startS, List.length_cons, List.length_nil, List.map_cons, List.map_nil, List.replicate, List.cons_append, List.nil_append, List.getD_cons_zero, List.getD_cons_succ, List.set_cons_zero, List.set_cons_succ, R.bind_ok, R.opt_some, R.calm_ok, R.thenS_ok, rd_int, rd_bool, rd_none, rd_str, rd_tup, rd_lst, rd_frz, seq_thenS, fin_thenS, seq_ite, fin_ite, RS.seq_next, RS.seq_ret, RS.fin_ret, RS.fin_next, Option.map_some, Option.bind_some, truthV_bool, truthV_int, truthV_none, setT_name, setT_tup, setTs_nil, setTs_cons, wipe_nil, wipe_cons, ix_l, ix_t, ix_f, at_l0, at_l1, at_l2, at_l3, add_i, sub_i, lt_i, le_i, gt_i, ge_i, eq_i, ne_i, is_n, isnot_n, isNone, len_t, len_l, len_f, tuple_t, tuple_l, tuple_f, list_t, list_l, list_f, int_i, abs_i, max_i, min_i, sum_l, sum_t, isi_int, isi_bool, isi_tup, isi_lst, isi_str, isi_none, slice_l, slice_t, slice_f, ixO_no, ixO_int, satT_thenS, satT_next, satT_ret, sat_thenS, sat_next, sat_ret, seq_t, seq_l, seq_f, vInts_len, evP_nil, evP_name, evP_item, R.tot_bind, R.tot_ok, Nat.reduceAdd, Nat.reduceSub, Bool.not_true, Bool.not_false, if_true, Bool.false_eq_true, if_false, Bool.and_true, Bool.and_false]
            · simp only [evSs_cons, evSs_nil, evE_var, evE_own, evE_con, evE_tup, evE_lst, evE_bin, evE_neg, evE_cmp, evE_cmp2, evE_not, evE_and, evE_or, evE_ite, evE_idx, evE_slice, evE_call, evE_bcall, evE_isi, evE_comp, evE_heap, evE_stop, evEs_nil, evEs_cons, evI_of, evI_rng1, evI_rng2, evI_zip, evI_enum, evS_stop, evS_exp, evS_ret, evS_retO, evS_retN, evS_pass, evS_brk, evS_cont, evS_asg, evS_asgOwn, evS_setR, evS_setO, evS_app, evS_appR, evS_extO, evS_popT, evS_popO, evS_aug, evS_par, evS_ite, evS_for_, evS_forO, evS_while_, startS, List.length_cons, List.length_nil, List.map_cons, List.map_nil, List.replicate, List.cons_append, List.nil_append, List.getD_cons_zero, List.getD_cons_succ, List.set_cons_zero, List.set_cons_succ, R.bind_ok, R.opt_some, R.calm_ok, R.thenS_ok, rd_int, rd_bool, rd_none, rd_str, rd_tup, rd_lst, rd_frz, seq_thenS, fin_thenS, seq_ite, fin_ite, RS.seq_next, RS.seq_ret, RS.fin_ret, RS.fin_next, Option.map_some, Option.bind_some, truthV_bool, truthV_int, truthV_none, setT_name, setT_tup, setTs_nil, setTs_cons, wipe_nil, wipe_cons, ix_l, ix_t, ix_f, at_l0, at_l1, at_l2, at_l3, add_i, sub_i, lt_i, le_i, gt_i, ge_i, eq_i, ne_i, is_n, isnot_n, isNone, len_t, len_l, len_f, tuple_t, tuple_l, tuple_f, list_t, list_l, list_f, int_i, abs_i, max_i, min_i, sum_l, sum_t, isi_int, isi_bool, isi_tup, isi_lst, isi_str, isi_none, slice_l, slice_t, slice_f, ixO_no, ixO_int, satT_thenS, satT_next, satT_ret, sat_thenS, sat_next, sat_ret, seq_t, seq_l, seq_f, vInts_len, evP_nil, evP_name, evP_item, R.tot_bind, R.tot_ok, Nat.reduceAdd, Nat.reduceSub, Bool.not_true, Bool.not_false, if_true, Bool.false_eq_true, if_false, m1]; rfl
    have hz : ¬ lineN < 2 := by decide
    simp only [Bw_law_clears, evSs_cons, evSs_nil, evE_var, evE_own, evE_con, evE_tup, evE_lst, evE_bin, evE_neg, evE_cmp, evE_cmp2, evE_not, evE_and, evE_or, evE_ite, evE_idx, evE_slice, evE_call, evE_bcall, evE_isi, evE_comp, evE_heap, evE_stop, evEs_nil, evEs_cons, evI_of, evI_rng1, evI_rng2, evI_zip, evI_enum, evS_stop, evS_exp, evS_ret, evS_retO, evS_retN, evS_pass, evS_brk, evS_cont, evS_asg, evS_asgOwn, evS_setR, evS_setO, evS_app, evS_appR, evS_extO, evS_popT, evS_popO, evS_aug, evS_par, evS_ite, evS_for_, evS_forO, evS_while_, startS, List.length_cons, List.length_nil, List.map_cons, List.map_nil, List.replicate, List.cons_append, List.nil_append, List.getD_cons_zero, List.getD_cons_succ, List.set_cons_zero, List.set_cons_succ, R.bind_ok, R.opt_some, R.calm_ok, R.thenS_ok, rd_int, rd_bool, rd_none, rd_str, rd_tup, rd_lst, rd_frz, seq_thenS, fin_thenS, seq_ite, fin_ite, RS.seq_next, RS.seq_ret, RS.fin_ret, RS.fin_next, Option.map_some, Option.bind_some, truthV_bool, truthV_int, truthV_none, setT_name, setT_tup, setTs_nil, setTs_cons, wipe_nil, wipe_cons, ix_l, ix_t, ix_f, at_l0, at_l1, at_l2, at_l3, add_i, sub_i, lt_i, le_i, gt_i, ge_i, eq_i, ne_i, is_n, isnot_n, isNone, len_t, len_l, len_f, tuple_t, tuple_l, tuple_f, list_t, list_l, list_f, int_i, abs_i, max_i, min_i, sum_l, sum_t, isi_int, isi_bool, isi_tup, isi_lst, isi_str, isi_none, slice_l, slice_t, slice_f, ixO_no, ixO_int, satT_thenS, satT_next, satT_ret, sat_thenS, sat_next, sat_ret, seq_t, seq_l, seq_f, vInts_len, evP_nil, evP_name, evP_item, R.tot_bind, R.tot_ok, Nat.reduceAdd, Nat.reduceSub, Bool.not_true, Bool.not_false, if_true, Bool.false_eq_true, if_false, div_i _ 2 (show (decide ((0:Int) < 2) && decide ((2:Int) < p64)) = true by decide), hL, both_eq d k]
    rw [if_neg hz, run _ rfl rfl rfl rfl]
    simp only [evSs_cons, evSs_nil, evE_var, evE_own, evE_con, evE_tup, evE_lst, evE_bin, evE_neg, evE_cmp, evE_cmp2, evE_not, evE_and, evE_or, evE_ite, evE_idx, evE_slice, evE_call, evE_bcall, evE_isi, evE_comp, evE_heap, evE_stop, evEs_nil, evEs_cons, evI_of, evI_rng1, evI_rng2, evI_zip, evI_enum, evS_stop, evS_exp, evS_ret, evS_retO, evS_retN, evS_pass, evS_brk, evS_cont, evS_asg, evS_asgOwn, evS_setR, evS_setO, evS_app, evS_appR, evS_extO, evS_popT, evS_popO, evS_aug, evS_par, evS_ite, evS_for_, evS_forO, evS_while_, startS, List.length_cons, List.length_nil, List.map_cons, List.map_nil, List.replicate, List.cons_append, List.nil_append, List.getD_cons_zero, List.getD_cons_succ, List.set_cons_zero, List.set_cons_succ, R.bind_ok, R.opt_some, R.calm_ok, R.thenS_ok, rd_int, rd_bool, rd_none, rd_str, rd_tup, rd_lst, rd_frz, seq_thenS, fin_thenS, seq_ite, fin_ite, RS.seq_next, RS.seq_ret, RS.fin_ret, RS.fin_next, Option.map_some, Option.bind_some, truthV_bool, truthV_int, truthV_none, setT_name, setT_tup, setTs_nil, setTs_cons, wipe_nil, wipe_cons, ix_l, ix_t, ix_f, at_l0, at_l1, at_l2, at_l3, add_i, sub_i, lt_i, le_i, gt_i, ge_i, eq_i, ne_i, is_n, isnot_n, isNone, len_t, len_l, len_f, tuple_t, tuple_l, tuple_f, list_t, list_l, list_f, int_i, abs_i, max_i, min_i, sum_l, sum_t, isi_int, isi_bool, isi_tup, isi_lst, isi_str, isi_none, slice_l, slice_t, slice_f, ixO_no, ixO_int, satT_thenS, satT_next, satT_ret, sat_thenS, sat_next, sat_ret, seq_t, seq_l, seq_f, vInts_len, evP_nil, evP_name, evP_item, R.tot_bind, R.tot_ok, Nat.reduceAdd, Nat.reduceSub, Bool.not_true, Bool.not_false, if_true, Bool.false_eq_true, if_false]
end Fx.Law

namespace Fx.Law
open PySem PySem.Spec PyProof.Rows L2 Fx
def putZ (ys : List Int) : List Int → List Int
  | [] => ys
  | i :: ps => putZ (ys.set i.toNat 0) ps
theorem putZ_len : ∀ (ps ys : List Int), (putZ ys ps).length = ys.length
  | [], _ => rfl
  | i :: ps, ys => by rw [putZ, putZ_len ps, List.length_set]
theorem put_for (Γ : Calls) (G : Heap) (c d : Slot) : ∀ (ps ys : List Int) (a b : Slot), (∀ i ∈ ps, 0 ≤ i ∧ i < ys.length) →
    ∃ a' b', forR (setT (.tup (.cons (.name 3) (.cons (.name 4) .nil)))) (evSs Γ (.cons (.setO 2 (.var 3) (.var 4)) .nil)) (ps.map wr) [c, d, .own (vInts ys), a, b] G = .next [c, d, .own (vInts (putZ ys ps)), a', b'] G
  | [], ys, a, b, _ => ⟨a, b, rfl⟩
  | i :: ps, ys, a, b, h => by
    obtain ⟨h0, h1⟩ := h i List.mem_cons_self
    obtain ⟨a', b', e⟩ := put_for Γ G c d ps (ys.set i.toNat 0) (.val (.int i)) (.val (.int 0)) fun j hj => by rw [List.length_set]; exact h j (List.mem_cons_of_mem _ hj)
    refine ⟨a', b', ?_⟩
    rw [List.map_cons, forR_cons]
    have so : setOwn 2 (.int i) (.int 0) [c, d, .own (vInts ys), .val (.int i), .val (.int 0)] = some [c, d, .own (vInts (ys.set i.toNat 0)), .val (.int i), .val (.int 0)] := by
      show ((ixN (vInts ys).length i).map fun j => (vInts ys).set j (.int 0)).map _ = _
      rw [vInts_len, ixN_int h0 h1]
      simp only [vInts, List.map_set]; rfl
    simp only [wr, evSs_cons, evSs_nil, evE_var, evE_own, evE_con, evE_tup, evE_lst, evE_bin, evE_neg, evE_cmp, evE_cmp2, evE_not, evE_and, evE_or, evE_ite, evE_idx, evE_slice, evE_call, evE_bcall, evE_isi, evE_comp, evE_heap, evE_stop, evEs_nil, evEs_cons, evI_of, evI_rng1, evI_rng2, evI_zip, evI_enum, evS_stop, evS_exp, evS_ret, evS_retO, evS_retN, evS_pass, evS_brk, evS_cont, evS_asg, evS_asgOwn, evS_setR, evS_setO, evS_app, evS_appR, evS_extO, evS_popT, evS_popO, evS_aug, evS_par, evS_ite, evS_for_, evS_forO, evS_while_, startS, List.length_cons, List.length_nil, List.map_cons, List.map_nil, List.replicate, List.cons_append, List.nil_append, List.getD_cons_zero, List.getD_cons_succ, List.set_cons_zero, List.set_cons_succ, R.bind_ok, R.opt_some, R.calm_ok, R.thenS_ok, rd_int, rd_bool, rd_none, rd_str, rd_tup, rd_lst, rd_frz, seq_thenS, fin_thenS, seq_ite, fin_ite, RS.seq_next, RS.seq_ret, RS.fin_ret, RS.fin_next, Option.map_some, Option.bind_some, truthV_bool, truthV_int, truthV_none, setT_name, setT_tup, setTs_nil, setTs_cons, wipe_nil, wipe_cons, ix_l, ix_t, ix_f, at_l0, at_l1, at_l2, at_l3, add_i, sub_i, lt_i, le_i, gt_i, ge_i, eq_i, ne_i, is_n, isnot_n, isNone, len_t, len_l, len_f, tuple_t, tuple_l, tuple_f, list_t, list_l, list_f, int_i, abs_i, max_i, min_i, sum_l, sum_t, isi_int, isi_bool, isi_tup, isi_lst, isi_str, isi_none, slice_l, slice_t, slice_f, ixO_no, ixO_int, satT_thenS, satT_next, satT_ret, sat_thenS, sat_next, sat_ret, seq_t, seq_l, seq_f, vInts_len, evP_nil, evP_name, evP_item, R.tot_bind, R.tot_ok, Nat.reduceAdd, Nat.reduceSub, Bool.not_true, Bool.not_false, if_true, Bool.false_eq_true, if_false, so]
    exact e
theorem put_all_eq (k : Nat) (G : Heap) (xs ps : List Int) (h : ∀ i ∈ ps, 0 ≤ i ∧ i < xs.length) : callN P (k+1) "put_all" [.tup (vInts xs), .tup (ps.map wr)] G = .ok (.tup (vInts (putZ xs ps))) G := by
  rw [call_eq pput_all _ _ _ rfl]
  obtain ⟨a', b', e⟩ := put_for (callN P k) G (.val (.tup (vInts xs))) (.val (.tup (ps.map wr))) ps xs .no .no h
  simp only [Bput_all, evSs_cons, evSs_nil, evE_var, evE_own, evE_con, evE_tup, evE_lst, evE_bin, evE_neg, evE_cmp, evE_cmp2, evE_not, evE_and, evE_or, evE_ite, evE_idx, evE_slice, evE_call, evE_bcall, evE_isi, evE_comp, evE_heap, evE_stop, evEs_nil, evEs_cons, evI_of, evI_rng1, evI_rng2, evI_zip, evI_enum, evS_stop, evS_exp, evS_ret, evS_retO, evS_retN, evS_pass, evS_brk, evS_cont, evS_asg, evS_asgOwn, evS_setR, evS_setO, evS_app, evS_appR, evS_extO, evS_popT, evS_popO, evS_aug, evS_par, evS_ite, evS_for_, evS_forO, evS_while_, startS, List.length_cons, List.length_nil, List.map_cons, List.map_nil, List.replicate, List.cons_append, List.nil_append, List.getD_cons_zero, List.getD_cons_succ, List.set_cons_zero, List.set_cons_succ, R.bind_ok, R.opt_some, R.calm_ok, R.thenS_ok, rd_int, rd_bool, rd_none, rd_str, rd_tup, rd_lst, rd_frz, seq_thenS, fin_thenS, seq_ite, fin_ite, RS.seq_next, RS.seq_ret, RS.fin_ret, RS.fin_next, Option.map_some, Option.bind_some, truthV_bool, truthV_int, truthV_none, setT_name, setT_tup, setTs_nil, setTs_cons, wipe_nil, wipe_cons, ix_l, ix_t, ix_f, at_l0, at_l1, at_l2, at_l3, add_i, sub_i, lt_i, le_i, gt_i, ge_i, eq_i, ne_i, is_n, isnot_n, isNone, len_t, len_l, len_f, tuple_t, tuple_l, tuple_f, list_t, list_l, list_f, int_i, abs_i, max_i, min_i, sum_l, sum_t, isi_int, isi_bool, isi_tup, isi_lst, isi_str, isi_none, slice_l, slice_t, slice_f, ixO_no, ixO_int, satT_thenS, satT_next, satT_ret, sat_thenS, sat_next, sat_ret, seq_t, seq_l, seq_f, vInts_len, evP_nil, evP_name, evP_item, R.tot_bind, R.tot_ok, Nat.reduceAdd, Nat.reduceSub, Bool.not_true, Bool.not_false, if_true, Bool.false_eq_true, if_false, e]
theorem law_put_eq (k : Nat) (G : Heap) (xs ps : List Int) (h : ∀ i ∈ ps, 0 ≤ i ∧ i < xs.length) : callN P (k+1) "_law_put" [.tup (vInts xs), .tup (ps.map wr)] G = .ok (.tup (vInts (putZ xs ps))) G := by
  rw [call_eq pw_law_put _ _ _ rfl]
  obtain ⟨a', b', e⟩ := put_for (callN P k) G (.val (.tup (vInts xs))) (.val (.tup (ps.map wr))) ps xs .no .no h
  simp only [Bw_law_put, evSs_cons, evSs_nil, evE_var, evE_own, evE_con, evE_tup, evE_lst, evE_bin, evE_neg, evE_cmp, evE_cmp2, evE_not, evE_and, evE_or, evE_ite, evE_idx, evE_slice, evE_call, evE_bcall, evE_isi, evE_comp, evE_heap, evE_stop, evEs_nil, evEs_cons, evI_of, evI_rng1, evI_rng2, evI_zip, evI_enum, evS_stop, evS_exp, evS_ret, evS_retO, evS_retN, evS_pass, evS_brk, evS_cont, evS_asg, evS_asgOwn, evS_setR, evS_setO, evS_app, evS_appR, evS_extO, evS_popT, evS_popO, evS_aug, evS_par, evS_ite, evS_for_, evS_forO, evS_while_, startS, List.length_cons, List.length_nil, List.map_cons, List.map_nil, List.replicate, List.cons_append, List.nil_append, List.getD_cons_zero, List.getD_cons_succ, List.set_cons_zero, List.set_cons_succ, R.bind_ok, R.opt_some, R.calm_ok, R.thenS_ok, rd_int, rd_bool, rd_none, rd_str, rd_tup, rd_lst, rd_frz, seq_thenS, fin_thenS, seq_ite, fin_ite, RS.seq_next, RS.seq_ret, RS.fin_ret, RS.fin_next, Option.map_some, Option.bind_some, truthV_bool, truthV_int, truthV_none, setT_name, setT_tup, setTs_nil, setTs_cons, wipe_nil, wipe_cons, ix_l, ix_t, ix_f, at_l0, at_l1, at_l2, at_l3, add_i, sub_i, lt_i, le_i, gt_i, ge_i, eq_i, ne_i, is_n, isnot_n, isNone, len_t, len_l, len_f, tuple_t, tuple_l, tuple_f, list_t, list_l, list_f, int_i, abs_i, max_i, min_i, sum_l, sum_t, isi_int, isi_bool, isi_tup, isi_lst, isi_str, isi_none, slice_l, slice_t, slice_f, ixO_no, ixO_int, satT_thenS, satT_next, satT_ret, sat_thenS, sat_next, sat_ret, seq_t, seq_l, seq_f, vInts_len, evP_nil, evP_name, evP_item, R.tot_bind, R.tot_ok, Nat.reduceAdd, Nat.reduceSub, Bool.not_true, Bool.not_false, if_true, Bool.false_eq_true, if_false, e]
theorem within_eq (k : Nat) (G : Heap) (v lo hi : Int) (h0 : lo ≤ v) (h1 : v ≤ hi) : callN P (k+1) "is_within" [.int v, .int lo, .int hi] G = .ok (.bool true) G := by
  rw [call_eq pis_within _ _ _ rfl]
  have e0 : decide (lo ≤ v) = true := decide_eq_true h0
  have e1 : decide (v ≤ hi) = true := decide_eq_true h1
  simp only [Bis_within, evSs_cons, evSs_nil, evE_var, evE_own, evE_con, evE_tup, evE_lst, evE_bin, evE_neg, evE_cmp, evE_cmp2, evE_not, evE_and, evE_or, evE_ite, evE_idx, evE_slice, evE_call, evE_bcall, evE_isi, evE_comp, evE_heap, evE_stop, evEs_nil, evEs_cons, evI_of, evI_rng1, evI_rng2, evI_zip, evI_enum, evS_stop, evS_exp, evS_ret, evS_retO, evS_retN, evS_pass, evS_brk, evS_cont, evS_asg, evS_asgOwn, evS_setR, evS_setO, evS_app, evS_appR, evS_extO, evS_popT, evS_popO, evS_aug, evS_par, evS_ite, evS_for_, evS_forO, evS_while_, startS, List.length_cons, List.length_nil, List.map_cons, List.map_nil, List.replicate, List.cons_append, List.nil_append, List.getD_cons_zero, List.getD_cons_succ, List.set_cons_zero, List.set_cons_succ, R.bind_ok, R.opt_some, R.calm_ok, R.thenS_ok, rd_int, rd_bool, rd_none, rd_str, rd_tup, rd_lst, rd_frz, seq_thenS, fin_thenS, seq_ite, fin_ite, RS.seq_next, RS.seq_ret, RS.fin_ret, RS.fin_next, Option.map_some, Option.bind_some, truthV_bool, truthV_int, truthV_none, setT_name, setT_tup, setTs_nil, setTs_cons, wipe_nil, wipe_cons, ix_l, ix_t, ix_f, at_l0, at_l1, at_l2, at_l3, add_i, sub_i, lt_i, le_i, gt_i, ge_i, eq_i, ne_i, is_n, isnot_n, isNone, len_t, len_l, len_f, tuple_t, tuple_l, tuple_f, list_t, list_l, list_f, int_i, abs_i, max_i, min_i, sum_l, sum_t, isi_int, isi_bool, isi_tup, isi_lst, isi_str, isi_none, slice_l, slice_t, slice_f, ixO_no, ixO_int, satT_thenS, satT_next, satT_ret, sat_thenS, sat_next, sat_ret, seq_t, seq_l, seq_f, vInts_len, evP_nil, evP_name, evP_item, R.tot_bind, R.tot_ok, Nat.reduceAdd, Nat.reduceSub, Bool.not_true, Bool.not_false, if_true, Bool.false_eq_true, if_false, e0, e1]
theorem check_within_eq (k : Nat) (G : Heap) (v lo hi : Int) (h0 : lo ≤ v) (h1 : v ≤ hi) : callN P (k+2) "check_within" [.int v, .int lo, .int hi] G = .ok .none G := by
  rw [call_eq pcheck_within _ _ _ rfl]
  simp only [Bcheck_within, evSs_cons, evSs_nil, evE_var, evE_own, evE_con, evE_tup, evE_lst, evE_bin, evE_neg, evE_cmp, evE_cmp2, evE_not, evE_and, evE_or, evE_ite, evE_idx, evE_slice, evE_call, evE_bcall, evE_isi, evE_comp, evE_heap, evE_stop, evEs_nil, evEs_cons, evI_of, evI_rng1, evI_rng2, evI_zip, evI_enum, evS_stop, evS_exp, evS_ret, evS_retO, evS_retN, evS_pass, evS_brk, evS_cont, evS_asg, evS_asgOwn, evS_setR, evS_setO, evS_app, evS_appR, evS_extO, evS_popT, evS_popO, evS_aug, evS_par, evS_ite, evS_for_, evS_forO, evS_while_, startS, List.length_cons, List.length_nil, List.map_cons, List.map_nil, List.replicate, List.cons_append, List.nil_append, List.getD_cons_zero, List.getD_cons_succ, List.set_cons_zero, List.set_cons_succ, R.bind_ok, R.opt_some, R.calm_ok, R.thenS_ok, rd_int, rd_bool, rd_none, rd_str, rd_tup, rd_lst, rd_frz, seq_thenS, fin_thenS, seq_ite, fin_ite, RS.seq_next, RS.seq_ret, RS.fin_ret, RS.fin_next, Option.map_some, Option.bind_some, truthV_bool, truthV_int, truthV_none, setT_name, setT_tup, setTs_nil, setTs_cons, wipe_nil, wipe_cons, ix_l, ix_t, ix_f, at_l0, at_l1, at_l2, at_l3, add_i, sub_i, lt_i, le_i, gt_i, ge_i, eq_i, ne_i, is_n, isnot_n, isNone, len_t, len_l, len_f, tuple_t, tuple_l, tuple_f, list_t, list_l, list_f, int_i, abs_i, max_i, min_i, sum_l, sum_t, isi_int, isi_bool, isi_tup, isi_lst, isi_str, isi_none, slice_l, slice_t, slice_f, ixO_no, ixO_int, satT_thenS, satT_next, satT_ret, sat_thenS, sat_next, sat_ret, seq_t, seq_l, seq_f, vInts_len, evP_nil, evP_name, evP_item, R.tot_bind, R.tot_ok, Nat.reduceAdd, Nat.reduceSub, Bool.not_true, Bool.not_false, if_true, Bool.false_eq_true, if_false, within_eq k G v lo hi h0 h1]
theorem whole_eq (k : Nat) (G : Heap) (v : Int) : callN P (k+1) "is_whole_number" [.int v] G = .ok (.bool true) G := by
  rw [call_eq pis_whole_number _ _ _ rfl]
  simp only [Bis_whole_number, evSs_cons, evSs_nil, evE_var, evE_own, evE_con, evE_tup, evE_lst, evE_bin, evE_neg, evE_cmp, evE_cmp2, evE_not, evE_and, evE_or, evE_ite, evE_idx, evE_slice, evE_call, evE_bcall, evE_isi, evE_comp, evE_heap, evE_stop, evEs_nil, evEs_cons, evI_of, evI_rng1, evI_rng2, evI_zip, evI_enum, evS_stop, evS_exp, evS_ret, evS_retO, evS_retN, evS_pass, evS_brk, evS_cont, evS_asg, evS_asgOwn, evS_setR, evS_setO, evS_app, evS_appR, evS_extO, evS_popT, evS_popO, evS_aug, evS_par, evS_ite, evS_for_, evS_forO, evS_while_, startS, List.length_cons, List.length_nil, List.map_cons, List.map_nil, List.replicate, List.cons_append, List.nil_append, List.getD_cons_zero, List.getD_cons_succ, List.set_cons_zero, List.set_cons_succ, R.bind_ok, R.opt_some, R.calm_ok, R.thenS_ok, rd_int, rd_bool, rd_none, rd_str, rd_tup, rd_lst, rd_frz, seq_thenS, fin_thenS, seq_ite, fin_ite, RS.seq_next, RS.seq_ret, RS.fin_ret, RS.fin_next, Option.map_some, Option.bind_some, truthV_bool, truthV_int, truthV_none, setT_name, setT_tup, setTs_nil, setTs_cons, wipe_nil, wipe_cons, ix_l, ix_t, ix_f, at_l0, at_l1, at_l2, at_l3, add_i, sub_i, lt_i, le_i, gt_i, ge_i, eq_i, ne_i, is_n, isnot_n, isNone, len_t, len_l, len_f, tuple_t, tuple_l, tuple_f, list_t, list_l, list_f, int_i, abs_i, max_i, min_i, sum_l, sum_t, isi_int, isi_bool, isi_tup, isi_lst, isi_str, isi_none, slice_l, slice_t, slice_f, ixO_no, ixO_int, satT_thenS, satT_next, satT_ret, sat_thenS, sat_next, sat_ret, seq_t, seq_l, seq_f, vInts_len, evP_nil, evP_name, evP_item, R.tot_bind, R.tot_ok, Nat.reduceAdd, Nat.reduceSub, Bool.not_true, Bool.not_false, if_true, Bool.false_eq_true, if_false]
theorem enumV_get : ∀ (xs : List Int) (k : Int) (i : Nat) (v : Val), (enumV k (vInts xs))[i]? = some v → ∃ a b : Int, v = .tup [.int a, .int b]
  | [], _, _, _, h => by cases h
  | x :: xs, k, 0, v, h => by cases h; exact ⟨k, x, rfl⟩
  | x :: xs, k, i + 1, v, h => enumV_get xs (k + 1) i v h
theorem seqE_t (xs : List Val) : seqE? (.tup xs) = some xs := rfl
theorem check_device_eq (k : Nat) (G : Heap) (xs : List Int) (L : Nat) (hl : xs.length = 2 * L) (l0 : 30 ≤ L) : callN P (k+2) "check_device" [.tup (vInts xs)] G = .ok .none G := by
  have h : (callN P (k+2) "check_device" [.tup (vInts xs)] G).tot fun v G' => v = .none ∧ G' = G := by
    rw [call_eq pcheck_device _ _ _ rfl]
    have q1 : decide ((xs.length : Int) % 2 = 1) = false := decide_eq_false (by omega)
    have q2 : decide ((xs.length : Int) < 2 * (26 + 4)) = false := decide_eq_false (by omega)
    simp only [Bcheck_device, evSs_cons, evSs_nil, evE_var, evE_own, evE_con, evE_tup, evE_lst, evE_bin, evE_neg, evE_cmp, evE_cmp2, evE_not, evE_and, evE_or, evE_ite, evE_idx, evE_slice, evE_call, evE_bcall, evE_isi, evE_comp, evE_heap, evE_stop, evEs_nil, evEs_cons, evI_of, evI_rng1, evI_rng2, evI_zip, evI_enum, evS_stop, evS_exp, evS_ret, evS_retO, evS_retN, evS_pass, evS_brk, evS_cont, evS_asg, evS_asgOwn, evS_setR, evS_setO, evS_app, evS_appR, evS_extO, evS_popT, evS_popO, evS_aug, evS_par, evS_ite, evS_for_, evS_forO, evS_while_, startS, List.length_cons, List.length_nil, List.map_cons, List.map_nil, List.replicate, List.cons_append, List.nil_append, List.getD_cons_zero, List.getD_cons_succ, List.set_cons_zero, List.set_cons_succ, R.bind_ok, R.opt_some, R.calm_ok, R.thenS_ok, rd_int, rd_bool, rd_none, rd_str, rd_tup, rd_lst, rd_frz, seq_thenS, fin_thenS, seq_ite, fin_ite, RS.seq_next, RS.seq_ret, RS.fin_ret, RS.fin_next, Option.map_some, Option.bind_some, truthV_bool, truthV_int, truthV_none, setT_name, setT_tup, setTs_nil, setTs_cons, wipe_nil, wipe_cons, ix_l, ix_t, ix_f, at_l0, at_l1, at_l2, at_l3, add_i, sub_i, lt_i, le_i, gt_i, ge_i, eq_i, ne_i, is_n, isnot_n, isNone, len_t, len_l, len_f, tuple_t, tuple_l, tuple_f, list_t, list_l, list_f, int_i, abs_i, max_i, min_i, sum_l, sum_t, isi_int, isi_bool, isi_tup, isi_lst, isi_str, isi_none, slice_l, slice_t, slice_f, ixO_no, ixO_int, satT_thenS, satT_next, satT_ret, sat_thenS, sat_next, sat_ret, seq_t, seq_l, seq_f, vInts_len, evP_nil, evP_name, evP_item, R.tot_bind, R.tot_ok, Nat.reduceAdd, Nat.reduceSub, Bool.not_true, Bool.not_false, if_true, Bool.false_eq_true, if_false, mod_i _ 2 (show decide ((0:Int) < 2) = true by decide), q1, mul_l 2 _ (show (decide (-p64 < 2) && decide ((2:Int) < p64)) = true by decide), q2, seqE_t]
    refine seq_sat (N := fun _ G' => G' = G) (forR_sat (fun _ s G' => ∃ b c, s = [.val (.tup (vInts xs)), b, c] ∧ G' = G) ?_ ?_ ⟨_, _, rfl, rfl⟩) fun s G' e => by subst e; rw [evSs_nil]; exact ⟨rfl, rfl⟩
    · rintro i x s G' hx ⟨b, c, rfl, rfl⟩
      obtain ⟨p, q, rfl⟩ := enumV_get xs 0 i x hx
      refine ⟨[.val (.tup (vInts xs)), .val (.int p), .val (.int q)], rfl, ?_⟩
      simp only [evSs_cons, evSs_nil, evE_var, evE_own, evE_con, evE_tup, evE_lst, evE_bin, evE_neg, evE_cmp, evE_cmp2, evE_not, evE_and, evE_or, evE_ite, evE_idx, evE_slice, evE_call, evE_bcall, evE_isi, evE_comp, evE_heap, evE_stop, evEs_nil, evEs_cons, evI_of, evI_rng1, evI_rng2, evI_zip, evI_enum, evS_stop, evS_exp, evS_ret, evS_retO, evS_retN, evS_pass, evS_brk, evS_cont, evS_asg, evS_asgOwn, evS_setR, evS_setO, evS_app, evS_appR, evS_extO, evS_popT, evS_popO, evS_aug, evS_par, evS_ite, evS_for_, evS_forO, evS_while_, startS, List.length_cons, List.length_nil, List.map_cons, List.map_nil, List.replicate, List.cons_append, List.nil_append, List.getD_cons_zero, List.getD_cons_succ, List.set_cons_zero, List.set_cons_succ, R.bind_ok, R.opt_some, R.calm_ok, R.thenS_ok, rd_int, rd_bool, rd_none, rd_str, rd_tup, rd_lst, rd_frz, seq_thenS, fin_thenS, seq_ite, fin_ite, RS.seq_next, RS.seq_ret, RS.fin_ret, RS.fin_next, Option.map_some, Option.bind_some, truthV_bool, truthV_int, truthV_none, setT_name, setT_tup, setTs_nil, setTs_cons, wipe_nil, wipe_cons, ix_l, ix_t, ix_f, at_l0, at_l1, at_l2, at_l3, add_i, sub_i, lt_i, le_i, gt_i, ge_i, eq_i, ne_i, is_n, isnot_n, isNone, len_t, len_l, len_f, tuple_t, tuple_l, tuple_f, list_t, list_l, list_f, int_i, abs_i, max_i, min_i, sum_l, sum_t, isi_int, isi_bool, isi_tup, isi_lst, isi_str, isi_none, slice_l, slice_t, slice_f, ixO_no, ixO_int, satT_thenS, satT_next, satT_ret, sat_thenS, sat_next, sat_ret, seq_t, seq_l, seq_f, vInts_len, evP_nil, evP_name, evP_item, R.tot_bind, R.tot_ok, Nat.reduceAdd, Nat.reduceSub, Bool.not_true, Bool.not_false, if_true, Bool.false_eq_true, if_false, whole_eq]
      exact ⟨_, _, rfl, by first | rfl | trivial⟩
    · rintro s G' ⟨_, _, _, e⟩
      exact e
  obtain ⟨v, G', e, rfl, rfl⟩ := R.tot_eq h
  exact e
end Fx.Law

namespace Fx.Law
open PySem PySem.Spec PyProof.Rows L2 Fx
def Sm (d : Nat) (v : Val) : Prop := ∀ k G, callN P (k+d) "_law_same" [v, v] G = .ok (.bool true) G
theorem Sm.up {d : Nat} {v : Val} (h : Sm d v) (e : Nat) (hd : d ≤ e) : Sm e v := fun k G => by
  obtain ⟨j, rfl⟩ := Nat.le.dest hd
  have := h (k + j) G
  rwa [show k + (d + j) = k + j + d by omega]
theorem sm_int (i : Int) : Sm 2 (.int i) := fun k G => by
  have hw : callN P (k+1) "_law_is_whole" [.int i] G = .ok (.bool true) G := by
    rw [call_eq pw_law_is_whole _ _ _ rfl]
    simp only [Bw_law_is_whole, evSs_cons, evSs_nil, evE_var, evE_own, evE_con, evE_tup, evE_lst, evE_bin, evE_neg, evE_cmp, evE_cmp2, evE_not, evE_and, evE_or, evE_ite, evE_idx, evE_slice, evE_call, evE_bcall, evE_isi, evE_comp, evE_heap, evE_stop, evEs_nil, evEs_cons, evI_of, evI_rng1, evI_rng2, evI_zip, evI_enum, evS_stop, evS_exp, evS_ret, evS_retO, evS_retN, evS_pass, evS_brk, evS_cont, evS_asg, evS_asgOwn, evS_setR, evS_setO, evS_app, evS_appR, evS_extO, evS_popT, evS_popO, evS_aug, evS_par, evS_ite, evS_for_, evS_forO, evS_while_, startS, List.length_cons, List.length_nil, List.map_cons, List.map_nil, List.replicate, List.cons_append, List.nil_append, List.getD_cons_zero, List.getD_cons_succ, List.set_cons_zero, List.set_cons_succ, R.bind_ok, R.opt_some, R.calm_ok, R.thenS_ok, rd_int, rd_bool, rd_none, rd_str, rd_tup, rd_lst, rd_frz, seq_thenS, fin_thenS, seq_ite, fin_ite, RS.seq_next, RS.seq_ret, RS.fin_ret, RS.fin_next, Option.map_some, Option.bind_some, truthV_bool, truthV_int, truthV_none, setT_name, setT_tup, setTs_nil, setTs_cons, wipe_nil, wipe_cons, ix_l, ix_t, ix_f, at_l0, at_l1, at_l2, at_l3, add_i, sub_i, lt_i, le_i, gt_i, ge_i, eq_i, ne_i, is_n, isnot_n, isNone, len_t, len_l, len_f, tuple_t, tuple_l, tuple_f, list_t, list_l, list_f, int_i, abs_i, max_i, min_i, sum_l, sum_t, isi_int, isi_bool, isi_tup, isi_lst, isi_str, isi_none, slice_l, slice_t, slice_f, ixO_no, ixO_int, satT_thenS, satT_next, satT_ret, sat_thenS, sat_next, sat_ret, seq_t, seq_l, seq_f, vInts_len, evP_nil, evP_name, evP_item, R.tot_bind, R.tot_ok, Nat.reduceAdd, Nat.reduceSub, Bool.not_true, Bool.not_false, if_true, Bool.false_eq_true, if_false]
  rw [call_eq pw_law_same _ _ _ rfl]
  have e : decide (i = i) = true := decide_eq_true rfl
  simp only [Bw_law_same, evSs_cons, evSs_nil, evE_var, evE_own, evE_con, evE_tup, evE_lst, evE_bin, evE_neg, evE_cmp, evE_cmp2, evE_not, evE_and, evE_or, evE_ite, evE_idx, evE_slice, evE_call, evE_bcall, evE_isi, evE_comp, evE_heap, evE_stop, evEs_nil, evEs_cons, evI_of, evI_rng1, evI_rng2, evI_zip, evI_enum, evS_stop, evS_exp, evS_ret, evS_retO, evS_retN, evS_pass, evS_brk, evS_cont, evS_asg, evS_asgOwn, evS_setR, evS_setO, evS_app, evS_appR, evS_extO, evS_popT, evS_popO, evS_aug, evS_par, evS_ite, evS_for_, evS_forO, evS_while_, startS, List.length_cons, List.length_nil, List.map_cons, List.map_nil, List.replicate, List.cons_append, List.nil_append, List.getD_cons_zero, List.getD_cons_succ, List.set_cons_zero, List.set_cons_succ, R.bind_ok, R.opt_some, R.calm_ok, R.thenS_ok, rd_int, rd_bool, rd_none, rd_str, rd_tup, rd_lst, rd_frz, seq_thenS, fin_thenS, seq_ite, fin_ite, RS.seq_next, RS.seq_ret, RS.fin_ret, RS.fin_next, Option.map_some, Option.bind_some, truthV_bool, truthV_int, truthV_none, setT_name, setT_tup, setTs_nil, setTs_cons, wipe_nil, wipe_cons, ix_l, ix_t, ix_f, at_l0, at_l1, at_l2, at_l3, add_i, sub_i, lt_i, le_i, gt_i, ge_i, eq_i, ne_i, is_n, isnot_n, isNone, len_t, len_l, len_f, tuple_t, tuple_l, tuple_f, list_t, list_l, list_f, int_i, abs_i, max_i, min_i, sum_l, sum_t, isi_int, isi_bool, isi_tup, isi_lst, isi_str, isi_none, slice_l, slice_t, slice_f, ixO_no, ixO_int, satT_thenS, satT_next, satT_ret, sat_thenS, sat_next, sat_ret, seq_t, seq_l, seq_f, vInts_len, evP_nil, evP_name, evP_item, R.tot_bind, R.tot_ok, Nat.reduceAdd, Nat.reduceSub, Bool.not_true, Bool.not_false, if_true, Bool.false_eq_true, if_false, hw, e, decide_true]
theorem sm_none : Sm 2 .none := fun k G => by
  rw [call_eq pw_law_same _ _ _ rfl]
  simp only [Bw_law_same, evSs_cons, evSs_nil, evE_var, evE_own, evE_con, evE_tup, evE_lst, evE_bin, evE_neg, evE_cmp, evE_cmp2, evE_not, evE_and, evE_or, evE_ite, evE_idx, evE_slice, evE_call, evE_bcall, evE_isi, evE_comp, evE_heap, evE_stop, evEs_nil, evEs_cons, evI_of, evI_rng1, evI_rng2, evI_zip, evI_enum, evS_stop, evS_exp, evS_ret, evS_retO, evS_retN, evS_pass, evS_brk, evS_cont, evS_asg, evS_asgOwn, evS_setR, evS_setO, evS_app, evS_appR, evS_extO, evS_popT, evS_popO, evS_aug, evS_par, evS_ite, evS_for_, evS_forO, evS_while_, startS, List.length_cons, List.length_nil, List.map_cons, List.map_nil, List.replicate, List.cons_append, List.nil_append, List.getD_cons_zero, List.getD_cons_succ, List.set_cons_zero, List.set_cons_succ, R.bind_ok, R.opt_some, R.calm_ok, R.thenS_ok, rd_int, rd_bool, rd_none, rd_str, rd_tup, rd_lst, rd_frz, seq_thenS, fin_thenS, seq_ite, fin_ite, RS.seq_next, RS.seq_ret, RS.fin_ret, RS.fin_next, Option.map_some, Option.bind_some, truthV_bool, truthV_int, truthV_none, setT_name, setT_tup, setTs_nil, setTs_cons, wipe_nil, wipe_cons, ix_l, ix_t, ix_f, at_l0, at_l1, at_l2, at_l3, add_i, sub_i, lt_i, le_i, gt_i, ge_i, eq_i, ne_i, is_n, isnot_n, isNone, len_t, len_l, len_f, tuple_t, tuple_l, tuple_f, list_t, list_l, list_f, int_i, abs_i, max_i, min_i, sum_l, sum_t, isi_int, isi_bool, isi_tup, isi_lst, isi_str, isi_none, slice_l, slice_t, slice_f, ixO_no, ixO_int, satT_thenS, satT_next, satT_ret, sat_thenS, sat_next, sat_ret, seq_t, seq_l, seq_f, vInts_len, evP_nil, evP_name, evP_item, R.tot_bind, R.tot_ok, Nat.reduceAdd, Nat.reduceSub, Bool.not_true, Bool.not_false, if_true, Bool.false_eq_true, if_false]
theorem eq_b (b : Bool) : cmpK .Eq (.bool b) (.bool b) = some true := by cases b <;> rfl
theorem sm_bool (b : Bool) : Sm 2 (.bool b) := fun k G => by
  rw [call_eq pw_law_same _ _ _ rfl]
  simp only [Bw_law_same, evSs_cons, evSs_nil, evE_var, evE_own, evE_con, evE_tup, evE_lst, evE_bin, evE_neg, evE_cmp, evE_cmp2, evE_not, evE_and, evE_or, evE_ite, evE_idx, evE_slice, evE_call, evE_bcall, evE_isi, evE_comp, evE_heap, evE_stop, evEs_nil, evEs_cons, evI_of, evI_rng1, evI_rng2, evI_zip, evI_enum, evS_stop, evS_exp, evS_ret, evS_retO, evS_retN, evS_pass, evS_brk, evS_cont, evS_asg, evS_asgOwn, evS_setR, evS_setO, evS_app, evS_appR, evS_extO, evS_popT, evS_popO, evS_aug, evS_par, evS_ite, evS_for_, evS_forO, evS_while_, startS, List.length_cons, List.length_nil, List.map_cons, List.map_nil, List.replicate, List.cons_append, List.nil_append, List.getD_cons_zero, List.getD_cons_succ, List.set_cons_zero, List.set_cons_succ, R.bind_ok, R.opt_some, R.calm_ok, R.thenS_ok, rd_int, rd_bool, rd_none, rd_str, rd_tup, rd_lst, rd_frz, seq_thenS, fin_thenS, seq_ite, fin_ite, RS.seq_next, RS.seq_ret, RS.fin_ret, RS.fin_next, Option.map_some, Option.bind_some, truthV_bool, truthV_int, truthV_none, setT_name, setT_tup, setTs_nil, setTs_cons, wipe_nil, wipe_cons, ix_l, ix_t, ix_f, at_l0, at_l1, at_l2, at_l3, add_i, sub_i, lt_i, le_i, gt_i, ge_i, eq_i, ne_i, is_n, isnot_n, isNone, len_t, len_l, len_f, tuple_t, tuple_l, tuple_f, list_t, list_l, list_f, int_i, abs_i, max_i, min_i, sum_l, sum_t, isi_int, isi_bool, isi_tup, isi_lst, isi_str, isi_none, slice_l, slice_t, slice_f, ixO_no, ixO_int, satT_thenS, satT_next, satT_ret, sat_thenS, sat_next, sat_ret, seq_t, seq_l, seq_f, vInts_len, evP_nil, evP_name, evP_item, R.tot_bind, R.tot_ok, Nat.reduceAdd, Nat.reduceSub, Bool.not_true, Bool.not_false, if_true, Bool.false_eq_true, if_false, eq_b]
theorem zip_self : ∀ (vs : List Val), (zipV vs vs).length = vs.length ∧ ∀ x ∈ zipV vs vs, ∃ v ∈ vs, x = .tup [v, v]
  | [] => ⟨rfl, fun _ h => nomatch h⟩
  | v :: vs => by
    obtain ⟨h1, h2⟩ := zip_self vs
    refine ⟨by rw [zipV, List.length_cons, List.length_cons, h1], fun x hx => ?_⟩
    rw [zipV] at hx
    rcases List.mem_cons.mp hx with e | hx
    · exact ⟨v, List.mem_cons_self, e⟩
    · obtain ⟨w, hw, e⟩ := h2 x hx
      exact ⟨w, List.mem_cons_of_mem _ hw, e⟩
theorem sm_tup {d : Nat} {vs : List Val} (hl : vs.length ≤ 1000) (h : ∀ v ∈ vs, Sm d v) : Sm (d + 1) (.tup vs) := fun k G => by
  show callN P (k + d + 1) _ _ _ = _
  rw [call_eq pw_law_same _ _ _ rfl]
  obtain ⟨z1, z2⟩ := zip_self vs
  have run : ∀ st : Store, st.length = 4 → compR (setT (.tup (.cons (.name 2) (.cons (.name 3) .nil)))) (evE (callN P (k+d)) (.con (.bool true))) (evE (callN P (k+d)) (.call "_law_same" (.cons (.var 2) (.cons (.var 3) .nil)))) (zipV vs vs) st G = .ok ((zipV vs vs).map fun _ => .bool true) G := fun st hst => by
    rw [compR_map (fun _ => true) (fun _ => .bool true), List.filter_eq_self.mpr (fun _ _ => rfl)]
    intro x hx
    obtain ⟨v, hv, rfl⟩ := z2 x hx
    match st, hst with
    | [a, b, c, e], _ =>
      refine ⟨[a, b, .val v, .val v], .bool true, ?_, evE_con .., rfl, fun _ => ?_⟩
      · simp only [evSs_cons, evSs_nil, evE_var, evE_own, evE_con, evE_tup, evE_lst, evE_bin, evE_neg, evE_cmp, evE_cmp2, evE_not, evE_and, evE_or, evE_ite, evE_idx, evE_slice, evE_call, evE_bcall, evE_isi, evE_comp, evE_heap, evE_stop, evEs_nil, evEs_cons, evI_of, evI_rng1, evI_rng2, evI_zip, evI_enum, evS_stop, evS_exp, evS_ret, evS_retO, evS_retN, evS_pass, evS_brk, evS_cont, evS_asg, evS_asgOwn, evS_setR, evS_setO, evS_app, evS_appR, evS_extO, evS_popT, evS_popO, evS_aug, evS_par, evS_ite, evS_for_, evS_forO, evS_while_, startS, List.length_cons, List.length_nil, List.map_cons, List.map_nil, List.replicate, List.cons_append, List.nil_append, List.getD_cons_zero, List.getD_cons_succ, List.set_cons_zero, List.set_cons_succ, R.bind_ok, R.opt_some, R.calm_ok, R.thenS_ok, rd_int, rd_bool, rd_none, rd_str, rd_tup, rd_lst, rd_frz, seq_thenS, fin_thenS, seq_ite, fin_ite, RS.seq_next, RS.seq_ret, RS.fin_ret, RS.fin_next, Option.map_some, Option.bind_some, truthV_bool, truthV_int, truthV_none, setT_name, setT_tup, setTs_nil, setTs_cons, wipe_nil, wipe_cons, ix_l, ix_t, ix_f, at_l0, at_l1, at_l2, at_l3, add_i, sub_i, lt_i, le_i, gt_i, ge_i, eq_i, ne_i, is_n, isnot_n, isNone, len_t, len_l, len_f, tuple_t, tuple_l, tuple_f, list_t, list_l, list_f, int_i, abs_i, max_i, min_i, sum_l, sum_t, isi_int, isi_bool, isi_tup, isi_lst, isi_str, isi_none, slice_l, slice_t, slice_f, ixO_no, ixO_int, satT_thenS, satT_next, satT_ret, sat_thenS, sat_next, sat_ret, seq_t, seq_l, seq_f, vInts_len, evP_nil, evP_name, evP_item, R.tot_bind, R.tot_ok, Nat.reduceAdd, Nat.reduceSub, Bool.not_true, Bool.not_false, if_true, Bool.false_eq_true, if_false]
      · simp only [evSs_cons, evSs_nil, evE_var, evE_own, evE_con, evE_tup, evE_lst, evE_bin, evE_neg, evE_cmp, evE_cmp2, evE_not, evE_and, evE_or, evE_ite, evE_idx, evE_slice, evE_call, evE_bcall, evE_isi, evE_comp, evE_heap, evE_stop, evEs_nil, evEs_cons, evI_of, evI_rng1, evI_rng2, evI_zip, evI_enum, evS_stop, evS_exp, evS_ret, evS_retO, evS_retN, evS_pass, evS_brk, evS_cont, evS_asg, evS_asgOwn, evS_setR, evS_setO, evS_app, evS_appR, evS_extO, evS_popT, evS_popO, evS_aug, evS_par, evS_ite, evS_for_, evS_forO, evS_while_, startS, List.length_cons, List.length_nil, List.map_cons, List.map_nil, List.replicate, List.cons_append, List.nil_append, List.getD_cons_zero, List.getD_cons_succ, List.set_cons_zero, List.set_cons_succ, R.bind_ok, R.opt_some, R.calm_ok, R.thenS_ok, rd_int, rd_bool, rd_none, rd_str, rd_tup, rd_lst, rd_frz, seq_thenS, fin_thenS, seq_ite, fin_ite, RS.seq_next, RS.seq_ret, RS.fin_ret, RS.fin_next, Option.map_some, Option.bind_some, truthV_bool, truthV_int, truthV_none, setT_name, setT_tup, setTs_nil, setTs_cons, wipe_nil, wipe_cons, ix_l, ix_t, ix_f, at_l0, at_l1, at_l2, at_l3, add_i, sub_i, lt_i, le_i, gt_i, ge_i, eq_i, ne_i, is_n, isnot_n, isNone, len_t, len_l, len_f, tuple_t, tuple_l, tuple_f, list_t, list_l, list_f, int_i, abs_i, max_i, min_i, sum_l, sum_t, isi_int, isi_bool, isi_tup, isi_lst, isi_str, isi_none, slice_l, slice_t, slice_f, ixO_no, ixO_int, satT_thenS, satT_next, satT_ret, sat_thenS, sat_next, sat_ret, seq_t, seq_l, seq_f, vInts_len, evP_nil, evP_name, evP_item, R.tot_bind, R.tot_ok, Nat.reduceAdd, Nat.reduceSub, Bool.not_true, Bool.not_false, if_true, Bool.false_eq_true, if_false]
        exact h v hv k G
  have e : decide ((vs.length : Int) = vs.length) = true := decide_eq_true rfl
  have hz : ¬ lineN < (zipV vs vs).length := by rw [z1]; unfold lineN; omega
  simp only [Bw_law_same, evSs_cons, evSs_nil, evE_var, evE_own, evE_con, evE_tup, evE_lst, evE_bin, evE_neg, evE_cmp, evE_cmp2, evE_not, evE_and, evE_or, evE_ite, evE_idx, evE_slice, evE_call, evE_bcall, evE_isi, evE_comp, evE_heap, evE_stop, evEs_nil, evEs_cons, evI_of, evI_rng1, evI_rng2, evI_zip, evI_enum, evS_stop, evS_exp, evS_ret, evS_retO, evS_retN, evS_pass, evS_brk, evS_cont, evS_asg, evS_asgOwn, evS_setR, evS_setO, evS_app, evS_appR, evS_extO, evS_popT, evS_popO, evS_aug, evS_par, evS_ite, evS_for_, evS_forO, evS_while_, startS, List.length_cons, List.length_nil, List.map_cons, List.map_nil, List.replicate, List.cons_append, List.nil_append, List.getD_cons_zero, List.getD_cons_succ, List.set_cons_zero, List.set_cons_succ, R.bind_ok, R.opt_some, R.calm_ok, R.thenS_ok, rd_int, rd_bool, rd_none, rd_str, rd_tup, rd_lst, rd_frz, seq_thenS, fin_thenS, seq_ite, fin_ite, RS.seq_next, RS.seq_ret, RS.fin_ret, RS.fin_next, Option.map_some, Option.bind_some, truthV_bool, truthV_int, truthV_none, setT_name, setT_tup, setTs_nil, setTs_cons, wipe_nil, wipe_cons, ix_l, ix_t, ix_f, at_l0, at_l1, at_l2, at_l3, add_i, sub_i, lt_i, le_i, gt_i, ge_i, eq_i, ne_i, is_n, isnot_n, isNone, len_t, len_l, len_f, tuple_t, tuple_l, tuple_f, list_t, list_l, list_f, int_i, abs_i, max_i, min_i, sum_l, sum_t, isi_int, isi_bool, isi_tup, isi_lst, isi_str, isi_none, slice_l, slice_t, slice_f, ixO_no, ixO_int, satT_thenS, satT_next, satT_ret, sat_thenS, sat_next, sat_ret, seq_t, seq_l, seq_f, vInts_len, evP_nil, evP_name, evP_item, R.tot_bind, R.tot_ok, Nat.reduceAdd, Nat.reduceSub, Bool.not_true, Bool.not_false, if_true, Bool.false_eq_true, if_false, e, decide_true]
  rw [if_neg hz, run _ rfl]
  simp only [evSs_cons, evSs_nil, evE_var, evE_own, evE_con, evE_tup, evE_lst, evE_bin, evE_neg, evE_cmp, evE_cmp2, evE_not, evE_and, evE_or, evE_ite, evE_idx, evE_slice, evE_call, evE_bcall, evE_isi, evE_comp, evE_heap, evE_stop, evEs_nil, evEs_cons, evI_of, evI_rng1, evI_rng2, evI_zip, evI_enum, evS_stop, evS_exp, evS_ret, evS_retO, evS_retN, evS_pass, evS_brk, evS_cont, evS_asg, evS_asgOwn, evS_setR, evS_setO, evS_app, evS_appR, evS_extO, evS_popT, evS_popO, evS_aug, evS_par, evS_ite, evS_for_, evS_forO, evS_while_, startS, List.length_cons, List.length_nil, List.map_cons, List.map_nil, List.replicate, List.cons_append, List.nil_append, List.getD_cons_zero, List.getD_cons_succ, List.set_cons_zero, List.set_cons_succ, R.bind_ok, R.opt_some, R.calm_ok, R.thenS_ok, rd_int, rd_bool, rd_none, rd_str, rd_tup, rd_lst, rd_frz, seq_thenS, fin_thenS, seq_ite, fin_ite, RS.seq_next, RS.seq_ret, RS.fin_ret, RS.fin_next, Option.map_some, Option.bind_some, truthV_bool, truthV_int, truthV_none, setT_name, setT_tup, setTs_nil, setTs_cons, wipe_nil, wipe_cons, ix_l, ix_t, ix_f, at_l0, at_l1, at_l2, at_l3, add_i, sub_i, lt_i, le_i, gt_i, ge_i, eq_i, ne_i, is_n, isnot_n, isNone, len_t, len_l, len_f, tuple_t, tuple_l, tuple_f, list_t, list_l, list_f, int_i, abs_i, max_i, min_i, sum_l, sum_t, isi_int, isi_bool, isi_tup, isi_lst, isi_str, isi_none, slice_l, slice_t, slice_f, ixO_no, ixO_int, satT_thenS, satT_next, satT_ret, sat_thenS, sat_next, sat_ret, seq_t, seq_l, seq_f, vInts_len, evP_nil, evP_name, evP_item, R.tot_bind, R.tot_ok, Nat.reduceAdd, Nat.reduceSub, Bool.not_true, Bool.not_false, if_true, Bool.false_eq_true, if_false, all_true (vs := (zipV vs vs).map fun _ => Val.bool true) (fun v hv => by obtain ⟨_, _, rfl⟩ := List.mem_map.mp hv; rfl)]
theorem sm_ints {xs : List Int} (hl : xs.length ≤ 1000) : Sm 3 (.tup (vInts xs)) := sm_tup (by rw [vInts_len]; exact hl) fun v hv => by
  obtain ⟨i, _, rfl⟩ := List.mem_map.mp hv
  exact sm_int i
theorem sm_hv {v : Val} (h : HV v) : Sm 4 v := by
  rcases h with e | ⟨i, w, e, hw⟩ <;> subst e
  · exact sm_none.up 4 (by omega)
  · refine sm_tup (by simp) fun v hv => ?_
    simp only [List.mem_cons, List.not_mem_nil, or_false] at hv
    rcases hv with rfl | rfl
    · exact (sm_int i).up 3 (by omega)
    · exact sm_ints hw
theorem sm_now (V0 V1 : Val) : Sm 4 (nowV V0 V1) := by
  unfold nowV
  split <;> first | exact sm_none.up 4 (by omega) | exact (sm_int _).up 4 (by omega)
theorem sm_wr {ps : List Int} (hl : ps.length ≤ 2) : Sm 4 (.tup (ps.map wr)) := sm_tup (by rw [List.length_map]; omega) fun v hv => by
  obtain ⟨i, _, rfl⟩ := List.mem_map.mp hv
  refine sm_tup (by simp) fun v hv => ?_
  simp only [List.mem_cons, List.not_mem_nil, or_false] at hv
  rcases hv with rfl | rfl <;> exact sm_int _
theorem seen_eq (k : Nat) (G : Heap) (xs : List Int) (L : Nat) (hl : xs.length = 2 * L) (l0 : 30 ≤ L) (l1 : L ≤ 40) : callN P (k+7) "_law_is_seen" [.tup (vInts xs)] G = .ok (.bool true) G := by
  obtain ⟨V0, V1, d⟩ := dev_of xs L hl l0 l1
  obtain ⟨ps, p0, p1, pm, pc⟩ := clears_of d L hl l0 l1
  have cd : ∀ k G, callN P (k+2) "check_device" [.tup (vInts xs)] G = .ok .none G := fun k G => check_device_eq k G xs L hl l0
  have h0 : callN P (k+6) "held" [.tup (vInts xs), .int 0] G = .ok V0 G := by
    rw [call_eq pheld _ _ _ rfl]
    have c1 : callN P (k+5) "check_device" [.tup (vInts xs)] G = .ok .none G := cd (k+3) G
    have c2 : callN P (k+5) "check_within" [.int 0, .int 0, .int 1] G = .ok .none G := check_within_eq (k+3) G 0 0 1 (by omega) (by omega)
    have c3 : callN P (k+5) "held_by" [.tup (vInts xs), .int 0] G = .ok V0 G := d.hb0 (k+3) G
    simp only [Bheld, evSs_cons, evSs_nil, evE_var, evE_own, evE_con, evE_tup, evE_lst, evE_bin, evE_neg, evE_cmp, evE_cmp2, evE_not, evE_and, evE_or, evE_ite, evE_idx, evE_slice, evE_call, evE_bcall, evE_isi, evE_comp, evE_heap, evE_stop, evEs_nil, evEs_cons, evI_of, evI_rng1, evI_rng2, evI_zip, evI_enum, evS_stop, evS_exp, evS_ret, evS_retO, evS_retN, evS_pass, evS_brk, evS_cont, evS_asg, evS_asgOwn, evS_setR, evS_setO, evS_app, evS_appR, evS_extO, evS_popT, evS_popO, evS_aug, evS_par, evS_ite, evS_for_, evS_forO, evS_while_, startS, List.length_cons, List.length_nil, List.map_cons, List.map_nil, List.replicate, List.cons_append, List.nil_append, List.getD_cons_zero, List.getD_cons_succ, List.set_cons_zero, List.set_cons_succ, R.bind_ok, R.opt_some, R.calm_ok, R.thenS_ok, rd_int, rd_bool, rd_none, rd_str, rd_tup, rd_lst, rd_frz, seq_thenS, fin_thenS, seq_ite, fin_ite, RS.seq_next, RS.seq_ret, RS.fin_ret, RS.fin_next, Option.map_some, Option.bind_some, truthV_bool, truthV_int, truthV_none, setT_name, setT_tup, setTs_nil, setTs_cons, wipe_nil, wipe_cons, ix_l, ix_t, ix_f, at_l0, at_l1, at_l2, at_l3, add_i, sub_i, lt_i, le_i, gt_i, ge_i, eq_i, ne_i, is_n, isnot_n, isNone, len_t, len_l, len_f, tuple_t, tuple_l, tuple_f, list_t, list_l, list_f, int_i, abs_i, max_i, min_i, sum_l, sum_t, isi_int, isi_bool, isi_tup, isi_lst, isi_str, isi_none, slice_l, slice_t, slice_f, ixO_no, ixO_int, satT_thenS, satT_next, satT_ret, sat_thenS, sat_next, sat_ret, seq_t, seq_l, seq_f, vInts_len, evP_nil, evP_name, evP_item, R.tot_bind, R.tot_ok, Nat.reduceAdd, Nat.reduceSub, Bool.not_true, Bool.not_false, if_true, Bool.false_eq_true, if_false, c1, c2, c3]
  have h1 : callN P (k+6) "held" [.tup (vInts xs), .int 1] G = .ok V1 G := by
    rw [call_eq pheld _ _ _ rfl]
    have c1 : callN P (k+5) "check_device" [.tup (vInts xs)] G = .ok .none G := cd (k+3) G
    have c2 : callN P (k+5) "check_within" [.int 1, .int 0, .int 1] G = .ok .none G := check_within_eq (k+3) G 1 0 1 (by omega) (by omega)
    have c3 : callN P (k+5) "held_by" [.tup (vInts xs), .int 1] G = .ok V1 G := d.hb1 (k+3) G
    simp only [Bheld, evSs_cons, evSs_nil, evE_var, evE_own, evE_con, evE_tup, evE_lst, evE_bin, evE_neg, evE_cmp, evE_cmp2, evE_not, evE_and, evE_or, evE_ite, evE_idx, evE_slice, evE_call, evE_bcall, evE_isi, evE_comp, evE_heap, evE_stop, evEs_nil, evEs_cons, evI_of, evI_rng1, evI_rng2, evI_zip, evI_enum, evS_stop, evS_exp, evS_ret, evS_retO, evS_retN, evS_pass, evS_brk, evS_cont, evS_asg, evS_asgOwn, evS_setR, evS_setO, evS_app, evS_appR, evS_extO, evS_popT, evS_popO, evS_aug, evS_par, evS_ite, evS_for_, evS_forO, evS_while_, startS, List.length_cons, List.length_nil, List.map_cons, List.map_nil, List.replicate, List.cons_append, List.nil_append, List.getD_cons_zero, List.getD_cons_succ, List.set_cons_zero, List.set_cons_succ, R.bind_ok, R.opt_some, R.calm_ok, R.thenS_ok, rd_int, rd_bool, rd_none, rd_str, rd_tup, rd_lst, rd_frz, seq_thenS, fin_thenS, seq_ite, fin_ite, RS.seq_next, RS.seq_ret, RS.fin_ret, RS.fin_next, Option.map_some, Option.bind_some, truthV_bool, truthV_int, truthV_none, setT_name, setT_tup, setTs_nil, setTs_cons, wipe_nil, wipe_cons, ix_l, ix_t, ix_f, at_l0, at_l1, at_l2, at_l3, add_i, sub_i, lt_i, le_i, gt_i, ge_i, eq_i, ne_i, is_n, isnot_n, isNone, len_t, len_l, len_f, tuple_t, tuple_l, tuple_f, list_t, list_l, list_f, int_i, abs_i, max_i, min_i, sum_l, sum_t, isi_int, isi_bool, isi_tup, isi_lst, isi_str, isi_none, slice_l, slice_t, slice_f, ixO_no, ixO_int, satT_thenS, satT_next, satT_ret, sat_thenS, sat_next, sat_ret, seq_t, seq_l, seq_f, vInts_len, evP_nil, evP_name, evP_item, R.tot_bind, R.tot_ok, Nat.reduceAdd, Nat.reduceSub, Bool.not_true, Bool.not_false, if_true, Bool.false_eq_true, if_false, c1, c2, c3]
  have h2 : callN P (k+6) "current" [.tup (vInts xs)] G = .ok (nowV V0 V1) G := by
    rw [call_eq pcurrent _ _ _ rfl]
    have c1 : callN P (k+5) "check_device" [.tup (vInts xs)] G = .ok .none G := cd (k+3) G
    have c3 : callN P (k+5) "current_by" [.tup (vInts xs)] G = .ok (nowV V0 V1) G := current_eq d (k+2) G
    simp only [Bcurrent, evSs_cons, evSs_nil, evE_var, evE_own, evE_con, evE_tup, evE_lst, evE_bin, evE_neg, evE_cmp, evE_cmp2, evE_not, evE_and, evE_or, evE_ite, evE_idx, evE_slice, evE_call, evE_bcall, evE_isi, evE_comp, evE_heap, evE_stop, evEs_nil, evEs_cons, evI_of, evI_rng1, evI_rng2, evI_zip, evI_enum, evS_stop, evS_exp, evS_ret, evS_retO, evS_retN, evS_pass, evS_brk, evS_cont, evS_asg, evS_asgOwn, evS_setR, evS_setO, evS_app, evS_appR, evS_extO, evS_popT, evS_popO, evS_aug, evS_par, evS_ite, evS_for_, evS_forO, evS_while_, startS, List.length_cons, List.length_nil, List.map_cons, List.map_nil, List.replicate, List.cons_append, List.nil_append, List.getD_cons_zero, List.getD_cons_succ, List.set_cons_zero, List.set_cons_succ, R.bind_ok, R.opt_some, R.calm_ok, R.thenS_ok, rd_int, rd_bool, rd_none, rd_str, rd_tup, rd_lst, rd_frz, seq_thenS, fin_thenS, seq_ite, fin_ite, RS.seq_next, RS.seq_ret, RS.fin_ret, RS.fin_next, Option.map_some, Option.bind_some, truthV_bool, truthV_int, truthV_none, setT_name, setT_tup, setTs_nil, setTs_cons, wipe_nil, wipe_cons, ix_l, ix_t, ix_f, at_l0, at_l1, at_l2, at_l3, add_i, sub_i, lt_i, le_i, gt_i, ge_i, eq_i, ne_i, is_n, isnot_n, isNone, len_t, len_l, len_f, tuple_t, tuple_l, tuple_f, list_t, list_l, list_f, int_i, abs_i, max_i, min_i, sum_l, sum_t, isi_int, isi_bool, isi_tup, isi_lst, isi_str, isi_none, slice_l, slice_t, slice_f, ixO_no, ixO_int, satT_thenS, satT_next, satT_ret, sat_thenS, sat_next, sat_ret, seq_t, seq_l, seq_f, vInts_len, evP_nil, evP_name, evP_item, R.tot_bind, R.tot_ok, Nat.reduceAdd, Nat.reduceSub, Bool.not_true, Bool.not_false, if_true, Bool.false_eq_true, if_false, c1, c3]
  have hm : ∃ m, cmpK .Eq (.tup (ps.map wr)) (.tup []) = some m := by
    match ps, p0 with
    | [], _ => exact ⟨_, rfl⟩
    | [a], _ => exact ⟨_, rfl⟩
    | [a, b], _ => exact ⟨_, rfl⟩
  obtain ⟨m, hm⟩ := hm
  have h3 : callN P (k+6) "is_mended" [.tup (vInts xs)] G = .ok (.bool m) G := by
    rw [call_eq pis_mended _ _ _ rfl]
    have c1 : callN P (k+5) "check_device" [.tup (vInts xs)] G = .ok .none G := cd (k+3) G
    have c3 : callN P (k+5) "mending_by" [.tup (vInts xs)] G = .ok (.tup (ps.map wr)) G := pm (k+2) G
    simp only [Bis_mended, evSs_cons, evSs_nil, evE_var, evE_own, evE_con, evE_tup, evE_lst, evE_bin, evE_neg, evE_cmp, evE_cmp2, evE_not, evE_and, evE_or, evE_ite, evE_idx, evE_slice, evE_call, evE_bcall, evE_isi, evE_comp, evE_heap, evE_stop, evEs_nil, evEs_cons, evI_of, evI_rng1, evI_rng2, evI_zip, evI_enum, evS_stop, evS_exp, evS_ret, evS_retO, evS_retN, evS_pass, evS_brk, evS_cont, evS_asg, evS_asgOwn, evS_setR, evS_setO, evS_app, evS_appR, evS_extO, evS_popT, evS_popO, evS_aug, evS_par, evS_ite, evS_for_, evS_forO, evS_while_, startS, List.length_cons, List.length_nil, List.map_cons, List.map_nil, List.replicate, List.cons_append, List.nil_append, List.getD_cons_zero, List.getD_cons_succ, List.set_cons_zero, List.set_cons_succ, R.bind_ok, R.opt_some, R.calm_ok, R.thenS_ok, rd_int, rd_bool, rd_none, rd_str, rd_tup, rd_lst, rd_frz, seq_thenS, fin_thenS, seq_ite, fin_ite, RS.seq_next, RS.seq_ret, RS.fin_ret, RS.fin_next, Option.map_some, Option.bind_some, truthV_bool, truthV_int, truthV_none, setT_name, setT_tup, setTs_nil, setTs_cons, wipe_nil, wipe_cons, ix_l, ix_t, ix_f, at_l0, at_l1, at_l2, at_l3, add_i, sub_i, lt_i, le_i, gt_i, ge_i, eq_i, ne_i, is_n, isnot_n, isNone, len_t, len_l, len_f, tuple_t, tuple_l, tuple_f, list_t, list_l, list_f, int_i, abs_i, max_i, min_i, sum_l, sum_t, isi_int, isi_bool, isi_tup, isi_lst, isi_str, isi_none, slice_l, slice_t, slice_f, ixO_no, ixO_int, satT_thenS, satT_next, satT_ret, sat_thenS, sat_next, sat_ret, seq_t, seq_l, seq_f, vInts_len, evP_nil, evP_name, evP_item, R.tot_bind, R.tot_ok, Nat.reduceAdd, Nat.reduceSub, Bool.not_true, Bool.not_false, if_true, Bool.false_eq_true, if_false, c1, c3, hm]
  have h4 : callN P (k+6) "mending" [.tup (vInts xs)] G = .ok (.tup (ps.map wr)) G := by
    rw [call_eq pmending _ _ _ rfl]
    have c1 : callN P (k+5) "check_device" [.tup (vInts xs)] G = .ok .none G := cd (k+3) G
    have c3 : callN P (k+5) "mending_by" [.tup (vInts xs)] G = .ok (.tup (ps.map wr)) G := pm (k+2) G
    simp only [Bmending, evSs_cons, evSs_nil, evE_var, evE_own, evE_con, evE_tup, evE_lst, evE_bin, evE_neg, evE_cmp, evE_cmp2, evE_not, evE_and, evE_or, evE_ite, evE_idx, evE_slice, evE_call, evE_bcall, evE_isi, evE_comp, evE_heap, evE_stop, evEs_nil, evEs_cons, evI_of, evI_rng1, evI_rng2, evI_zip, evI_enum, evS_stop, evS_exp, evS_ret, evS_retO, evS_retN, evS_pass, evS_brk, evS_cont, evS_asg, evS_asgOwn, evS_setR, evS_setO, evS_app, evS_appR, evS_extO, evS_popT, evS_popO, evS_aug, evS_par, evS_ite, evS_for_, evS_forO, evS_while_, startS, List.length_cons, List.length_nil, List.map_cons, List.map_nil, List.replicate, List.cons_append, List.nil_append, List.getD_cons_zero, List.getD_cons_succ, List.set_cons_zero, List.set_cons_succ, R.bind_ok, R.opt_some, R.calm_ok, R.thenS_ok, rd_int, rd_bool, rd_none, rd_str, rd_tup, rd_lst, rd_frz, seq_thenS, fin_thenS, seq_ite, fin_ite, RS.seq_next, RS.seq_ret, RS.fin_ret, RS.fin_next, Option.map_some, Option.bind_some, truthV_bool, truthV_int, truthV_none, setT_name, setT_tup, setTs_nil, setTs_cons, wipe_nil, wipe_cons, ix_l, ix_t, ix_f, at_l0, at_l1, at_l2, at_l3, add_i, sub_i, lt_i, le_i, gt_i, ge_i, eq_i, ne_i, is_n, isnot_n, isNone, len_t, len_l, len_f, tuple_t, tuple_l, tuple_f, list_t, list_l, list_f, int_i, abs_i, max_i, min_i, sum_l, sum_t, isi_int, isi_bool, isi_tup, isi_lst, isi_str, isi_none, slice_l, slice_t, slice_f, ixO_no, ixO_int, satT_thenS, satT_next, satT_ret, sat_thenS, sat_next, sat_ret, seq_t, seq_l, seq_f, vInts_len, evP_nil, evP_name, evP_item, R.tot_bind, R.tot_ok, Nat.reduceAdd, Nat.reduceSub, Bool.not_true, Bool.not_false, if_true, Bool.false_eq_true, if_false, c1, c3]
  have h5 : callN P (k+6) "mended" [.tup (vInts xs)] G = .ok (.tup (vInts (putZ xs ps))) G := by
    rw [call_eq pmended _ _ _ rfl]
    have c1 : callN P (k+5) "check_device" [.tup (vInts xs)] G = .ok .none G := cd (k+3) G
    have c3 : callN P (k+5) "mending_by" [.tup (vInts xs)] G = .ok (.tup (ps.map wr)) G := pm (k+2) G
    have c4 : callN P (k+5) "put_all" [.tup (vInts xs), .tup (ps.map wr)] G = .ok (.tup (vInts (putZ xs ps))) G := put_all_eq (k+4) G xs ps p1
    simp only [Bmended, evSs_cons, evSs_nil, evE_var, evE_own, evE_con, evE_tup, evE_lst, evE_bin, evE_neg, evE_cmp, evE_cmp2, evE_not, evE_and, evE_or, evE_ite, evE_idx, evE_slice, evE_call, evE_bcall, evE_isi, evE_comp, evE_heap, evE_stop, evEs_nil, evEs_cons, evI_of, evI_rng1, evI_rng2, evI_zip, evI_enum, evS_stop, evS_exp, evS_ret, evS_retO, evS_retN, evS_pass, evS_brk, evS_cont, evS_asg, evS_asgOwn, evS_setR, evS_setO, evS_app, evS_appR, evS_extO, evS_popT, evS_popO, evS_aug, evS_par, evS_ite, evS_for_, evS_forO, evS_while_, startS, List.length_cons, List.length_nil, List.map_cons, List.map_nil, List.replicate, List.cons_append, List.nil_append, List.getD_cons_zero, List.getD_cons_succ, List.set_cons_zero, List.set_cons_succ, R.bind_ok, R.opt_some, R.calm_ok, R.thenS_ok, rd_int, rd_bool, rd_none, rd_str, rd_tup, rd_lst, rd_frz, seq_thenS, fin_thenS, seq_ite, fin_ite, RS.seq_next, RS.seq_ret, RS.fin_ret, RS.fin_next, Option.map_some, Option.bind_some, truthV_bool, truthV_int, truthV_none, setT_name, setT_tup, setTs_nil, setTs_cons, wipe_nil, wipe_cons, ix_l, ix_t, ix_f, at_l0, at_l1, at_l2, at_l3, add_i, sub_i, lt_i, le_i, gt_i, ge_i, eq_i, ne_i, is_n, isnot_n, isNone, len_t, len_l, len_f, tuple_t, tuple_l, tuple_f, list_t, list_l, list_f, int_i, abs_i, max_i, min_i, sum_l, sum_t, isi_int, isi_bool, isi_tup, isi_lst, isi_str, isi_none, slice_l, slice_t, slice_f, ixO_no, ixO_int, satT_thenS, satT_next, satT_ret, sat_thenS, sat_next, sat_ret, seq_t, seq_l, seq_f, vInts_len, evP_nil, evP_name, evP_item, R.tot_bind, R.tot_ok, Nat.reduceAdd, Nat.reduceSub, Bool.not_true, Bool.not_false, if_true, Bool.false_eq_true, if_false, c1, c3, c4]
  have h6 : callN P (k+6) "_law_both" [.tup (vInts xs)] G = .ok (.tup [V0, V1]) G := both_eq d (k+4) G
  have h7 : callN P (k+6) "_law_clears" [.tup (vInts xs)] G = .ok (.tup (ps.map wr)) G := pc (k+3) G
  have h8 : callN P (k+6) "_law_now" [.tup [V0, V1]] G = .ok (nowV V0 V1) G := now_eq d.f0 d.f1 (k+5) G
  have h9 : callN P (k+6) "_law_put" [.tup (vInts xs), .tup (ps.map wr)] G = .ok (.tup (vInts (putZ xs ps))) G := law_put_eq (k+5) G xs ps p1
  have h10 : callN P (k+6) "_law_same" [.tup [V0, V1, nowV V0 V1, .bool m, .tup (ps.map wr), .tup (vInts (putZ xs ps))], .tup [V0, V1, nowV V0 V1, .bool m, .tup (ps.map wr), .tup (vInts (putZ xs ps))]] G = .ok (.bool true) G := by
    refine sm_tup (d := 4) (by simp) (fun v hv => ?_) (k+1) G
    simp only [List.mem_cons, List.not_mem_nil, or_false] at hv
    rcases hv with rfl | rfl | rfl | rfl | rfl | rfl
    · exact sm_hv d.f0
    · exact sm_hv d.f1
    · exact sm_now V0 V1
    · exact (sm_bool _).up 4 (by omega)
    · exact sm_wr p0
    · exact (sm_ints (by rw [putZ_len]; omega)).up 4 (by omega)
  rw [call_eq pw_law_is_seen _ _ _ rfl]
  simp only [Bw_law_is_seen, evSs_cons, evSs_nil, evE_var, evE_own, evE_con, evE_tup, evE_lst, evE_bin, evE_neg, evE_cmp, evE_cmp2, evE_not, evE_and, evE_or, evE_ite, evE_idx, evE_slice, evE_call, evE_bcall, evE_isi, evE_comp, evE_heap, evE_stop, evEs_nil, evEs_cons, evI_of, evI_rng1, evI_rng2, evI_zip, evI_enum, evS_stop, evS_exp, evS_ret, evS_retO, evS_retN, evS_pass, evS_brk, evS_cont, evS_asg, evS_asgOwn, evS_setR, evS_setO, evS_app, evS_appR, evS_extO, evS_popT, evS_popO, evS_aug, evS_par, evS_ite, evS_for_, evS_forO, evS_while_, startS, List.length_cons, List.length_nil, List.map_cons, List.map_nil, List.replicate, List.cons_append, List.nil_append, List.getD_cons_zero, List.getD_cons_succ, List.set_cons_zero, List.set_cons_succ, R.bind_ok, R.opt_some, R.calm_ok, R.thenS_ok, rd_int, rd_bool, rd_none, rd_str, rd_tup, rd_lst, rd_frz, seq_thenS, fin_thenS, seq_ite, fin_ite, RS.seq_next, RS.seq_ret, RS.fin_ret, RS.fin_next, Option.map_some, Option.bind_some, truthV_bool, truthV_int, truthV_none, setT_name, setT_tup, setTs_nil, setTs_cons, wipe_nil, wipe_cons, ix_l, ix_t, ix_f, at_l0, at_l1, at_l2, at_l3, add_i, sub_i, lt_i, le_i, gt_i, ge_i, eq_i, ne_i, is_n, isnot_n, isNone, len_t, len_l, len_f, tuple_t, tuple_l, tuple_f, list_t, list_l, list_f, int_i, abs_i, max_i, min_i, sum_l, sum_t, isi_int, isi_bool, isi_tup, isi_lst, isi_str, isi_none, slice_l, slice_t, slice_f, ixO_no, ixO_int, satT_thenS, satT_next, satT_ret, sat_thenS, sat_next, sat_ret, seq_t, seq_l, seq_f, vInts_len, evP_nil, evP_name, evP_item, R.tot_bind, R.tot_ok, Nat.reduceAdd, Nat.reduceSub, Bool.not_true, Bool.not_false, if_true, Bool.false_eq_true, if_false, h0, h1, h2, h3, h4, h5, h6, h7, h8, h9, hm, cat_t [V0, V1] [nowV V0 V1, .bool m, .tup (ps.map wr), .tup (vInts (putZ xs ps))] rfl, h10]
end Fx.Law

namespace Fx.Law
open PySem PySem.Spec PyProof.Rows L2 Fx
theorem blank_eq (k : Nat) (G : Heap) (w : Int) (w0 : 26 ≤ w) (w1 : w ≤ 32) : callN P (k+3) "blank" [.int w] G = .ok (.tup (vInts (List.replicate (2 * (w + 4)).toNat [0]).flatten)) G := by
  rw [call_eq pblank _ _ _ rfl]
  have c := check_within_eq k G w 26 9000 w0 (by omega)
  have hr := rep_t [.int 0] (2 * (w + 4)) (by simp; omega)
  simp only [Bblank, evSs_cons, evSs_nil, evE_var, evE_own, evE_con, evE_tup, evE_lst, evE_bin, evE_neg, evE_cmp, evE_cmp2, evE_not, evE_and, evE_or, evE_ite, evE_idx, evE_slice, evE_call, evE_bcall, evE_isi, evE_comp, evE_heap, evE_stop, evEs_nil, evEs_cons, evI_of, evI_rng1, evI_rng2, evI_zip, evI_enum, evS_stop, evS_exp, evS_ret, evS_retO, evS_retN, evS_pass, evS_brk, evS_cont, evS_asg, evS_asgOwn, evS_setR, evS_setO, evS_app, evS_appR, evS_extO, evS_popT, evS_popO, evS_aug, evS_par, evS_ite, evS_for_, evS_forO, evS_while_, startS, List.length_cons, List.length_nil, List.map_cons, List.map_nil, List.replicate, List.cons_append, List.nil_append, List.getD_cons_zero, List.getD_cons_succ, List.set_cons_zero, List.set_cons_succ, R.bind_ok, R.opt_some, R.calm_ok, R.thenS_ok, rd_int, rd_bool, rd_none, rd_str, rd_tup, rd_lst, rd_frz, seq_thenS, fin_thenS, seq_ite, fin_ite, RS.seq_next, RS.seq_ret, RS.fin_ret, RS.fin_next, Option.map_some, Option.bind_some, truthV_bool, truthV_int, truthV_none, setT_name, setT_tup, setTs_nil, setTs_cons, wipe_nil, wipe_cons, ix_l, ix_t, ix_f, at_l0, at_l1, at_l2, at_l3, add_i, sub_i, lt_i, le_i, gt_i, ge_i, eq_i, ne_i, is_n, isnot_n, isNone, len_t, len_l, len_f, tuple_t, tuple_l, tuple_f, list_t, list_l, list_f, int_i, abs_i, max_i, min_i, sum_l, sum_t, isi_int, isi_bool, isi_tup, isi_lst, isi_str, isi_none, slice_l, slice_t, slice_f, ixO_no, ixO_int, satT_thenS, satT_next, satT_ret, sat_thenS, sat_next, sat_ret, seq_t, seq_l, seq_f, vInts_len, evP_nil, evP_name, evP_item, R.tot_bind, R.tot_ok, Nat.reduceAdd, Nat.reduceSub, Bool.not_true, Bool.not_false, if_true, Bool.false_eq_true, if_false, c, mul_l 2 _ (show (decide (-p64 < 2) && decide ((2:Int) < p64)) = true by decide), hr]
  rw [show [Val.int 0] = vInts [0] from rfl, flat_ints]
theorem right_ok (k : Nat) {G : Heap} {n : Nat} (h : Well G n) : (callN P (k+8) "_law_right" [.ref n] G).tot fun v _ => v = .bool true := by
  rw [call_eq pw_law_right _ _ _ rfl]
  simp only [Bw_law_right, evSs_cons, evSs_nil, evE_var, evE_own, evE_con, evE_tup, evE_lst, evE_bin, evE_neg, evE_cmp, evE_cmp2, evE_not, evE_and, evE_or, evE_ite, evE_idx, evE_slice, evE_call, evE_bcall, evE_isi, evE_comp, evE_heap, evE_stop, evEs_nil, evEs_cons, evI_of, evI_rng1, evI_rng2, evI_zip, evI_enum, evS_stop, evS_exp, evS_ret, evS_retO, evS_retN, evS_pass, evS_brk, evS_cont, evS_asg, evS_asgOwn, evS_setR, evS_setO, evS_app, evS_appR, evS_extO, evS_popT, evS_popO, evS_aug, evS_par, evS_ite, evS_for_, evS_forO, evS_while_, startS, List.length_cons, List.length_nil, List.map_cons, List.map_nil, List.replicate, List.cons_append, List.nil_append, List.getD_cons_zero, List.getD_cons_succ, List.set_cons_zero, List.set_cons_succ, R.bind_ok, R.opt_some, R.calm_ok, R.thenS_ok, rd_int, rd_bool, rd_none, rd_str, rd_tup, rd_lst, rd_frz, seq_thenS, fin_thenS, seq_ite, fin_ite, RS.seq_next, RS.seq_ret, RS.fin_ret, RS.fin_next, Option.map_some, Option.bind_some, truthV_bool, truthV_int, truthV_none, setT_name, setT_tup, setTs_nil, setTs_cons, wipe_nil, wipe_cons, ix_l, ix_t, ix_f, at_l0, at_l1, at_l2, at_l3, add_i, sub_i, lt_i, le_i, gt_i, ge_i, eq_i, ne_i, is_n, isnot_n, isNone, len_t, len_l, len_f, tuple_t, tuple_l, tuple_f, list_t, list_l, list_f, int_i, abs_i, max_i, min_i, sum_l, sum_t, isi_int, isi_bool, isi_tup, isi_lst, isi_str, isi_none, slice_l, slice_t, slice_f, ixO_no, ixO_int, satT_thenS, satT_next, satT_ret, sat_thenS, sat_next, sat_ret, seq_t, seq_l, seq_f, vInts_len, evP_nil, evP_name, evP_item, R.tot_bind, R.tot_ok, Nat.reduceAdd, Nat.reduceSub, Bool.not_true, Bool.not_false, if_true, Bool.false_eq_true, if_false]
  refine R.tot_mono (draw_ok (k+6) h (by omega) (by decide)) fun v G1 ⟨h1, k1, i, e, i0, i1⟩ => ?_
  subst e
  try simp only [evSs_cons, evSs_nil, evE_var, evE_own, evE_con, evE_tup, evE_lst, evE_bin, evE_neg, evE_cmp, evE_cmp2, evE_not, evE_and, evE_or, evE_ite, evE_idx, evE_slice, evE_call, evE_bcall, evE_isi, evE_comp, evE_heap, evE_stop, evEs_nil, evEs_cons, evI_of, evI_rng1, evI_rng2, evI_zip, evI_enum, evS_stop, evS_exp, evS_ret, evS_retO, evS_retN, evS_pass, evS_brk, evS_cont, evS_asg, evS_asgOwn, evS_setR, evS_setO, evS_app, evS_appR, evS_extO, evS_popT, evS_popO, evS_aug, evS_par, evS_ite, evS_for_, evS_forO, evS_while_, startS, List.length_cons, List.length_nil, List.map_cons, List.map_nil, List.replicate, List.cons_append, List.nil_append, List.getD_cons_zero, List.getD_cons_succ, List.set_cons_zero, List.set_cons_succ, R.bind_ok, R.opt_some, R.calm_ok, R.thenS_ok, rd_int, rd_bool, rd_none, rd_str, rd_tup, rd_lst, rd_frz, seq_thenS, fin_thenS, seq_ite, fin_ite, RS.seq_next, RS.seq_ret, RS.fin_ret, RS.fin_next, Option.map_some, Option.bind_some, truthV_bool, truthV_int, truthV_none, setT_name, setT_tup, setTs_nil, setTs_cons, wipe_nil, wipe_cons, ix_l, ix_t, ix_f, at_l0, at_l1, at_l2, at_l3, add_i, sub_i, lt_i, le_i, gt_i, ge_i, eq_i, ne_i, is_n, isnot_n, isNone, len_t, len_l, len_f, tuple_t, tuple_l, tuple_f, list_t, list_l, list_f, int_i, abs_i, max_i, min_i, sum_l, sum_t, isi_int, isi_bool, isi_tup, isi_lst, isi_str, isi_none, slice_l, slice_t, slice_f, ixO_no, ixO_int, satT_thenS, satT_next, satT_ret, sat_thenS, sat_next, sat_ret, seq_t, seq_l, seq_f, vInts_len, evP_nil, evP_name, evP_item, R.tot_bind, R.tot_ok, Nat.reduceAdd, Nat.reduceSub, Bool.not_true, Bool.not_false, if_true, Bool.false_eq_true, if_false]
  generalize hw : 26 + i = w
  have w0 : 26 ≤ w := by omega
  have w1 : w ≤ 32 := by omega
  refine R.tot_mono (slot_ok (k+3) h1 w0 w1) fun v G2 ⟨h2, k2, lv⟩ => ?_
  try simp only [evSs_cons, evSs_nil, evE_var, evE_own, evE_con, evE_tup, evE_lst, evE_bin, evE_neg, evE_cmp, evE_cmp2, evE_not, evE_and, evE_or, evE_ite, evE_idx, evE_slice, evE_call, evE_bcall, evE_isi, evE_comp, evE_heap, evE_stop, evEs_nil, evEs_cons, evI_of, evI_rng1, evI_rng2, evI_zip, evI_enum, evS_stop, evS_exp, evS_ret, evS_retO, evS_retN, evS_pass, evS_brk, evS_cont, evS_asg, evS_asgOwn, evS_setR, evS_setO, evS_app, evS_appR, evS_extO, evS_popT, evS_popO, evS_aug, evS_par, evS_ite, evS_for_, evS_forO, evS_while_, startS, List.length_cons, List.length_nil, List.map_cons, List.map_nil, List.replicate, List.cons_append, List.nil_append, List.getD_cons_zero, List.getD_cons_succ, List.set_cons_zero, List.set_cons_succ, R.bind_ok, R.opt_some, R.calm_ok, R.thenS_ok, rd_int, rd_bool, rd_none, rd_str, rd_tup, rd_lst, rd_frz, seq_thenS, fin_thenS, seq_ite, fin_ite, RS.seq_next, RS.seq_ret, RS.fin_ret, RS.fin_next, Option.map_some, Option.bind_some, truthV_bool, truthV_int, truthV_none, setT_name, setT_tup, setTs_nil, setTs_cons, wipe_nil, wipe_cons, ix_l, ix_t, ix_f, at_l0, at_l1, at_l2, at_l3, add_i, sub_i, lt_i, le_i, gt_i, ge_i, eq_i, ne_i, is_n, isnot_n, isNone, len_t, len_l, len_f, tuple_t, tuple_l, tuple_f, list_t, list_l, list_f, int_i, abs_i, max_i, min_i, sum_l, sum_t, isi_int, isi_bool, isi_tup, isi_lst, isi_str, isi_none, slice_l, slice_t, slice_f, ixO_no, ixO_int, satT_thenS, satT_next, satT_ret, sat_thenS, sat_next, sat_ret, seq_t, seq_l, seq_f, vInts_len, evP_nil, evP_name, evP_item, R.tot_bind, R.tot_ok, Nat.reduceAdd, Nat.reduceSub, Bool.not_true, Bool.not_false, if_true, Bool.false_eq_true, if_false]
  refine R.tot_mono (draw_ok (k+6) h2 (by omega) (by decide)) fun d G3 ⟨h3, k3, j, e, j0, j1⟩ => ?_
  subst e
  try simp only [evSs_cons, evSs_nil, evE_var, evE_own, evE_con, evE_tup, evE_lst, evE_bin, evE_neg, evE_cmp, evE_cmp2, evE_not, evE_and, evE_or, evE_ite, evE_idx, evE_slice, evE_call, evE_bcall, evE_isi, evE_comp, evE_heap, evE_stop, evEs_nil, evEs_cons, evI_of, evI_rng1, evI_rng2, evI_zip, evI_enum, evS_stop, evS_exp, evS_ret, evS_retO, evS_retN, evS_pass, evS_brk, evS_cont, evS_asg, evS_asgOwn, evS_setR, evS_setO, evS_app, evS_appR, evS_extO, evS_popT, evS_popO, evS_aug, evS_par, evS_ite, evS_for_, evS_forO, evS_while_, startS, List.length_cons, List.length_nil, List.map_cons, List.map_nil, List.replicate, List.cons_append, List.nil_append, List.getD_cons_zero, List.getD_cons_succ, List.set_cons_zero, List.set_cons_succ, R.bind_ok, R.opt_some, R.calm_ok, R.thenS_ok, rd_int, rd_bool, rd_none, rd_str, rd_tup, rd_lst, rd_frz, seq_thenS, fin_thenS, seq_ite, fin_ite, RS.seq_next, RS.seq_ret, RS.fin_ret, RS.fin_next, Option.map_some, Option.bind_some, truthV_bool, truthV_int, truthV_none, setT_name, setT_tup, setTs_nil, setTs_cons, wipe_nil, wipe_cons, ix_l, ix_t, ix_f, at_l0, at_l1, at_l2, at_l3, add_i, sub_i, lt_i, le_i, gt_i, ge_i, eq_i, ne_i, is_n, isnot_n, isNone, len_t, len_l, len_f, tuple_t, tuple_l, tuple_f, list_t, list_l, list_f, int_i, abs_i, max_i, min_i, sum_l, sum_t, isi_int, isi_bool, isi_tup, isi_lst, isi_str, isi_none, slice_l, slice_t, slice_f, ixO_no, ixO_int, satT_thenS, satT_next, satT_ret, sat_thenS, sat_next, sat_ret, seq_t, seq_l, seq_f, vInts_len, evP_nil, evP_name, evP_item, R.tot_bind, R.tot_ok, Nat.reduceAdd, Nat.reduceSub, Bool.not_true, Bool.not_false, if_true, Bool.false_eq_true, if_false]
  have lv3 := lv.keep k3
  have two : (if decide (j = 0) = true then R.opt (bfK Bf.list [rd G3 v]) G3 else callN P (k + 7) "_law_slot" [Val.ref n, Val.int w] G3).tot (Dr n G3 fun v G' => LV n G' v (w + 4)) := by
    split
    · obtain ⟨cs, hc, e⟩ := lv3.rd
      rw [e, list_l]
      exact ⟨h3, Keep.refl _ _, cs, hc, .inl rfl⟩
    · exact slot_ok (k+3) h3 w0 w1
  refine R.tot_mono two fun v2 G4 ⟨h4, k4, lv2⟩ => ?_
  obtain ⟨c1, l1, e1⟩ := (lv3.keep k4).rd
  obtain ⟨c2, l2, e2⟩ := lv2.rd
  have b := blank_eq (k+4) G4 w w0 w1
  have hl : (c1 ++ c2).length = 2 * (w + 4).toNat := by rw [List.length_append]; omega
  have s1 := seen_eq k G4 (c1 ++ c2) (w + 4).toNat hl (by omega) (by omega)
  obtain ⟨V0, V1, d⟩ := dev_of (c1 ++ c2) (w + 4).toNat hl (by omega) (by omega)
  obtain ⟨ps, p0, p1, pm, pc⟩ := clears_of d (w + 4).toNat hl (by omega) (by omega)
  have cl : callN P (k+7) "_law_clears" [.tup (vInts (c1 ++ c2))] G4 = .ok (.tup (ps.map wr)) G4 := pc (k+4) G4
  have pt : callN P (k+7) "_law_put" [.tup (vInts (c1 ++ c2)), .tup (ps.map wr)] G4 = .ok (.tup (vInts (putZ (c1 ++ c2) ps))) G4 := law_put_eq (k+6) G4 _ ps p1
  have s2 := seen_eq k G4 (putZ (c1 ++ c2) ps) (w + 4).toNat (by rw [putZ_len, hl]) (by omega) (by omega)
  have hz : ((List.replicate (2 * (w + 4)).toNat [(0 : Int)]).flatten).length = 2 * (w + 4).toNat := by rw [flat_len]; simp; omega
  have s3 := seen_eq k G4 (List.replicate (2 * (w + 4)).toNat [0]).flatten (w + 4).toNat hz (by omega) (by omega)
  have sm : callN P (k+7) "_law_same" [.tup (vInts (List.replicate (2 * (w + 4)).toNat [0]).flatten), .tup (vInts (List.replicate (2 * (w + 4)).toNat [0]).flatten)] G4 = .ok (.bool true) G4 := sm_ints (by rw [hz]; omega) (k+4) G4
  have hr := rep_t [.int 0] (2 * w + 8) (by simp; omega)
  have e8 : 2 * w + 8 = 2 * (w + 4) := by omega
  rw [e8, show [Val.int 0] = vInts [0] from rfl, flat_ints] at hr
  have hr : binK .Mult (.tup [.int 0]) (.int (2 * w + 8)) = some (.tup (vInts (List.replicate (2 * (w + 4)).toNat [0]).flatten)) := by rw [e8]; exact hr
  try simp only [evSs_cons, evSs_nil, evE_var, evE_own, evE_con, evE_tup, evE_lst, evE_bin, evE_neg, evE_cmp, evE_cmp2, evE_not, evE_and, evE_or, evE_ite, evE_idx, evE_slice, evE_call, evE_bcall, evE_isi, evE_comp, evE_heap, evE_stop, evEs_nil, evEs_cons, evI_of, evI_rng1, evI_rng2, evI_zip, evI_enum, evS_stop, evS_exp, evS_ret, evS_retO, evS_retN, evS_pass, evS_brk, evS_cont, evS_asg, evS_asgOwn, evS_setR, evS_setO, evS_app, evS_appR, evS_extO, evS_popT, evS_popO, evS_aug, evS_par, evS_ite, evS_for_, evS_forO, evS_while_, startS, List.length_cons, List.length_nil, List.map_cons, List.map_nil, List.replicate, List.cons_append, List.nil_append, List.getD_cons_zero, List.getD_cons_succ, List.set_cons_zero, List.set_cons_succ, R.bind_ok, R.opt_some, R.calm_ok, R.thenS_ok, rd_int, rd_bool, rd_none, rd_str, rd_tup, rd_lst, rd_frz, seq_thenS, fin_thenS, seq_ite, fin_ite, RS.seq_next, RS.seq_ret, RS.fin_ret, RS.fin_next, Option.map_some, Option.bind_some, truthV_bool, truthV_int, truthV_none, setT_name, setT_tup, setTs_nil, setTs_cons, wipe_nil, wipe_cons, ix_l, ix_t, ix_f, at_l0, at_l1, at_l2, at_l3, add_i, sub_i, lt_i, le_i, gt_i, ge_i, eq_i, ne_i, is_n, isnot_n, isNone, len_t, len_l, len_f, tuple_t, tuple_l, tuple_f, list_t, list_l, list_f, int_i, abs_i, max_i, min_i, sum_l, sum_t, isi_int, isi_bool, isi_tup, isi_lst, isi_str, isi_none, slice_l, slice_t, slice_f, ixO_no, ixO_int, satT_thenS, satT_next, satT_ret, sat_thenS, sat_next, sat_ret, seq_t, seq_l, seq_f, vInts_len, evP_nil, evP_name, evP_item, R.tot_bind, R.tot_ok, Nat.reduceAdd, Nat.reduceSub, Bool.not_true, Bool.not_false, if_true, Bool.false_eq_true, if_false]
  simp only [evSs_cons, evSs_nil, evE_var, evE_own, evE_con, evE_tup, evE_lst, evE_bin, evE_neg, evE_cmp, evE_cmp2, evE_not, evE_and, evE_or, evE_ite, evE_idx, evE_slice, evE_call, evE_bcall, evE_isi, evE_comp, evE_heap, evE_stop, evEs_nil, evEs_cons, evI_of, evI_rng1, evI_rng2, evI_zip, evI_enum, evS_stop, evS_exp, evS_ret, evS_retO, evS_retN, evS_pass, evS_brk, evS_cont, evS_asg, evS_asgOwn, evS_setR, evS_setO, evS_app, evS_appR, evS_extO, evS_popT, evS_popO, evS_aug, evS_par, evS_ite, evS_for_, evS_forO, evS_while_, startS, List.length_cons, List.length_nil, List.map_cons, List.map_nil, List.replicate, List.cons_append, List.nil_append, List.getD_cons_zero, List.getD_cons_succ, List.set_cons_zero, List.set_cons_succ, R.bind_ok, R.opt_some, R.calm_ok, R.thenS_ok, rd_int, rd_bool, rd_none, rd_str, rd_tup, rd_lst, rd_frz, seq_thenS, fin_thenS, seq_ite, fin_ite, RS.seq_next, RS.seq_ret, RS.fin_ret, RS.fin_next, Option.map_some, Option.bind_some, truthV_bool, truthV_int, truthV_none, setT_name, setT_tup, setTs_nil, setTs_cons, wipe_nil, wipe_cons, ix_l, ix_t, ix_f, at_l0, at_l1, at_l2, at_l3, add_i, sub_i, lt_i, le_i, gt_i, ge_i, eq_i, ne_i, is_n, isnot_n, isNone, len_t, len_l, len_f, tuple_t, tuple_l, tuple_f, list_t, list_l, list_f, int_i, abs_i, max_i, min_i, sum_l, sum_t, isi_int, isi_bool, isi_tup, isi_lst, isi_str, isi_none, slice_l, slice_t, slice_f, ixO_no, ixO_int, satT_thenS, satT_next, satT_ret, sat_thenS, sat_next, sat_ret, seq_t, seq_l, seq_f, vInts_len, evP_nil, evP_name, evP_item, R.tot_bind, R.tot_ok, Nat.reduceAdd, Nat.reduceSub, Bool.not_true, Bool.not_false, if_true, Bool.false_eq_true, if_false, e1, e2, cat_l (vInts c1) (vInts c2) (by rw [vInts_len, vInts_len, decide_eq_true_eq]; unfold lineN; omega), vInts_app, b, s1, cl, pt, s2, mul_l 2 _ (show (decide (-p64 < 2) && decide ((2:Int) < p64)) = true by decide), hr, sm, s3]
end Fx.Law

namespace Fx.Law
open PySem PySem.Spec PyProof.Rows L2 Fx
theorem well_ok (k : Nat) (G : Heap) (ns : List Int) (t : Int) (t0 : 0 ≤ t) (hl : ns.length ≤ 63) : (callN P (k+1) "_law_well" [.frz (vInts ns), .int t] G).tot fun v G' => ∃ n, v = .ref n ∧ Well G' n := by
  rw [call_eq pw_law_well _ _ _ rfl]
  have hr := fun x => mul_r x 47123 (show (decide (-p64 < 47123) && decide (47123 < p64)) = true by decide)
  have hr2 := fun x => mul_r x 43 (show (decide (-p64 < 43) && decide (43 < p64)) = true by decide)
  have hr3 := fun x => mul_r x 20011 (show (decide (-p64 < 20011) && decide (20011 < p64)) = true by decide)
  have m1 := fun x => mod_i x 2147483587 (show decide ((0:Int) < 2147483587) = true by decide)
  have m2 := fun x => mod_i x 2147483563 (show decide ((0:Int) < 2147483563) = true by decide)
  have pw := pow_i 10 14 (show (decide ((0:Int) ≤ 14) && decide ((14:Int) ≤ 1000000) && decide (-p64 < 10) && decide (10 < p64)) = true by decide)
  simp only [Bw_law_well, evSs_cons, evSs_nil, evE_var, evE_own, evE_con, evE_tup, evE_lst, evE_bin, evE_neg, evE_cmp, evE_cmp2, evE_not, evE_and, evE_or, evE_ite, evE_idx, evE_slice, evE_call, evE_bcall, evE_isi, evE_comp, evE_heap, evE_stop, evEs_nil, evEs_cons, evI_of, evI_rng1, evI_rng2, evI_zip, evI_enum, evS_stop, evS_exp, evS_ret, evS_retO, evS_retN, evS_pass, evS_brk, evS_cont, evS_asg, evS_asgOwn, evS_setR, evS_setO, evS_app, evS_appR, evS_extO, evS_popT, evS_popO, evS_aug, evS_par, evS_ite, evS_for_, evS_forO, evS_while_, startS, List.length_cons, List.length_nil, List.map_cons, List.map_nil, List.replicate, List.cons_append, List.nil_append, List.getD_cons_zero, List.getD_cons_succ, List.set_cons_zero, List.set_cons_succ, R.bind_ok, R.opt_some, R.calm_ok, R.thenS_ok, rd_int, rd_bool, rd_none, rd_str, rd_tup, rd_lst, rd_frz, seq_thenS, fin_thenS, seq_ite, fin_ite, RS.seq_next, RS.seq_ret, RS.fin_ret, RS.fin_next, Option.map_some, Option.bind_some, truthV_bool, truthV_int, truthV_none, setT_name, setT_tup, setTs_nil, setTs_cons, wipe_nil, wipe_cons, ix_l, ix_t, ix_f, at_l0, at_l1, at_l2, at_l3, add_i, sub_i, lt_i, le_i, gt_i, ge_i, eq_i, ne_i, is_n, isnot_n, isNone, len_t, len_l, len_f, tuple_t, tuple_l, tuple_f, list_t, list_l, list_f, int_i, abs_i, max_i, min_i, sum_l, sum_t, isi_int, isi_bool, isi_tup, isi_lst, isi_str, isi_none, slice_l, slice_t, slice_f, ixO_no, ixO_int, satT_thenS, satT_next, satT_ret, sat_thenS, sat_next, sat_ret, seq_t, seq_l, seq_f, vInts_len, evP_nil, evP_name, evP_item, R.tot_bind, R.tot_ok, Nat.reduceAdd, Nat.reduceSub, Bool.not_true, Bool.not_false, if_true, Bool.false_eq_true, if_false, mul_l 7129 _ (show (decide (-p64 < 7129) && decide ((7129:Int) < p64)) = true by decide), cut_to ns (show (0:Int) ≤ 9 by decide)]
  refine seq_sat (N := fun s G' => (∃ (m : Int) (b : Slot), s = [.val (.frz (vInts ns)), .val (.int t), .val (.int m), b, .no]) ∧ G' = G) (forR_sat (fun _ s G' => (∃ (m : Int) (b : Slot), s = [.val (.frz (vInts ns)), .val (.int t), .val (.int m), b, .no]) ∧ G' = G) ?_ (fun s G' q => q) ⟨⟨_, _, rfl⟩, rfl⟩) ?_
  · rintro i x s G' hx ⟨⟨m, b, rfl⟩, rfl⟩
    obtain ⟨c, _, rfl⟩ := List.mem_map.mp (List.mem_of_getElem? hx)
    refine ⟨_, setT_name .., ?_⟩
    simp only [evSs_cons, evSs_nil, evE_var, evE_own, evE_con, evE_tup, evE_lst, evE_bin, evE_neg, evE_cmp, evE_cmp2, evE_not, evE_and, evE_or, evE_ite, evE_idx, evE_slice, evE_call, evE_bcall, evE_isi, evE_comp, evE_heap, evE_stop, evEs_nil, evEs_cons, evI_of, evI_rng1, evI_rng2, evI_zip, evI_enum, evS_stop, evS_exp, evS_ret, evS_retO, evS_retN, evS_pass, evS_brk, evS_cont, evS_asg, evS_asgOwn, evS_setR, evS_setO, evS_app, evS_appR, evS_extO, evS_popT, evS_popO, evS_aug, evS_par, evS_ite, evS_for_, evS_forO, evS_while_, startS, List.length_cons, List.length_nil, List.map_cons, List.map_nil, List.replicate, List.cons_append, List.nil_append, List.getD_cons_zero, List.getD_cons_succ, List.set_cons_zero, List.set_cons_succ, R.bind_ok, R.opt_some, R.calm_ok, R.thenS_ok, rd_int, rd_bool, rd_none, rd_str, rd_tup, rd_lst, rd_frz, seq_thenS, fin_thenS, seq_ite, fin_ite, RS.seq_next, RS.seq_ret, RS.fin_ret, RS.fin_next, Option.map_some, Option.bind_some, truthV_bool, truthV_int, truthV_none, setT_name, setT_tup, setTs_nil, setTs_cons, wipe_nil, wipe_cons, ix_l, ix_t, ix_f, at_l0, at_l1, at_l2, at_l3, add_i, sub_i, lt_i, le_i, gt_i, ge_i, eq_i, ne_i, is_n, isnot_n, isNone, len_t, len_l, len_f, tuple_t, tuple_l, tuple_f, list_t, list_l, list_f, int_i, abs_i, max_i, min_i, sum_l, sum_t, isi_int, isi_bool, isi_tup, isi_lst, isi_str, isi_none, slice_l, slice_t, slice_f, ixO_no, ixO_int, satT_thenS, satT_next, satT_ret, sat_thenS, sat_next, sat_ret, seq_t, seq_l, seq_f, vInts_len, evP_nil, evP_name, evP_item, R.tot_bind, R.tot_ok, Nat.reduceAdd, Nat.reduceSub, Bool.not_true, Bool.not_false, if_true, Bool.false_eq_true, if_false, hr, m1, m2]
    exact ⟨⟨_, _, rfl⟩, by first | rfl | trivial⟩
  · rintro s G' ⟨⟨m, b, rfl⟩, rfl⟩
    have own : ∃ o : Int, (if decide (t < (ns.length : Int)) = true then ((R.opt (atI (vInts ns) t) G').bind fun v G1 => R.ok [v] G1).bind fun vs G1 => R.opt (bfK Bf.int (vs.map (rd G1))) G1 else R.ok (Val.int 0) G') = .ok (.int o) G' := by
      by_cases q : t < (ns.length : Int)
      · obtain ⟨x, e⟩ := atV (cs := ns) t0 q
        exact ⟨x, by rw [if_pos (decide_eq_true q), e]; rfl⟩
      · exact ⟨0, by rw [if_neg (by simpa using q)]⟩
    obtain ⟨o, ho⟩ := own
    simp only [evSs_cons, evSs_nil, evE_var, evE_own, evE_con, evE_tup, evE_lst, evE_bin, evE_neg, evE_cmp, evE_cmp2, evE_not, evE_and, evE_or, evE_ite, evE_idx, evE_slice, evE_call, evE_bcall, evE_isi, evE_comp, evE_heap, evE_stop, evEs_nil, evEs_cons, evI_of, evI_rng1, evI_rng2, evI_zip, evI_enum, evS_stop, evS_exp, evS_ret, evS_retO, evS_retN, evS_pass, evS_brk, evS_cont, evS_asg, evS_asgOwn, evS_setR, evS_setO, evS_app, evS_appR, evS_extO, evS_popT, evS_popO, evS_aug, evS_par, evS_ite, evS_for_, evS_forO, evS_while_, startS, List.length_cons, List.length_nil, List.map_cons, List.map_nil, List.replicate, List.cons_append, List.nil_append, List.getD_cons_zero, List.getD_cons_succ, List.set_cons_zero, List.set_cons_succ, R.bind_ok, R.opt_some, R.calm_ok, R.thenS_ok, rd_int, rd_bool, rd_none, rd_str, rd_tup, rd_lst, rd_frz, seq_thenS, fin_thenS, seq_ite, fin_ite, RS.seq_next, RS.seq_ret, RS.fin_ret, RS.fin_next, Option.map_some, Option.bind_some, truthV_bool, truthV_int, truthV_none, setT_name, setT_tup, setTs_nil, setTs_cons, wipe_nil, wipe_cons, ix_l, ix_t, ix_f, at_l0, at_l1, at_l2, at_l3, add_i, sub_i, lt_i, le_i, gt_i, ge_i, eq_i, ne_i, is_n, isnot_n, isNone, len_t, len_l, len_f, tuple_t, tuple_l, tuple_f, list_t, list_l, list_f, int_i, abs_i, max_i, min_i, sum_l, sum_t, isi_int, isi_bool, isi_tup, isi_lst, isi_str, isi_none, slice_l, slice_t, slice_f, ixO_no, ixO_int, satT_thenS, satT_next, satT_ret, sat_thenS, sat_next, sat_ret, seq_t, seq_l, seq_f, vInts_len, evP_nil, evP_name, evP_item, R.tot_bind, R.tot_ok, Nat.reduceAdd, Nat.reduceSub, Bool.not_true, Bool.not_false, if_true, Bool.false_eq_true, if_false, hr2, hr3, m1, m2, pw]
    rw [ho]
    simp only [evSs_cons, evSs_nil, evE_var, evE_own, evE_con, evE_tup, evE_lst, evE_bin, evE_neg, evE_cmp, evE_cmp2, evE_not, evE_and, evE_or, evE_ite, evE_idx, evE_slice, evE_call, evE_bcall, evE_isi, evE_comp, evE_heap, evE_stop, evEs_nil, evEs_cons, evI_of, evI_rng1, evI_rng2, evI_zip, evI_enum, evS_stop, evS_exp, evS_ret, evS_retO, evS_retN, evS_pass, evS_brk, evS_cont, evS_asg, evS_asgOwn, evS_setR, evS_setO, evS_app, evS_appR, evS_extO, evS_popT, evS_popO, evS_aug, evS_par, evS_ite, evS_for_, evS_forO, evS_while_, startS, List.length_cons, List.length_nil, List.map_cons, List.map_nil, List.replicate, List.cons_append, List.nil_append, List.getD_cons_zero, List.getD_cons_succ, List.set_cons_zero, List.set_cons_succ, R.bind_ok, R.opt_some, R.calm_ok, R.thenS_ok, rd_int, rd_bool, rd_none, rd_str, rd_tup, rd_lst, rd_frz, seq_thenS, fin_thenS, seq_ite, fin_ite, RS.seq_next, RS.seq_ret, RS.fin_ret, RS.fin_next, Option.map_some, Option.bind_some, truthV_bool, truthV_int, truthV_none, setT_name, setT_tup, setTs_nil, setTs_cons, wipe_nil, wipe_cons, ix_l, ix_t, ix_f, at_l0, at_l1, at_l2, at_l3, add_i, sub_i, lt_i, le_i, gt_i, ge_i, eq_i, ne_i, is_n, isnot_n, isNone, len_t, len_l, len_f, tuple_t, tuple_l, tuple_f, list_t, list_l, list_f, int_i, abs_i, max_i, min_i, sum_l, sum_t, isi_int, isi_bool, isi_tup, isi_lst, isi_str, isi_none, slice_l, slice_t, slice_f, ixO_no, ixO_int, satT_thenS, satT_next, satT_ret, sat_thenS, sat_next, sat_ret, seq_t, seq_l, seq_f, vInts_len, evP_nil, evP_name, evP_item, R.tot_bind, R.tot_ok, Nat.reduceAdd, Nat.reduceSub, Bool.not_true, Bool.not_false, if_true, Bool.false_eq_true, if_false, hr2, hr3, m1, m2, pw]
    have fin : ∀ x y : Int, ∃ n, Val.ref G'.length = Val.ref n ∧ Well (G' ++ [Obj.lst [.int x, .int y, .int 0]]) n := fun x y => ⟨_, rfl, x, y, 0, by rw [List.getElem?_append_right (Nat.le_refl _), Nat.sub_self]; rfl⟩
    by_cases q : o < 0
    · simp only [evSs_cons, evSs_nil, evE_var, evE_own, evE_con, evE_tup, evE_lst, evE_bin, evE_neg, evE_cmp, evE_cmp2, evE_not, evE_and, evE_or, evE_ite, evE_idx, evE_slice, evE_call, evE_bcall, evE_isi, evE_comp, evE_heap, evE_stop, evEs_nil, evEs_cons, evI_of, evI_rng1, evI_rng2, evI_zip, evI_enum, evS_stop, evS_exp, evS_ret, evS_retO, evS_retN, evS_pass, evS_brk, evS_cont, evS_asg, evS_asgOwn, evS_setR, evS_setO, evS_app, evS_appR, evS_extO, evS_popT, evS_popO, evS_aug, evS_par, evS_ite, evS_for_, evS_forO, evS_while_, startS, List.length_cons, List.length_nil, List.map_cons, List.map_nil, List.replicate, List.cons_append, List.nil_append, List.getD_cons_zero, List.getD_cons_succ, List.set_cons_zero, List.set_cons_succ, R.bind_ok, R.opt_some, R.calm_ok, R.thenS_ok, rd_int, rd_bool, rd_none, rd_str, rd_tup, rd_lst, rd_frz, seq_thenS, fin_thenS, seq_ite, fin_ite, RS.seq_next, RS.seq_ret, RS.fin_ret, RS.fin_next, Option.map_some, Option.bind_some, truthV_bool, truthV_int, truthV_none, setT_name, setT_tup, setTs_nil, setTs_cons, wipe_nil, wipe_cons, ix_l, ix_t, ix_f, at_l0, at_l1, at_l2, at_l3, add_i, sub_i, lt_i, le_i, gt_i, ge_i, eq_i, ne_i, is_n, isnot_n, isNone, len_t, len_l, len_f, tuple_t, tuple_l, tuple_f, list_t, list_l, list_f, int_i, abs_i, max_i, min_i, sum_l, sum_t, isi_int, isi_bool, isi_tup, isi_lst, isi_str, isi_none, slice_l, slice_t, slice_f, ixO_no, ixO_int, satT_thenS, satT_next, satT_ret, sat_thenS, sat_next, sat_ret, seq_t, seq_l, seq_f, vInts_len, evP_nil, evP_name, evP_item, R.tot_bind, R.tot_ok, Nat.reduceAdd, Nat.reduceSub, Bool.not_true, Bool.not_false, if_true, Bool.false_eq_true, if_false, decide_eq_true q]
      exact fin _ _
    · simp only [evSs_cons, evSs_nil, evE_var, evE_own, evE_con, evE_tup, evE_lst, evE_bin, evE_neg, evE_cmp, evE_cmp2, evE_not, evE_and, evE_or, evE_ite, evE_idx, evE_slice, evE_call, evE_bcall, evE_isi, evE_comp, evE_heap, evE_stop, evEs_nil, evEs_cons, evI_of, evI_rng1, evI_rng2, evI_zip, evI_enum, evS_stop, evS_exp, evS_ret, evS_retO, evS_retN, evS_pass, evS_brk, evS_cont, evS_asg, evS_asgOwn, evS_setR, evS_setO, evS_app, evS_appR, evS_extO, evS_popT, evS_popO, evS_aug, evS_par, evS_ite, evS_for_, evS_forO, evS_while_, startS, List.length_cons, List.length_nil, List.map_cons, List.map_nil, List.replicate, List.cons_append, List.nil_append, List.getD_cons_zero, List.getD_cons_succ, List.set_cons_zero, List.set_cons_succ, R.bind_ok, R.opt_some, R.calm_ok, R.thenS_ok, rd_int, rd_bool, rd_none, rd_str, rd_tup, rd_lst, rd_frz, seq_thenS, fin_thenS, seq_ite, fin_ite, RS.seq_next, RS.seq_ret, RS.fin_ret, RS.fin_next, Option.map_some, Option.bind_some, truthV_bool, truthV_int, truthV_none, setT_name, setT_tup, setTs_nil, setTs_cons, wipe_nil, wipe_cons, ix_l, ix_t, ix_f, at_l0, at_l1, at_l2, at_l3, add_i, sub_i, lt_i, le_i, gt_i, ge_i, eq_i, ne_i, is_n, isnot_n, isNone, len_t, len_l, len_f, tuple_t, tuple_l, tuple_f, list_t, list_l, list_f, int_i, abs_i, max_i, min_i, sum_l, sum_t, isi_int, isi_bool, isi_tup, isi_lst, isi_str, isi_none, slice_l, slice_t, slice_f, ixO_no, ixO_int, satT_thenS, satT_next, satT_ret, sat_thenS, sat_next, sat_ret, seq_t, seq_l, seq_f, vInts_len, evP_nil, evP_name, evP_item, R.tot_bind, R.tot_ok, Nat.reduceAdd, Nat.reduceSub, Bool.not_true, Bool.not_false, if_true, Bool.false_eq_true, if_false, decide_eq_false q]
      split
      · simp only [evSs_cons, evSs_nil, evE_var, evE_own, evE_con, evE_tup, evE_lst, evE_bin, evE_neg, evE_cmp, evE_cmp2, evE_not, evE_and, evE_or, evE_ite, evE_idx, evE_slice, evE_call, evE_bcall, evE_isi, evE_comp, evE_heap, evE_stop, evEs_nil, evEs_cons, evI_of, evI_rng1, evI_rng2, evI_zip, evI_enum, evS_stop, evS_exp, evS_ret, evS_retO, evS_retN, evS_pass, evS_brk, evS_cont, evS_asg, evS_asgOwn, evS_setR, evS_setO, evS_app, evS_appR, evS_extO, evS_popT, evS_popO, evS_aug, evS_par, evS_ite, evS_for_, evS_forO, evS_while_, startS, List.length_cons, List.length_nil, List.map_cons, List.map_nil, List.replicate, List.cons_append, List.nil_append, List.getD_cons_zero, List.getD_cons_succ, List.set_cons_zero, List.set_cons_succ, R.bind_ok, R.opt_some, R.calm_ok, R.thenS_ok, rd_int, rd_bool, rd_none, rd_str, rd_tup, rd_lst, rd_frz, seq_thenS, fin_thenS, seq_ite, fin_ite, RS.seq_next, RS.seq_ret, RS.fin_ret, RS.fin_next, Option.map_some, Option.bind_some, truthV_bool, truthV_int, truthV_none, setT_name, setT_tup, setTs_nil, setTs_cons, wipe_nil, wipe_cons, ix_l, ix_t, ix_f, at_l0, at_l1, at_l2, at_l3, add_i, sub_i, lt_i, le_i, gt_i, ge_i, eq_i, ne_i, is_n, isnot_n, isNone, len_t, len_l, len_f, tuple_t, tuple_l, tuple_f, list_t, list_l, list_f, int_i, abs_i, max_i, min_i, sum_l, sum_t, isi_int, isi_bool, isi_tup, isi_lst, isi_str, isi_none, slice_l, slice_t, slice_f, ixO_no, ixO_int, satT_thenS, satT_next, satT_ret, sat_thenS, sat_next, sat_ret, seq_t, seq_l, seq_f, vInts_len, evP_nil, evP_name, evP_item, R.tot_bind, R.tot_ok, Nat.reduceAdd, Nat.reduceSub, Bool.not_true, Bool.not_false, if_true, Bool.false_eq_true, if_false]
        exact fin _ _
      · simp only [evSs_cons, evSs_nil, evE_var, evE_own, evE_con, evE_tup, evE_lst, evE_bin, evE_neg, evE_cmp, evE_cmp2, evE_not, evE_and, evE_or, evE_ite, evE_idx, evE_slice, evE_call, evE_bcall, evE_isi, evE_comp, evE_heap, evE_stop, evEs_nil, evEs_cons, evI_of, evI_rng1, evI_rng2, evI_zip, evI_enum, evS_stop, evS_exp, evS_ret, evS_retO, evS_retN, evS_pass, evS_brk, evS_cont, evS_asg, evS_asgOwn, evS_setR, evS_setO, evS_app, evS_appR, evS_extO, evS_popT, evS_popO, evS_aug, evS_par, evS_ite, evS_for_, evS_forO, evS_while_, startS, List.length_cons, List.length_nil, List.map_cons, List.map_nil, List.replicate, List.cons_append, List.nil_append, List.getD_cons_zero, List.getD_cons_succ, List.set_cons_zero, List.set_cons_succ, R.bind_ok, R.opt_some, R.calm_ok, R.thenS_ok, rd_int, rd_bool, rd_none, rd_str, rd_tup, rd_lst, rd_frz, seq_thenS, fin_thenS, seq_ite, fin_ite, RS.seq_next, RS.seq_ret, RS.fin_ret, RS.fin_next, Option.map_some, Option.bind_some, truthV_bool, truthV_int, truthV_none, setT_name, setT_tup, setTs_nil, setTs_cons, wipe_nil, wipe_cons, ix_l, ix_t, ix_f, at_l0, at_l1, at_l2, at_l3, add_i, sub_i, lt_i, le_i, gt_i, ge_i, eq_i, ne_i, is_n, isnot_n, isNone, len_t, len_l, len_f, tuple_t, tuple_l, tuple_f, list_t, list_l, list_f, int_i, abs_i, max_i, min_i, sum_l, sum_t, isi_int, isi_bool, isi_tup, isi_lst, isi_str, isi_none, slice_l, slice_t, slice_f, ixO_no, ixO_int, satT_thenS, satT_next, satT_ret, sat_thenS, sat_next, sat_ret, seq_t, seq_l, seq_f, vInts_len, evP_nil, evP_name, evP_item, R.tot_bind, R.tot_ok, Nat.reduceAdd, Nat.reduceSub, Bool.not_true, Bool.not_false, if_true, Bool.false_eq_true, if_false]
        exact fin _ _
theorem law_ok (ns : List Int) (hl : ns.length ≤ 63) : ∃ G', callN P 12 "law" [.frz (ns.map .int)] [] = .ok (.bool true) G' := by
  have h : (callN P (11 + 1) "law" [.frz (vInts ns)] []).tot fun v _ => v = .bool true := by
    rw [call_eq plaw _ _ _ rfl]
    simp only [Blaw, evSs_cons, evSs_nil, evE_var, evE_own, evE_con, evE_tup, evE_lst, evE_bin, evE_neg, evE_cmp, evE_cmp2, evE_not, evE_and, evE_or, evE_ite, evE_idx, evE_slice, evE_call, evE_bcall, evE_isi, evE_comp, evE_heap, evE_stop, evEs_nil, evEs_cons, evI_of, evI_rng1, evI_rng2, evI_zip, evI_enum, evS_stop, evS_exp, evS_ret, evS_retO, evS_retN, evS_pass, evS_brk, evS_cont, evS_asg, evS_asgOwn, evS_setR, evS_setO, evS_app, evS_appR, evS_extO, evS_popT, evS_popO, evS_aug, evS_par, evS_ite, evS_for_, evS_forO, evS_while_, startS, List.length_cons, List.length_nil, List.map_cons, List.map_nil, List.replicate, List.cons_append, List.nil_append, List.getD_cons_zero, List.getD_cons_succ, List.set_cons_zero, List.set_cons_succ, R.bind_ok, R.opt_some, R.calm_ok, R.thenS_ok, rd_int, rd_bool, rd_none, rd_str, rd_tup, rd_lst, rd_frz, seq_thenS, fin_thenS, seq_ite, fin_ite, RS.seq_next, RS.seq_ret, RS.fin_ret, RS.fin_next, Option.map_some, Option.bind_some, truthV_bool, truthV_int, truthV_none, setT_name, setT_tup, setTs_nil, setTs_cons, wipe_nil, wipe_cons, ix_l, ix_t, ix_f, at_l0, at_l1, at_l2, at_l3, add_i, sub_i, lt_i, le_i, gt_i, ge_i, eq_i, ne_i, is_n, isnot_n, isNone, len_t, len_l, len_f, tuple_t, tuple_l, tuple_f, list_t, list_l, list_f, int_i, abs_i, max_i, min_i, sum_l, sum_t, isi_int, isi_bool, isi_tup, isi_lst, isi_str, isi_none, slice_l, slice_t, slice_f, ixO_no, ixO_int, satT_thenS, satT_next, satT_ret, sat_thenS, sat_next, sat_ret, seq_t, seq_l, seq_f, vInts_len, evP_nil, evP_name, evP_item, R.tot_bind, R.tot_ok, Nat.reduceAdd, Nat.reduceSub, Bool.not_true, Bool.not_false, if_true, Bool.false_eq_true, if_false]
    generalize hm : (if (if (3 : Int) < (ns.length : Int) then (3 : Int) else (ns.length : Int)) > 2 then (if (3 : Int) < (ns.length : Int) then (3 : Int) else (ns.length : Int)) else (2 : Int)) = m
    have m0 : 2 ≤ m ∧ m ≤ 3 := by
      rw [← hm]
      split <;> split <;> omega
    rw [rngK_ok (by decide) (by decide) (by unfold p62; omega) (by unfold p62; omega)]
    simp only [evSs_cons, evSs_nil, evE_var, evE_own, evE_con, evE_tup, evE_lst, evE_bin, evE_neg, evE_cmp, evE_cmp2, evE_not, evE_and, evE_or, evE_ite, evE_idx, evE_slice, evE_call, evE_bcall, evE_isi, evE_comp, evE_heap, evE_stop, evEs_nil, evEs_cons, evI_of, evI_rng1, evI_rng2, evI_zip, evI_enum, evS_stop, evS_exp, evS_ret, evS_retO, evS_retN, evS_pass, evS_brk, evS_cont, evS_asg, evS_asgOwn, evS_setR, evS_setO, evS_app, evS_appR, evS_extO, evS_popT, evS_popO, evS_aug, evS_par, evS_ite, evS_for_, evS_forO, evS_while_, startS, List.length_cons, List.length_nil, List.map_cons, List.map_nil, List.replicate, List.cons_append, List.nil_append, List.getD_cons_zero, List.getD_cons_succ, List.set_cons_zero, List.set_cons_succ, R.bind_ok, R.opt_some, R.calm_ok, R.thenS_ok, rd_int, rd_bool, rd_none, rd_str, rd_tup, rd_lst, rd_frz, seq_thenS, fin_thenS, seq_ite, fin_ite, RS.seq_next, RS.seq_ret, RS.fin_ret, RS.fin_next, Option.map_some, Option.bind_some, truthV_bool, truthV_int, truthV_none, setT_name, setT_tup, setTs_nil, setTs_cons, wipe_nil, wipe_cons, ix_l, ix_t, ix_f, at_l0, at_l1, at_l2, at_l3, add_i, sub_i, lt_i, le_i, gt_i, ge_i, eq_i, ne_i, is_n, isnot_n, isNone, len_t, len_l, len_f, tuple_t, tuple_l, tuple_f, list_t, list_l, list_f, int_i, abs_i, max_i, min_i, sum_l, sum_t, isi_int, isi_bool, isi_tup, isi_lst, isi_str, isi_none, slice_l, slice_t, slice_f, ixO_no, ixO_int, satT_thenS, satT_next, satT_ret, sat_thenS, sat_next, sat_ret, seq_t, seq_l, seq_f, vInts_len, evP_nil, evP_name, evP_item, R.tot_bind, R.tot_ok, Nat.reduceAdd, Nat.reduceSub, Bool.not_true, Bool.not_false, if_true, Bool.false_eq_true, if_false, rangeV_len]
    rw [if_neg (by unfold lineN; omega)]
    have c := compR_inv (tg := setT (.name 1)) (c := evE (callN P 11) (.con (.bool true))) (e := evE (callN P 11) (.call "_law_right" (.cons (.call "_law_well" (.cons (.var 0) (.cons (.var 1) .nil))) .nil))) (s := [.val (.frz (vInts ns)), .no]) (fun _ => True) (fun v => v = .bool true) (xs := rangeV 0 (m - 0).toNat) (G := []) trivial ?_
    · obtain ⟨vs, G1, e, _, _, hv⟩ := R.tot_eq c
      rw [e]
      simp only [evSs_cons, evSs_nil, evE_var, evE_own, evE_con, evE_tup, evE_lst, evE_bin, evE_neg, evE_cmp, evE_cmp2, evE_not, evE_and, evE_or, evE_ite, evE_idx, evE_slice, evE_call, evE_bcall, evE_isi, evE_comp, evE_heap, evE_stop, evEs_nil, evEs_cons, evI_of, evI_rng1, evI_rng2, evI_zip, evI_enum, evS_stop, evS_exp, evS_ret, evS_retO, evS_retN, evS_pass, evS_brk, evS_cont, evS_asg, evS_asgOwn, evS_setR, evS_setO, evS_app, evS_appR, evS_extO, evS_popT, evS_popO, evS_aug, evS_par, evS_ite, evS_for_, evS_forO, evS_while_, startS, List.length_cons, List.length_nil, List.map_cons, List.map_nil, List.replicate, List.cons_append, List.nil_append, List.getD_cons_zero, List.getD_cons_succ, List.set_cons_zero, List.set_cons_succ, R.bind_ok, R.opt_some, R.calm_ok, R.thenS_ok, rd_int, rd_bool, rd_none, rd_str, rd_tup, rd_lst, rd_frz, seq_thenS, fin_thenS, seq_ite, fin_ite, RS.seq_next, RS.seq_ret, RS.fin_ret, RS.fin_next, Option.map_some, Option.bind_some, truthV_bool, truthV_int, truthV_none, setT_name, setT_tup, setTs_nil, setTs_cons, wipe_nil, wipe_cons, ix_l, ix_t, ix_f, at_l0, at_l1, at_l2, at_l3, add_i, sub_i, lt_i, le_i, gt_i, ge_i, eq_i, ne_i, is_n, isnot_n, isNone, len_t, len_l, len_f, tuple_t, tuple_l, tuple_f, list_t, list_l, list_f, int_i, abs_i, max_i, min_i, sum_l, sum_t, isi_int, isi_bool, isi_tup, isi_lst, isi_str, isi_none, slice_l, slice_t, slice_f, ixO_no, ixO_int, satT_thenS, satT_next, satT_ret, sat_thenS, sat_next, sat_ret, seq_t, seq_l, seq_f, vInts_len, evP_nil, evP_name, evP_item, R.tot_bind, R.tot_ok, Nat.reduceAdd, Nat.reduceSub, Bool.not_true, Bool.not_false, if_true, Bool.false_eq_true, if_false, all_true hv]
    · intro x hx G _
      obtain ⟨i, rfl, i0, i1⟩ := rangeV_mem _ _ _ hx
      refine ⟨_, setT_name .., evE_con .., ?_⟩
      try simp only [evSs_cons, evSs_nil, evE_var, evE_own, evE_con, evE_tup, evE_lst, evE_bin, evE_neg, evE_cmp, evE_cmp2, evE_not, evE_and, evE_or, evE_ite, evE_idx, evE_slice, evE_call, evE_bcall, evE_isi, evE_comp, evE_heap, evE_stop, evEs_nil, evEs_cons, evI_of, evI_rng1, evI_rng2, evI_zip, evI_enum, evS_stop, evS_exp, evS_ret, evS_retO, evS_retN, evS_pass, evS_brk, evS_cont, evS_asg, evS_asgOwn, evS_setR, evS_setO, evS_app, evS_appR, evS_extO, evS_popT, evS_popO, evS_aug, evS_par, evS_ite, evS_for_, evS_forO, evS_while_, startS, List.length_cons, List.length_nil, List.map_cons, List.map_nil, List.replicate, List.cons_append, List.nil_append, List.getD_cons_zero, List.getD_cons_succ, List.set_cons_zero, List.set_cons_succ, R.bind_ok, R.opt_some, R.calm_ok, R.thenS_ok, rd_int, rd_bool, rd_none, rd_str, rd_tup, rd_lst, rd_frz, seq_thenS, fin_thenS, seq_ite, fin_ite, RS.seq_next, RS.seq_ret, RS.fin_ret, RS.fin_next, Option.map_some, Option.bind_some, truthV_bool, truthV_int, truthV_none, setT_name, setT_tup, setTs_nil, setTs_cons, wipe_nil, wipe_cons, ix_l, ix_t, ix_f, at_l0, at_l1, at_l2, at_l3, add_i, sub_i, lt_i, le_i, gt_i, ge_i, eq_i, ne_i, is_n, isnot_n, isNone, len_t, len_l, len_f, tuple_t, tuple_l, tuple_f, list_t, list_l, list_f, int_i, abs_i, max_i, min_i, sum_l, sum_t, isi_int, isi_bool, isi_tup, isi_lst, isi_str, isi_none, slice_l, slice_t, slice_f, ixO_no, ixO_int, satT_thenS, satT_next, satT_ret, sat_thenS, sat_next, sat_ret, seq_t, seq_l, seq_f, vInts_len, evP_nil, evP_name, evP_item, R.tot_bind, R.tot_ok, Nat.reduceAdd, Nat.reduceSub, Bool.not_true, Bool.not_false, if_true, Bool.false_eq_true, if_false]
      refine R.tot_mono (well_ok 10 G ns i i0 hl) fun v G1 ⟨n, e, hw⟩ => ?_
      subst e
      try simp only [evSs_cons, evSs_nil, evE_var, evE_own, evE_con, evE_tup, evE_lst, evE_bin, evE_neg, evE_cmp, evE_cmp2, evE_not, evE_and, evE_or, evE_ite, evE_idx, evE_slice, evE_call, evE_bcall, evE_isi, evE_comp, evE_heap, evE_stop, evEs_nil, evEs_cons, evI_of, evI_rng1, evI_rng2, evI_zip, evI_enum, evS_stop, evS_exp, evS_ret, evS_retO, evS_retN, evS_pass, evS_brk, evS_cont, evS_asg, evS_asgOwn, evS_setR, evS_setO, evS_app, evS_appR, evS_extO, evS_popT, evS_popO, evS_aug, evS_par, evS_ite, evS_for_, evS_forO, evS_while_, startS, List.length_cons, List.length_nil, List.map_cons, List.map_nil, List.replicate, List.cons_append, List.nil_append, List.getD_cons_zero, List.getD_cons_succ, List.set_cons_zero, List.set_cons_succ, R.bind_ok, R.opt_some, R.calm_ok, R.thenS_ok, rd_int, rd_bool, rd_none, rd_str, rd_tup, rd_lst, rd_frz, seq_thenS, fin_thenS, seq_ite, fin_ite, RS.seq_next, RS.seq_ret, RS.fin_ret, RS.fin_next, Option.map_some, Option.bind_some, truthV_bool, truthV_int, truthV_none, setT_name, setT_tup, setTs_nil, setTs_cons, wipe_nil, wipe_cons, ix_l, ix_t, ix_f, at_l0, at_l1, at_l2, at_l3, add_i, sub_i, lt_i, le_i, gt_i, ge_i, eq_i, ne_i, is_n, isnot_n, isNone, len_t, len_l, len_f, tuple_t, tuple_l, tuple_f, list_t, list_l, list_f, int_i, abs_i, max_i, min_i, sum_l, sum_t, isi_int, isi_bool, isi_tup, isi_lst, isi_str, isi_none, slice_l, slice_t, slice_f, ixO_no, ixO_int, satT_thenS, satT_next, satT_ret, sat_thenS, sat_next, sat_ret, seq_t, seq_l, seq_f, vInts_len, evP_nil, evP_name, evP_item, R.tot_bind, R.tot_ok, Nat.reduceAdd, Nat.reduceSub, Bool.not_true, Bool.not_false, if_true, Bool.false_eq_true, if_false]
      exact R.tot_mono (right_ok 3 hw) fun v G2 e => ⟨trivial, e⟩
  obtain ⟨v, G', e, rfl⟩ := R.tot_eq h
  exact ⟨G', e⟩
end Fx.Law

namespace Fx.Law
open PySem PySem.Spec PyProof.Rows L2
abbrev fns : List He.DefD := D.map DD.toDefD
abbrev fas : List He.Fa := faOf D fr is
def loose : List Str := (pw.main.scope.names.map (·.1)).filter fun x => !(x == ("law" : Str))
abbrev Rw : PySem.W.OpenRow := PySem.W.OpenLaw.row PySem.Challenge.rw_formstead_k80_devices_by_an_own_look
abbrev hk : PySem.W.Hook := He.hookD 4 fas fns
def ob (s : PySem.W.SharedT) : He.AlD := He.obsDG 4 fas fns (HandSHeadRun.getT s)
theorem ob_eq (s : PySem.W.SharedT) : ob s = hk.obs s.abs := He.obsDG_eq (HandSHeadRun.getT_eq s)
def lawAt : Nat := pw.main.body.length - 1
theorem runs (w : World) : HandSHeadRun.RunEq Rw (PySem.W.view Rw.prog [lawAt]) hk ob 4000 loose w := by
  intro os
  kernel_rfl
end Fx.Law
open PySem PySem.W PySem.Calls PyProof.Rows
theorem PySem.Challenge.cw_formstead_k80_devices_by_an_own_look_holds : PySem.Challenge.rw_formstead_k80_devices_by_an_own_look.Holds := by
  w_on; o_law
  refine HandSHeadRun.head_any (r := OpenLaw.row PySem.Challenge.rw_formstead_k80_devices_by_an_own_look) (q := view (OpenLaw.row PySem.Challenge.rw_formstead_k80_devices_by_an_own_look).prog [Fx.Law.lawAt]) (H := Fx.Law.hk) (ob := Fx.Law.ob) (M := 4000) (loose := Fx.Law.loose)
    (d := HandSHeadRun.topDef (OpenLaw.row PySem.Challenge.rw_formstead_k80_devices_by_an_own_look).prog Fx.Law.lawAt) (kwd := []) Fx.Law.ob_eq (by kernel_rfl) (fun s => by kernel_rfl) Fx.Law.runs (by kernel_rfl) (by kernel_rfl) (by kernel_rfl) (by rfl) (by first | assumption | decide +kernel) (by decide +kernel)
    ⟨rfl, rfl, rfl, rfl, rfl, by decide +kernel⟩ ?hw ?hc
  case hw => w_witness2
  case hc =>
    refine Fx.walkX (l := PySem.Challenge.rw_formstead_k80_devices_by_an_own_look) (n := 63) (k := 12) (x := "_law_script") rfl (by decide) (by kernel_rfl) ⟨rfl, by decide, by decide⟩ ?F
    intro w mg fa h Y G hmg0
    obtain ⟨K, KX, c⟩ := Y
    have hmg : mg ("law" : PySem.Str) = some (.ref fa) := by
      have e : (HandSHeadRun.topDef (OpenLaw.row PySem.Challenge.rw_formstead_k80_devices_by_an_own_look).prog Fx.Law.lawAt).name = ("law" : PySem.Str) := by kernel_rfl
      rw [← e]
      exact hmg0
    obtain ⟨fd, sp, h1, h2, h3⟩ := Fx.law_F (P := (PySem.Challenge.rw_formstead_k80_devices_by_an_own_look).prog) (w := w) (k := 12) (dl := Fx.Law.d31) (x := "_law_script") (n := 63) KX G c hmg (by kernel_rfl) Fx.Law.bAll (by kernel_rfl) (by kernel_rfl) (by kernel_rfl) Fx.Law.law_ok
    exact ⟨K, fd, sp, KX, h1, h2, h3⟩

