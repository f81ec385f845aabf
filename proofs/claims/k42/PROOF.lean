import PyProof.Rows.All
import Wide.All
import OpenK.AllK
import Wide.FinOn
import HandS.Base
import HandS.Call
import HandS.List
import HandS.Comp
import HandS.Ends
import HandS.Iter
import HandS.Conv
import HandS.More
import HandS.Words
import HandS.Defaults
import HandS.Style
import HandS.Zip
import HandS.Lambda
import HandS.TryMany
import HandS.ExcInit
import HandS.ExcField
import HandS.Small
import HandS.HeadHook4
import PySem.Challenge.RW_formstead_k42_words_there_and_back
import KE.KStateDown
import HandS.Head0
import HandS.Head1
import HandS.Head2
import HandS.HeadHook1
import HandS.Exc
import HandS.CallSlots
import HandS.TupMul
import HandS.Wide
import HandS.DictEq
import PyProof.NeKinds
import HandS.Deep
import HandS.IsInst
import PyProof.SumWalkG
import PyProof.WalksMore
import HandS.WordsDict
import HandS.SortInts
import PyProof.TupleOfSeq
import PyProof.ListNew
import PyProof.TupleOfGen
import KE.GoesMore
import PyProof.ReprRoads
import HandS.Flow
import HandS.TupAny
import HandS.Walk
import PyProof.Draws
import HandS.ExcOwn
import KE.KDictOf
import HandS.DictTup
import KE.KItemsList
import HandS.Star
import HandS.Strs
import HandS.DictComp
import HandS.SetFor
import HandS.Rev
import KE.KExcIs
import HandS.HeadHook2
import HandS.HeadEnd
import HandS.HeadWalk
import HandS.EndTab
import KE.KEqSeq
set_option Elab.async false
set_option linter.all false
set_option maxRecDepth 100000
set_option maxHeartbeats 0
namespace Fx
open PySem PySem.Spec PyProof.Rows L2
/-- pure values: a list that nobody changes any more is a value too; ref: a place of the small heap -/
inductive Val where
  | none | bool (b : Bool) | int (i : Int) | str (s : String) | tup (xs : List Val) | lst (xs : List Val) | frz (xs : List Val) | ref (n : Nat) | dct (ks : List Key) (vs : List Val) | txt (t : Str)
  deriving Inhabited
inductive Obj where
  | lst (xs : List Val) | dct (ks : List Key) (vs : List Val) | tab (f : Str)
  deriving Inhabited
abbrev Heap := List Obj
/-- what a def's slot holds: nothing, a value, a list of its own -/
inductive Slot where
  | no | val (v : Val) | own (xs : List Val) | frz (xs : List Val)
  deriving Inhabited
abbrev Store := List Slot
/-- an exception: its class, the one field that it keeps -/
structure Exc where
  cls : String
  arg : Option (String × Val)
inductive R (α : Type) where
  | no
  | ok (a : α) (G : Heap)
  | exc (e : Exc) (G : Heap)
def R.bind {α β : Type} (m : R α) (f : α → Heap → R β) : R β := match m with
  | .no => .no
  | .ok a G => f a G
  | .exc e G => .exc e G
@[simp] theorem R.bind_ok {α β : Type} (a : α) (G : Heap) (f : α → Heap → R β) : (R.ok a G).bind f = f a G := rfl
@[simp] theorem R.bind_no {α β : Type} (f : α → Heap → R β) : (R.no : R α).bind f = .no := rfl
@[simp] theorem R.bind_exc {α β : Type} (e : Exc) (G : Heap) (f : α → Heap → R β) : (R.exc e G : R α).bind f = .exc e G := rfl
/-- what is wanted of an outcome -/
def R.wp {α : Type} (r : R α) (k : α → Heap → Prop) (x : Exc → Heap → Prop) : Prop := match r with
  | .no => False
  | .ok a G => k a G
  | .exc e G => x e G
theorem R.wp_bind {α β : Type} {m : R α} {f : α → Heap → R β} {k : β → Heap → Prop} {x : Exc → Heap → Prop} : (m.bind f).wp k x ↔ m.wp (fun a G => (f a G).wp k x) x := by
  cases m <;> exact Iff.rfl
theorem R.wp_mono {α : Type} {r : R α} {k k' : α → Heap → Prop} {x x' : Exc → Heap → Prop} (h : r.wp k x) (hk : ∀ a G, k a G → k' a G) (hx : ∀ e G, x e G → x' e G) : r.wp k' x' := by
  cases r with
  | no => exact h
  | ok a G => exact hk a G h
  | exc e G => exact hx e G h
/-- a pure outcome -/
def R.opt {α : Type} (o : Option α) (G : Heap) : R α := match o with
  | some a => .ok a G
  | none => .no
@[simp] theorem R.opt_some {α : Type} (a : α) (G : Heap) : R.opt (some a) G = .ok a G := rfl
@[simp] theorem R.opt_none {α : Type} (G : Heap) : (R.opt none G : R α) = .no := rfl
theorem R.wp_opt {α : Type} {o : Option α} {G : Heap} {k : α → Heap → Prop} {x : Exc → Heap → Prop} (h : (R.opt o G).wp k x) : ∃ a, o = some a ∧ k a G := by
  cases o with
  | none => exact h.elim
  | some a => exact ⟨a, rfl, h⟩
theorem R.bind_eq_ok {α β : Type} {m : R α} {f : α → Heap → R β} {b : β} {G : Heap} (h : m.bind f = .ok b G) : ∃ a G1, m = .ok a G1 ∧ f a G1 = .ok b G := by
  cases m with
  | no => cases h
  | ok a G1 => exact ⟨a, G1, rfl, h⟩
  | exc e G1 => cases h
/-- where the abstract things stand: the heap's places, the own lists' places by slot, what else is not to be touched -/
structure Mp where
  φ : List Addr
  ow : Nat → Option Addr
  xo : Addr → Prop
def Mp.ex (M : Mp) (a : Addr) : Prop := a ∈ M.φ ∨ (∃ i, M.ow i = some a) ∨ M.xo a
section
variable (K : PySem.W.Frag)
def TupK (a : Addr) (xs : List V) : Prop :=
  ∃ (o : PySem.Obj) (its : Array Value) (n : Nat), K.lookup a = some o ∧ o.cls = .type "tuple" ∧ o.dict = none ∧ o.data = .seq its n ∧ its.size ≤ sizeLine ∧ Vals xs its.toList
def LstK (a : Addr) (xs : List V) : Prop :=
  ∃ (o : PySem.Obj) (its : Array Value) (n : Nat), K.lookup a = some o ∧ o.cls = .type "list" ∧ o.dict = none ∧ o.data = .seq its n ∧ its.size ≤ sizeLine ∧ Vals xs its.toList
mutual
/-- v stands for u -/
inductive Rl (M : Mp) (H : Hp) : Val → V → Prop where
  | nn : Rl M H .none .non
  | bool (b : Bool) : Rl M H (.bool b) (.bl b)
  | int (i : Int) : Rl M H (.int i) (.int i)
  | str (s : String) : Rl M H (.str s) (.str (Str.ofString s))
  | txt (t : Str) : Rl M H (.txt t) (.str t)
  | tupT {a xs vs} : ¬ M.ex a → Rd H a (.tup vs) → Rls M H xs vs → Rl M H (.tup xs) (.ref a)
  | tupK {a xs vs} : TupK K a vs → Rls M H xs vs → Rl M H (.tup xs) (.ref a)
  | lst {a xs vs} : ¬ M.ex a → H a = some (.lst vs) → Rls M H xs vs → Rl M H (.lst xs) (.ref a)
  | frzT {a xs vs} : ¬ M.ex a → Rd H a (.lst vs) → Rls M H xs vs → Rl M H (.frz xs) (.ref a)
  | frzK {a xs vs} : LstK K a vs → Rls M H xs vs → Rl M H (.frz xs) (.ref a)
  | dctT {a} : ¬ M.ex a → H a = some (.dK []) → Rl M H (.dct [] []) (.ref a)
  | ref {n a} : M.φ[n]? = some a → Rl M H (.ref n) (.ref a)
inductive Rls (M : Mp) (H : Hp) : List Val → List V → Prop where
  | nil : Rls M H [] []
  | cons {x v xs vs} : Rl M H x v → Rls M H xs vs → Rls M H (x :: xs) (v :: vs)
end
end
variable {K : PySem.W.Frag}

/-- what a def's own code may change -/
def Mp.mu (M : Mp) (a : Addr) : Prop := a ∈ M.φ ∨ ∃ i, M.ow i = some a
theorem Mp.mu_ex {M : Mp} {a : Addr} (h : M.mu a) : M.ex a := h.elim .inl fun x => .inr (.inl x)
/-- later, behind statements: the map has grown, what is not to be changed is kept -/
structure Since (M : Mp) (H : Hp) (M' : Mp) (H' : Hp) : Prop where
  pre : ∃ l, M'.φ = M.φ ++ l ∧ ∀ a ∈ l, H a = none
  xo : ∀ a, M.xo a → M'.xo a
  xo' : ∀ a, M'.xo a → M.xo a ∨ H a = none
  mu : ∀ a, M'.mu a → M.mu a ∨ H a = none
  keep : ∀ a o, ¬ M.mu a → H a = some o → H' a = some o
  there : ∀ a o, H a = some o → ∃ o', H' a = some o'
/-- .. behind expressions: a def's own lists are as they were -/
structure Later (M : Mp) (H : Hp) (M' : Mp) (H' : Hp) : Prop where
  pre : ∃ l, M'.φ = M.φ ++ l ∧ ∀ a ∈ l, H a = none
  ow : M'.ow = M.ow
  xo : ∀ a, M.xo a → M'.xo a
  xo' : ∀ a, M'.xo a → M.xo a ∨ H a = none
  keep : ∀ a o, a ∉ M.φ → H a = some o → H' a = some o
  there : ∀ a o, H a = some o → ∃ o', H' a = some o'
section
variable {M M' M1 M2 : Mp} {H H' H1 H2 : Hp}
theorem Later.since (l : Later M H M' H') : Since M H M' H' where
  pre := l.pre
  xo := l.xo
  xo' := l.xo'
  mu := fun a h => by
    obtain ⟨k, e, f⟩ := l.pre
    rcases h with h | h
    · rw [e] at h
      rcases List.mem_append.mp h with h | h
      · exact .inl (.inl h)
      · exact .inr (f a h)
    · rw [l.ow] at h; exact .inl (.inr h)
  keep := fun a o h e => l.keep a o (fun z => h (.inl z)) e
  there := l.there
theorem Since.refl (M : Mp) (H : Hp) : Since M H M H := ⟨⟨[], by simp, fun _ h => nomatch h⟩, fun _ h => h, fun _ h => .inl h, fun _ h => .inl h, fun _ _ _ h => h, fun _ o h => ⟨o, h⟩⟩
theorem Later.refl (M : Mp) (H : Hp) : Later M H M H := ⟨⟨[], by simp, fun _ h => nomatch h⟩, rfl, fun _ h => h, fun _ h => .inl h, fun _ _ _ h => h, fun _ o h => ⟨o, h⟩⟩
theorem Since.gone (l : Since M H M' H') {a : Addr} (h : H' a = none) : H a = none := by
  cases q : H a with
  | none => rfl
  | some o =>
    obtain ⟨o', e⟩ := l.there a o q
    rw [h] at e; cases e
theorem pre_trans {x y : List Addr} (l : Since M H M1 H1) (e1 : M1.φ = M.φ ++ x) (f1 : ∀ a ∈ x, H a = none) (e2 : M2.φ = M1.φ ++ y) (f2 : ∀ a ∈ y, H1 a = none) : ∃ l, M2.φ = M.φ ++ l ∧ ∀ a ∈ l, H a = none :=
  ⟨x ++ y, by rw [e2, e1, List.append_assoc], fun a ha => (List.mem_append.mp ha).elim (f1 a) fun h => l.gone (f2 a h)⟩
theorem Since.trans (l : Since M H M1 H1) (k : Since M1 H1 M2 H2) : Since M H M2 H2 := by
  obtain ⟨x, e1, f1⟩ := l.pre
  obtain ⟨y, e2, f2⟩ := k.pre
  refine ⟨pre_trans l e1 f1 e2 f2, fun a h => k.xo a (l.xo a h), fun a h => (k.xo' a h).elim (l.xo' a) fun z => .inr (l.gone z), fun a h => ?_, fun a o h e => k.keep a o (fun z => ?_) (l.keep a o h e), fun a o ho => ?_⟩
  · rcases k.mu a h with z | z
    · exact l.mu a z
    · exact .inr (l.gone z)
  · rcases l.mu a z with q | q
    · exact h q
    · rw [q] at e; cases e
  · obtain ⟨o1, h1⟩ := l.there a o ho
    exact k.there a o1 h1
theorem Later.trans (l : Later M H M1 H1) (k : Later M1 H1 M2 H2) : Later M H M2 H2 := by
  obtain ⟨x, e1, f1⟩ := l.pre
  obtain ⟨y, e2, f2⟩ := k.pre
  have nin : ∀ a o, a ∉ M.φ → H a = some o → a ∉ M1.φ := fun a o ha ho hin => by
    rw [e1] at hin
    rcases List.mem_append.mp hin with h | h
    · exact ha h
    · rw [f1 a h] at ho; cases ho
  refine ⟨pre_trans l.since e1 f1 e2 f2, k.ow.trans l.ow, fun a h => k.xo a (l.xo a h), fun a h => (k.xo' a h).elim (l.xo' a) fun z => .inr (l.since.gone z), fun a o ha ho => k.keep a o (nin a o ha ho) (l.keep a o ha ho), fun a o ho => ?_⟩
  obtain ⟨o1, h1⟩ := l.there a o ho
  exact k.there a o1 h1
theorem Since.ex' (l : Since M H M' H') {a : Addr} (h : M'.ex a) : M.ex a ∨ H a = none := by
  have go : M'.mu a → M.ex a ∨ H a = none := fun z => (l.mu a z).elim (fun q => .inl (Mp.mu_ex q)) .inr
  rcases h with h | h | h
  · exact go (.inl h)
  · exact go (.inr h)
  · exact (l.xo' a h).imp (fun z => .inr (.inr z)) id
theorem Since.at_ (l : Since M H M' H') {a : Addr} {o : HO} (hx : ¬ M.ex a) (h : H a = some o) : H' a = some o ∧ ¬ M'.ex a :=
  ⟨l.keep a _ (fun z => hx (Mp.mu_ex z)) h, fun z => (l.ex' z).elim hx fun q => by rw [h] at q; cases q⟩
theorem Since.rd (l : Since M H M' H') {a : Addr} {u : HO} (hx : ¬ M.ex a) (h : Rd H a u) : Rd H' a u ∧ ¬ M'.ex a := by
  rcases h with h | ⟨o, h⟩
  · exact ⟨.inl (l.at_ hx h).1, (l.at_ hx h).2⟩
  · exact ⟨.inr ⟨o, (l.at_ hx h).1⟩, (l.at_ hx h).2⟩
/-- the least that values ask -/
structure Ext (M : Mp) (H : Hp) (M' : Mp) (H' : Hp) : Prop where
  pre : ∃ l, M'.φ = M.φ ++ l
  ex : ∀ a, M'.ex a → M.ex a ∨ H a = Option.none
  keep : ∀ a o, ¬ M.ex a → H a = some o → H' a = some o
theorem Ext.at_ (l : Ext M H M' H') {a : Addr} {o : HO} (hx : ¬ M.ex a) (h : H a = some o) : H' a = some o ∧ ¬ M'.ex a :=
  ⟨l.keep a _ hx h, fun z => (l.ex a z).elim hx fun q => by rw [h] at q; cases q⟩
theorem Ext.rd (l : Ext M H M' H') {a : Addr} {u : HO} (hx : ¬ M.ex a) (h : Rd H a u) : Rd H' a u ∧ ¬ M'.ex a := by
  rcases h with h | ⟨o, h⟩
  · exact ⟨.inl (l.at_ hx h).1, (l.at_ hx h).2⟩
  · exact ⟨.inr ⟨o, (l.at_ hx h).1⟩, (l.at_ hx h).2⟩
theorem Since.ext (l : Since M H M' H') : Ext M H M' H' := ⟨let ⟨k, e, _⟩ := l.pre; ⟨k, e⟩, fun _ z => l.ex' z, fun a o h e => l.keep a o (fun z => h (Mp.mu_ex z)) e⟩
mutual
theorem Rl.ext (l : Ext M H M' H') : ∀ {x : Val} {v : V}, Rl K M H x v → Rl K M' H' x v
  | _, _, .nn => .nn
  | _, _, .bool b => .bool b
  | _, _, .int i => .int i
  | _, _, .str s => .str s
  | _, _, .txt s => .txt s
  | _, _, .tupT hx hr hs => .tupT (l.rd hx hr).2 (l.rd hx hr).1 (Rls.ext l hs)
  | _, _, .tupK hk hs => .tupK hk (Rls.ext l hs)
  | _, _, .lst hx hr hs => .lst (l.at_ hx hr).2 (l.at_ hx hr).1 (Rls.ext l hs)
  | _, _, .frzT hx hr hs => .frzT (l.rd hx hr).2 (l.rd hx hr).1 (Rls.ext l hs)
  | _, _, .frzK hk hs => .frzK hk (Rls.ext l hs)
  | _, _, .dctT hx hr => .dctT (l.at_ hx hr).2 (l.at_ hx hr).1
  | _, _, .ref e => .ref (by
    obtain ⟨k, e1⟩ := l.pre
    rw [e1]
    obtain ⟨h1, h2⟩ := List.getElem?_eq_some_iff.mp e
    rw [List.getElem?_append_left h1]
    exact e)
theorem Rls.ext (l : Ext M H M' H') : ∀ {xs : List Val} {vs : List V}, Rls K M H xs vs → Rls K M' H' xs vs
  | _, _, .nil => .nil
  | _, _, .cons h t => .cons (Rl.ext l h) (Rls.ext l t)
end
theorem Rl.since (l : Since M H M' H') {x : Val} {v : V} (r : Rl K M H x v) : Rl K M' H' x v := r.ext l.ext
theorem Rls.since (l : Since M H M' H') {xs : List Val} {vs : List V} (r : Rls K M H xs vs) : Rls K M' H' xs vs := r.ext l.ext
theorem Rl.later (l : Later M H M' H') {x : Val} {v : V} (r : Rl K M H x v) : Rl K M' H' x v := r.since l.since
theorem Rls.later (l : Later M H M' H') {xs : List Val} {vs : List V} (r : Rls K M H xs vs) : Rls K M' H' xs vs := r.since l.since
theorem Ext.swap (e : M'.φ = M.φ) (hx : ∀ a, M'.ex a → M.ex a) : Ext M H M' H := ⟨⟨[], by rw [e, List.append_nil]⟩, fun a z => .inl (hx a z), fun _ _ _ h => h⟩
theorem Rl.swap (e : M'.φ = M.φ) (hx : ∀ a, M'.ex a → M.ex a) {x : Val} {v : V} (r : Rl K M H x v) : Rl K M' H x v := r.ext (Ext.swap e hx)
theorem Rls.swap (e : M'.φ = M.φ) (hx : ∀ a, M'.ex a → M.ex a) {xs : List Val} {vs : List V} (r : Rls K M H xs vs) : Rls K M' H xs vs := r.ext (Ext.swap e hx)
theorem Rls.length : ∀ {xs : List Val} {vs : List V}, Rls K M H xs vs → xs.length = vs.length
  | _, _, .nil => rfl
  | _, _, .cons _ t => congrArg (· + 1) (Rls.length t)
theorem Rls.get : ∀ {xs : List Val} {vs : List V} {i : Nat} {x : Val}, Rls K M H xs vs → xs[i]? = some x → ∃ v, vs[i]? = some v ∧ Rl K M H x v
  | _, _, _, _, .nil, e => by simp at e
  | _, _, 0, _, .cons r _, e => by simp at e; subst e; exact ⟨_, rfl, r⟩
  | _, _, i + 1, x, .cons _ t, e => by
    obtain ⟨v, h1, h2⟩ := Rls.get (i := i) (x := x) t (by simpa using e)
    exact ⟨v, by simpa using h1, h2⟩
theorem Rls.append : ∀ {xs ys : List Val} {vs us : List V}, Rls K M H xs vs → Rls K M H ys us → Rls K M H (xs ++ ys) (vs ++ us)
  | _, _, _, _, .nil, s => s
  | _, _, _, _, .cons r t, s => .cons r (Rls.append t s)
theorem Rls.take : ∀ {xs : List Val} {vs : List V} (n : Nat), Rls K M H xs vs → Rls K M H (xs.take n) (vs.take n)
  | _, _, 0, _ => .nil
  | _, _, _ + 1, .nil => .nil
  | _, _, n + 1, .cons r t => .cons r (Rls.take n t)
theorem Rls.drop : ∀ {xs : List Val} {vs : List V} (n : Nat), Rls K M H xs vs → Rls K M H (xs.drop n) (vs.drop n)
  | _, _, 0, r => r
  | _, _, _ + 1, .nil => .nil
  | _, _, n + 1, .cons _ t => Rls.drop n t
theorem Rls.set {x : Val} {v : V} (r : Rl K M H x v) : ∀ {xs : List Val} {vs : List V} (i : Nat), Rls K M H xs vs → Rls K M H (xs.set i x) (vs.set i v)
  | _, _, _, .nil => .nil
  | _, _, 0, .cons _ t => .cons r t
  | _, _, i + 1, .cons q t => .cons q (Rls.set r i t)
theorem Rls.reverse {xs : List Val} {vs : List V} (r : Rls K M H xs vs) : Rls K M H xs.reverse vs.reverse := by
  induction xs generalizing vs with
  | nil => cases r; exact .nil
  | cons x xs ih => cases r with
    | cons h t =>
      rw [List.reverse_cons, List.reverse_cons]
      exact (ih t).append (.cons h .nil)
end
/-- the map's parts lie apart -/
structure MpOk (M : Mp) (H : Hp) : Prop where
  nodup : M.φ.Nodup
  d1 : ∀ i a, M.ow i = some a → a ∉ M.φ
  d2 : ∀ a, M.xo a → a ∉ M.φ
  d3 : ∀ i a, M.ow i = some a → ¬ M.xo a
  oin : ∀ i j a, M.ow i = some a → M.ow j = some a → i = j
  oth : ∀ i a, M.ow i = some a → ∃ o, H a = some o
  xth : ∀ a, M.xo a → ∃ o, H a = some o
/-- one more place that is not to be touched -/
def Mp.add (M : Mp) (a : Addr) : Mp := { M with xo := fun b => M.xo b ∨ b = a }
/-- where a def's lambdas stand: its table of code objects; what these are named -/
def tabA (K : PySem.W.Frag) (f : Str) : Addr := (He.cT K (f, Option.none)).2
def lamQ (f : Str) : Str := f ++ ".<locals>." ++ "<lambda>"
/-- the code objects that a table tells are just that -/
structure TabR (M : Mp) (H : Hp) (q : Str) (ps : Array Value) : Prop where
  ok : TriplesOk ps.toList
  co : ∀ (pos : Pos) (cv : Value), codeAmong pos ps.toList = some cv → ∃ c, cv = .ref c ∧ ¬ M.ex c ∧ H c = some (LamX.CodeO c q)
theorem TabR.ext {M M' : Mp} {H H' : Hp} {q : Str} {ps : Array Value} (t : TabR M H q ps) (l : Ext M H M' H') : TabR M' H' q ps :=
  ⟨t.ok, fun pos cv h => let ⟨c, e, n, k⟩ := t.co pos cv h; ⟨c, e, (l.at_ n k).2, (l.at_ n k).1⟩⟩
theorem TabR.later {M M' : Mp} {H H' : Hp} {q : Str} {ps : Array Value} (t : TabR M H q ps) (l : Later M H M' H') : TabR M' H' q ps := t.ext l.since.ext
def ObjR (K : PySem.W.Frag) (M : Mp) (H : Hp) (a : Addr) : Obj → Prop
  | .lst xs => ∃ vs, H a = some (.lst vs) ∧ Rls K M H xs vs
  | .dct ks xs => ∃ us, H a = some (.dK (ks.zip us)) ∧ ks.length = us.length ∧ Rls K M H xs us
  | .tab f => a = tabA K f ∧ ∃ ps, H a = some (.tbl ps) ∧ TabR M H (lamQ f) ps
structure HeapR (K : PySem.W.Frag) (M : Mp) (G : Heap) (H : Hp) : Prop where
  ok : MpOk M H
  len : M.φ.length = G.length
  obj : ∀ (n : Nat) a o, M.φ[n]? = some a → G[n]? = some o → ObjR K M H a o
def SlotR (K : PySem.W.Frag) (M : Mp) (H : Hp) (i : Nat) (o : Option (Option V)) : Slot → Prop
  | .no => True
  | .val v => ∃ u, o = some (some u) ∧ Rl K M H v u
  | .own xs => ∃ a vs, o = some (some (.ref a)) ∧ M.ow i = some a ∧ H a = some (.lst vs) ∧ Rls K M H xs vs
  | .frz xs => ∃ a vs, o = some (some (.ref a)) ∧ M.xo a ∧ H a = some (.lst vs) ∧ Rls K M H xs vs
structure StoreR (K : PySem.W.Frag) (M : Mp) (H : Hp) (s : Store) (st : L2.St) : Prop where
  len : s.length = st.length
  at_ : ∀ i, SlotR K M H i st[i]? (s.getD i .no)
section
variable {M M' : Mp} {H H' : Hp} {G G' : Heap} {s : Store} {st : L2.St}
theorem StoreR.later (r : StoreR K M H s st) (ok : MpOk M H) (l : Later M H M' H') : StoreR K M' H' s st := ⟨r.len, fun i => by
  have h := r.at_ i
  revert h
  cases s.getD i .no with
  | no => exact fun _ => trivial
  | val v => exact fun ⟨u, e, q⟩ => ⟨u, e, q.later l⟩
  | own xs => exact fun ⟨a, vs, e, o, q, t⟩ => ⟨a, vs, e, by rw [l.ow]; exact o, l.keep a _ (ok.d1 i a o) q, t.later l⟩
  | frz xs => exact fun ⟨a, vs, e, o, q, t⟩ => ⟨a, vs, e, l.xo a o, l.keep a _ (ok.d2 a o) q, t.later l⟩⟩
end
/-- what stands at sys.modules is no list -/
def KM (K : PySem.W.Frag) : Prop := ∃ o, K.lookup PySem.sysModules = some o ∧ o.cls ≠ .type "list"
def kmB (K : PySem.W.Frag) : Bool := match K.lookup PySem.sysModules with
  | some ⟨.type c, _, _, _⟩ => !(c == "list")
  | _ => false
theorem kmB_ok {K : PySem.W.Frag} (h : kmB K = true) : KM K := by
  unfold kmB at h
  split at h
  · rename_i c _ _ _ e
    refine ⟨_, e, fun z => ?_⟩
    injection z with z
    subst z
    cases h
  · cases h
end Fx

namespace Fx
open PySem PySem.Spec PyProof.Rows L2
mutual
def conB (K : PySem.W.Frag) : Val → Value → Bool
  | .none, u => (match u with | .none => true | _ => false)
  | .bool b, u => (match u with | .bool c => b == c | _ => false)
  | .int i, u => (match u with | .int j _ => decide (i = j) | _ => false)
  | .str s, u => (match u with | .str z _ => decide (Str.ofString s = z) | _ => false)
  | .tup xs, u => (match u with
    | .ref a => (match K.lookup a with
      | some ⟨.type c, none, .seq its _, _⟩ => decide (c = "tuple") && decide (its.size ≤ sizeLine) && conBs K xs its.toList
      | _ => false)
    | _ => false)
  | _, _ => false
def conBs (K : PySem.W.Frag) : List Val → List Value → Bool
  | [], us => us.isEmpty
  | x :: xs, us => (match us with
    | u :: us => conB K x u && conBs K xs us
    | [] => false)
end
/-- a clause: the classes that it takes, those that it lets pass, the fields that may be read, what isinstance answers of a class by a class -/
abbrev Clz : Type := List String × List String × List (String × String) × List (String × String × Bool)
def hdName : ExceptHandler → Str
  | .ExceptHandler (some (.Name x _)) _ _ _ => x
  | _ => ""
def hdsIn : List Stmt → List ExceptHandler
  | [.Try _ hds _ _ _] => hds
  | _ => []
structure DD where
  name : String
  qual : Str
  params : Arguments
  ps : List Str
  N : List Str
  body : List Stmt
  scope : Scope
  own : List Str := []
  hot : List Pos := []
  dfl : List (Option Int) := []
  lam : Option (List Str × Str) := none
  cl : List Clz := []
  kw : List Nat := []
def DD.kwl (d : DD) : List (Nat × List Str) := d.kw.map fun m => (m, d.ps.drop m)
def dvD : Option Int → He.Dv
  | some i => .int i
  | none => .non
def DD.toDefD (d : DD) : He.DefD := ⟨(Str.ofString d.name, none), Str.ofString d.name, d.qual, d.params, d.body, d.scope, d.dfl.map dvD, []⟩
/-- a class of exceptions with def __init__(self, y): self.fl = y -/
structure XD where
  name : String
  fl : String
  qual : Str
  params : Arguments
  body : List Stmt
  scope : Scope
  se : Str
  y : Str
def XD.toDefD (x : XD) : He.DefD := ⟨(Str.ofString x.name, some "__init__"), "__init__", x.qual, x.params, x.body, x.scope, [], []⟩
def XD.toDD (x : XD) : DD := ⟨"__init__", x.qual, x.params, [x.se, x.y], [x.se, x.y], x.body, x.scope, [], [], [], none, [], []⟩
/-- such a class in the written part -/
def oexB (K : PySem.W.Frag) (x : XD) : Bool := (match K.lookup (He.ga K (Str.ofString x.name)) with
  | some ⟨.type "type", _, .cls cd, sl⟩ => (match cd.mro, sl.toList with
    | .ref C' :: bm, [_, _, _, _, some (.builtin n), _] => C' == He.ga K (Str.ofString x.name) && (n == "ValueError.__new__" && (!cd.hasDel && (cd.hasDict && PySem.HandSPX.refsVE bm)))
    | _, _ => false)
  | _ => false) && (He.eqO (PySem.W.findIn K (.ref (He.ga K (Str.ofString x.name))) "__setattr__") (some (some (.builtin "object.__setattr__"))) && (decide (PySem.W.subIn K (.ref (He.ga K (Str.ofString x.name))) (.type "BaseException") = some true) &&
  (decide (PySem.W.typeIn K (.ref (He.ga K (Str.ofString x.name))) = some (.type "type")) && PySem.W.keepIn K (.ref (He.ga K (Str.ofString x.name))))))
/-- what a law's text has at its top besides its defs: free built-ins, constants, dicts with text keys, classes of exceptions -/
structure Top where
  fr : List Str
  cons : List (Str × Val) := []
  dics : List (Str × List Str × List Val) := []
  xcs : List String := []
  xis : List XD := []
def hdFa (h : ExceptHandler) (c : Clz) : List He.Fa :=
  .glo (hdName h) :: ((c.1.map fun y => .exm (Str.ofString y) (hdName h) true) ++ ((c.2.1.map fun y => .exm (Str.ofString y) (hdName h) false) ++ (c.2.2.1.map fun p => .noat (Str.ofString p.1) (Str.ofString p.2)) ++ (.free "repr" :: .free "isinstance" :: c.2.2.2.map fun q => .glo (Str.ofString q.2.1))))
def hdsFa : List ExceptHandler → List Clz → List He.Fa
  | h :: hs, c :: cs => hdFa h c ++ hdsFa hs cs
  | _, _ => []
def DD.fa (d : DD) : List He.Fa := hdsFa (hdsIn d.body) d.cl
def faOf (D : List DD) (T : Top) : List He.Fa := D.map (fun d => .glo (Str.ofString d.name)) ++ (T.fr.map .free ++ ((T.xcs.map fun x => .glo (Str.ofString x)) ++ ((T.xcs.map fun x => .exc (Str.ofString x)) ++ (D.flatMap DD.fa ++ T.xis.flatMap fun x => [.glo (Str.ofString x.name), .noat (Str.ofString x.name) (Str.ofString x.fl), .meth (Str.ofString x.name) "__init__"]))))
def fnsOf (D : List DD) (T : Top) : List He.DefD := D.map DD.toDefD ++ T.xis.map XD.toDefD
/-- the defs that make lambdas -/
def tabsD (D : List DD) : List Str := D.filterMap fun d => d.lam.map (·.2)
def refs1 (o : PySem.Obj) : List Addr := match o.data with
  | .seq its _ => its.toList.flatMap He.refV
  | .dict es _ => es.toList.flatMap fun e => He.refV e.val
  | .func fd => He.refV fd.code ++ He.refV fd.defaults
  | .cls cd => [cd.ns]
  | _ => []
def layX (g : Addr → Option PySem.Obj) : Nat → List Addr → List Addr
  | 0, l => l
  | n + 1, l => l ++ layX g n (l.flatMap fun a => match g a with
    | some o => refs1 o
    | none => [])
def asX (g : Addr → Option PySem.Obj) (n : Nat) : List Addr := sysModules :: layX g n [mainGlobals]
def keysB : List Str → List DictEntry → Bool
  | [], es => es.isEmpty
  | k :: ks, e :: es => (match e.key with | .str x _ => decide (x = k) | _ => false) && keysB ks es
  | _ :: _, [] => false
def conOk (K : PySem.W.Frag) (p : Str × Val) : Bool := match PySem.W.nsIn K mainGlobals p.1 with
  | some (some u) => conB K p.2 u
  | _ => false
def dicOk (K : PySem.W.Frag) (p : Str × List Str × List Val) : Bool := match PySem.W.nsIn K mainGlobals p.1 with
  | some (some (.ref a)) => (match K.lookup a with
    | some ⟨.type c, none, .dict es _, sl⟩ => decide (c = "dict") && sl.isEmpty && !(a == sysModules) && keysB p.2.1 es.toList && conBs K p.2.2 (es.toList.map (·.val)) && decide (p.2.1.length = p.2.2.length) && decide p.2.1.Nodup && decide (p.2.1.length ≤ sizeLine)
    | _ => false)
  | _ => false
def hashesOf (K : PySem.W.Frag) (p : Str × List Str × List Val) : List Int := match PySem.W.nsIn K mainGlobals p.1 with
  | some (some (.ref a)) => (match K.lookup a with
    | some ⟨_, _, .dict es _, _⟩ => es.toList.map (·.hash)
    | _ => [])
  | _ => []
abbrev TopA : Type := He.AlD × Bool × List (List Int)
/-- isinstance of an exception of the class q.1 by the class q.2.1 -/
def isiB (K : PySem.W.Frag) (q : String × String × Bool) : Bool := xfB K (He.ga K (Str.ofString q.1)) && (decide (PySem.W.findIn K (.ref (He.ga K (Str.ofString q.1))) "__class__" = some (some (.builtin "object.__class__"))) &&
  (decide (PySem.W.specialIn K (.builtin "object.__class__") "__get__" = some (some (.builtin "getset_descriptor.__get__"))) && (decide (PySem.W.takesIn K (.builtin "object.__class__") = some true) &&
  (decide (PySem.W.mroIn K (He.ga K (Str.ofString q.1)) (.type "object") = some true) && decide (PySem.W.kitOne K (.ref (He.ga K (Str.ofString q.1))) (.ref (He.ga K (Str.ofString q.2.1))) = some q.2.2)))))
def clzB (K : PySem.W.Frag) (c : Clz) : Bool := (c.2.2.1.all fun p => xfB K (He.ga K (Str.ofString p.1))) && c.2.2.2.all (isiB K)
def extraB (D : List DD) (K : PySem.W.Frag) : Bool := (D.all fun d => d.cl.all (clzB K)) && decide ((tabsD D).map (tabA K)).Nodup
def tfOf (D : List DD) : List He.Defn := (tabsD D).map fun q => (q, Option.none)
def obsT (fa : List He.Fa) (fn : List He.DefD) (T : Top) (D : List DD) (g : Addr → Option PySem.Obj) (K : PySem.W.Frag) : TopA := (He.obsD fa fn K, ((T.cons.all (conOk K) && T.dics.all (dicOk K)) && (extraB D K && He.tabsB g (tfOf D) K)) && (T.xis.all (oexB K) && kmB K), T.dics.map (hashesOf K))
def valT (fn : List He.DefD) (T : Top) (w : World) : TopA := (He.valD fn, true, T.dics.map fun p => p.2.1.map fun x => hashStr w x)
structure SaysT (fa : List He.Fa) (fn : List He.DefD) (T : Top) (D : List DD) (w : World) (h : PySem.Heap) (K : PySem.W.Frag) : Prop where
  d : He.SaysD fa fn K
  b : T.cons.all (conOk K) = true ∧ T.dics.all (dicOk K) = true
  hs : T.dics.map (hashesOf K) = T.dics.map fun p => p.2.1.map fun x => hashStr w x
  ex : extraB D K = true
  xi : T.xis.all (oexB K) = true
  md : kmB K = true
  hd : ∀ q ∈ tabsD D, PySem.W.codeHdIn K (He.cT K (q, Option.none)).1 (tabA K q) = true
  out : ∀ q ∈ tabsD D, K.lookup (tabA K q) = Option.none
  empty : ∀ q ∈ tabsD D, h.get? (tabA K q) = some { cls := .none, data := .fields #[] }
def obsTG (n : Nat) (fa : List He.Fa) (fn : List He.DefD) (T : Top) (D : List DD) (g : Addr → Option PySem.Obj) : TopA := obsT fa fn T D g (He.frT g (asX g n))
theorem saysT_of {n : Nat} {fa : List He.Fa} {fn : List He.DefD} {T : Top} {D : List DD} {w : World} {h : PySem.Heap} (e : obsTG n fa fn T D h.get? = valT fn T w) : SaysT fa fn T D w h (He.frT h.get? (asX h.get? n)) := by
  have e1 : He.obsD fa fn (He.frT h.get? (asX h.get? n)) = He.valD fn := congrArg (fun z : TopA => z.1) e
  have e2 := congrArg (fun z : TopA => z.2.1) e
  have e3 := congrArg (fun z : TopA => z.2.2) e
  obtain ⟨e2, hxi⟩ := He.ba e2
  obtain ⟨hxi, hmd⟩ := He.ba hxi
  obtain ⟨h1, h2⟩ := He.ba e2
  obtain ⟨h3, h4⟩ := He.ba h2
  have key : ∀ q ∈ tabsD D, PySem.W.codeHdIn (He.frT h.get? (asX h.get? n)) (He.cT (He.frT h.get? (asX h.get? n)) (q, Option.none)).1 (tabA (He.frT h.get? (asX h.get? n)) q) = true ∧
      ∃ o, h.get? (tabA (He.frT h.get? (asX h.get? n)) q) = some o ∧ He.emptyTab o = true := fun q hq => by
    obtain ⟨h5, h6⟩ := He.ba (List.all_eq_true.mp h4 (q, Option.none) (List.mem_map.mpr ⟨q, hq, rfl⟩))
    refine ⟨h5, ?_⟩
    have h6 : (match h.get? (tabA (He.frT h.get? (asX h.get? n)) q) with
      | some o => He.emptyTab o
      | Option.none => false) = true := h6
    cases z : h.get? (tabA (He.frT h.get? (asX h.get? n)) q) with
    | none => rw [z] at h6; cases h6
    | some o => rw [z] at h6; exact ⟨o, rfl, h6⟩
  exact ⟨e1, He.ba h1, e3, h3, hxi, hmd, fun q hq => (key q hq).1, fun q hq => let ⟨o, z1, z2⟩ := (key q hq).2; He.frT_none z1 z2, fun q hq => by
    obtain ⟨_, o, z1, z2⟩ := key q hq
    rw [z1, He.emptyTab_eq z2]⟩
def hookT (n : Nat) (fa : List He.Fa) (fn : List He.DefD) (T : Top) (D : List DD) : PySem.W.Hook where
  α := TopA
  obs := fun s => obsTG n fa fn T D s.heap.get?
  val := fun w => valT fn T w
  says := fun w h => ∃ K : PySem.W.Frag, K.In h ∧ SaysT fa fn T D w h K
  of := fun _ _ e => ⟨_, He.frT_in, saysT_of e⟩
  keeps := fun _ _ _ ⟨K, hK, c⟩ k => ⟨K, PySem.W.Frag.In.keeps hK k, ⟨c.d, c.b, c.hs, c.ex, c.xi, c.md, c.hd, c.out, fun q hq => k _ _ (c.empty q hq)⟩⟩
theorem obsTG_eq {n : Nat} {fa : List He.Fa} {fn : List He.DefD} {T : Top} {D : List DD} {g : Addr → Option PySem.Obj} {s : Shared} (h : ∀ a, g a = s.heap.get? a) : obsTG n fa fn T D g = (hookT n fa fn T D).obs s := by
  have e : g = s.heap.get? := funext h
  rw [e]; rfl
def BindN (d : DD) : Prop := ∀ (kV doc pm : Value) (an : Option Addr) (cdv ct : Value) (us : List Value), us.length = d.ps.length → bindArgs (PySem.W.fnOf (Str.ofString d.name) d.qual d.params d.body d.scope .none kV doc pm an cdv ct) ⟨us, []⟩ = pure (d.ps.zip us)
/-- f(e, ..) with the defaults from the j-th on -/
def BindD (d : DD) (m : Nat) : Prop := ∀ (j : Nat), j ≤ m → ∀ (T : Addr) (kV doc pm : Value) (an : Option Addr) (cdv ct : Value) (us its : List Value), us.length + (m - j) = d.ps.length → its.length = m →
  ∃ k, bindArgs (PySem.W.fnOf (Str.ofString d.name) d.qual d.params d.body d.scope (.ref T) kV doc pm an cdv ct) ⟨us, []⟩ = seqItems? (.ref T) >>= k ∧ k (some its.toArray) = pure (d.ps.zip (us ++ its.drop j))
/-- f(e, .., k = v, ..), so many values written by their places -/
def BindK (d : DD) (m : Nat) : Prop := ∀ (kV doc pm : Value) (an : Option Addr) (cdv ct : Value) (us ws : List Value), us.length = m → ws.length = d.ps.length - m →
  bindArgs (PySem.W.fnOf (Str.ofString d.name) d.qual d.params d.body d.scope .none kV doc pm an cdv ct) ⟨us, (d.ps.drop m).zip ws⟩ = pure (d.ps.zip (us ++ ws))
def BindOk (d : DD) : Prop := (d.dfl = [] → BindN d) ∧ (d.dfl ≠ [] → BindD d d.dfl.length) ∧ ∀ m ∈ d.kw, d.dfl = [] ∧ BindK d m
end Fx

namespace Fx.Law
open PySem PySem.Spec PyProof.Rows L2
abbrev pw := PySem.Challenge.pw_formstead_k42_words_there_and_back
/-- the defs of the top -/
def defsOf : List Stmt → List (Arguments × List Stmt × Scope)
  | [] => []
  | .FunctionDef name args body _ _ _ scope _ _ _ :: r => (args, body, scope) :: defsOf r
  | _ :: r => defsOf r
def at_ (i : Nat) : Arguments × List Stmt × Scope := (defsOf pw.main.body).getD i (⟨[], [], none, [], [], none, []⟩, [], ⟨.function, [], false, false, []⟩)
def dd (i : Nat) (n : String) (ps N : List Str) (own : List Str) (hot : List Pos) (dfl : List (Option Int) := []) (lam : Option (List Str × Str) := none) (cl : List Clz := []) (kw : List Nat := []) : DD := ⟨n, Str.ofString n, (at_ i).1, ps, N, (at_ i).2.1, (at_ i).2.2, own, hot, dfl, lam, cl, kw⟩
/-- a class's own __init__ -/
def initIn : List Stmt → Arguments × List Stmt × Scope
  | [] => (⟨[], [], none, [], [], none, []⟩, [], ⟨.function, [], false, false, []⟩)
  | .FunctionDef name args body _ _ _ scope _ _ _ :: r => if name = "__init__" then (args, body, scope) else initIn r
  | _ :: r => initIn r
def initOf (c : Str) : List Stmt → Arguments × List Stmt × Scope
  | [] => (⟨[], [], none, [], [], none, []⟩, [], ⟨.function, [], false, false, []⟩)
  | .ClassDef name _ _ body _ _ _ _ _ _ _ :: r => if name = c then initIn body else initOf c r
  | _ :: r => initOf c r
def xx (c f : String) (se y : Str) : XD := ⟨c, f, Str.ofString (c ++ ".__init__"), (initOf (Str.ofString c) pw.main.body).1, (initOf (Str.ofString c) pw.main.body).2.1, (initOf (Str.ofString c) pw.main.body).2.2, se, y⟩
def d0 : DD := dd 0 "is_within" ["value", "low", "high"] ["value", "low", "high"] [] [] [] none
def d1 : DD := dd 1 "check_within" ["value", "low", "high"] ["value", "low", "high"] [] [] [] none
def d2 : DD := dd 2 "has_fields" ["kind", "fields"] ["kind", "fields"] [] [] [] none
def d3 : DD := dd 3 "read" ["word"] ["word", "rest", "worth"] [] [] [] none
def d4 : DD := dd 4 "read_word" ["word"] ["word"] [] [] [] none
def d5 : DD := dd 5 "number_word" ["number"] ["number"] [] [] [] none
def d6 : DD := dd 6 "address_word" ["place"] ["place"] [] [] [] none
def d7 : DD := dd 7 "mark_word" ["mark"] ["mark"] [] [] [] none
def d8 : DD := dd 8 "check_name" ["name", "names"] ["name", "names"] [] [] [] none
def d9 : DD := dd 9 "header_word" ["kind", "fields"] ["kind", "fields"] [] [] [] none
def d10 : DD := dd 10 "_law_well" ["_law_script", "_law_turn"] ["_law_script", "_law_turn", "_law_mixed", "_law_cell", "_law_own"] [] [⟨62, 11, 62, 88⟩] [] none
def d11 : DD := dd 11 "_law_draw" ["_law_well_here", "_law_many"] ["_law_well_here", "_law_many", "_law_seed", "_law_figure"] [] [] [] none
def d12 : DD := dd 12 "_law_pick" ["_law_well_here", "_law_some"] ["_law_well_here", "_law_some"] [] [] [] none
def d13 : DD := dd 13 "_law_same" ["_law_told_here", "_law_due"] ["_law_told_here", "_law_due", "_law_x", "_law_y"] [] [] [] none
def d14 : DD := dd 14 "_law_read" ["_law_word"] ["_law_word", "_law_sort", "_law_number"] [] [] [] none
def d15 : DD := dd 15 "_law_wide" ["_law_well_here"] ["_law_well_here", "_law_branch"] [] [] [] none
def d16 : DD := dd 16 "_law_odd" ["_law_well_here"] ["_law_well_here", "_law_far"] [] [⟨101, 105, 101, 107⟩] [] none
def d17 : DD := dd 17 "_law_told" ["_law_call"] ["_law_call", "e"] [] [] [] none [(["InvalidNumber"], ["InvalidName"], [("InvalidNumber", "given")], [("InvalidNumber", "FormError", true), ("InvalidNumber", "InvalidName", false)]), (["InvalidName"], ["InvalidNumber"], [("InvalidName", "given")], [("InvalidName", "FormError", true)])]
def d18 : DD := dd 18 "_law_any_word" ["_law_well_here"] ["_law_well_here", "_law_branch", "_law_far", "_law_near"] [] [] [] none
def d19 : DD := dd 19 "_law_is_right" ["_law_well_here"] ["_law_well_here", "_law_words", "_law_told_here", "_law_due", "_law_number", "_law_place", "_law_mark", "_law_fields", "_law_word", "_law_odd_here"] [] [] [] none
def d20 : DD := dd 20 "_law_is_refused" ["_law_well_here"] ["_law_well_here", "_law_below", "_law_due", "_law_fields", "_law_is_right_here", "_law_told_here", "_law_name", "_law_odd_here", "_law_kind"] [] [] [] (some ([Str.ofString "_law_is_refused"], Str.ofString "_law_is_refused"))
def d21 : DD := dd 21 "law" ["_law_script"] ["_law_script", "_law_turn", "_law_well_here", "_law_times"] [] [] [] none
def D : List DD := [d0, d1, d2, d3, d4, d5, d6, d7, d8, d9, d10, d11, d12, d13, d14, d15, d16, d17, d18, d19, d20, d21]
theorem b0 : BindOk d0 := ⟨fun _ => fun _ _ _ _ _ _ us hl => match us, hl with | [_, _, _], _ => rfl, fun h => absurd rfl h, fun m hm => nomatch hm⟩
theorem b1 : BindOk d1 := ⟨fun _ => fun _ _ _ _ _ _ us hl => match us, hl with | [_, _, _], _ => rfl, fun h => absurd rfl h, fun m hm => nomatch hm⟩
theorem b2 : BindOk d2 := ⟨fun _ => fun _ _ _ _ _ _ us hl => match us, hl with | [_, _], _ => rfl, fun h => absurd rfl h, fun m hm => nomatch hm⟩
theorem b3 : BindOk d3 := ⟨fun _ => fun _ _ _ _ _ _ us hl => match us, hl with | [_], _ => rfl, fun h => absurd rfl h, fun m hm => nomatch hm⟩
theorem b4 : BindOk d4 := ⟨fun _ => fun _ _ _ _ _ _ us hl => match us, hl with | [_], _ => rfl, fun h => absurd rfl h, fun m hm => nomatch hm⟩
theorem b5 : BindOk d5 := ⟨fun _ => fun _ _ _ _ _ _ us hl => match us, hl with | [_], _ => rfl, fun h => absurd rfl h, fun m hm => nomatch hm⟩
theorem b6 : BindOk d6 := ⟨fun _ => fun _ _ _ _ _ _ us hl => match us, hl with | [_], _ => rfl, fun h => absurd rfl h, fun m hm => nomatch hm⟩
theorem b7 : BindOk d7 := ⟨fun _ => fun _ _ _ _ _ _ us hl => match us, hl with | [_], _ => rfl, fun h => absurd rfl h, fun m hm => nomatch hm⟩
theorem b8 : BindOk d8 := ⟨fun _ => fun _ _ _ _ _ _ us hl => match us, hl with | [_, _], _ => rfl, fun h => absurd rfl h, fun m hm => nomatch hm⟩
theorem b9 : BindOk d9 := ⟨fun _ => fun _ _ _ _ _ _ us hl => match us, hl with | [_, _], _ => rfl, fun h => absurd rfl h, fun m hm => nomatch hm⟩
theorem b10 : BindOk d10 := ⟨fun _ => fun _ _ _ _ _ _ us hl => match us, hl with | [_, _], _ => rfl, fun h => absurd rfl h, fun m hm => nomatch hm⟩
theorem b11 : BindOk d11 := ⟨fun _ => fun _ _ _ _ _ _ us hl => match us, hl with | [_, _], _ => rfl, fun h => absurd rfl h, fun m hm => nomatch hm⟩
theorem b12 : BindOk d12 := ⟨fun _ => fun _ _ _ _ _ _ us hl => match us, hl with | [_, _], _ => rfl, fun h => absurd rfl h, fun m hm => nomatch hm⟩
theorem b13 : BindOk d13 := ⟨fun _ => fun _ _ _ _ _ _ us hl => match us, hl with | [_, _], _ => rfl, fun h => absurd rfl h, fun m hm => nomatch hm⟩
theorem b14 : BindOk d14 := ⟨fun _ => fun _ _ _ _ _ _ us hl => match us, hl with | [_], _ => rfl, fun h => absurd rfl h, fun m hm => nomatch hm⟩
theorem b15 : BindOk d15 := ⟨fun _ => fun _ _ _ _ _ _ us hl => match us, hl with | [_], _ => rfl, fun h => absurd rfl h, fun m hm => nomatch hm⟩
theorem b16 : BindOk d16 := ⟨fun _ => fun _ _ _ _ _ _ us hl => match us, hl with | [_], _ => rfl, fun h => absurd rfl h, fun m hm => nomatch hm⟩
theorem b17 : BindOk d17 := ⟨fun _ => fun _ _ _ _ _ _ us hl => match us, hl with | [_], _ => rfl, fun h => absurd rfl h, fun m hm => nomatch hm⟩
theorem b18 : BindOk d18 := ⟨fun _ => fun _ _ _ _ _ _ us hl => match us, hl with | [_], _ => rfl, fun h => absurd rfl h, fun m hm => nomatch hm⟩
theorem b19 : BindOk d19 := ⟨fun _ => fun _ _ _ _ _ _ us hl => match us, hl with | [_], _ => rfl, fun h => absurd rfl h, fun m hm => nomatch hm⟩
theorem b20 : BindOk d20 := ⟨fun _ => fun _ _ _ _ _ _ us hl => match us, hl with | [_], _ => rfl, fun h => absurd rfl h, fun m hm => nomatch hm⟩
theorem b21 : BindOk d21 := ⟨fun _ => fun _ _ _ _ _ _ us hl => match us, hl with | [_], _ => rfl, fun h => absurd rfl h, fun m hm => nomatch hm⟩
theorem bAll : ∀ d ∈ D, BindOk d := by
  exact (List.forall_mem_cons.mpr ⟨b0, (List.forall_mem_cons.mpr ⟨b1, (List.forall_mem_cons.mpr ⟨b2, (List.forall_mem_cons.mpr ⟨b3, (List.forall_mem_cons.mpr ⟨b4, (List.forall_mem_cons.mpr ⟨b5, (List.forall_mem_cons.mpr ⟨b6, (List.forall_mem_cons.mpr ⟨b7, (List.forall_mem_cons.mpr ⟨b8, (List.forall_mem_cons.mpr ⟨b9, (List.forall_mem_cons.mpr ⟨b10, (List.forall_mem_cons.mpr ⟨b11, (List.forall_mem_cons.mpr ⟨b12, (List.forall_mem_cons.mpr ⟨b13, (List.forall_mem_cons.mpr ⟨b14, (List.forall_mem_cons.mpr ⟨b15, (List.forall_mem_cons.mpr ⟨b16, (List.forall_mem_cons.mpr ⟨b17, (List.forall_mem_cons.mpr ⟨b18, (List.forall_mem_cons.mpr ⟨b19, (List.forall_mem_cons.mpr ⟨b20, (List.forall_mem_cons.mpr ⟨b21, (List.forall_mem_nil _)⟩)⟩)⟩)⟩)⟩)⟩)⟩)⟩)⟩)⟩)⟩)⟩)⟩)⟩)⟩)⟩)⟩)⟩)⟩)⟩)⟩)⟩)
def xd0 : XD := xx "InvalidNumber" "given" "self" "given"
theorem bx0 : BindN xd0.toDD := fun _ _ _ _ _ _ us hl => match us, hl with | [_, _], _ => rfl
def xd1 : XD := xx "InvalidName" "given" "self" "given"
theorem bx1 : BindN xd1.toDD := fun _ _ _ _ _ _ us hl => match us, hl with | [_, _], _ => rfl
def T : Top := ⟨["abs", "all", "bool", "divmod", "int", "isinstance", "len", "max", "min", "range", "repr", "str", "tuple", "zip"], [("MOST", .int (999999999)), ("KINDS", .tup [.str "closure", .str "pair", .str "box"])], [], [], [xd0, xd1]⟩
theorem bxAll : ∀ x ∈ T.xis, BindN x.toDD := by
  exact (List.forall_mem_cons.mpr ⟨bx0, (List.forall_mem_cons.mpr ⟨bx1, (List.forall_mem_nil _)⟩)⟩)
end Fx.Law

namespace Fx.Law
open PySem PySem.Spec PyProof.Rows L2
abbrev fns : List He.DefD := fnsOf D T
abbrev fas : List He.Fa := faOf D T
def loose : List Str := (pw.main.scope.names.map (·.1)).filter fun x => !(x == ("law" : Str))
abbrev Rw : PySem.W.OpenRow := PySem.W.OpenLaw.row PySem.Challenge.rw_formstead_k42_words_there_and_back
abbrev hk : PySem.W.Hook := hookT 4 fas fns T D
def ob (s : PySem.W.SharedT) : TopA := obsTG 4 fas fns T D (HandSHeadRun.getT s)
theorem ob_eq (s : PySem.W.SharedT) : ob s = hk.obs s.abs := obsTG_eq (HandSHeadRun.getT_eq s)
def lawAt : Nat := pw.main.body.length - 1
/-- a world with this answer at one row: a dict with text keys at the top asks it -/
def setF (w : World) (b : Bool) : World := ⟨w.draws, { w.params with followText := fun row => if row = "special-get-raises" then b else w.params.followText row }⟩
theorem setF_eq (w : World) : setF w (w.params.followText "special-get-raises") = w := by
  have : (fun row => if row = "special-get-raises" then w.params.followText "special-get-raises" else w.params.followText row) = w.params.followText := by
    funext row
    by_cases h : row = "special-get-raises"
    · rw [if_pos h, h]
    · rw [if_neg h]
  show (⟨w.draws, { w.params with followText := fun row => if row = "special-get-raises" then w.params.followText "special-get-raises" else w.params.followText row }⟩ : World) = w
  rw [this]
theorem runs_t (w : World) : HandSHeadRun.RunEq Rw (PySem.W.view Rw.prog [lawAt]) hk ob 4000 loose (setF w true) := by
  intro os
  kernel_rfl
theorem runs_f (w : World) : HandSHeadRun.RunEq Rw (PySem.W.view Rw.prog [lawAt]) hk ob 4000 loose (setF w false) := by
  intro os
  kernel_rfl
theorem runs (w : World) : HandSHeadRun.RunEq Rw (PySem.W.view Rw.prog [lawAt]) hk ob 4000 loose w := by
  rw [← setF_eq w]
  cases w.params.followText "special-get-raises" with
  | true => exact runs_t w
  | false => exact runs_f w
end Fx.Law

namespace Fx
open PySem PySem.Spec PyProof.Rows L2
inductive Bf where
  | len | tuple | list | int | abs | sum | max | min | all | any | divmod | sorted | repr | str
  deriving DecidableEq, Repr
inductive Ty where
  | int | bool | tuple | list | str | none_
  deriving DecidableEq, Repr
mutual
inductive Hx where
  | con (v : Val) | fld (f : String) | tup (hs : Hxs) | rep (f : String) | isc (yes no : List String) | not (h : Hx) | and (a b : Hx)
inductive Hxs where
  | nil | cons (h : Hx) (hs : Hxs)
end
/-- a clause: the classes that it takes, those that it lets pass, the fields that may be read of them, what it gives -/
structure Hd where
  yes : List String
  no : List String
  fl : List (String × String)
  h : Hx
mutual
inductive E where
  | var (i : Nat) | own (i : Nat) | con (v : Val)
  | tup (es : Es) | lst (es : Es)
  | bin (op : Operator) (a b : E) | neg (a : E)
  | cmp (op : CmpOp) (a b : E) | cmp2 (op op2 : CmpOp) (a b c : E)
  | not (a : E) | and (a b : E) | or (a b : E) | ite (c a b : E)
  | idx (a i : E) | slice (a : E) (bl : Bool) (lo : E) (bh : Bool) (hi : E)
  | call (f : String) (es : Es) | bcall (f : Bf) (es : Es) | isi (a : E) (t : Ty)
  | comp (ws : List Nat) (t : Tg) (it : Itx) (c : E) (e : E)
  | heap (e : E)
  | dnew | dcon (ks : List Key) (vs : List Val) | zipL (es : Es)
  | dsub (ks : List Key) (vs : List Val) (i : E) | lindex (a b : E) | tindex (a b : E) | tupS (es : Es) (e : E) | popR (o i : E) | rngL (a : E) | rngT (a : E)
  | compL (ws : List Nat) (t : Tg) (j : Nat) (c e : E)
  | dcomp (ws : List Nat) (t : Tg) (it : Itx) (k e : E)
  | lam (ts : List Str) (pre : List Val) (one : Bool) (hs : List Hd) (c : E)
  | din (ks : List Key) (vs : List Val) (neg : Bool) (a : E) | lenSet (a : E) | dval | sliceR (a : E) (bh : Bool) (hi st : E)
  | stop
inductive Es where
  | nil | cons (e : E) (es : Es)
inductive Itx where
  | of (e : E) | rng1 (a : E) | rng2 (a b : E) | zip (a b : E) | enum (a : E) | rev (a : E)
inductive Tg where
  | name (i : Nat) | tup (ts : Tgs)
inductive Tgs where
  | nil | cons (t : Tg) (ts : Tgs)
end
abbrev Calls := String → List Val → Heap → R Val
/-- a list of the heap, as it reads now -/
def rd (G : Heap) : Val → Val
  | .ref n => match G[n]? with
    | some (.lst xs) => .lst xs
    | some (.dct ks vs) => .dct ks vs
    | _ => .ref n
  | v => v
def truthV : Val → Option Bool
  | .none => some false
  | .bool b => some b
  | .int i => some (i != 0)
  | .str s => if s.length ≤ 16777216 then some ((s.length : Int) != 0) else none
  | .tup xs => some (!xs.isEmpty)
  | .lst xs => some (!xs.isEmpty)
  | .frz xs => some (!xs.isEmpty)
  | .ref _ => none
  | .dct _ _ => none
  | .txt _ => none
mutual
def toD : Val → Option PyData
  | .none => some .none
  | .bool b => some (.bool b)
  | .int i => some (.int i)
  | .str s => some (.str (Str.ofString s))
  | .tup xs => (toDs xs).map .tuple
  | .lst xs => (toDs xs).map .list
  | .frz xs => (toDs xs).map .list
  | .ref _ => none
  | .dct _ _ => none
  | .txt t => some (.str t)
def toDs : List Val → Option (List PyData)
  | [] => some []
  | x :: xs => (toD x).bind fun d => (toDs xs).map fun ds => d :: ds
end
def eqK0 (x y : Val) : Option Bool := match toD x, toD y with
  | some d, some e => if SeqAt.shaped d && SeqAt.shaped e then some (PyData.eqv d e) else none
  | _, _ => none
def eqK (x y : Val) : Option Bool := match x, y with
  | .txt a, .txt b => some (decide (a = b))
  | _, _ => eqK0 x y
mutual
/-- data, {} among it -/
def toR : Val → Option PyData
  | .none => some .none
  | .bool b => some (.bool b)
  | .int i => some (.int i)
  | .str s => some (.str (Str.ofString s))
  | .tup xs => (toRs xs).map .tuple
  | .lst xs => (toRs xs).map .list
  | .frz xs => (toRs xs).map .list
  | .ref _ => none
  | .dct ks vs => if ks.isEmpty && vs.isEmpty then some (.dict []) else none
  | .txt t => some (.str t)
def toRs : List Val → Option (List PyData)
  | [] => some []
  | x :: xs => (toR x).bind fun d => (toRs xs).map fun ds => d :: ds
end
/-- what repr tells of data -/
def reprV (x : Val) : Option Val := (toR x).bind fun d => if d.showable = true ∧ d.depth ≤ 100 ∧ d.shown.length ≤ 16777216 then some (.txt d.shown) else none
def isFlat : Val → Bool
  | .none | .bool _ | .int _ | .str _ => true
  | _ => false
/-- == of flat values -/
def eqF : Val → Val → Bool
  | .none, .none => true
  | .bool a, .bool b => a == b
  | .bool a, .int j => (if a then 1 else 0) == j
  | .int i, .bool b => i == (if b then 1 else 0)
  | .int i, .int j => i == j
  | .str a, .str b => a == b
  | _, _ => false
/-- .. of data -/
def inD (x : Val) (ys : List Val) : Option Bool := match toD x, toDs ys with
  | some d, some ds => if SeqAt.shaped d && SeqAt.shaped (.list ds) then some (ds.any fun z => PyData.eqv z d) else none
  | _, _ => none
def inK (x : Val) (ys : List Val) : Option Bool := if isFlat x && ys.all isFlat then some (ys.any fun y => eqF y x) else inD x ys
def keyOf : Val → Option Key
  | .int i => some (.inl i)
  | .str s => some (.inr (Str.ofString s))
  | _ => none
def dLook : List Key → List Val → Key → Option Val
  | k :: ks, v :: vs, j => if k = j then some v else dLook ks vs j
  | _, _, _ => none
def dPutV : List Key → List Val → Key → Val → List Val
  | k :: ks, v :: vs, j, y => (if k = j then y else v) :: dPutV ks vs j y
  | _, _, _, _ => []
def dPut (ks : List Key) (vs : List Val) (j : Key) (y : Val) : List Key × List Val := if (dLook ks vs j).isSome then (ks, dPutV ks vs j y) else (ks ++ [j], vs ++ [y])
def intKeys? : List Key → Option (List Int)
  | [] => some []
  | .inl i :: ks => (intKeys? ks).map (i :: ·)
  | _ :: _ => none
def sortI (ns : List Int) : List Int := ns.mergeSort fun a b => decide (a ≤ b)
def isNone : Val → Bool
  | .none => true
  | _ => false
/-- a text within a text -/
def inS (x : Val) (t : String) : Option Bool := match x with
  | .str s => some (!(Builtin.Str.occurrences (Str.ofString t) (Str.ofString s) 0 (Str.ofString t).length 1).isEmpty)
  | _ => none
/-- no empty tuple, whatever it holds -/
def neT0 : Val → Val → Option Bool
  | .tup (_ :: _), .tup [] => some true
  | .lst _, .tup [] => some true
  | .dct [] [], .tup [] => some true
  | _, _ => none
def neK (x y : Val) : Option Bool := match neT0 x y with
  | some b => some b
  | none => (eqK x y).map (!·)
/-- a text is no {} -/
def eqK2 (x y : Val) : Option Bool := match y with
  | .dct [] [] => (match x with | .str _ => some false | _ => eqK x y)
  | .str _ => (match x with | .dct [] [] => some false | .tup _ => some false | .lst _ => some false | _ => eqK x y)
  | .tup _ => (match x with | .str _ => some false | _ => eqK x y)
  | .lst _ => (match x with | .str _ => some false | _ => eqK x y)
  | _ => eqK x y
def isStrV : Val → Bool
  | .str _ => true
  | _ => false
/-- .. of a tuple; {} is none of some texts -/
def inT (x : Val) (ys : List Val) : Option Bool := match x with
  | .dct [] [] => if ys.all isStrV then some false else inK x ys
  | .tup _ => if ys.all isStrV then some false else inK x ys
  | .lst _ => if ys.all isStrV then some false else inK x ys
  | _ => inK x ys
def cmpK (op : CmpOp) (x y : Val) : Option Bool := match op with
  | .Eq => eqK2 x y
  | .NotEq => neK x y
  | .Lt => match x, y with | .int a, .int b => some (decide (a < b)) | _, _ => none
  | .LtE => match x, y with | .int a, .int b => some (decide (a ≤ b)) | _, _ => none
  | .Gt => match x, y with | .int a, .int b => some (decide (b < a)) | _, _ => none
  | .GtE => match x, y with | .int a, .int b => some (decide (b ≤ a)) | _, _ => none
  | .Is => match y with | .none => some (isNone x) | .bool b => (match x with | .bool a => some (decide (a = b)) | _ => none) | _ => none
  | .IsNot => match y with | .none => some (!isNone x) | _ => none
  | .In => match y with | .str t => inS x t | .tup ys => inT x ys | .lst ys => inK x ys | .frz ys => inK x ys | .dct ks vs => (keyOf x).map fun k => (dLook ks vs k).isSome | _ => none
  | .NotIn => match y with | .str t => (inS x t).map (!·) | .tup ys => (inK x ys).map (!·) | .lst ys => (inK x ys).map (!·) | .frz ys => (inK x ys).map (!·) | .dct ks vs => (keyOf x).map fun k => !(dLook ks vs k).isSome | _ => none
def lineN : Nat := 16777216
def p64 : Int := 18446744073709551616
def binK (op : Operator) (x y : Val) : Option Val := match op with
  | .Add => match x, y with
    | .int a, .int b => some (.int (a + b))
    | .tup a, .tup b => if a.length + b.length ≤ lineN then some (.tup (a ++ b)) else none
    | .str a, .str b => if a.length + b.length ≤ lineN then some (.str (a ++ b)) else none
    | .lst a, .lst b => if a.length + b.length ≤ lineN then some (.lst (a ++ b)) else none
    | _, _ => none
  | .Sub => match x, y with | .int a, .int b => some (.int (a - b)) | _, _ => none
  | .Mult => match x, y with
    | .int a, .int b => if (-p64 < a ∧ a < p64) ∨ (-p64 < b ∧ b < p64) then some (.int (a * b)) else none
    | .lst a, .int k => if -9223372036854775808 ≤ k ∧ k < 9223372036854775808 ∧ a.length * k.toNat ≤ lineN then some (.lst (List.replicate k.toNat a).flatten) else none
    | .tup a, .int k => if a.isEmpty = true then (if -9223372036854775808 ≤ k ∧ k < 9223372036854775808 then some (.tup []) else none) else if k = 1 then some (.tup a) else if 2 ≤ k ∧ k ≤ 1000 ∧ a.length ≤ 1000 then some (.tup (List.replicate k.toNat a).flatten) else none
    | _, _ => none
  | .FloorDiv => match x, y with | .int a, .int b => if 0 < b ∧ b < p64 then some (.int (a / b)) else none | _, _ => none
  | .Mod => match x, y with | .int a, .int b => if 0 < b then some (.int (a % b)) else none | _, _ => none
  | .Pow => match x, y with | .int a, .int b => if 0 ≤ b ∧ b ≤ 1000000 ∧ (-p64 < a ∧ a < p64) then some (.int (a ^ b.toNat)) else none | _, _ => none
  | _ => none
def cutL {α : Type} (xs : List α) (lo hi : Option Int) : List α := (xs.drop (HT.sIx xs.length 0 lo)).take (HT.sIx xs.length xs.length hi - HT.sIx xs.length 0 lo)
def idxK (x i : Val) : Option Val := match x, i with
  | .tup xs, .int k => atI xs k
  | .lst xs, .int k => atI xs k
  | .frz xs, .int k => atI xs k
  | .str s, .int k => if s.length ≤ lineN then (atI s.toList k).map fun c => .str (String.ofList [c]) else none
  | .dct ks vs, x => (keyOf x).bind (dLook ks vs)
  | _, _ => none
/-- a slice's part: written, or left out -/
def ixO : Bool → Val → Option (Option Int)
  | false, _ => some none
  | true, .int i => some (some i)
  | true, _ => none
def sliceV (x : Val) (l h : Option Int) : Option Val := match x with
  | .tup xs => some (.tup (cutL xs l h))
  | .lst xs => some (.lst (cutL xs l h))
  | .frz xs => some (.lst (cutL xs l h))
  | .str s => if s.length ≤ lineN then some (.str (String.ofList (cutL s.toList l h))) else none
  | _ => none
def ints? : List Val → Option (List Int)
  | [] => some []
  | .int i :: r => (ints? r).map (i :: ·)
  | _ :: _ => none
def bools? : List Val → Option (List Bool)
  | [] => some []
  | .bool b :: r => (bools? r).map (b :: ·)
  | _ :: _ => none
def seq? : Val → Option (List Val)
  | .tup xs => some xs
  | .lst xs => some xs
  | .frz xs => some xs
  | _ => none
/-- the signs of a text, one by one -/
def signs (s : String) : List Val := s.toList.map fun c => .str (String.ofList [c])
/-- what a loop goes over -/
def seqI? : Val → Option (List Val)
  | .str s => some (signs s)
  | v => seq? v
def seqE? : Val → Option (List Val)
  | .tup xs => some xs
  | .lst xs => some xs
  | _ => none
def maxL : List Int → Int
  | [] => 0
  | [x] => x
  | x :: r => max x (maxL r)
def minL : List Int → Int
  | [] => 0
  | [x] => x
  | x :: r => min x (minL r)
/-- a pair of ints; pairs sorted, by the first, then by the second -/
def pV (e : Int × Int) : Val := .tup [.int e.1, .int e.2]
def prs? : List Val → Option (List (Int × Int))
  | [] => some []
  | .tup [.int i, .int j] :: xs => (prs? xs).map fun ps => (i, j) :: ps
  | _ => none
def leP (a b : Int × Int) : Bool := decide (a.1 < b.1 ∨ (a.1 = b.1 ∧ a.2 ≤ b.2))
def sortP (ps : List (Int × Int)) : List (Int × Int) := ps.mergeSort leP
def sortL (xs : List Val) : Option Val := match ints? xs with
  | some ns => some (.lst ((sortI ns).map .int))
  | none => (prs? xs).map fun ps => .lst ((sortP ps).map pV)
def bfK (f : Bf) (vs : List Val) : Option Val := match f, vs with
  | .tuple, [.dct ks _] => (intKeys? ks).map fun ns => .tup (ns.map .int)
  | .len, [.dct ks _] => some (.int ks.length)
  | .len, [.str s] => if s.length ≤ lineN then some (.int s.length) else none
  | .len, [x] => (seq? x).map fun xs => .int xs.length
  | .tuple, [x] => (seq? x).map .tup
  | .list, [x] => (seq? x).map .lst
  | .int, [.int i] => some (.int i)
  | .int, [.bool b] => some (.int (if b then 1 else 0))
  | .abs, [.int i] => some (.int (if i < 0 then -i else i))
  | .sum, [.lst xs] => (ints? xs).map fun ns => .int ns.sum
  | .sum, [.tup xs] => (ints? xs).map fun ns => .int ns.sum
  | .max, [.int i, .int j] => some (.int (if j > i then j else i))
  | .min, [.int i, .int j] => some (.int (if j < i then j else i))
  | .max, [.lst xs] => if xs.isEmpty then none else (ints? xs).map fun ns => .int (maxL ns)
  | .min, [.lst xs] => if xs.isEmpty then none else (ints? xs).map fun ns => .int (minL ns)
  | .all, [.lst xs] => (bools? xs).map fun bs => .bool (bs.all id)
  | .any, [.lst xs] => (bools? xs).map fun bs => .bool (bs.any id)
  | .sorted, [.lst xs] => sortL xs
  | .sorted, [.tup xs] => (ints? xs).map fun ns => .lst ((sortI ns).map .int)
  | .sorted, [.dct ks _] => if ks.length ≤ 1000000 then (intKeys? ks).map fun ns => .lst ((sortI ns).map .int) else none
  | .repr, [x] => reprV x
  | .str, [.int i] => if -p64 < i ∧ i < p64 then some (.str (toString i)) else none
  | .divmod, [.int a, .int b] => if 0 < b ∧ b < p64 then some (.tup [.int (a / b), .int (a % b)]) else none
  | _, _ => none
def isK (t : Ty) (x : Val) : Bool := match t, x with
  | .int, .int _ => true
  | .int, .bool _ => true
  | .bool, .bool _ => true
  | .tuple, .tup _ => true
  | .list, .lst _ => true
  | .list, .frz _ => true
  | .str, .str _ => true
  | .str, .txt _ => true
  | .none_, .none => true
  | _, _ => false
def Val.isRef : Val → Bool
  | .ref _ => true
  | _ => false
def isO (t : Ty) (x : Val) : Option Val := if x.isRef then none else some (.bool (isK t x))
def rangeV (lo : Int) : Nat → List Val
  | 0 => []
  | n + 1 => .int lo :: rangeV (lo + 1) n
def zipV : List Val → List Val → List Val
  | x :: xs, y :: ys => .tup [x, y] :: zipV xs ys
  | _, _ => []
/-- list(zip(a, b)) of two tuples -/
def zipLV : List Val → Option Val
  | [.tup xs, .tup ys] => some (.lst (zipV xs ys))
  | _ => none
def enumV (k : Int) : List Val → List Val
  | [] => []
  | x :: xs => .tup [.int k, x] :: enumV (k + 1) xs
def p62 : Int := 4611686018427387904
/-- the items of a range; the check is not to be run by the kernel -/
noncomputable def rngK (lo hi : Int) : Option (List Val) := @ite _ (-p62 ≤ lo ∧ lo < p62 ∧ -p62 ≤ hi ∧ hi < p62) (Classical.propDecidable _) (some (rangeV lo (hi - lo).toNat)) none
mutual
/-- what a target does with a value -/
def setT : Tg → Val → Store → Option Store
  | .name i, v, s => some (s.set i (.val v))
  | .tup ts, .tup xs, s => setTs ts xs s
  | .tup _, _, _ => none
def setTs : Tgs → List Val → Store → Option Store
  | .nil, [], s => some s
  | .cons t ts, x :: xs, s => (setT t x s).bind fun s' => setTs ts xs s'
  | .nil, _ :: _, _ => none
  | .cons _ _, [], _ => none
end
def wipeS (s : Store) : List Nat → Store
  | [] => s
  | v :: vs => (wipeS s vs).set v .no
/-- the elements of a comprehension, one after another -/
def compR (tg : Val → Store → Option Store) (c e : Store → Heap → R Val) : List Val → Store → Heap → R (List Val)
  | [], _, G => .ok [] G
  | x :: xs, s, G => (R.opt (tg x s) G).bind fun s1 G1 => (c s1 G1).bind fun cv G2 => (R.opt (truthV (rd G2 cv)) G2).bind fun b G3 =>
    if b then (e s1 G3).bind fun v G4 => (compR tg c e xs s G4).bind fun vs G5 => .ok (v :: vs) G5
    else compR tg c e xs s G3
/-- is a list -/
def isL : Val → Option Bool
  | .lst _ => some true
  | _ => none
/-- the place of a value in a list of flat ones -/
def lidxV (x y : Val) : Option Val := match x with
  | .lst xs => if isFlat y && xs.all isFlat then (xs.findIdx? fun z => eqF z y).map fun j => .int j else none
  | _ => none
def strsOf : List Val → Option (List String)
  | [] => some []
  | .str s :: r => (strsOf r).map (s :: ·)
  | _ => none
/-- the place of a text in a tuple of texts -/
def tidxV (x y : Val) : Option Val := match x, y with
  | .tup xs, .str t => (strsOf xs).bind fun ys => (ys.findIdx? fun z => z == t).map fun j => .int j
  | _, _ => none
def isT : Val → Option Bool
  | .tup _ => some true
  | _ => none
/-- (a, .., *xs) -/
def starV (vs : List Val) (x : Val) : Option Val := match x with
  | .tup xs => if vs.length + xs.length ≤ lineN then some (.tup (vs ++ xs)) else none
  | .lst xs => if vs.length + xs.length ≤ lineN then some (.tup (vs ++ xs)) else none
  | _ => none
/-- l.pop(i), l a list of the heap -/
def popAt (x y : Val) (G : Heap) : Option (Val × Heap) := match x, y with
  | .ref n, .int k => match G[n]? with
    | some (.lst xs) => if xs.length ≤ lineN then (ixN xs.length k).bind fun j => xs[j]?.map fun v => (v, G.set n (.lst (xs.eraseIdx j))) else none
    | _ => none
  | _, _ => none
/-- list(range(n)) -/
noncomputable def rngLV (x : Val) : Option Val := match x with
  | .int n => (rngK 0 n).bind fun xs => if xs.length ≤ lineN then some (.lst xs) else none
  | _ => none
/-- t[:h:-1] -/
def revV (x : Val) (h t : Option Int) : Option Val := match x with
  | .tup xs => if t = some (-1) then (match h with
    | none => some (.tup xs.reverse)
    | some j => if 0 ≤ j then some (.tup (xs.drop (j.toNat + 1)).reverse) else none) else none
  | _ => none
/-- how many unlike ones -/
def distinct : List Int → Nat
  | [] => 0
  | x :: r => (if x ∈ r then 0 else 1) + distinct r
/-- len(set(x)), x a tuple of ints -/
def lenSetV (x : Val) : Option Val := match x with
  | .tup xs => (ints? xs).bind fun ns => if ns.length < 64 then some (.int (distinct ns)) else none
  | _ => none
/-- tuple(range(n)) -/
noncomputable def rngTV (x : Val) : Option Val := match x with
  | .int n => (rngK 0 n).bind fun xs => if xs.length ≤ lineN then some (.tup xs) else none
  | _ => none
/-- the list of the heap that a name holds -/
def refAt (s : Store) (j : Nat) (G : Heap) : Option (Nat × List Val) := match s.getD j .no with
  | .val (.ref n) => match G[n]? with
    | some (.lst xs) => some (n, xs)
    | _ => none
  | _ => none
open Classical in
/-- the elements of a comprehension over a list of the heap, that stays what it is -/
noncomputable def compW (n : Nat) (ys : List Val) (tg : Val → Store → Option Store) (c e : Store → Heap → R Val) : List Val → Store → Heap → R (List Val)
  | [], _, G => if G[n]? = some (.lst ys) then .ok [] G else .no
  | x :: xs, s, G => if G[n]? = some (.lst ys) then (R.opt (tg x s) G).bind fun s1 G1 => (c s1 G1).bind fun cv G2 => (R.opt (truthV (rd G2 cv)) G2).bind fun b G3 =>
    if b then (e s1 G3).bind fun v G4 => (compW n ys tg c e xs s G4).bind fun vs G5 => .ok (v :: vs) G5
    else compW n ys tg c e xs s G3
    else .no
/-- a dict of the heap, one item put -/
def dputR (n : Nat) (i v : Val) (G : Heap) : Option Heap := match G[n]? with
  | some (.dct ks vs) => if ks.length < lineN then (keyOf i).map fun k => G.set n (.dct (dPut ks vs k v).1 (dPut ks vs k v).2) else none
  | _ => none
/-- the items of a dict comprehension, one after another -/
def dcompR (n : Nat) (tg : Val → Store → Option Store) (k e : Store → Heap → R Val) : List Val → Store → Heap → R Unit
  | [], _, G => .ok () G
  | x :: xs, s, G => (R.opt (tg x s) G).bind fun s1 G1 => (k s1 G1).bind fun kv G2 => (e s1 G2).bind fun v G3 => (R.opt (dputR n kv v G3) G3).bind fun G4 _ => dcompR n tg k e xs s G4
mutual
def evH (fl : List (String × String)) (e : Exc) : Hx → Option Val
  | .con v => some v
  | .fld f => match e.arg with
    | some (g, v) => if g = f ∧ fl.contains (e.cls, f) = true then some v else none
    | none => none
  | .tup hs => (evHs fl e hs).map .tup
  | .rep f => match e.arg with
    | some (g, v) => if g = f ∧ fl.contains (e.cls, f) = true then reprV v else none
    | none => none
  | .isc yes no => if yes.contains e.cls = true then some (.bool true) else if no.contains e.cls = true then some (.bool false) else none
  | .not h => match evH fl e h with
    | some (.bool b) => some (.bool (!b))
    | _ => none
  | .and a b => match evH fl e a with
    | some (.bool true) => evH fl e b
    | some (.bool false) => some (.bool false)
    | _ => none
def evHs (fl : List (String × String)) (e : Exc) : Hxs → Option (List Val)
  | .nil => some []
  | .cons h hs => (evH fl e h).bind fun v => (evHs fl e hs).map (v :: ·)
end
/-- the clauses, one after the other -/
def hsR (e : Exc) (G : Heap) : List Hd → R Val
  | [] => .no
  | h :: hs => if h.yes.contains e.cls = true then R.opt (evH h.fl e h.h) G else if h.no.contains e.cls = true then hsR e G hs else .no
def tabsAt : List Str → Heap → Bool
  | [], _ => true
  | t :: ts, .tab f :: G => decide (f = t) && tabsAt ts G
  | _ :: _, _ => false
/-- f(lambda: ..), f being: try: return (.., its call) except .. -/
def lamR (pre : List Val) (one : Bool) (hs : List Hd) (r : R Val) : R Val := match r with
  | .no => .no
  | .ok v G => .ok (if one = true then v else .tup (pre ++ [v])) G
  | .exc e G => hsR e G hs
/-- exceptions do not leave a comprehension -/
def R.calm {α : Type} : R α → R α
  | .exc _ _ => .no
  | r => r
noncomputable section
mutual
def evE (Γ : Calls) : E → Store → Heap → R Val
  | .var i, s, G => match s.getD i .no with
    | .val v => .ok v G
    | _ => .no
  | .own i, s, G => match s.getD i .no with
    | .own xs => .ok (.lst xs) G
    | .frz xs => .ok (.lst xs) G
    | _ => .no
  | .con v, _, G => .ok v G
  | .tup es, s, G => (evEs Γ es s G).bind fun vs G1 => .ok (.tup vs) G1
  | .lst es, s, G => (evEs Γ es s G).bind fun vs G1 => .ok (.lst vs) G1
  | .bin op a b, s, G => (evE Γ a s G).bind fun x G1 => (evE Γ b s G1).bind fun y G2 => R.opt (binK op (rd G2 x) (rd G2 y)) G2
  | .neg a, s, G => (evE Γ a s G).bind fun x G1 => match x with
    | .int i => .ok (.int (-i)) G1
    | _ => .no
  | .cmp op a b, s, G => (evE Γ a s G).bind fun x G1 => (evE Γ b s G1).bind fun y G2 => R.opt ((cmpK op (rd G2 x) (rd G2 y)).map .bool) G2
  | .cmp2 op op2 a b c, s, G => (evE Γ a s G).bind fun x G1 => (evE Γ b s G1).bind fun y G2 => (R.opt (cmpK op (rd G2 x) (rd G2 y)) G2).bind fun k G3 =>
    if k then (evE Γ c s G3).bind fun z G4 => R.opt ((cmpK op2 (rd G4 y) (rd G4 z)).map .bool) G4 else .ok (.bool false) G3
  | .not a, s, G => (evE Γ a s G).bind fun x G1 => R.opt ((truthV (rd G1 x)).map fun b => .bool (!b)) G1
  | .and a b, s, G => (evE Γ a s G).bind fun x G1 => (R.opt (truthV (rd G1 x)) G1).bind fun k G2 => if k then evE Γ b s G2 else .ok x G2
  | .or a b, s, G => (evE Γ a s G).bind fun x G1 => (R.opt (truthV (rd G1 x)) G1).bind fun k G2 => if k then .ok x G2 else evE Γ b s G2
  | .ite c a b, s, G => (evE Γ c s G).bind fun x G1 => (R.opt (truthV (rd G1 x)) G1).bind fun k G2 => if k then evE Γ a s G2 else evE Γ b s G2
  | .idx a i, s, G => (evE Γ a s G).bind fun x G1 => (evE Γ i s G1).bind fun y G2 => R.opt (idxK (rd G2 x) y) G2
  | .slice a bl lo bh hi, s, G => (evE Γ a s G).bind fun x G1 => ((evE Γ lo s G1).bind fun y G2 => R.opt (ixO bl y) G2).bind fun l G2 => ((evE Γ hi s G2).bind fun z G3 => R.opt (ixO bh z) G3).bind fun h G3 => R.opt (sliceV (rd G3 x) l h) G3
  | .call f es, s, G => (evEs Γ es s G).bind fun vs G1 => Γ f vs G1
  | .bcall f es, s, G => (evEs Γ es s G).bind fun vs G1 => R.opt (bfK f (vs.map (rd G1))) G1
  | .isi a t, s, G => (evE Γ a s G).bind fun x G1 => R.opt (isO t (rd G1 x)) G1
  | .comp ws t it c e, s, G => (evI Γ it s G).bind fun xs G1 => if lineN < xs.length then .no else ((compR (setT t) (evE Γ c) (evE Γ e) xs (wipeS s ws) G1).bind fun vs G2 => .ok (.lst vs) G2).calm
  | .heap e, s, G => (evE Γ e s G).bind fun v G1 => match v with
    | .lst xs => .ok (.ref G1.length) (G1 ++ [.lst xs])
    | _ => .no
  | .dnew, _, G => .ok (.ref G.length) (G ++ [.dct [] []])
  | .dval, _, G => .ok (.dct [] []) G
  | .dcon ks vs, _, G => .ok (.ref G.length) (G ++ [.dct ks vs])
  | .zipL es, s, G => (evEs Γ es s G).bind fun vs G1 => R.opt (zipLV vs) G1
  | .dsub ks vs i, s, G => (evE Γ i s G).bind fun y G1 => R.opt ((keyOf y).bind (dLook ks vs)) G1
  | .lindex a b, s, G => (evE Γ a s G).bind fun x G1 => (R.opt (isL (rd G1 x)) G1).bind fun _ G1 => (evE Γ b s G1).bind fun y G2 => R.opt (lidxV (rd G2 x) y) G2
  | .tindex a b, s, G => (evE Γ a s G).bind fun x G1 => (R.opt (isT x) G1).bind fun _ G1 => (evE Γ b s G1).bind fun y G2 => R.opt (tidxV x y) G2
  | .tupS es e, s, G => (evEs Γ es s G).bind fun vs G1 => (evE Γ e s G1).bind fun x G2 => R.opt (starV vs x) G2
  | .popR o i, s, G => (evE Γ o s G).bind fun x G1 => (R.opt (isL (rd G1 x)) G1).bind fun _ G1 => (evE Γ i s G1).bind fun y G2 => (R.opt (popAt x y G2) G2).bind fun p _ => .ok p.1 p.2
  | .rngL a, s, G => (evE Γ a s G).bind fun x G1 => R.opt (rngLV x) G1
  | .rngT a, s, G => (evE Γ a s G).bind fun x G1 => R.opt (rngTV x) G1
  | .compL ws t j c e, s, G => match refAt s j G with
    | some (n, xs) => if lineN < xs.length then .no else ((compW n xs (setT t) (evE Γ c) (evE Γ e) xs (wipeS s ws) G).bind fun vs G2 => .ok (.lst vs) G2).calm
    | none => .no
  | .dcomp ws t it k e, s, G => (evI Γ it s G).bind fun xs G1 => if lineN < xs.length then .no else
      ((dcompR G1.length (setT t) (evE Γ k) (evE Γ e) xs (wipeS s ws) (G1 ++ [.dct [] []])).bind fun _ G2 => .ok (.ref G1.length) G2).calm
  | .lam ts pre one hs c, s, G => if tabsAt ts G = true then lamR pre one hs (evE Γ c s G) else .no
  | .din ks vs neg a, s, G => (evE Γ a s G).bind fun x G1 => R.opt ((keyOf x).map fun k => .bool (if neg then !(dLook ks vs k).isSome else (dLook ks vs k).isSome)) G1
  | .sliceR a bh hi st, s, G => (evE Γ a s G).bind fun x G1 => ((evE Γ hi s G1).bind fun z G2 => R.opt (ixO bh z) G2).bind fun h G2 => ((evE Γ st s G2).bind fun z G3 => R.opt (ixO true z) G3).bind fun t G3 => R.opt (revV (rd G3 x) h t) G3
  | .lenSet a, s, G => (evE Γ a s G).bind fun x G1 => R.opt (lenSetV x) G1
  | .stop, _, _ => .no
def evEs (Γ : Calls) : Es → Store → Heap → R (List Val)
  | .nil, _, G => .ok [] G
  | .cons e es, s, G => (evE Γ e s G).bind fun v G1 => (evEs Γ es s G1).bind fun vs G2 => .ok (v :: vs) G2
/-- the items of what is walked -/
def evI (Γ : Calls) : Itx → Store → Heap → R (List Val)
  | .of e, s, G => (evE Γ e s G).bind fun v G1 => R.opt (seqI? v) G1
  | .rng1 a, s, G => (evE Γ a s G).bind fun x G1 => match x with
    | .int n => R.opt (rngK 0 n) G1
    | _ => .no
  | .rng2 a b, s, G => (evE Γ a s G).bind fun x G1 => (evE Γ b s G1).bind fun y G2 => match x, y with
    | .int m, .int n => R.opt (rngK m n) G2
    | _, _ => .no
  | .zip a b, s, G => (evE Γ a s G).bind fun x G1 => (evE Γ b s G1).bind fun y G2 => match x, y with
    | .tup xs, .tup ys => .ok (zipV xs ys) G2
    | .lst xs, .lst ys => .ok (zipV xs ys) G2
    | .tup xs, .lst ys => .ok (zipV xs ys) G2
    | _, _ => .no
  | .enum a, s, G => (evE Γ a s G).bind fun x G1 => R.opt ((seqE? x).map (enumV 0)) G1
  | .rev a, s, G => (evE Γ a s G).bind fun x G1 => match x with
    | .tup xs => .ok xs.reverse G1
    | _ => .no
end
mutual
inductive S where
  | stop
  | exp (e : E) | ret (e : E) | retO (k : Nat) | retN | pass | brk | cont
  | asg (t : Tg) (e : E)
  | asgOwn (i : Nat) (e : E)
  | setR (o i e : E)
  | setO (k : Nat) (i e : E)
  | app (k : Nat) (e : E)
  | appR (o e : E)
  | popO (k : Nat)
  | popT (t : Tg) (k : Nat)
  | extO (k : Nat) (e : E)
  | aug (i : Nat) (op : Operator) (e : E)
  | par (rs : PTgs) (e : E)
  | ite (c : E) (a b : Ss)
  | for_ (t : Tg) (it : Itx) (b : Ss)
  | forO (t : Tg) (k : Nat) (b : Ss)
  | forL (t : Tg) (j : Nat) (b : Ss)
  | while_ (c : E) (b : Ss)
  | raise0 (cls : String) | raise1 (cls f : String) (e : E)
inductive Ss where
  | nil | cons (s : S) (ss : Ss)
inductive PTg where
  | name (i : Nat) | item (o i : E) | itemO (k : Nat) (i : E)
inductive PTgs where
  | nil | cons (t : PTg) (ts : PTgs)
end
inductive RS where
  | no
  | next (s : Store) (G : Heap)
  | ret (v : Val) (G : Heap)
  | brk (s : Store) (G : Heap)
  | cont (s : Store) (G : Heap)
  | exc (e : Exc) (s : Store) (G : Heap)
def R.thenS {α : Type} (m : R α) (s : Store) (f : α → Heap → RS) : RS := match m with
  | .no => .no
  | .ok a G => f a G
  | .exc e G => .exc e s G
@[simp] theorem R.thenS_ok {α : Type} (a : α) (G : Heap) (s : Store) (f : α → Heap → RS) : (R.ok a G).thenS s f = f a G := rfl
@[simp] theorem R.thenS_no {α : Type} (s : Store) (f : α → Heap → RS) : (R.no : R α).thenS s f = .no := rfl
@[simp] theorem R.thenS_exc {α : Type} (e : Exc) (G : Heap) (s : Store) (f : α → Heap → RS) : (R.exc e G : R α).thenS s f = .exc e s G := rfl
def RS.seq (m : RS) (f : Store → Heap → RS) : RS := match m with
  | .next s G => f s G
  | r => r
@[simp] theorem RS.seq_next (s : Store) (G : Heap) (f : Store → Heap → RS) : (RS.next s G).seq f = f s G := rfl
@[simp] theorem RS.seq_ret (v : Val) (G : Heap) (f : Store → Heap → RS) : (RS.ret v G).seq f = .ret v G := rfl
@[simp] theorem RS.seq_no (f : Store → Heap → RS) : RS.no.seq f = .no := rfl
@[simp] theorem RS.seq_brk (s : Store) (G : Heap) (f : Store → Heap → RS) : (RS.brk s G).seq f = .brk s G := rfl
@[simp] theorem RS.seq_cont (s : Store) (G : Heap) (f : Store → Heap → RS) : (RS.cont s G).seq f = .cont s G := rfl
@[simp] theorem RS.seq_exc (e : Exc) (s : Store) (G : Heap) (f : Store → Heap → RS) : (RS.exc e s G).seq f = .exc e s G := rfl
/-- a turn's end, then the other turns -/
def RS.turn (m : RS) (f : Store → Heap → RS) : RS := match m with
  | .next s G => f s G
  | .cont s G => f s G
  | .brk s G => .next s G
  | r => r
@[simp] theorem RS.turn_next (s : Store) (G : Heap) (f : Store → Heap → RS) : (RS.next s G).turn f = f s G := rfl
@[simp] theorem RS.turn_cont (s : Store) (G : Heap) (f : Store → Heap → RS) : (RS.cont s G).turn f = f s G := rfl
@[simp] theorem RS.turn_brk (s : Store) (G : Heap) (f : Store → Heap → RS) : (RS.brk s G).turn f = .next s G := rfl
@[simp] theorem RS.turn_ret (v : Val) (G : Heap) (f : Store → Heap → RS) : (RS.ret v G).turn f = .ret v G := rfl
@[simp] theorem RS.turn_no (f : Store → Heap → RS) : RS.no.turn f = .no := rfl
@[simp] theorem RS.turn_exc (e : Exc) (s : Store) (G : Heap) (f : Store → Heap → RS) : (RS.exc e s G).turn f = .exc e s G := rfl
def forR (tg : Val → Store → Option Store) (b : Store → Heap → RS) : List Val → Store → Heap → RS
  | [], s, G => .next s G
  | x :: xs, s, G => (R.opt (tg x s) G).thenS s fun s1 G1 => (b s1 G1).turn (forR tg b xs)
def whileR (c : Store → Heap → R Val) (b : Store → Heap → RS) : Nat → Store → Heap → RS
  | 0, _, _ => .no
  | n + 1, s, G => (c s G).thenS s fun x G1 => (R.opt (truthV (rd G1 x)) G1).thenS s fun k G2 => if k then (b s G2).turn (whileR c b n) else .next s G2
open Classical in
/-- a loop over a list of the heap, that stays what it is -/
def forW (n : Nat) (ys : List Val) (tg : Val → Store → Option Store) (b : Store → Heap → RS) : List Val → Store → Heap → RS
  | [], s, G => if G[n]? = some (.lst ys) then .next s G else .no
  | x :: xs, s, G => if G[n]? = some (.lst ys) then (R.opt (tg x s) G).thenS s fun s1 G1 => (b s1 G1).turn (forW n ys tg b xs) else .no
def fuelW : Nat := 1000000000000
/-- a list read, one item put -/
def setK (xs : List Val) (i : Val) (v : Val) : Option (List Val) := match i with
  | .int k => (ixN xs.length k).map fun j => xs.set j v
  | _ => none
def setRef (o i v : Val) (G : Heap) : Option Heap := match o with
  | .ref n => match G[n]? with
    | some (.lst xs) => (setK xs i v).map fun ys => G.set n (.lst ys)
    | some (.dct ks vs) => if ks.length < lineN then (keyOf i).map fun k => G.set n (.dct (dPut ks vs k v).1 (dPut ks vs k v).2) else none
    | _ => none
  | _ => none
def setOwn (k : Nat) (i v : Val) (s : Store) : Option Store := match s.getD k .no with
  | .own xs => (setK xs i v).map fun ys => s.set k (.own ys)
  | _ => none
def evPTgs (Γ : Calls) : PTgs → List Val → Store → Heap → R Store
  | .nil, [], s, G => .ok s G
  | .cons (.name i) ts, x :: xs, s, G => evPTgs Γ ts xs (s.set i (.val x)) G
  | .cons (.item o i) ts, x :: xs, s, G => (evE Γ o s G).bind fun ov G1 => (evE Γ i s G1).bind fun iv G2 => (R.opt (setRef ov iv x G2) G2).bind fun G3 _ => evPTgs Γ ts xs s G3
  | .cons (.itemO k i) ts, x :: xs, s, G => match s.getD k .no with
    | .own _ => (evE Γ i s G).bind fun iv G2 => (R.opt (setOwn k iv x s) G2).bind fun s1 _ => evPTgs Γ ts xs s1 G2
    | _ => .no
  | .nil, _ :: _, _, _ => .no
  | .cons _ _, [], _, _ => .no
mutual
def evS (Γ : Calls) : S → Store → Heap → RS
  | .stop, _, _ => .no
  | .exp e, s, G => (evE Γ e s G).thenS s fun _ G1 => .next s G1
  | .ret e, s, G => (evE Γ e s G).thenS s fun v G1 => .ret v G1
  | .retO k, s, G => match s.getD k .no with
    | .own xs => .ret (.lst xs) G
    | _ => .no
  | .retN, _, G => .ret .none G
  | .pass, s, G => .next s G
  | .brk, s, G => .brk s G
  | .cont, s, G => .cont s G
  | .asg t e, s, G => (evE Γ e s G).thenS s fun v G1 => (R.opt (setT t v s) G1).thenS s .next
  | .asgOwn i e, s, G => (evE Γ e s G).thenS s fun v G1 => match v with
    | .lst xs => .next (s.set i (.own xs)) G1
    | _ => .no
  | .setR o i e, s, G => (evE Γ e s G).thenS s fun v G1 => (evE Γ o s G1).thenS s fun ov G2 => (evE Γ i s G2).thenS s fun iv G3 => match setRef ov iv v G3 with
    | some G4 => .next s G4
    | none => .no
  | .setO k i e, s, G => (evE Γ e s G).thenS s fun v G1 => match s.getD k .no with
    | .own _ => (evE Γ i s G1).thenS s fun iv G2 => match setOwn k iv v s with
      | some s1 => .next s1 G2
      | none => .no
    | _ => .no
  | .app k e, s, G => match s.getD k .no with
    | .own xs => (evE Γ e s G).thenS s fun v G1 => if xs.length < lineN then .next (s.set k (.own (xs ++ [v]))) G1 else .no
    | _ => .no
  | .appR o e, s, G => (evE Γ o s G).thenS s fun ov G1 => match rd G1 ov with
    | .lst _ => (evE Γ e s G1).thenS s fun v G2 => match ov with
      | .ref n => match G2[n]? with
        | some (.lst xs) => if xs.length < lineN then .next s (G2.set n (.lst (xs ++ [v]))) else .no
        | _ => .no
      | _ => .no
    | _ => .no
  | .extO k e, s, G => match s.getD k .no with
    | .own xs => (evE Γ e s G).thenS s fun v G1 => match v with
      | .lst ys => if xs.length + ys.length ≤ lineN then .next (s.set k (.own (xs ++ ys))) G1 else .no
      | _ => .no
    | _ => .no
  | .popT t k, s, G => match s.getD k .no with
    | .own xs => match xs[xs.length - 1]? with
      | some x => (R.opt (setT t x (s.set k (.own xs.dropLast))) G).thenS s .next
      | none => .no
    | _ => .no
  | .popO k, s, G => match s.getD k .no with
    | .own xs => match xs[xs.length - 1]? with
      | some _ => .next (s.set k (.own xs.dropLast)) G
      | none => .no
    | _ => .no
  | .aug i op e, s, G => match s.getD i .no with
    | .val (.int a) => (evE Γ e s G).thenS s fun v G1 => match op, v with
      | .Add, .int b => .next (s.set i (.val (.int (a + b)))) G1
      | .Sub, .int b => .next (s.set i (.val (.int (a - b)))) G1
      | _, _ => .no
    | _ => .no
  | .par ts e, s, G => (evE Γ e s G).thenS s fun v G1 => match v with
    | .tup xs => (evPTgs Γ ts xs s G1).calm.thenS s .next
    | _ => .no
  | .ite c a b, s, G => (evE Γ c s G).thenS s fun x G1 => (R.opt (truthV (rd G1 x)) G1).thenS s fun k G2 => if k then evSs Γ a s G2 else evSs Γ b s G2
  | .for_ t it b, s, G => (evI Γ it s G).thenS s fun xs G1 => forR (setT t) (evSs Γ b) xs s G1
  | .forO t k b, s, G => match s.getD k .no with
    | .own xs => (forR (setT t) (evSs Γ b) xs (s.set k (.frz xs)) G).turn fun s1 G1 => match s1.getD k .no with
      | .frz _ => .next (s1.set k (.own xs)) G1
      | _ => .no
    | _ => .no
  | .forL t j b, s, G => match refAt s j G with
    | some (n, xs) => forW n xs (setT t) (evSs Γ b) xs s G
    | none => .no
  | .while_ c b, s, G => whileR (evE Γ c) (evSs Γ b) fuelW s G
  | .raise0 cls, s, G => .exc ⟨cls, none⟩ s G
  | .raise1 cls f e, s, G => (evE Γ e s G).thenS s fun v G1 => .exc ⟨cls, some (f, v)⟩ s G1
def evSs (Γ : Calls) : Ss → Store → Heap → RS
  | .nil, s, G => .next s G
  | .cons x xs, s, G => (evS Γ x s G).seq (evSs Γ xs)
end
/-- a def: how many parameters, how many slots, its body -/
structure Fd where
  par : Nat
  slots : Nat
  body : Ss
abbrev Prog := String → Option Fd
def startS (n : Nat) (vs : List Val) : Store := vs.map .val ++ List.replicate (n - vs.length) .no
def runB (Γ : Calls) (d : Fd) (vs : List Val) (G : Heap) : R Val :=
  if vs.length = d.par then match evSs Γ d.body (startS d.slots vs) G with
    | .ret v G1 => .ok v G1
    | .next _ G1 => .ok .none G1
    | .exc e _ G1 => .exc e G1
    | _ => .no
  else .no
/-- calls, so many deep -/
def callN (P : Prog) : Nat → Calls
  | 0 => fun _ _ _ => .no
  | n + 1 => fun f vs G => match P f with
    | some d => runB (callN P n) d vs G
    | none => .no
end
end Fx

namespace Fx
open PySem PySem.Spec PyProof.Rows L2
variable {K : PySem.W.Frag}
theorem peImp {X : Cx} {e : Expr} {t t' : L2.TE} (h : PE X e t) (i : ∀ σ H Q, t' σ H Q → t σ H Q) : PE X e t' := ⟨fun pins s σ H Q I q => h.run pins s σ H Q I (i σ H Q q)⟩
theorem ptImp {X : Cx} {e : Expr} {t t' : L2.TT} (h : PT X e t) (i : ∀ σ H Q, t' σ H Q → t σ H Q) : PT X e t' := ⟨fun pins s σ H Q I q => h.run pins s σ H Q I (i σ H Q q)⟩
theorem paImp {X : Cx} {es : List Expr} {t t' : L2.TA} (h : PA X es t) (i : ∀ σ H Q, t' σ H Q → t σ H Q) : PA X es t' := ⟨fun pos pins s σ H Q I q => h.run pos pins s σ H Q I (i σ H Q q)⟩
theorem psImp {X : Cx} {st : Stmt} {t t' : L2.TS} (h : PS X st t) (i : ∀ D σ H, t' D σ H → t D σ H) : PS X st t' := ⟨fun pins s σ H D I q => h.run pins s σ H D I (i D σ H q)⟩
theorem pssImp {X : Cx} {st : List Stmt} {t t' : L2.TS} (h : PSs X st t) (i : ∀ D σ H, t' D σ H → t D σ H) : PSs X st t' := ⟨fun pins s σ H D I q => h.run pins s σ H D I (i D σ H q)⟩
/-- an operand: a value, or a list of the def's own -/
def RlO (K : PySem.W.Frag) (M : Mp) (H : Hp) (v : Val) (u : V) : Prop :=
  Rl K M H v u ∨ ∃ xs vs a, v = .lst xs ∧ u = .ref a ∧ a ∉ M.φ ∧ H a = some (.lst vs) ∧ Rls K M H xs vs
/-- .. as it reads now -/
def RlD (K : PySem.W.Frag) (M : Mp) (H : Hp) (v : Val) (u : V) : Prop :=
  Rl K M H v u ∨ (∃ xs vs a, v = .lst xs ∧ u = .ref a ∧ H a = some (.lst vs) ∧ Rls K M H xs vs) ∨
    ∃ ks xs us a, v = .dct ks xs ∧ u = .ref a ∧ H a = some (.dK (ks.zip us)) ∧ ks.length = us.length ∧ Rls K M H xs us
section
variable {M M' : Mp} {H H' : Hp} {G G' : Heap} {v : Val} {u : V}
theorem RlO.later (r : RlO K M H v u) (l : Later M H M' H') : RlO K M' H' v u := by
  rcases r with r | ⟨xs, vs, a, e1, e2, n, h, t⟩
  · exact .inl (r.later l)
  · refine .inr ⟨xs, vs, a, e1, e2, fun z => ?_, l.keep a _ n h, t.later l⟩
    obtain ⟨k, e, f⟩ := l.pre
    rw [e] at z
    rcases List.mem_append.mp z with z | z
    · exact n z
    · rw [f a z] at h; cases h
theorem RlO.d (r : RlO K M H v u) : RlD K M H v u := by
  rcases r with r | ⟨xs, vs, a, e1, e2, n, h, t⟩
  · exact .inl r
  · exact .inr (.inl ⟨xs, vs, a, e1, e2, h, t⟩)
theorem RlD.rd (r : RlD K M H v u) (hh : HeapR K M G H) : RlD K M H (rd G v) u := by
  cases v with
  | ref n =>
    show RlD K M H (match G[n]? with | some (Obj.lst xs) => Val.lst xs | some (Obj.dct ks vs) => Val.dct ks vs | _ => Val.ref n) u
    cases e : G[n]? with
    | none => exact r
    | some o =>
      cases o with
      | lst xs =>
        rcases r with r | ⟨_, _, _, e1, _⟩ | ⟨_, _, _, _, e1, _⟩
        · cases r with
          | ref hφ =>
            obtain ⟨vs, h1, h2⟩ := hh.obj n _ _ hφ e
            exact .inr (.inl ⟨xs, vs, _, rfl, rfl, h1, h2⟩)
        · cases e1
        · cases e1
      | dct ks xs =>
        rcases r with r | ⟨_, _, _, e1, _⟩ | ⟨_, _, _, _, e1, _⟩
        · cases r with
          | ref hφ =>
            obtain ⟨vs, h1, hl, h2⟩ := hh.obj n _ _ hφ e
            exact .inr (.inr ⟨ks, xs, vs, _, rfl, rfl, h1, hl, h2⟩)
        · cases e1
        · cases e1
      | tab f => exact r
  | _ => exact r
theorem RlD.lst {xs : List Val} (r : RlD K M H (.lst xs) u) : ∃ a vs, u = .ref a ∧ H a = some (.lst vs) ∧ Rls K M H xs vs := by
  rcases r with r | ⟨_, vs, a, e1, e2, h, t⟩ | ⟨_, _, _, _, e1, _⟩
  · cases r with
    | lst _ h t => exact ⟨_, _, rfl, h, t⟩
  · cases e1
    exact ⟨a, vs, e2, h, t⟩
  · cases e1
theorem RlD.dct {ks : List Key} {xs : List Val} (r : RlD K M H (.dct ks xs) u) : ∃ a us, u = .ref a ∧ H a = some (.dK (ks.zip us)) ∧ ks.length = us.length ∧ Rls K M H xs us := by
  rcases r with r | ⟨_, vs, a, e1, e2, h, t⟩ | ⟨_, _, us, a, e1, e2, h, hl, t⟩
  · cases r with
    | dctT _ h => exact ⟨_, [], rfl, h, rfl, .nil⟩
  · cases e1
  · cases e1
    exact ⟨a, us, e2, h, hl, t⟩
theorem TupK.sq {a : Addr} {vs : List V} (h : TupK K a vs) (H : Hp) : SqT K H a vs := by
  obtain ⟨o, its, n, h1, h2, _, h3, h4, h5⟩ := h
  exact .inr ⟨o, its, n, h1, h2, h3, h4, h5⟩
theorem LstK.sq {a : Addr} {vs : List V} (h : LstK K a vs) (H : Hp) : SqL K H a vs := by
  obtain ⟨o, its, n, h1, h2, h3, h4, h5, h6⟩ := h
  exact .inr ⟨o, its, n, h1, h2, h3, h4, h5, h6⟩
theorem Rl.tup {xs : List Val} (r : Rl K M H (.tup xs) u) : ∃ a vs, u = .ref a ∧ SqT K H a vs ∧ Rls K M H xs vs := by
  cases r with
  | tupT _ h t => exact ⟨_, _, rfl, .inl h, t⟩
  | tupK h t => exact ⟨_, _, rfl, h.sq H, t⟩
theorem RlD.tup {xs : List Val} (r : RlD K M H (.tup xs) u) : ∃ a vs, u = .ref a ∧ SqT K H a vs ∧ Rls K M H xs vs := by
  rcases r with r | ⟨_, vs, a, e1, e2, h, t⟩ | ⟨_, _, _, _, e1, _⟩
  · exact r.tup
  · cases e1
  · cases e1
theorem RlD.frz {xs : List Val} (r : RlD K M H (.frz xs) u) : ∃ a vs, u = .ref a ∧ SqL K H a vs ∧ Rls K M H xs vs := by
  rcases r with r | ⟨_, vs, a, e1, e2, h, t⟩ | ⟨_, _, _, _, e1, _⟩
  · cases r with
    | frzT _ h t => exact ⟨_, _, rfl, .inl h, t⟩
    | frzK h t => exact ⟨_, _, rfl, h.sq H, t⟩
  · cases e1
  · cases e1
theorem RlD.int {i : Int} (r : RlD K M H (.int i) u) : u = .int i := by
  rcases r with r | ⟨_, _, _, e1, _⟩ | ⟨_, _, _, _, e1, _⟩
  · cases r; rfl
  · cases e1
  · cases e1
theorem RlD.bool {b : Bool} (r : RlD K M H (.bool b) u) : u = .bl b := by
  rcases r with r | ⟨_, _, _, e1, _⟩ | ⟨_, _, _, _, e1, _⟩
  · cases r; rfl
  · cases e1
  · cases e1
theorem RlD.str {s : String} (r : RlD K M H (.str s) u) : u = .str (Str.ofString s) := by
  rcases r with r | ⟨_, _, _, e1, _⟩ | ⟨_, _, _, _, e1, _⟩
  · cases r; rfl
  · cases e1
  · cases e1
theorem RlD.txt {s : Str} (r : RlD K M H (.txt s) u) : u = .str s := by
  rcases r with r | ⟨_, _, _, e1, _⟩ | ⟨_, _, _, _, e1, _⟩
  · cases r; rfl
  · cases e1
  · cases e1
theorem RlD.nn (r : RlD K M H .none u) : u = .non := by
  rcases r with r | ⟨_, _, _, e1, _⟩ | ⟨_, _, _, _, e1, _⟩
  · cases r; rfl
  · cases e1
  · cases e1
/-- a sequence: its items -/
theorem RlD.seq {xs : List Val} (r : RlD K M H v u) (e : seq? v = some xs) : ∃ a vs, u = .ref a ∧ (SqL K H a vs ∨ SqT K H a vs) ∧ Rls K M H xs vs := by
  cases v with
  | tup ys => cases e; obtain ⟨a, vs, h1, h2, h3⟩ := r.tup; exact ⟨a, vs, h1, .inr h2, h3⟩
  | lst ys => cases e; obtain ⟨a, vs, h1, h2, h3⟩ := r.lst; exact ⟨a, vs, h1, .inl (.of h2), h3⟩
  | frz ys => cases e; obtain ⟨a, vs, h1, h2, h3⟩ := r.frz; exact ⟨a, vs, h1, .inl h2, h3⟩
  | _ => cases e
theorem Later.new {p : Addr} {o : HO} (M : Mp) (hp : H p = none) : Later M H M (upd H p o) := by
  refine ⟨⟨[], by simp, fun _ h => nomatch h⟩, rfl, fun _ h => h, fun _ h => .inl h, fun a ob _ h => ?_, fun a ob h => ?_⟩
  · rw [upd_ne (ne_of_none h hp)]; exact h
  · exact ⟨ob, by rw [upd_ne (ne_of_none h hp)]; exact h⟩
theorem HeapR.at_ (hh : HeapR K M G H) {a : Addr} (ha : a ∈ M.φ) : ∃ (n : Nat) (o : Obj), M.φ[n]? = some a ∧ G[n]? = some o ∧ ObjR K M H a o := by
  obtain ⟨n, hn, e⟩ := List.mem_iff_getElem.mp ha
  have h1 : M.φ[n]? = some a := by rw [List.getElem?_eq_getElem hn, e]
  have hn2 : n < G.length := by rw [← hh.len]; exact hn
  exact ⟨n, G[n], h1, List.getElem?_eq_getElem hn2, hh.obj n a _ h1 (List.getElem?_eq_getElem hn2)⟩
theorem HeapR.there (hh : HeapR K M G H) {a : Addr} (ha : a ∈ M.φ) : ∃ o, H a = some o := by
  obtain ⟨n, o, _, _, h⟩ := hh.at_ ha
  cases o with
  | lst xs => obtain ⟨vs, e, _⟩ := h; exact ⟨_, e⟩
  | dct ks xs => obtain ⟨vs, e, _⟩ := h; exact ⟨_, e⟩
  | tab f => obtain ⟨_, ps, e, _⟩ := h; exact ⟨_, e⟩
theorem HeapR.fresh (hh : HeapR K M G H) {p : Addr} (hp : H p = none) : ¬ M.ex p := by
  rintro (h | ⟨i, h⟩ | h)
  · obtain ⟨o, e⟩ := hh.there h; rw [hp] at e; cases e
  · obtain ⟨o, e⟩ := hh.ok.oth i p h; rw [hp] at e; cases e
  · obtain ⟨o, e⟩ := hh.ok.xth p h; rw [hp] at e; cases e
theorem MpOk.upd_new {p : Addr} {o : HO} (h : MpOk M H) (hp : H p = none) : MpOk M (upd H p o) := by
  refine ⟨h.nodup, h.d1, h.d2, h.d3, h.oin, fun i a e => ?_, fun a e => ?_⟩
  · obtain ⟨ob, q⟩ := h.oth i a e
    exact ⟨ob, by rw [upd_ne (ne_of_none q hp)]; exact q⟩
  · obtain ⟨ob, q⟩ := h.xth a e
    exact ⟨ob, by rw [upd_ne (ne_of_none q hp)]; exact q⟩
theorem ObjR.later {a : Addr} {o : Obj} (h : ObjR K M H a o) (l : Later M H M' H') (e : ∀ ob, H a = some ob → H' a = some ob) : ObjR K M' H' a o := by
  cases o with
  | lst xs => obtain ⟨vs, h1, h2⟩ := h; exact ⟨vs, e _ h1, h2.later l⟩
  | dct ks xs => obtain ⟨vs, h1, hl, h2⟩ := h; exact ⟨vs, e _ h1, hl, h2.later l⟩
  | tab f => obtain ⟨h0, ps, h1, h2⟩ := h; exact ⟨h0, ps, e _ h1, h2.later l⟩
theorem HeapR.new {p : Addr} {o : HO} (hh : HeapR K M G H) (hp : H p = none) : HeapR K M G (upd H p o) :=
  ⟨hh.ok.upd_new hp, hh.len, fun n a ob h1 h2 => (hh.obj n a ob h1 h2).later (Later.new M hp) fun u q => by rw [upd_ne (ne_of_none q hp)]; exact q⟩
theorem Rl.newTup {p : Addr} {xs : List Val} {vs : List V} (hh : HeapR K M G H) (hp : H p = none) (r : Rls K M H xs vs) : Rl K M (upd H p (.tup vs)) (.tup xs) (.ref p) :=
  .tupT (hh.fresh hp) (.inl upd_same) (r.later (Later.new M hp))
theorem Rl.newLst {p : Addr} {xs : List Val} {vs : List V} (hh : HeapR K M G H) (hp : H p = none) (r : Rls K M H xs vs) : Rl K M (upd H p (.lst vs)) (.lst xs) (.ref p) :=
  .lst (hh.fresh hp) upd_same (r.later (Later.new M hp))
end
/-- an exception lies so -/
def ExcR (K : PySem.W.Frag) (M : Mp) (H : Hp) (e : Exc) (cls : Value) (d : Option Addr) : Prop :=
  cls = .ref (He.ga K (Str.ofString e.cls)) ∧ match e.arg with
    | none => d = none
    | some (f, x) => ∃ dd v, d = some dd ∧ H dd = some (.xd [(Str.ofString f, v)]) ∧ Rl K M H x v
/-- what is wanted of an exception -/
def XW (K : PySem.W.Frag) (W : WX) (M : Mp) (H : Hp) (st : L2.St) (e : Exc) (G' : Heap) : Prop :=
  ∀ M' cls d H', Later M H M' H' → HeapR K M' G' H' → ExcR K M' H' e cls d → W cls d st H'
theorem XW.later {K : PySem.W.Frag} {W : WX} {M M1 : Mp} {H H1 : Hp} {st : L2.St} {e : Exc} {G' : Heap} (x : XW K W M H st e G') (l : Later M H M1 H1) : XW K W M1 H1 st e G' :=
  fun M' cls d H' l2 hh r => x M' cls d H' (l.trans l2) hh r
def tE (K : PySem.W.Frag) (W : WX) (m : Store → Heap → R Val) : L2.TE := fun st H Q => ∃ M G s, HeapR K M G H ∧ StoreR K M H s st ∧
  (m s G).wp (fun v G' => ∀ M' u H', Later M H M' H' → HeapR K M' G' H' → Rl K M' H' v u → Q u H') (XW K W M H st)
def tO (K : PySem.W.Frag) (W : WX) (m : Store → Heap → R Val) : L2.TE := fun st H Q => ∃ M G s, HeapR K M G H ∧ StoreR K M H s st ∧
  (m s G).wp (fun v G' => ∀ M' u H', Later M H M' H' → HeapR K M' G' H' → RlO K M' H' v u → Q u H') (XW K W M H st)
/-- a list that nobody else knows -/
structure NewL (K : PySem.W.Frag) (M : Mp) (G : Heap) (H : Hp) (a : Addr) (xs : List Val) (vs : List V) : Prop where
  hh : HeapR K (M.add a) G H
  at_ : H a = some (.lst vs)
  rs : Rls K (M.add a) H xs vs
  nx : ¬ M.xo a
section
variable {M M' : Mp} {H H' : Hp} {G G' : Heap} {a : Addr} {xs : List Val} {vs : List V}
theorem Mp.add_ex {b : Addr} (h : M.ex b) : (M.add a).ex b := by
  rcases h with h | h | h
  · exact .inl h
  · exact .inr (.inl h)
  · exact .inr (.inr (.inl h))
theorem Mp.of_add {b : Addr} (h : (M.add a).ex b) : M.ex b ∨ b = a := by
  rcases h with h | h | h | h
  · exact .inl (.inl h)
  · exact .inl (.inr (.inl h))
  · exact .inl (.inr (.inr h))
  · exact .inr h
theorem ext_add (hp : H a = Option.none) (o : HO) : Ext M H (M.add a) (upd H a o) :=
  ⟨⟨[], by simp [Mp.add]⟩, fun b h => (Mp.of_add h).elim .inl fun e => .inr (by rw [e]; exact hp), fun b ob _ h => by rw [upd_ne (ne_of_none h hp)]; exact h⟩
theorem HeapR.add (hh : HeapR K M G H) (hp : H a = Option.none) (o : HO) : HeapR K (M.add a) G (upd H a o) := by
  have k : ∀ b ob, H b = some ob → upd H a o b = some ob := fun b ob h => by rw [upd_ne (ne_of_none h hp)]; exact h
  refine ⟨⟨hh.ok.nodup, hh.ok.d1, fun b h => ?_, fun i b h z => ?_, hh.ok.oin, fun i b h => ?_, fun b h => ?_⟩, hh.len, fun n b ob h1 h2 => ?_⟩
  · rcases h with h | h
    · exact hh.ok.d2 b h
    · intro z
      obtain ⟨o', e⟩ := hh.there z
      rw [h, hp] at e; cases e
  · rcases z with z | z
    · exact hh.ok.d3 i b h z
    · obtain ⟨o', e⟩ := hh.ok.oth i b h
      rw [z, hp] at e; cases e
  · obtain ⟨o', e⟩ := hh.ok.oth i b h
    exact ⟨o', k _ _ e⟩
  · rcases h with h | h
    · obtain ⟨o', e⟩ := hh.ok.xth b h
      exact ⟨o', k _ _ e⟩
    · exact ⟨o, by rw [h]; exact upd_same⟩
  · have := hh.obj n b ob h1 h2
    cases ob with
    | dct ks ys => obtain ⟨us, e, hl, t⟩ := this; exact ⟨us, k _ _ e, hl, t.ext (ext_add hp o)⟩
    | tab f => obtain ⟨h0, ps, e, t⟩ := this; exact ⟨h0, ps, k _ _ e, t.ext (ext_add hp o)⟩
    | lst ys => obtain ⟨us, e, t⟩ := this; exact ⟨us, k _ _ e, t.ext (ext_add hp o)⟩
theorem NewL.mk_ (hh : HeapR K M G H) (hp : H a = Option.none) (r : Rls K M H xs vs) : NewL K M G (upd H a (.lst vs)) a xs vs :=
  ⟨hh.add hp _, upd_same, r.ext (ext_add hp _), fun z => by
    obtain ⟨o, e⟩ := hh.ok.xth a z
    rw [hp] at e; cases e⟩
/-- as a value -/
theorem NewL.val (n : NewL K M' G' H' a xs vs) (ok : MpOk M H) (l : Later M H M' H') (hn : H a = Option.none) : HeapR K M' G' H' ∧ Rl K M' H' (.lst xs) (.ref a) := by
  have ok' := n.hh.ok
  have nx : ¬ M'.ex a := by
    rintro (h | ⟨i, h⟩ | h)
    · exact ok'.d2 a (.inr rfl) h
    · exact ok'.d3 i a h (.inr rfl)
    · exact n.nx h
  have sw : Ext (M'.add a) H' M' H' := Ext.swap rfl fun b h => Mp.add_ex h
  refine ⟨⟨⟨ok'.nodup, ok'.d1, fun b h => ok'.d2 b (.inl h), fun i b h z => ok'.d3 i b h (.inl z), ok'.oin, ok'.oth, fun b h => ok'.xth b (.inl h)⟩, n.hh.len, fun k b ob h1 h2 => ?_⟩, .lst nx n.at_ (n.rs.ext sw)⟩
  have := n.hh.obj k b ob h1 h2
  cases ob with
  | dct ks ys => obtain ⟨us, e, hl, t⟩ := this; exact ⟨us, e, hl, t.ext sw⟩
  | tab f => obtain ⟨h0, ps, e, t⟩ := this; exact ⟨h0, ps, e, t.ext sw⟩
  | lst ys => obtain ⟨us, e, t⟩ := this; exact ⟨us, e, t.ext sw⟩
end
/-- a new list -/
def tF (K : PySem.W.Frag) (W : WX) (m : Store → Heap → R Val) : L2.TE := fun st H Q => ∃ M G s, HeapR K M G H ∧ StoreR K M H s st ∧
  (m s G).wp (fun v G' => ∃ xs, v = .lst xs ∧ ∀ M' a vs H', Later M H M' H' → H a = Option.none → NewL K M' G' H' a xs vs → Q (.ref a) H') (XW K W M H st)
def tAs (K : PySem.W.Frag) (W : WX) (m : Store → Heap → R (List Val)) : L2.TA := fun st H Q => ∃ M G s, HeapR K M G H ∧ StoreR K M H s st ∧
  (m s G).wp (fun vs G' => ∀ M' us H', Later M H M' H' → HeapR K M' G' H' → Rls K M' H' vs us → Q us H') (XW K W M H st)
/-- arguments that are operands -/
inductive RlOs (K : PySem.W.Frag) (M : Mp) (H : Hp) : List Val → List V → Prop where
  | nil : RlOs K M H [] []
  | cons {x v xs vs} : RlO K M H x v → RlOs K M H xs vs → RlOs K M H (x :: xs) (v :: vs)
theorem RlOs.later {M M' : Mp} {H H' : Hp} (l : Later M H M' H') : ∀ {xs : List Val} {vs : List V}, RlOs K M H xs vs → RlOs K M' H' xs vs
  | _, _, .nil => .nil
  | _, _, .cons h t => .cons (h.later l) (RlOs.later l t)
def tAO (K : PySem.W.Frag) (W : WX) (m : Store → Heap → R (List Val)) : L2.TA := fun st H Q => ∃ M G s, HeapR K M G H ∧ StoreR K M H s st ∧
  (m s G).wp (fun vs G' => ∀ M' us H', Later M H M' H' → HeapR K M' G' H' → RlOs K M' H' vs us → Q us H') (XW K W M H st)
def tT (K : PySem.W.Frag) (W : WX) (m : Store → Heap → R Val) : L2.TT := fun st H Q => ∃ M G s, HeapR K M G H ∧ StoreR K M H s st ∧
  (m s G).wp (fun v G' => ∃ b, truthV (rd G' v) = some b ∧ ∀ M' H', Later M H M' H' → HeapR K M' G' H' → Q b H') (XW K W M H st)
section
variable {X : Cx} {e : Expr} {W : WX} {m : Store → Heap → R Val}
theorem peO (h : PE X e (tE K W m)) : PE X e (tO K W m) := peImp h fun σ H Q ⟨M, G, s, h1, h2, h3⟩ => ⟨M, G, s, h1, h2, R.wp_mono h3 (fun v G' k M' u H' l hh r => k M' u H' l hh (.inl r)) fun _ _ x => x⟩
theorem peF (h : PE X e (tF K W m)) (hm : ∀ s G v G', m s G = .ok v G' → ∃ xs, v = .lst xs) : PE X e (tE K W m) := peImp h fun σ H Q ⟨M, G, s, h1, h2, h3⟩ => ⟨M, G, s, h1, h2, by
  cases q : m s G with
  | no => rw [q] at h3; exact h3
  | exc e G' => rw [q] at h3; exact h3
  | ok v G' =>
    rw [q] at h3
    obtain ⟨xs, rfl⟩ := hm _ _ _ _ q
    exact ⟨xs, rfl, fun M' a vs H' l hn n => h3 M' (.ref a) H' l (n.val h1.ok l hn).1 (n.val h1.ok l hn).2⟩⟩
end
/-- a list that comes is a new one -/
def Fr (K : PySem.W.Frag) (M : Mp) (H H' : Hp) (c : Val) (u : V) : Prop := ∀ xs, c = .lst xs → ∃ a ws, u = .ref a ∧ H a = Option.none ∧ H' = upd H a (.lst ws) ∧ Rls K M H xs ws
theorem Fr.no {K : PySem.W.Frag} {M : Mp} {H H' : Hp} {c : Val} {u : V} (h : ∀ xs, c ≠ .lst xs) : Fr K M H H' c u := fun xs e => absurd e (h xs)
def rB (K : PySem.W.Frag) (f : Val → Val → Option Val) : R2 := fun x y H Q => ∃ M G a b c, HeapR K M G H ∧ RlD K M H a x ∧ RlD K M H b y ∧ f a b = some c ∧
  ∀ u H', Later M H M H' → HeapR K M G H' → Rl K M H' c u → Fr K M H H' c u → Q u H'
end Fx

namespace Fx
open PySem PySem.Spec PyProof.Rows L2
variable {X : Cx}
theorem lineN_eq : lineN = sizeLine := rfl
theorem ofString_length (s : String) : (Str.ofString s).length = s.length := by
  rw [Str.ofString_eq_toList]
  show ((s.toList.map Char.toNat).toArray).size = s.length
  simp [String.length_toList]
theorem ofString_list (s : String) : (Str.ofString s).cps.toList = s.toList.map Char.toNat := by
  rw [Str.ofString_eq_toList]
theorem ofString_append (a b : String) : Str.ofString (a ++ b) = Str.ofString a ++ Str.ofString b := by
  rw [Str.ofString_eq_toList, Str.ofString_eq_toList, Str.ofString_eq_toList]
  show (⟨_⟩ : Str) = ⟨_ ++ _⟩
  congr 1
  rw [String.toList_append, List.map_append, List.append_toArray]
theorem ofString_ofList (l : List Char) : Str.ofString (String.ofList l) = ⟨(l.map Char.toNat).toArray⟩ := by
  rw [Str.ofString_eq_toList, String.toList_ofList]
/-- a rule for ints that gives an int -/
theorem intOp {op : Operator} {r : R2} (ho : OpR X (binaryOp op) r) {i j : Int} {c : Val} {pins : List (Addr × PySem.Obj)} {s : Shared} {σ : L2.St} {H : Hp} {M : Mp} {G : Heap} {v u : Value} {Q : VK} (I : Inv X pins σ H s) (rx : RelV (.int i) v) (ry : RelV (.int j) u) {n : Int} (hc : c = .int n)
    (hh : HeapR X.K M G H) (q : ∀ u H', Later M H M H' → HeapR X.K M G H' → Rl X.K M H' c u → Fr X.K M H H' c u → Q u H') (hr : Q (.int n) H → r (.int i) (.int j) H Q) : wpAny (model X.prog X.w) X.A (binaryOp op v u) (EP X pins σ Q) X.xe s := by
  subst hc
  exact ho pins s σ H _ _ v u Q I rx ry (hr (q _ H (Later.refl M H) hh (.int n) (Fr.no fun _ e => nomatch e)))
/-- () + t gives t itself -/
theorem op_catT0 : OpR X (binaryOp .Add) (fun x y H Q => ∃ a b ys, x = .ref a ∧ y = .ref b ∧ SqT X.K H a [] ∧ SqT X.K H b ys ∧ Q (.ref b) H) := by
  intro pins s σ H x y v u Q I rx ry h
  obtain ⟨a, b, ys, rfl, rfl, ha, hb, q⟩ := h
  cases rx
  cases ry
  obtain ⟨its, r1, p1, _⟩ := I.tuple ha
  obtain ⟨its2, r2, p2, _⟩ := I.tuple hb
  cases r1
  obtain ⟨⟨cls, dd, data, sl⟩, ho, hc, n, hd⟩ := id p1
  obtain ⟨⟨cls2, dd2, data2, sl2⟩, ho2, hc2, n2, hd2⟩ := id p2
  simp only at hc hd hc2 hd2
  subst hc hd hc2 hd2
  exact concat_meets ⟨_, ho, rfl⟩ ⟨_, ho2, rfl⟩ noFill_tuple_add seq_tuple_add PySem.F.slot_tuple_add PySem.F.entry_tuple_add (PySem.F.args_tuple_add_2 _ _)
      (tuple_addW0 a b [].toArray its2.toArray n n2 dd dd2 sl sl2 rfl) ⟨ho, ho2, ⟨.ref b, H, I, rfl, q⟩⟩
/-- () * k gives () itself -/
theorem tup_mul0 (l : Addr) (n : Nat) (dd : Option Addr) (sl : Array (Option Value)) (x : Int) (u : Tok) (c0 : (decide (x < -(2 ^ 63)) || decide (x ≥ 2 ^ 63)) = false) :
    Meets (Builtin.«tuple.__mul__» ⟨[.ref l, .int x u], []⟩) (fun _ R s => s.heap.get? l = some { cls := .type "tuple", dict := dd, data := .seq #[] n, slots := sl } ∧ R (.ok (.ret (Value.ref l))) s) :=
  .of_wp fun prog w A R s h => by
    obtain ⟨hp, g, d, tk, os⟩ := s
    obtain ⟨hl, h⟩ := h
    have f1 := AutoSeq1.idx_int
    wp_walk using wpAny_loadPart' hl
    refine wpAny_ite_false (decide_eq_false (by rw [c0]; exact Bool.false_ne_true)) ?_
    wp_walk using wpAny_loadPart' hl
    first
      | exact ⟨_, rfl, h⟩
      | (refine wpAny_ite_true (decide_eq_true (by rfl)) ?_; wp_walk using wpAny_loadPart' hl; exact ⟨_, rfl, h⟩)
theorem op_mulT0 : OpR X (binaryOp .Mult) (fun x y H Q => ∃ l k, x = .ref l ∧ y = .int k ∧ SqT X.K H l [] ∧ -9223372036854775808 ≤ k ∧ k < 9223372036854775808 ∧ Q (.ref l) H) := by
  intro pins s σ H x y v u Q I rx ry h
  obtain ⟨l, k, rfl, rfl, hT, h1, h2, q⟩ := h
  cases rx
  obtain ⟨t, rfl⟩ := ry
  obtain ⟨its, r, ⟨⟨cls, dd, data, sl⟩, ho, hc, n, hd⟩, hs⟩ := I.tuple hT
  simp only at hc hd
  subst hc hd
  cases r
  have c0 : (decide (k < -(2 ^ 63)) || decide (k ≥ 2 ^ 63)) = false := by
    rw [decide_eq_false (by omega), decide_eq_false (by omega)] <;> rfl
  refine wpAny_binaryOp_repeat_ref (T := "tuple") (U := "int") (by decide) ⟨_, ho, rfl⟩ (fun s' => typeIs_int s' k t) noFill_tuple_mul F.fills_int_mul F.slot_int_rmul repeat_tuple F.slot_int_index.lookup
    (call_meets F.slot_int_rmul (typeIs_int s k t) F.entry_int_rmul (F.args_int_rmul_2 _ _) (int_rmul_tuple k t l _ n dd sl)
      ⟨ho, rfl, ⟨_, ho, rfl⟩, call_meets F.slot_tuple_mul ⟨_, ho, rfl⟩ F.entry_tuple_mul (F.args_tuple_mul_2 _ _) (tup_mul0 l n dd sl k t c0) ⟨ho, ?_⟩⟩)
  exact ⟨.ref l, H, I, rfl, q⟩
/-- a tuple once -/
theorem tup_mul1 (l : Addr) (its : Array Value) (n : Nat) (dd : Option Addr) (sl : Array (Option Value)) (u : Tok) :
    Meets (Builtin.«tuple.__mul__» ⟨[.ref l, .int 1 u], []⟩) (fun _ R s => s.heap.get? l = some { cls := .type "tuple", dict := dd, data := .seq its n, slots := sl } ∧ R (.ok (.ret (Value.ref l))) s) :=
  .of_wp fun prog w A R s h => by
    obtain ⟨hp, g, d, tk, os⟩ := s
    obtain ⟨hl, h⟩ := h
    have f1 := AutoSeq1.idx_int
    wp_walk using wpAny_loadPart' hl
    exact ⟨_, rfl, h⟩
/-- a tuple once is itself -/
theorem op_mulT1 : OpR X (binaryOp .Mult) (fun x y H Q => ∃ l xs, x = .ref l ∧ y = .int 1 ∧ SqT X.K H l xs ∧ Q (.ref l) H) := by
  intro pins s σ H x y v u Q I rx ry h
  obtain ⟨l, xs, rfl, rfl, hT, q⟩ := h
  cases rx
  obtain ⟨t, rfl⟩ := ry
  obtain ⟨its, r, ⟨⟨cls, dd, data, sl⟩, ho, hc, n, hd⟩, hs⟩ := I.tuple hT
  simp only at hc hd
  subst hc hd
  refine wpAny_binaryOp_repeat_ref (T := "tuple") (U := "int") (by decide) ⟨_, ho, rfl⟩ (fun s' => typeIs_int s' 1 t) noFill_tuple_mul F.fills_int_mul F.slot_int_rmul repeat_tuple F.slot_int_index.lookup
    (call_meets F.slot_int_rmul (typeIs_int s 1 t) F.entry_int_rmul (F.args_int_rmul_2 _ _) (int_rmul_tuple 1 t l _ n dd sl)
      ⟨ho, rfl, ⟨_, ho, rfl⟩, call_meets F.slot_tuple_mul ⟨_, ho, rfl⟩ F.entry_tuple_mul (F.args_tuple_mul_2 _ _) (tup_mul1 l its.toArray n dd sl t) ⟨ho, ?_⟩⟩)
  exact ⟨.ref l, H, I, rfl, q⟩
theorem op_addK : OpR X (binaryOp .Add) (rB X.K (binK .Add)) := by
  intro pins s σ H x y v u Q I rx ry ⟨M, G, a, b, c, hh, ra, rb, hc, q⟩
  cases a with
  | int i => cases b with
    | int j =>
      cases ra.int; cases rb.int
      cases hc
      exact intOp op_add I rx ry rfl hh q fun z => ⟨i, j, rfl, rfl, z⟩
    | _ => cases hc
  | tup xs => cases b with
    | tup ys =>
      obtain ⟨p, vs, rfl, h1, t1⟩ := ra.tup
      obtain ⟨p2, us, rfl, h2, t2⟩ := rb.tup
      have hc' : (if xs.length + ys.length ≤ lineN then some (Val.tup (xs ++ ys)) else none) = some c := hc
      split at hc'
      · rename_i hz
        cases hc'
        rw [lineN_eq, t1.length, t2.length] at hz
        cases vs with
        | nil =>
          cases t1
          rw [List.nil_append] at q
          exact op_catT0 pins s σ H _ _ v u Q I rx ry ⟨p, p2, us, rfl, rfl, h1, h2, q _ H (Later.refl M H) hh (by
            rcases rb with rb | ⟨_, _, _, e1, _⟩ | ⟨_, _, _, _, e1, _⟩
            · exact rb
            · cases e1
            · cases e1) (Fr.no fun _ e => nomatch e)⟩
        | cons v0 vr =>
          refine op_catT pins s σ H _ _ v u Q I rx ry ⟨p, p2, _, us, rfl, rfl, h1, h2, List.cons_ne_nil _ _, hz, fun e => ?_, fun _ p' hp => ?_⟩
          · subst e
            cases t2
            rw [List.append_nil] at q
            exact q _ H (Later.refl M H) hh (by
              rcases ra with ra | ⟨_, _, _, e1, _⟩ | ⟨_, _, _, _, e1, _⟩
              · exact ra
              · cases e1
              · cases e1) (Fr.no fun _ e => nomatch e)
          · exact q _ _ (Later.new M hp) (hh.new hp) (Rl.newTup hh hp (t1.append t2)) (Fr.no fun _ e => nomatch e)
      · cases hc'
    | _ => cases hc
  | str a => cases b with
    | str b =>
      cases ra.str; cases rb.str
      have hc' : (if a.length + b.length ≤ lineN then some (Val.str (a ++ b)) else none) = some c := hc
      split at hc'
      · rename_i hz
        cases hc'
        exact op_add_str pins s σ H _ _ v u Q I rx ry ⟨_, _, rfl, rfl, by rw [ofString_length, ofString_length]; exact hz, q _ H (Later.refl M H) hh (by rw [← ofString_append]; exact .str _) (Fr.no fun _ e => nomatch e)⟩
      · cases hc'
    | _ => cases hc
  | lst xs => cases b with
    | lst ys =>
      obtain ⟨p, vs, rfl, h1, t1⟩ := ra.lst
      obtain ⟨p2, us, rfl, h2, t2⟩ := rb.lst
      have hc' : (if xs.length + ys.length ≤ lineN then some (Val.lst (xs ++ ys)) else none) = some c := hc
      split at hc'
      · rename_i hz
        cases hc'
        rw [lineN_eq, t1.length, t2.length] at hz
        exact op_cat pins s σ H _ _ v u Q I rx ry ⟨p, p2, _, _, rfl, rfl, h1, h2, hz, fun p' hp => q _ _ (Later.new M hp) (hh.new hp) (Rl.newLst hh hp (t1.append t2)) (fun ys e => by cases e; exact ⟨p', _, rfl, hp, rfl, t1.append t2⟩)⟩
      · cases hc'
    | _ => cases hc
  | _ => cases hc
theorem op_subK : OpR X (binaryOp .Sub) (rB X.K (binK .Sub)) := by
  intro pins s σ H x y v u Q I rx ry ⟨M, G, a, b, c, hh, ra, rb, hc, q⟩
  cases a with
  | int i => cases b with
    | int j =>
      cases ra.int; cases rb.int
      cases hc
      exact intOp op_sub I rx ry rfl hh q fun z => ⟨i, j, rfl, rfl, z⟩
    | _ => cases hc
  | _ => cases hc
theorem Rls.rep {K : PySem.W.Frag} {M : Mp} {H : Hp} {xs : List Val} {vs : List V} (r : Rls K M H xs vs) : ∀ n : Nat, Rls K M H (List.replicate n xs).flatten (List.replicate n vs).flatten
  | 0 => .nil
  | n + 1 => by
    rw [List.replicate_succ, List.replicate_succ, List.flatten_cons, List.flatten_cons]
    exact r.append (r.rep n)
theorem op_mulK : OpR X (binaryOp .Mult) (rB X.K (binK .Mult)) := by
  intro pins s σ H x y v u Q I rx ry ⟨M, G, a, b, c, hh, ra, rb, hc, q⟩
  cases a with
  | int i => cases b with
    | int j =>
      cases ra.int; cases rb.int
      have hc' : (if (-p64 < i ∧ i < p64) ∨ (-p64 < j ∧ j < p64) then some (Val.int (i * j)) else none) = some c := hc
      split at hc'
      · rename_i hz
        cases hc'
        exact intOp op_mul I rx ry rfl hh q fun z => ⟨i, j, rfl, rfl, hz, z⟩
      · cases hc'
    | _ => cases hc
  | lst xs => cases b with
    | int k =>
      obtain ⟨p, vs, rfl, h1, t1⟩ := ra.lst
      cases rb.int
      have hc' : (if -9223372036854775808 ≤ k ∧ k < 9223372036854775808 ∧ xs.length * k.toNat ≤ lineN then some (Val.lst (List.replicate k.toNat xs).flatten) else none) = some c := hc
      split at hc'
      · rename_i hz
        cases hc'
        obtain ⟨z1, z2, z3⟩ := hz
        rw [lineN_eq, t1.length] at z3
        exact op_rep pins s σ H _ _ v u Q I rx ry ⟨p, k, _, rfl, rfl, h1, z1, z2, z3, fun p' hp => q _ _ (Later.new M hp) (hh.new hp) (Rl.newLst hh hp (t1.rep _)) (fun ys e => by cases e; exact ⟨p', _, rfl, hp, rfl, t1.rep _⟩)⟩
      · cases hc'
    | _ => cases hc
  | tup xs => cases b with
    | int k =>
      obtain ⟨p, vs, rfl, h1, t1⟩ := ra.tup
      cases rb.int
      have hc' : (if xs.isEmpty = true then (if -9223372036854775808 ≤ k ∧ k < 9223372036854775808 then some (Val.tup []) else none) else if k = 1 then some (Val.tup xs) else if 2 ≤ k ∧ k ≤ 1000 ∧ xs.length ≤ 1000 then some (Val.tup (List.replicate k.toNat xs).flatten) else none) = some c := hc
      split at hc'
      · rename_i he
        split at hc'
        · rename_i hz
          cases hc'
          have ex : xs = [] := List.isEmpty_iff.mp he
          subst ex
          cases t1
          exact op_mulT0 pins s σ H _ _ v u Q I rx ry ⟨p, k, rfl, rfl, h1, hz.1, hz.2, q _ H (Later.refl M H) hh (by
            rcases ra with ra | ⟨_, _, _, e1, _⟩ | ⟨_, _, _, _, e1, _⟩
            · exact ra
            · cases e1
            · cases e1) (Fr.no fun _ e => nomatch e)⟩
        · cases hc'
      rename_i hne
      split at hc'
      · rename_i hz
        cases hc'
        subst hz
        exact op_mulT1 pins s σ H _ _ v u Q I rx ry ⟨p, _, rfl, rfl, h1, q _ H (Later.refl M H) hh (by
            rcases ra with ra | ⟨_, _, _, e1, _⟩ | ⟨_, _, _, _, e1, _⟩
            · exact ra
            · cases e1
            · cases e1) (Fr.no fun _ e => nomatch e)⟩
      split at hc'
      · rename_i hz
        cases hc'
        obtain ⟨z2, z3, z4⟩ := hz
        rw [t1.length] at z4
        refine op_repT pins s σ H _ _ v u Q I rx ry ⟨p, k, _, rfl, rfl, h1, fun e => ?_, z2, z3, z4, fun p' hp => q _ _ (Later.new M hp) (hh.new hp) (Rl.newTup hh hp (t1.rep _)) (Fr.no fun _ e => nomatch e)⟩
        subst e
        cases t1
        exact hne rfl
      · cases hc'
    | _ => cases hc
  | _ => cases hc
theorem p64_log {b : Int} (h0 : 0 < b) (h : b < p64) : CDivW 0 b := wide_div (b := 64) h0 (by
  have : b < 18446744073709551616 := h
  show b.natAbs < 2 ^ 64
  omega) (by decide) (by decide)
theorem op_fdivK : OpR X (binaryOp .FloorDiv) (rB X.K (binK .FloorDiv)) := by
  intro pins s σ H x y v u Q I rx ry ⟨M, G, a, b, c, hh, ra, rb, hc, q⟩
  cases a with
  | int i => cases b with
    | int j =>
      cases ra.int; cases rb.int
      have hc' : (if 0 < j ∧ j < p64 then some (Val.int (i / j)) else none) = some c := hc
      split at hc'
      · rename_i hz
        cases hc'
        exact intOp op_fdivW I rx ry rfl hh q fun z => ⟨i, j, rfl, rfl, p64_log hz.1 hz.2, z⟩
      · cases hc'
    | _ => cases hc
  | _ => cases hc
theorem op_modK : OpR X (binaryOp .Mod) (rB X.K (binK .Mod)) := by
  intro pins s σ H x y v u Q I rx ry ⟨M, G, a, b, c, hh, ra, rb, hc, q⟩
  cases a with
  | int i => cases b with
    | int j =>
      cases ra.int; cases rb.int
      have hc' : (if 0 < j then some (Val.int (i % j)) else none) = some c := hc
      split at hc'
      · rename_i hz
        cases hc'
        exact intOp op_mod I rx ry rfl hh q fun z => ⟨i, j, rfl, rfl, hz, z⟩
      · cases hc'
    | _ => cases hc
  | _ => cases hc
theorem op_powK : OpR X (binaryOp .Pow) (rB X.K (binK .Pow)) := by
  intro pins s σ H x y v u Q I rx ry ⟨M, G, a, b, c, hh, ra, rb, hc, q⟩
  cases a with
  | int i => cases b with
    | int j =>
      cases ra.int; cases rb.int
      have hc' : (if 0 ≤ j ∧ j ≤ 1000000 ∧ (-p64 < i ∧ i < p64) then some (Val.int (i ^ j.toNat)) else none) = some c := hc
      split at hc'
      · rename_i hz
        cases hc'
        obtain ⟨z1, z2, z3, z4⟩ := hz
        refine intOp op_pow I rx ry rfl hh q fun z => ⟨i, j, rfl, rfl, ⟨z1, z2, ?_⟩, z⟩
        have a1 : -18446744073709551616 < i := z3
        have a2 : i < 18446744073709551616 := z4
        show i.natAbs < 2 ^ 64
        omega
      · cases hc'
    | _ => cases hc
  | _ => cases hc
/-- all operators -/
theorem op_binK (op : Operator) : OpR X (binaryOp op) (rB X.K (binK op)) := by
  cases op with
  | Add => exact op_addK
  | Sub => exact op_subK
  | Mult => exact op_mulK
  | FloorDiv => exact op_fdivK
  | Mod => exact op_modK
  | Pow => exact op_powK
  | _ =>
    intro pins s σ H x y v u Q I rx ry ⟨M, G, a, b, c, hh, ra, rb, hc, q⟩
    cases hc
end Fx

namespace Fx
namespace NeT
open PySem PySem.SeqAt
open AutoSeq1 (wpAny_loadPart')
open MeetsSeq MeetsSeq2 MeetsSeq3
variable {A : Around} {s : Shared}
theorem tuple_ne_declines_dict (l b : Addr) (items : Array Value) (es : Array DictEntry) (n n2 : Nat) (dd dd2 : Option Addr) (sl sl2 : Array (Option Value)) :
    Meets (Builtin.«tuple.__ne__» ⟨[.ref l, .ref b], []⟩) (fun _ R s => s.heap.get? l = some { cls := .type "tuple", dict := dd, data := .seq items n, slots := sl } ∧ s.heap.get? b = some { cls := .type "dict", dict := dd2, data := .dict es n2, slots := sl2 } ∧ R (.ok (.ret .notImplemented)) s) :=
  .of_wp fun prog w A R s h => by obtain ⟨hp, g, d, tk, os⟩ := s; obtain ⟨hl, hb, h⟩ := h; have f1 := F.sub_dict_tuple; wp_walk using wpAny_loadPart' hl, wpAny_load hb; exact ⟨_, rfl, h⟩
theorem dict_tuple {l b : Addr} {items2 : Array Value} (hl : ∃ o es ep, s.heap.get? l = some o ∧ o.ExactDict ∧ o.data = .dict es ep) (hb : s.heap.IsTuple b items2) (hu : A.units < cLine) : RcNeAt A s (.ref l) (.ref b) true := fun prog w E Q h => by
  obtain ⟨⟨cls, dd, data, sl⟩, es, ep, ho, ⟨hc, hd0, hs0⟩, hd⟩ := hl
  obtain ⟨⟨cls2, dd2, data2, sl2⟩, ho2, hc2, n2, hd2⟩ := id hb
  simp only at hc hd hc2 hd2 hd0 hs0
  subst hc hd hc2 hd2 hd0 hs0
  have hne : l ≠ b := fun e => by
    subst e
    rw [ho] at ho2
    injection ho2 with ho2
    injection ho2 with z
    exact absurd z (by decide)
  have T1 : s.TypeIs (.ref l) "dict" := ⟨_, ho, rfl⟩
  have T2 : s.TypeIs (.ref b) "tuple" := ⟨_, ho2, rfl⟩
  exact (rc_ne_decline_or (k := false) T1 T2 (by decide) F.sub_tuple_dict F.slot_dict_ne F.slot_tuple_ne_refl
    (fun Q' hq => wpAny_call_entry F.slot_dict_ne T1 F.entry_dict_ne (by
      show wpAny _ _ (Builtin.Dict.dictSlotArgs "__ne__" ⟨[.ref l, .ref b], []⟩ >>= _) _ _ s
      refine wpAny_bind ?_
      unfold Builtin.Dict.dictSlotArgs
      refine wpAny_bind (wpAny_notOrdered_dict T1 ?_)
      show wpAny _ _ (pure (Value.ref l, Value.ref b)) _ _ s
      refine wpAny_pure ?_
      refine wpAny_bind (wpAny_isInstance (T := "tuple") T2 PySem.F.sub_tuple_dict ?_)
      simp only [Bool.not_false, if_true]
      wp_walk
      exact ⟨_, rfl, hq⟩) (F.args_dict_ne_2 _ _))
    (fun _ hq => call_meets F.slot_tuple_ne_refl T2 F.entry_tuple_ne (F.args_tuple_ne_2 _ _) (tuple_ne_declines_dict b l items2 es n2 ep dd2 _ sl2 _) ⟨ho2, ho, hq⟩)
    (fun _ hq => wpAny_isSame_ref_other hne ho ho2 (by simp) hq) (.inr hu) h)
theorem tuples0 {l b : Addr} {items items2 : Array Value} (hl : s.heap.IsTuple l items) (hb : s.heap.IsTuple b items2) (h1 : 0 < items.size) (h2 : items2.size = 0) (hu : A.units < cLine) : RcNeAt A s (.ref l) (.ref b) true := by
  have := RcNeAt.tuples (e := fun _ => true) hl hb hu fun j _ h => absurd h (by omega)
  have e : (!((List.range (min items.size items2.size)).all (fun _ => true) && items.size == items2.size)) = true := by
    have : (items.size == items2.size) = false := by rw [beq_eq_false_iff_ne]; omega
    rw [this]; simp
  rwa [e] at this
theorem str_eq_declines_dict (b : Str) (u : Tok) (l : Addr) (c : Value) (es : Array DictEntry) (n : Nat) (dd : Option Addr) (sl : Array (Option Value)) :
    Meets (Builtin.«str.__eq__» ⟨[.str b u, .ref l], []⟩) (fun _ R s => s.heap.get? l = some { cls := c, dict := dd, data := .dict es n, slots := sl } ∧ R (.ok (.ret .notImplemented)) s) :=
  .of_wp fun prog w A R s h => by obtain ⟨hp, g, d, tk, os⟩ := s; obtain ⟨hl, h⟩ := h; wp_walk using wpAny_load hl; exact ⟨_, rfl, h⟩
theorem str_dict {l : Addr} (x : Str) (t : Tok) (hl : ∃ o es ep, s.heap.get? l = some o ∧ o.ExactDict ∧ o.data = .dict es ep) (hu : A.units < cLine) : RcAt A s (.str x t) (.ref l) false := fun prog w E Q h => by
  obtain ⟨⟨cls, dd, data, sl⟩, es, ep, ho, ⟨hc, hd0, hs0⟩, hd⟩ := hl
  simp only at hc hd hd0 hs0
  subst hc hd hd0 hs0
  have T1 := typeIs_str s x t
  have T2 : s.TypeIs (.ref l) "dict" := ⟨_, ho, rfl⟩
  exact (rc_eq_decline_or (k := false) T1 T2 (by decide) F.sub_dict_str F.slot_str_eq F.slot_dict_eq_refl
    (fun Q' hq => call_meets F.slot_str_eq T1 F.entry_str_eq (F.args_str_eq_2 _ _) (str_eq_declines_dict x t l _ es ep _ _) ⟨ho, hq⟩)
    (fun Q' hq => wpAny_call_entry F.slot_dict_eq_refl T2 F.entry_dict_eq (by
      show wpAny _ _ (Builtin.Dict.dictSlotArgs "__eq__" ⟨[.ref l, .str x t], []⟩ >>= _) _ _ s
      refine wpAny_bind ?_
      unfold Builtin.Dict.dictSlotArgs
      refine wpAny_bind (wpAny_notOrdered_dict T2 ?_)
      show wpAny _ _ (pure (Value.ref l, Value.str x t)) _ _ s
      refine wpAny_pure ?_
      refine wpAny_bind (wpAny_isInstance (T := "str") T1 PySem.F.sub_str_dict ?_)
      simp only [Bool.not_false, if_true]
      wp_walk
      exact ⟨_, rfl, hq⟩) (F.args_dict_eq_2 _ _))
    (fun _ hq => wpAny_of_eq rfl hq) (.inr hu) h)
theorem dict_str {l : Addr} (x : Str) (t : Tok) (hl : ∃ o es ep, s.heap.get? l = some o ∧ o.ExactDict ∧ o.data = .dict es ep) (hu : A.units < cLine) : RcAt A s (.ref l) (.str x t) false := fun prog w E Q h => by
  obtain ⟨⟨cls, dd, data, sl⟩, es, ep, ho, ⟨hc, hd0, hs0⟩, hd⟩ := hl
  simp only at hc hd hd0 hs0
  subst hc hd hd0 hs0
  have T1 := typeIs_str s x t
  have T2 : s.TypeIs (.ref l) "dict" := ⟨_, ho, rfl⟩
  exact (rc_eq_decline_or (k := false) T2 T1 (by decide) F.sub_str_dict F.slot_dict_eq F.slot_str_eq_refl
    (fun Q' hq => wpAny_call_entry F.slot_dict_eq T2 F.entry_dict_eq (by
      show wpAny _ _ (Builtin.Dict.dictSlotArgs "__eq__" ⟨[.ref l, .str x t], []⟩ >>= _) _ _ s
      refine wpAny_bind ?_
      unfold Builtin.Dict.dictSlotArgs
      refine wpAny_bind (wpAny_notOrdered_dict T2 ?_)
      show wpAny _ _ (pure (Value.ref l, Value.str x t)) _ _ s
      refine wpAny_pure ?_
      refine wpAny_bind (wpAny_isInstance (T := "str") T1 PySem.F.sub_str_dict ?_)
      simp only [Bool.not_false, if_true]
      wp_walk
      exact ⟨_, rfl, hq⟩) (F.args_dict_eq_2 _ _))
    (fun Q' hq => call_meets F.slot_str_eq_refl T1 F.entry_str_eq (F.args_str_eq_2 _ _) (str_eq_declines_dict x t l _ es ep _ _) ⟨ho, hq⟩)
    (fun _ hq => wpAny_of_eq rfl hq) (.inr hu) h)
theorem eq_str_dict {l : Addr} (x : Str) (t : Tok) (hl : ∃ o es ep, s.heap.get? l = some o ∧ o.ExactDict ∧ o.data = .dict es ep) (hu : A.units < cLine) : EqAt A s (.str x t) (.ref l) false := fun prog w E Q h => by
  exact wpAny_holding (wpAny_ite_split (fun hab => absurd (eq_of_beq hab) fun a => nomatch a) fun _ => wpAny_bind (str_dict x t hl hu prog w E (fun a s' => wpAny (model prog w) A (truthOfDropped a) Q E s') (wpAny_truthy_bool h)))
/-- {} is none of some texts -/
theorem in_strs_dict {l d : Addr} {items : Array Value} (hl : s.heap.IsTuple l items) (hs : ∀ y ∈ items, ∃ x t, y = .str x t) (hd : ∃ o es ep, s.heap.get? d = some o ∧ o.ExactDict ∧ o.data = .dict es ep) (hu : A.units + 1 < cLine) (prog : Program) (w : World) (E Q : Value → Shared → Prop) (h : Q (.bool false) s) :
    wpAny (model prog w) A (compareOp .In (.ref d) (.ref l)) Q E s := by
  obtain ⟨⟨cls2, dd2, data2, sl2⟩, ho2, hc2, n2, hd2⟩ := id hl
  simp only at hc2 hd2
  subst hc2 hd2
  have T2 : s.TypeIs (.ref l) "tuple" := ⟨_, ho2, rfl⟩
  refine wpAny_bind (wpAny_contains_slot T2 F.slot_tuple_contains (call_meets F.slot_tuple_contains T2 F.entry_tuple_contains (F.args_tuple_contains_2 _ _) (tuple_containsAt l items n2 dd2 sl2 (.ref d) (fun _ => false)) ⟨ho2, fun y hy => ?_, ?_⟩))
  · obtain ⟨x, t, rfl⟩ := hs y hy
    exact eq_str_dict x t hd hu
  · refine wpAny_truthy_bool ?_
    have e : items.any (fun _ => false) = false := by simp
    rw [e]
    exact wpAny_pure h
theorem eq_str_tuple {l : Addr} {items : Array Value} (x : Str) (t : Tok) (hl : s.heap.IsTuple l items) (hu : A.units < cLine) : EqAt A s (.str x t) (.ref l) false := fun prog w E Q h => by
  exact wpAny_holding (wpAny_ite_split (fun hab => absurd (eq_of_beq hab) fun a => nomatch a) fun _ => wpAny_bind (RcAt.str_tuple x t hl hu prog w E (fun a s' => wpAny (model prog w) A (truthOfDropped a) Q E s') (wpAny_truthy_bool h)))
theorem eq_str_list {l : Addr} {items : Array Value} (x : Str) (t : Tok) (hl : s.heap.IsList l items) (hu : A.units < cLine) : EqAt A s (.str x t) (.ref l) false := fun prog w E Q h => by
  exact wpAny_holding (wpAny_ite_split (fun hab => absurd (eq_of_beq hab) fun a => nomatch a) fun _ => wpAny_bind (RcAt.str_list x t hl hu prog w E (fun a s' => wpAny (model prog w) A (truthOfDropped a) Q E s') (wpAny_truthy_bool h)))
/-- what is no text is none of some texts -/
theorem in_strs {l d : Addr} {items : Array Value} (hl : s.heap.IsTuple l items) (hs : ∀ y ∈ items, ∃ x t, y = .str x t) (hd : ∀ x t, EqAt A.in1 s (.str x t) (.ref d) false) (prog : Program) (w : World) (E Q : Value → Shared → Prop) (h : Q (.bool false) s) :
    wpAny (model prog w) A (compareOp .In (.ref d) (.ref l)) Q E s := by
  obtain ⟨⟨cls2, dd2, data2, sl2⟩, ho2, hc2, n2, hd2⟩ := id hl
  simp only at hc2 hd2
  subst hc2 hd2
  have T2 : s.TypeIs (.ref l) "tuple" := ⟨_, ho2, rfl⟩
  refine wpAny_bind (wpAny_contains_slot T2 F.slot_tuple_contains (call_meets F.slot_tuple_contains T2 F.entry_tuple_contains (F.args_tuple_contains_2 _ _) (tuple_containsAt l items n2 dd2 sl2 (.ref d) (fun _ => false)) ⟨ho2, fun y hy => ?_, ?_⟩))
  · obtain ⟨x, t, rfl⟩ := hs y hy
    exact hd x t
  · refine wpAny_truthy_bool ?_
    have e : items.any (fun _ => false) = false := by simp
    rw [e]
    exact wpAny_pure h
end NeT
end Fx

namespace Fx
open PySem PySem.Spec PyProof.Rows L2
theorem ofString_inj {a b : String} (h : Str.ofString a = Str.ofString b) : a = b := by
  rw [Str.ofString_eq_toList, Str.ofString_eq_toList] at h
  injection h with h
  have h2 : a.toList.map Char.toNat = b.toList.map Char.toNat := by
    have := congrArg Array.toList h
    simpa using this
  have h3 : a.toList = b.toList := by
    have inj : ∀ (l k : List Char), l.map Char.toNat = k.map Char.toNat → l = k := by
      intro l
      induction l with
      | nil => intro k e; cases k with | nil => rfl | cons _ _ => cases e
      | cons x xs ih =>
        intro k e
        cases k with
        | nil => cases e
        | cons y ys =>
          injection e with e1 e2
          rw [ih ys e2]
          have : x = y := Char.ext (UInt32.toNat_inj.mp e1)
          rw [this]
    exact inj _ _ h2
  exact String.toList_inj.mp h3
theorem ofString_beq (a b : String) : (Str.ofString a == Str.ofString b) = (a == b) := by
  by_cases e : a = b
  · subst e; simp
  · have h : ¬ Str.ofString a = Str.ofString b := fun z => e (ofString_inj z)
    rw [beq_eq_false_iff_ne.mpr h, beq_eq_false_iff_ne.mpr e]
theorem strOk_of (s : String) : PySem.PyData.strOk (Str.ofString s) = true := by
  rw [Str.ofString_eq_toList]
  show (Array.all _ _) = true
  simp only [List.all_toArray, List.all_map, List.all_eq_true, decide_eq_true_eq, Function.comp]
  intro c _
  have := c.valid
  rcases this with h | ⟨_, h⟩
  · have : c.toNat < 55296 := h
    omega
  · exact h
variable {X : Cx}
section
variable {K : PySem.W.Frag} {M : Mp} {H : Hp}
mutual
theorem dp_of : ∀ {x : Val} {u : V} {d : PyData}, Rl K M H x u → toD x = some d → Dp K H u d
  | _, _, _, .nn, e => by cases e; exact .non
  | _, _, _, .bool b, e => by cases e; exact .bl b
  | _, _, _, .int i, e => by cases e; exact .int i
  | _, _, _, .str s, e => by cases e; exact .str _
  | _, _, _, .txt s, e => by cases e; exact .str _
  | _, _, _, .tupT (xs := xs) _ hr hs, e => by
    cases q : toDs xs with
    | none => rw [toD, q] at e; cases e
    | some ds => rw [toD, q] at e; cases e; exact .tup (.inl hr) (dpAll_of hs q)
  | _, _, _, .tupK (xs := xs) hk hs, e => by
    cases q : toDs xs with
    | none => rw [toD, q] at e; cases e
    | some ds => rw [toD, q] at e; cases e; exact .tup (hk.sq H) (dpAll_of hs q)
  | _, _, _, .lst (xs := xs) _ hr hs, e => by
    cases q : toDs xs with
    | none => rw [toD, q] at e; cases e
    | some ds => rw [toD, q] at e; cases e; exact .lst (.of hr) (dpAll_of hs q)
  | _, _, _, .frzT (xs := xs) _ hr hs, e => by
    cases q : toDs xs with
    | none => rw [toD, q] at e; cases e
    | some ds => rw [toD, q] at e; cases e; exact .lst (.inl hr) (dpAll_of hs q)
  | _, _, _, .frzK (xs := xs) hk hs, e => by
    cases q : toDs xs with
    | none => rw [toD, q] at e; cases e
    | some ds => rw [toD, q] at e; cases e; exact .lst (hk.sq H) (dpAll_of hs q)
  | _, _, _, .ref _, e => by cases e
theorem dpAll_of : ∀ {xs : List Val} {us : List V} {ds : List PyData}, Rls K M H xs us → toDs xs = some ds → DpAll K H us ds
  | _, _, _, .nil, e => by cases e; exact .nil
  | _, _, _, .cons (x := x) (xs := xs) r t, e => by
    rw [toDs] at e
    cases q1 : toD x with
    | none => rw [q1] at e; cases e
    | some d =>
      rw [q1] at e
      cases q2 : toDs xs with
      | none => rw [q2] at e; cases e
      | some ds => rw [q2] at e; cases e; exact .cons (dp_of r q1) (dpAll_of t q2)
end
theorem dpD_of {x : Val} {u : V} {d : PyData} (r : RlD K M H x u) (e : toD x = some d) : Dp K H u d := by
  rcases r with r | ⟨xs, vs, a, rfl, rfl, h, t⟩ | ⟨_, _, _, _, rfl, _⟩
  · exact dp_of r e
  · cases q : toDs xs with
    | none => rw [toD, q] at e; cases e
    | some ds => rw [toD, q] at e; cases e; exact .lst (.of h) (dpAll_of t q)
  · rw [toD] at e; cases e
theorem key_rl {x : Val} {u : V} {k : Key} (r : RlD K M H x u) (e : keyOf x = some k) : u = kV k := by
  cases x with
  | int i => cases e; exact r.int
  | str s => cases e; exact r.str
  | _ => cases e
theorem look_rl : ∀ {ks : List Key} {vs : List Val} {us : List V} (_ : Rls K M H vs us) (k : Key), match dLook ks vs k with
    | some v => ∃ u, valV (ks.zip us) k = some u ∧ Rl K M H v u
    | none => ks.length = us.length → valV (ks.zip us) k = none
  | [], _, _, _, k => by
    rw [dLook]
    · exact fun _ => rfl
    · exact fun _ _ _ _ z _ => nomatch z
  | _ :: _, [], _, .nil, k => by
    rw [dLook]
    · exact fun z => nomatch z
    · exact fun _ _ _ _ _ z => nomatch z
  | j :: ks, v :: vs, u :: us, .cons r t, k => by
    rw [dLook]
    by_cases e : j = k
    · rw [if_pos e]
      exact ⟨u, by rw [List.zip_cons_cons, valV_pos e], r⟩
    · rw [if_neg e]
      have ih := look_rl (ks := ks) t k
      rw [List.zip_cons_cons, valV_neg e]
      revert ih
      cases dLook ks vs k with
      | none => exact fun ih hl => ih (Nat.succ.inj hl)
      | some w => exact fun ih => ih
theorem flat_of {x : Val} {u : V} (r : Rl K M H x u) (h : isFlat x = true) : flatV u = true := by
  cases r <;> first | rfl | cases h
theorem flats_of : ∀ {xs : List Val} {us : List V}, Rls K M H xs us → xs.all isFlat = true → us.all flatV = true
  | _, _, .nil, _ => rfl
  | _, _, .cons r t, h => by
    rw [List.all_cons, Bool.and_eq_true] at h ⊢
    exact ⟨flat_of r h.1, flats_of t h.2⟩
theorem eqF_of {x y : Val} {u w : V} (r : Rl K M H x u) (q : Rl K M H y w) (h1 : isFlat x = true) (h2 : isFlat y = true) : eqV u w = eqF x y := by
  cases r <;> first | (cases h1; done) | skip
  all_goals (cases q <;> first | (cases h2; done) | rfl | exact ofString_beq _ _)
theorem inF_of {x : Val} {u : V} (q : Rl K M H x u) (h1 : isFlat x = true) : ∀ {xs : List Val} {us : List V}, Rls K M H xs us → xs.all isFlat = true → inV u us = xs.any fun y => eqF y x
  | _, _, .nil, _ => rfl
  | _, _, .cons (xs := xs) (vs := vs) r t, h => by
    rw [List.all_cons, Bool.and_eq_true] at h
    have ih := inF_of q h1 t h.2
    unfold inV at ih ⊢
    rw [List.any_cons, List.any_cons, ih, eqF_of r q h.1 h1]
end
/-- an outcome that is a bool -/
theorem fin_bool {pins : List (Addr × PySem.Obj)} {s : Shared} {σ : L2.St} {H : Hp} {M : Mp} {G : Heap} {Q : VK} {b : Bool} {c : Val} (hh : HeapR X.K M G H) (q : ∀ u H', Later M H M H' → HeapR X.K M G H' → Rl X.K M H' c u → Fr X.K M H H' c u → Q u H') (hc : c = .bool b) : Q (.bl b) H := by
  subst hc
  exact q _ H (Later.refl M H) hh (.bool b) (Fr.no fun _ e => nomatch e)
theorem eqK_cases {x y : Val} {k : Bool} (h : eqK x y = some k) : (∃ a b, x = .txt a ∧ y = .txt b ∧ decide (a = b) = k) ∨ eqK0 x y = some k := by
  unfold eqK at h
  split at h
  · exact .inl ⟨_, _, rfl, rfl, Option.some.inj h⟩
  · exact .inr h
theorem eqK2_cases {x y : Val} {k : Bool} (h : eqK2 x y = some k) : (∃ z, x = .str z ∧ y = .dct [] [] ∧ false = k) ∨ (∃ z, x = .dct [] [] ∧ y = .str z ∧ false = k) ∨ (∃ z xs, x = .str z ∧ (y = .tup xs ∨ y = .lst xs) ∧ false = k) ∨ (∃ z xs, (x = .tup xs ∨ x = .lst xs) ∧ y = .str z ∧ false = k) ∨ eqK x y = some k := by
  unfold eqK2 at h
  split at h
  · split at h
    · exact .inl ⟨_, rfl, rfl, Option.some.inj h⟩
    · exact .inr (.inr (.inr (.inr h)))
  · split at h
    · exact .inr (.inl ⟨_, rfl, rfl, Option.some.inj h⟩)
    · exact .inr (.inr (.inr (.inl ⟨_, _, .inl rfl, rfl, Option.some.inj h⟩)))
    · exact .inr (.inr (.inr (.inl ⟨_, _, .inr rfl, rfl, Option.some.inj h⟩)))
    · exact .inr (.inr (.inr (.inr h)))
  · split at h
    · exact .inr (.inr (.inl ⟨_, _, rfl, .inl rfl, Option.some.inj h⟩))
    · exact .inr (.inr (.inr (.inr h)))
  · split at h
    · exact .inr (.inr (.inl ⟨_, _, rfl, .inr rfl, Option.some.inj h⟩))
    · exact .inr (.inr (.inr (.inr h)))
  · exact .inr (.inr (.inr (.inr h)))
theorem inT_cases {x : Val} {ys : List Val} {k : Bool} (h : inT x ys = some k) : ((x = .dct [] [] ∨ ∃ xs, x = .tup xs ∨ x = .lst xs) ∧ ys.all isStrV = true ∧ false = k) ∨ inK x ys = some k := by
  unfold inT at h
  split at h
  · split at h
    · exact .inl ⟨.inl rfl, by assumption, Option.some.inj h⟩
    · exact .inr h
  · split at h
    · exact .inl ⟨.inr ⟨_, .inl rfl⟩, by assumption, Option.some.inj h⟩
    · exact .inr h
  · split at h
    · exact .inl ⟨.inr ⟨_, .inr rfl⟩, by assumption, Option.some.inj h⟩
    · exact .inr h
  · exact .inr h
theorem strs_rl {K : PySem.W.Frag} {M : Mp} {H : Hp} : ∀ {ys : List Val} {us : List V} {ws : List Value}, Rls K M H ys us → ys.all isStrV = true → Vals us ws → ∀ y ∈ ws, ∃ x t, y = .str x t
  | _, _, _, .nil, _, r => by cases r; exact fun _ h => nomatch h
  | _, _, _, .cons (x := x) h t, e, r => by
    rw [List.all_cons, Bool.and_eq_true] at e
    cases r with
    | cons r1 r2 =>
      intro y hy
      rcases List.mem_cons.mp hy with rfl | hy
      · cases x with
        | str z => cases h; obtain ⟨t, rfl⟩ := r1; exact ⟨_, t, rfl⟩
        | _ => cases e.1
      · exact strs_rl t e.2 r2 y hy
theorem eqK_ne {x y : Val} (h : ∀ a, x ≠ .txt a) : eqK x y = eqK0 x y := by
  unfold eqK
  split
  · exact absurd rfl (h _)
  · rfl
theorem neK_cases {x y : Val} {k : Bool} (h : neK x y = some k) : (neT0 x y = some true ∧ k = true) ∨ ∃ k2, eqK x y = some k2 ∧ k = !k2 := by
  unfold neK at h
  cases h0 : neT0 x y with
  | some b =>
    rw [h0] at h
    have hb : b = true := by
      unfold neT0 at h0
      split at h0 <;> first | exact (Option.some.inj h0).symm | cases h0
    subst hb
    exact .inl ⟨rfl, (Option.some.inj h).symm⟩
  | none =>
    rw [h0] at h
    obtain ⟨k2, e, hk⟩ := Option.map_eq_some_iff.mp h
    exact .inr ⟨k2, e, hk.symm⟩
theorem ne_t0 {X : Cx} (hu : X.A.units < cLine) {pins : List (Addr × PySem.Obj)} {s : Shared} {σ : L2.St} {H : Hp} {x y : V} {v u : Value} {Q : VK} (I : Inv X pins σ H s) (rx : RelV x v) (ry : RelV y u) {M : Mp} {a b : Val} (ra : RlD X.K M H a x) (rb : RlD X.K M H b y) (h : neT0 a b = some true) (q : Q (.bl true) H) : wpAny (model X.prog X.w) X.A (compareOp .NotEq v u) (EP X pins σ Q) X.xe s := by
  have hb : b = .tup [] := by
    unfold neT0 at h
    split at h <;> first | rfl | cases h
  subst hb
  obtain ⟨bs, r2⟩ := Dp.reads I (.tuple []) y u (dpD_of rb (by rw [toD, toDs]; rfl)) ry
  have fin : EP X pins σ Q (.bool true) s := ⟨.bl true, H, I, rfl, q⟩
  cases r2 with
  | tuple k1 k2 k3 k4 =>
    rename_i b' o vs n
    have z : vs.size = 0 := by
      generalize hv : vs.toList = l at k4
      cases k4
      rw [← Array.length_toList, hv]; rfl
    have ht : s.heap.IsTuple b' vs := ⟨_, k1, k2, _, k3⟩
    unfold neT0 at h
    split at h
    · obtain ⟨a', ws, rfl, hs, hr⟩ := ra.tup
      cases rx
      obtain ⟨its, rv, ⟨o1, ho, hc, n1, hd⟩, _⟩ := I.tuple hs
      have hl : 0 < its.toArray.size := by
        cases hr with
        | cons r t => cases rv with | cons r2 t2 => simp
      exact NeT.tuples0 ⟨_, ho, hc, _, hd⟩ ht hl z hu _ _ _ _ fin
    · obtain ⟨a', ws, rfl, hs, hr⟩ := ra.lst
      cases rx
      obtain ⟨its, rv, ⟨o1, n1, ho, hc, _, hd⟩, _⟩ := I.list (.of hs)
      exact SeqAt.RcNeAt.list_tuple ⟨_, ho, hc, _, hd⟩ ht hu _ _ _ _ fin
    · obtain ⟨a', us, rfl, hs, hl, hr⟩ := ra.dct
      cases rx
      obtain ⟨_, _, _, _, o, es, ep, ho, he, hd, _⟩ := dk_of I.hok hs
      exact NeT.dict_tuple ⟨o, es, ep, ho, he, hd⟩ ht hu _ _ _ _ fin
    · cases h
theorem eqK_some {x y : Val} {k : Bool} (h : eqK0 x y = some k) : ∃ d e, toD x = some d ∧ toD y = some e ∧ SeqAt.shaped d = true ∧ SeqAt.shaped e = true ∧ PyData.eqv d e = k := by
  unfold eqK0 at h
  cases h1 : toD x with
  | none => rw [h1] at h; cases h
  | some d =>
    rw [h1] at h
    cases h2 : toD y with
    | none => rw [h2] at h; cases h
    | some e =>
      rw [h2] at h
      have h' : (if (SeqAt.shaped d && SeqAt.shaped e) = true then some (PyData.eqv d e) else none) = some k := h
      split at h'
      · rename_i z
        rw [Bool.and_eq_true] at z
        exact ⟨d, e, rfl, rfl, z.1, z.2, Option.some.inj h'⟩
      · cases h'
theorem inK_some {x : Val} {ys : List Val} {k : Bool} (h : inK x ys = some k) : (isFlat x = true ∧ ys.all isFlat = true ∧ (ys.any fun y => eqF y x) = k) ∨ ∃ d ds, toD x = some d ∧ toDs ys = some ds ∧ SeqAt.shaped d = true ∧ SeqAt.shaped (.list ds) = true ∧ (ds.any fun z => PyData.eqv z d) = k := by
  unfold inK at h
  split at h
  · rename_i z
    rw [Bool.and_eq_true] at z
    exact .inl ⟨z.1, z.2, Option.some.inj h⟩
  · unfold inD at h
    cases h1 : toD x with
    | none => rw [h1] at h; cases h
    | some d =>
      rw [h1] at h
      cases h2 : toDs ys with
      | none => rw [h2] at h; cases h
      | some ds =>
        rw [h2] at h
        have h' : (if (SeqAt.shaped d && SeqAt.shaped (.list ds)) = true then some (ds.any fun z => PyData.eqv z d) else none) = some k := h
        split at h'
        · rename_i z
          rw [Bool.and_eq_true] at z
          exact .inr ⟨d, ds, rfl, rfl, z.1, z.2, Option.some.inj h'⟩
        · cases h'
theorem toD_seq : ∀ {y : Val} {ys : List Val} {ds : List PyData}, seq? y = some ys → toDs ys = some ds → toD y = some (.list ds) ∨ toD y = some (.tuple ds)
  | .tup _, _, _, hy, h => by cases hy; exact .inr (by rw [toD, h]; rfl)
  | .lst _, _, _, hy, h => by cases hy; exact .inl (by rw [toD, h]; rfl)
  | .frz _, _, _, hy, h => by cases hy; exact .inl (by rw [toD, h]; rfl)
  | .none, _, _, hy, _ => by cases hy
  | .bool _, _, _, hy, _ => by cases hy
  | .int _, _, _, hy, _ => by cases hy
  | .str _, _, _, hy, _ => by cases hy
  | .ref _, _, _, hy, _ => by cases hy
  | .dct _ _, _, _, hy, _ => by cases hy
  | .txt _, _, _, hy, _ => by cases hy
theorem in_dat {K : PySem.W.Frag} {M : Mp} {H : Hp} {x : Val} {y : Val} {u w : V} {d : PyData} {ds : List PyData} (rx : RlD K M H x u) (ry : RlD K M H y w) {ys : List Val} (hy : seq? y = some ys) (f1 : toD x = some d) (f2 : toDs ys = some ds) : Dp K H u d ∧ (Dp K H w (.list ds) ∨ Dp K H w (.tuple ds)) :=
  ⟨dpD_of rx f1, (toD_seq hy f2).elim (fun g => .inl (dpD_of ry g)) fun g => .inr (dpD_of ry g)⟩
theorem shaped_lt {ds : List PyData} (h : SeqAt.shaped (.list ds) = true) : SeqAt.shaped (.tuple ds) = true := h
theorem op_inTD {X : Cx} (hu : X.A.units + 65 < cLine) : OpR X (compareOp .In) (fun x y H Q => ∃ d ds, Dp X.K H x d ∧ Dp X.K H y (.tuple ds) ∧ SeqAt.shaped d = true ∧ SeqAt.shaped (.list ds) = true ∧ Q (.bl (ds.any fun z => PyData.eqv z d)) H) := by
  intro pins s σ H x y v u Q I rx ry h
  obtain ⟨d, ds, hd, he, sd, se, q⟩ := h
  obtain ⟨as, r1⟩ := Dp.reads I d x v hd rx
  obtain ⟨bs, r2⟩ := Dp.reads I (.tuple ds) y u he ry
  exact SeqAt.in_tuple_reads r2 r1 (SeqAt.canLay_of_shaped se) (SeqAt.canLay_of_shaped sd) (room_in_shaped sd hu) ⟨.bl _, H, I, rfl, q⟩
theorem op_notInTD {X : Cx} (hu : X.A.units + 65 < cLine) : OpR X (compareOp .NotIn) (fun x y H Q => ∃ d ds, Dp X.K H x d ∧ Dp X.K H y (.tuple ds) ∧ SeqAt.shaped d = true ∧ SeqAt.shaped (.list ds) = true ∧ Q (.bl (!ds.any fun z => PyData.eqv z d)) H) := by
  intro pins s σ H x y v u Q I rx ry h
  obtain ⟨d, ds, hd, he, sd, se, q⟩ := h
  obtain ⟨as, r1⟩ := Dp.reads I d x v hd rx
  obtain ⟨bs, r2⟩ := Dp.reads I (.tuple ds) y u he ry
  exact SeqAt.notIn_tuple_reads r2 r1 (SeqAt.canLay_of_shaped se) (SeqAt.canLay_of_shaped sd) (room_in_shaped sd hu) ⟨.bl _, H, I, rfl, q⟩
theorem in_seq {K : PySem.W.Frag} {M : Mp} {H : Hp} {x : Val} {y : Val} {u w : V} {k : Bool} (rx : RlD K M H x u) (ry : RlD K M H y w) {ys : List Val} (hy : seq? y = some ys) (f1 : isFlat x = true) (f2 : ys.all isFlat = true) (e : (ys.any fun y => eqF y x) = k) :
    ∃ p xs, w = .ref p ∧ (SqL K H p xs ∨ SqT K H p xs) ∧ flatV u = true ∧ xs.all flatV = true ∧ inV u xs = k := by
  obtain ⟨a, vs, h1, h2, t⟩ := ry.seq hy
  have r : Rl K M H x u := by
    rcases rx with r | ⟨_, _, _, rfl, _⟩ | ⟨_, _, _, _, rfl, _⟩
    · exact r
    · cases f1
    · cases f1
  exact ⟨a, vs, h1, h2, flat_of r f1, flats_of t f2, (inF_of r f1 t f2).trans e⟩
theorem op_cmpK (hu : X.A.units + 65 < cLine) (op : CmpOp) : OpR X (compareOp op) (rB X.K fun x y => (cmpK op x y).map .bool) := by
  intro pins s σ H x y v u Q I rx ry ⟨M, G, a, b, c, hh, ra, rb, hc, q⟩
  have hc : (cmpK op a b).map Val.bool = some c := hc
  cases hk : cmpK op a b with
  | none => rw [hk] at hc; cases hc
  | some k =>
    rw [hk] at hc
    cases hc
    have qq : Q (.bl k) H := fin_bool (pins := pins) (s := s) (σ := σ) hh q rfl
    cases op with
    | Eq =>
      rcases eqK2_cases (show eqK2 a b = some k from hk) with ⟨z1, rfl, rfl, rfl⟩ | ⟨z1, rfl, rfl, rfl⟩ | ⟨z1, xs, rfl, rfl | rfl, rfl⟩ | ⟨z1, xs, rfl | rfl, rfl, rfl⟩ | hk
      · cases ra.str
        obtain ⟨p, us, rfl, e2, _, _⟩ := rb.dct
        obtain ⟨t, rfl⟩ := rx
        cases ry
        obtain ⟨_, _, _, _, o, es, ep, ho, he, hd, _⟩ := dk_of I.hok e2
        exact NeT.str_dict _ t ⟨o, es, ep, ho, he, hd⟩ (by omega) _ _ _ _ ⟨.bl false, H, I, rfl, qq⟩
      · cases rb.str
        obtain ⟨p, us, rfl, e2, _, _⟩ := ra.dct
        obtain ⟨t, rfl⟩ := ry
        cases rx
        obtain ⟨_, _, _, _, o, es, ep, ho, he, hd, _⟩ := dk_of I.hok e2
        exact NeT.dict_str _ t ⟨o, es, ep, ho, he, hd⟩ (by omega) _ _ _ _ ⟨.bl false, H, I, rfl, qq⟩
      · cases ra.str
        obtain ⟨p, us, rfl, e2, _⟩ := rb.tup
        obtain ⟨t, rfl⟩ := rx
        cases ry
        obtain ⟨its, _, ht, _⟩ := I.tuple e2
        exact SeqAt.RcAt.str_tuple _ t ht (by omega) _ _ _ _ ⟨.bl false, H, I, rfl, qq⟩
      · cases ra.str
        obtain ⟨p, us, rfl, e2, _⟩ := rb.lst
        obtain ⟨t, rfl⟩ := rx
        cases ry
        obtain ⟨its, _, ht, _⟩ := I.list (.inl (.inl e2))
        exact SeqAt.RcAt.str_list _ t ht.isList (by omega) _ _ _ _ ⟨.bl false, H, I, rfl, qq⟩
      · cases rb.str
        obtain ⟨p, us, rfl, e2, _⟩ := ra.tup
        obtain ⟨t, rfl⟩ := ry
        cases rx
        obtain ⟨its, _, ht, _⟩ := I.tuple e2
        exact SeqAt.RcAt.tuple_str _ t ht (by omega) _ _ _ _ ⟨.bl false, H, I, rfl, qq⟩
      · cases rb.str
        obtain ⟨p, us, rfl, e2, _⟩ := ra.lst
        obtain ⟨t, rfl⟩ := ry
        cases rx
        obtain ⟨its, _, ht, _⟩ := I.list (.inl (.inl e2))
        exact SeqAt.RcAt.list_str _ t ht.isList (by omega) _ _ _ _ ⟨.bl false, H, I, rfl, qq⟩
      rcases eqK_cases (show eqK a b = some k from hk) with ⟨z1, z2, rfl, rfl, z3⟩ | hk0
      · cases ra.txt; cases rb.txt
        exact op_eq pins s σ H _ _ v u Q I rx ry ⟨rfl, by rw [show decide (V.str z1 = V.str z2) = decide (z1 = z2) by simp, z3]; exact qq⟩
      obtain ⟨d, e, h1, h2, h3, h4, h5⟩ := eqK_some hk0
      exact op_eqD (by omega) pins s σ H _ _ v u Q I rx ry ⟨d, e, dpD_of ra h1, dpD_of rb h2, h3, h4, by rw [h5]; exact qq⟩
    | NotEq =>
      rcases neK_cases (show neK a b = some k from hk) with ⟨h0, rfl⟩ | ⟨k2, hk2, rfl⟩
      · exact ne_t0 (by omega) I rx ry ra rb h0 qq
      · rcases eqK_cases hk2 with ⟨z1, z2, rfl, rfl, z3⟩ | hk0
        · cases ra.txt; cases rb.txt
          exact op_ne pins s σ H _ _ v u Q I rx ry ⟨rfl, by rw [show decide (V.str z1 = V.str z2) = decide (z1 = z2) by simp, z3]; exact qq⟩
        obtain ⟨d, e, h1, h2, h3, h4, h5⟩ := eqK_some hk0
        exact op_neD (by omega) pins s σ H _ _ v u Q I rx ry ⟨d, e, dpD_of ra h1, dpD_of rb h2, h3, h4, by rw [h5]; exact qq⟩
    | Lt =>
      cases a <;> cases b <;> first | (cases hk; done) | skip
      cases ra.int; cases rb.int; cases hk
      exact op_lt pins s σ H _ _ v u Q I rx ry ⟨_, _, rfl, rfl, qq⟩
    | LtE =>
      cases a <;> cases b <;> first | (cases hk; done) | skip
      cases ra.int; cases rb.int; cases hk
      exact op_le pins s σ H _ _ v u Q I rx ry ⟨_, _, rfl, rfl, qq⟩
    | Gt =>
      cases a <;> cases b <;> first | (cases hk; done) | skip
      cases ra.int; cases rb.int; cases hk
      exact op_gt pins s σ H _ _ v u Q I rx ry ⟨_, _, rfl, rfl, qq⟩
    | GtE =>
      cases a <;> cases b <;> first | (cases hk; done) | skip
      cases ra.int; cases rb.int; cases hk
      exact op_ge pins s σ H _ _ v u Q I rx ry ⟨_, _, rfl, rfl, qq⟩
    | Is =>
      cases b <;> first | (cases hk; done) | skip
      rotate_right
      · cases a <;> first | (cases hk; done) | skip
        cases ra.bool; cases rb.bool
        cases hk
        exact op_isBl pins s σ H _ _ v u Q I rx ry ⟨_, _, rfl, rfl, qq⟩
      cases rb.nn
      cases hk
      refine op_isN pins s σ H _ _ v u Q I rx ry ⟨rfl, ?_⟩
      have e : decide (x = V.non) = isNone a := by
        rcases ra with r | ⟨xs, vs, a', rfl, rfl, _⟩ | ⟨_, xs, vs, a', rfl, rfl, _⟩
        · cases r <;> rfl
        · rfl
        · rfl
      rw [e]; exact qq
    | IsNot =>
      cases b <;> first | (cases hk; done) | skip
      cases rb.nn
      cases hk
      refine op_notN pins s σ H _ _ v u Q I rx ry ⟨rfl, ?_⟩
      have e : decide (x = V.non) = isNone a := by
        rcases ra with r | ⟨xs, vs, a', rfl, rfl, _⟩ | ⟨_, xs, vs, a', rfl, rfl, _⟩
        · cases r <;> rfl
        · rfl
        · rfl
      rw [e]; exact qq
    | In =>
      cases b <;> first | (cases hk; done) | skip
      rotate_right
      · rename_i ks xs
        have hk : ((keyOf a).map fun k => (dLook ks xs k).isSome) = some k := hk
        cases q1 : keyOf a with
        | none => rw [q1] at hk; cases hk
        | some j =>
          rw [q1] at hk
          cases hk
          obtain ⟨p, us, e1, e2, e3, t⟩ := rb.dct
          have ek := key_rl ra q1
          subst ek e1
          cases ry
          have lk := look_rl (ks := ks) t j
          have eo : (valV (ks.zip us) j).isSome = (dLook ks xs j).isSome := by
            revert lk
            cases dLook ks xs j with
            | none => intro lk; rw [lk e3]; rfl
            | some v => intro ⟨u, lk, _⟩; rw [lk]; rfl
          exact d_in (by omega) I (DGet.k e2) rx fun s' I' => ⟨_, H, I', by rw [eo]; rfl, qq⟩
      · cases a <;> first | (cases hk; done) | skip
        cases ra.str; cases rb.str
        exact op_in_str pins s σ H _ _ v u Q I rx ry ⟨_, _, rfl, rfl, by rw [Option.some.inj (show some _ = some k from hk)]; exact qq⟩
      · rename_i ys
        rcases inT_cases (show inT a ys = some k from hk) with ⟨rfl | ⟨xs, rfl | rfl⟩, z2, rfl⟩ | hk
        · obtain ⟨p, us, rfl, e2, _, _⟩ := ra.dct
          obtain ⟨q1, ws, rfl, hs, hr⟩ := rb.tup
          cases rx
          cases ry
          obtain ⟨its, rv, ⟨o1, ho1, hc1, n1, hd1⟩, _⟩ := I.tuple hs
          obtain ⟨_, _, _, _, o, es, ep, ho, he, hd, _⟩ := dk_of I.hok e2
          exact NeT.in_strs_dict ⟨_, ho1, hc1, _, hd1⟩ (fun y hy => strs_rl hr z2 rv y (by simpa using hy)) ⟨o, es, ep, ho, he, hd⟩ (by omega) _ _ _ _ ⟨.bl false, H, I, rfl, qq⟩
        · obtain ⟨p, us, rfl, e2, _⟩ := ra.tup
          obtain ⟨q1, ws, rfl, hs, hr⟩ := rb.tup
          cases rx
          cases ry
          obtain ⟨its, rv, ⟨o1, ho1, hc1, n1, hd1⟩, _⟩ := I.tuple hs
          obtain ⟨_, _, ht, _⟩ := I.tuple e2
          exact NeT.in_strs ⟨_, ho1, hc1, _, hd1⟩ (fun y hy => strs_rl hr z2 rv y (by simpa using hy)) (fun x t => NeT.eq_str_tuple x t ht (show X.A.units + 1 < _ by omega)) _ _ _ _ ⟨.bl false, H, I, rfl, qq⟩
        · obtain ⟨p, us, rfl, e2, _⟩ := ra.lst
          obtain ⟨q1, ws, rfl, hs, hr⟩ := rb.tup
          cases rx
          cases ry
          obtain ⟨its, rv, ⟨o1, ho1, hc1, n1, hd1⟩, _⟩ := I.tuple hs
          obtain ⟨_, _, ht, _⟩ := I.list (.inl (.inl e2))
          exact NeT.in_strs ⟨_, ho1, hc1, _, hd1⟩ (fun y hy => strs_rl hr z2 rv y (by simpa using hy)) (fun x t => NeT.eq_str_list x t ht.isList (show X.A.units + 1 < _ by omega)) _ _ _ _ ⟨.bl false, H, I, rfl, qq⟩
        rcases inK_some (x := a) (ys := ys) (k := k) hk with ⟨f1, f2, f3⟩ | ⟨d, ds, f1, f2, f3, f4, f5⟩
        · obtain ⟨p, zs, e1, e2, e3, e4, e5⟩ := in_seq ra rb rfl f1 f2 f3
          exact op_in_seq pins s σ H _ _ v u Q I rx ry ⟨p, zs, e1, e2, e3, e4, by rw [if_neg Bool.false_ne_true, e5]; exact qq⟩
        · obtain ⟨g1, g | g⟩ := in_dat ra rb rfl f1 f2
          · exact op_inD hu pins s σ H _ _ v u Q I rx ry ⟨d, ds, g1, g, f3, f4, by rw [f5]; exact qq⟩
          · exact op_inTD hu pins s σ H _ _ v u Q I rx ry ⟨d, ds, g1, g, f3, f4, by rw [f5]; exact qq⟩
      all_goals
        rename_i ys
        rcases inK_some (x := a) (ys := ys) (k := k) hk with ⟨f1, f2, f3⟩ | ⟨d, ds, f1, f2, f3, f4, f5⟩
        · obtain ⟨p, zs, e1, e2, e3, e4, e5⟩ := in_seq ra rb rfl f1 f2 f3
          exact op_in_seq pins s σ H _ _ v u Q I rx ry ⟨p, zs, e1, e2, e3, e4, by rw [if_neg Bool.false_ne_true, e5]; exact qq⟩
        · obtain ⟨g1, g | g⟩ := in_dat ra rb rfl f1 f2
          · exact op_inD hu pins s σ H _ _ v u Q I rx ry ⟨d, ds, g1, g, f3, f4, by rw [f5]; exact qq⟩
          · exact op_inTD hu pins s σ H _ _ v u Q I rx ry ⟨d, ds, g1, g, f3, f4, by rw [f5]; exact qq⟩
    | NotIn =>
      cases b <;> first | (cases hk; done) | skip
      rotate_right
      · rename_i ks xs
        have hk : ((keyOf a).map fun k => !(dLook ks xs k).isSome) = some k := hk
        cases q1 : keyOf a with
        | none => rw [q1] at hk; cases hk
        | some j =>
          rw [q1] at hk
          cases hk
          obtain ⟨p, us, e1, e2, e3, t⟩ := rb.dct
          have ek := key_rl ra q1
          subst ek e1
          cases ry
          have lk := look_rl (ks := ks) t j
          have eo : (valV (ks.zip us) j).isSome = (dLook ks xs j).isSome := by
            revert lk
            cases dLook ks xs j with
            | none => intro lk; rw [lk e3]; rfl
            | some v => intro ⟨u, lk, _⟩; rw [lk]; rfl
          exact d_notIn (by omega) I (DGet.k e2) rx fun s' I' => ⟨_, H, I', by rw [eo]; rfl, qq⟩
      · cases a <;> first | (cases hk; done) | skip
        cases ra.str; cases rb.str
        exact op_notin_str pins s σ H _ _ v u Q I rx ry ⟨_, _, rfl, rfl, by rw [← Option.some.inj (show some _ = some k from hk)] at qq; exact qq⟩
      all_goals
        rename_i ys
        cases hk2 : inK a ys with
        | none => simp only [cmpK, hk2] at hk; cases hk
        | some k2 =>
          simp only [cmpK, hk2] at hk
          cases hk
          rcases inK_some hk2 with ⟨f1, f2, f3⟩ | ⟨d, ds, f1, f2, f3, f4, f5⟩
          · obtain ⟨p, zs, e1, e2, e3, e4, e5⟩ := in_seq ra rb rfl f1 f2 f3
            exact op_notIn_seq pins s σ H _ _ v u Q I rx ry ⟨p, zs, e1, e2, e3, e4, by rw [if_pos rfl, e5]; exact qq⟩
          · obtain ⟨g1, g | g⟩ := in_dat ra rb rfl f1 f2
            · exact op_notInD hu pins s σ H _ _ v u Q I rx ry ⟨d, ds, g1, g, f3, f4, by rw [f5]; exact qq⟩
            · exact op_notInTD hu pins s σ H _ _ v u Q I rx ry ⟨d, ds, g1, g, f3, f4, by rw [f5]; exact qq⟩
def tyN : Ty → String
  | .int => "int" | .bool => "bool" | .tuple => "tuple" | .list => "list" | .str => "str" | .none_ => "NoneType"
def tyOfV : Val → String
  | .none => "NoneType" | .bool _ => "bool" | .int _ => "int" | .str _ => "str" | .txt _ => "str" | .tup _ => "tuple" | .lst _ => "list" | .frz _ => "list" | .dct _ _ => "dict" | .ref _ => ""
theorem tyx_of {M : Mp} {H : Hp} {x : Val} {u : V} (r : RlD X.K M H x u) (h : x.isRef = false) : TyX X.K H u (.type (tyOfV x)) := by
  rcases r with r | ⟨_, _, _, rfl, rfl, h, _⟩ | ⟨_, _, _, _, rfl, rfl, hd, _⟩
  · cases r with
    | nn => exact .base .non
    | bool b => exact .base (.bl b)
    | int i => exact .base (.int i)
    | str s => exact .base (.str _)
    | txt s => exact .base (.str _)
    | tupT _ hr _ =>
      rcases hr with hr | ⟨o, hr⟩
      · exact .base (.tup hr)
      · exact .fTuple hr
    | tupK hk _ => obtain ⟨o, _, _, h1, h2, _⟩ := hk; exact .kTuple h1 h2
    | lst _ hr _ => exact .base (.lst hr)
    | frzT _ hr _ =>
      rcases hr with hr | ⟨o, hr⟩
      · exact .base (.lst hr)
      · exact .base (.frz hr)
    | frzK hk _ => obtain ⟨o, _, _, h1, h2, _⟩ := hk; exact .kList h1 h2
    | dctT _ hd => exact .base (.dK hd)
    | ref _ => cases h
  · exact .base (.lst h)
  · exact .base (.dK hd)
theorem kit_all (t : Ty) (x : Val) (h : x.isRef = false) : kitB (tyOfV x) (tyN t) = some (isK t x) := by
  cases t <;> cases x <;> first | (cases h; done) | (simp only [tyOfV, tyN, isK]; decide +kernel)
def bfN : Bf → Value
  | .str => .type "str" | .sorted => .builtin "sorted" | .len => .builtin "len" | .tuple => .type "tuple" | .list => .type "list" | .int => .type "int" | .abs => .builtin "abs" | .sum => .builtin "sum" | .max => .builtin "max" | .min => .builtin "min" | .all => .builtin "all" | .any => .builtin "any" | .divmod => .builtin "divmod" | .repr => .builtin "repr"
inductive RlDs (K : PySem.W.Frag) (M : Mp) (H : Hp) : List Val → List V → Prop where
  | nil : RlDs K M H [] []
  | cons {x v xs vs} : RlD K M H x v → RlDs K M H xs vs → RlDs K M H (x :: xs) (v :: vs)
theorem RlOs.rds {K : PySem.W.Frag} {M : Mp} {G : Heap} {H : Hp} (hh : HeapR K M G H) : ∀ {xs : List Val} {vs : List V}, RlOs K M H xs vs → RlDs K M H (xs.map (rd G)) vs
  | _, _, .nil => .nil
  | _, _, .cons h t => .cons (h.d.rd hh) (RlOs.rds hh t)
/-- what a call of a built-in is to give: a new list apart from the others -/
def rBf (K : PySem.W.Frag) (f : Bf) : List V → Hp → VK → Prop := fun us H Q => ∃ M G vs c, HeapR K M G H ∧ RlDs K M H vs us ∧ bfK f vs = some c ∧
  ∀ u H', Later M H M H' → HeapR K M G H' → (Rl K M H' c u ∧ Fr K M H H' c u) → Q u H'
theorem ints_of {K : PySem.W.Frag} {M : Mp} {H : Hp} : ∀ {xs : List Val} {vs : List V} {ns : List Int}, Rls K M H xs vs → ints? xs = some ns → vs = ns.map V.int
  | _, _, _, .nil, e => by cases e; rfl
  | _, _, _, .cons (x := x) (xs := xs) r t, e => by
    cases x with
    | int i =>
      cases q : ints? xs with
      | none => rw [ints?, q] at e; cases e
      | some ns => rw [ints?, q] at e; cases e; cases r; rw [ints_of t q]; rfl
    | _ => cases e
theorem bools_of {K : PySem.W.Frag} {M : Mp} {H : Hp} : ∀ {xs : List Val} {vs : List V} {ns : List Bool}, Rls K M H xs vs → bools? xs = some ns → vs = ns.map V.bl
  | _, _, _, .nil, e => by cases e; rfl
  | _, _, _, .cons (x := x) (xs := xs) r t, e => by
    cases x with
    | bool i =>
      cases q : bools? xs with
      | none => rw [bools?, q] at e; cases e
      | some ns => rw [bools?, q] at e; cases e; cases r; rw [bools_of t q]; rfl
    | _ => cases e
theorem maxL_spec : ∀ (ns : List Int), 0 < ns.length → maxL ns ∈ ns ∧ ∀ y ∈ ns, y ≤ maxL ns
  | [], h => absurd h (Nat.lt_irrefl 0)
  | [x], _ => ⟨by simp [maxL], fun y h => by simp at h; subst h; exact Int.le_refl _⟩
  | x :: z :: r, _ => by
    obtain ⟨h1, h2⟩ := maxL_spec (z :: r) (by simp)
    have e : maxL (x :: z :: r) = max x (maxL (z :: r)) := rfl
    rw [e]
    refine ⟨?_, fun y hy => ?_⟩
    · by_cases h : maxL (z :: r) ≤ x
      · rw [Int.max_eq_left h]; exact List.mem_cons_self
      · rw [Int.max_eq_right (by omega)]; exact List.mem_cons_of_mem _ h1
    · rcases List.mem_cons.mp hy with rfl | hy
      · omega
      · have := h2 y hy; omega
theorem minL_spec : ∀ (ns : List Int), 0 < ns.length → minL ns ∈ ns ∧ ∀ y ∈ ns, minL ns ≤ y
  | [], h => absurd h (Nat.lt_irrefl 0)
  | [x], _ => ⟨by simp [minL], fun y h => by simp at h; subst h; exact Int.le_refl _⟩
  | x :: z :: r, _ => by
    obtain ⟨h1, h2⟩ := minL_spec (z :: r) (by simp)
    have e : minL (x :: z :: r) = min x (minL (z :: r)) := rfl
    rw [e]
    refine ⟨?_, fun y hy => ?_⟩
    · by_cases h : x ≤ minL (z :: r)
      · rw [Int.min_eq_left h]; exact List.mem_cons_self
      · rw [Int.min_eq_right (by omega)]; exact List.mem_cons_of_mem _ h1
    · rcases List.mem_cons.mp hy with rfl | hy
      · omega
      · have := h2 y hy; omega

theorem preSum_eq (ns : List Int) : ∀ n, n ≤ ns.length → PySem.preSum (fun j => ns.getD j 0) n = (ns.take n).sum
  | 0, _ => by simp [PySem.preSum]
  | n + 1, h => by
    rw [PySem.preSum, preSum_eq ns n (by omega), take_sum_succ ns n (by omega)]
/-- sum of a tuple of ints -/
theorem cr_sumT (hc : X.calm = true) : CallR X (.builtin "sum") (fun vs H Q => ∃ (a : Addr) (ns : List Int), vs = [V.ref a] ∧ SqT X.K H a (ns.map V.int) ∧ Q (.int ns.sum) H) := by
  intro pins s σ H vs us Q I r h
  obtain ⟨a, ns, rfl, hs, q⟩ := h
  obtain ⟨its, rv, hl, _⟩ := I.tuple hs
  rw [Vals.ref1 r]
  have ha := hl.lt
  have hlen : its.length = ns.length := by rw [← rv.length, List.length_map]
  refine PySem.call_sum_walkG (wpAny_pyIter_tuple (show s.heap.IsTuple a its.toArray from hl) ?_)
  have hne : a ≠ s.heap.objs.size := Nat.ne_of_lt ha
  refine ⟨s.heap.objs.size, _, _, _, _, _, fun j => ns.getD j 0, rfl, Walks.tuple (A := X.A.in1) (I.ok.hd hc) s.heap.objs.size a hne its.toArray, ⟨⟨_, Heap.get?_push_size _ rfl, rfl, rfl⟩, ?_⟩, ?_, ?_, fun h' tk t' hk => ?_⟩
  · obtain ⟨o, ho, h2⟩ := hl
    exact ⟨o, Heap.get?_push_of_some _ ho, h2⟩
  · intro b hb
    show b < (s.heap.push _).objs.size
    rw [Heap.size_push]
    rcases List.mem_cons.mp hb with e | hb
    · rw [e]; exact Nat.lt_succ_self _
    · have e : b = a := by simpa using hb
      rw [e]; exact Nat.lt_succ_of_lt ha
  · intro i v hi
    have hi' : its[i]? = some v := by simpa using hi
    obtain ⟨h1, h2⟩ := List.getElem?_eq_some_iff.mp hi'
    have hx : (ns.map V.int)[i]? = some (V.int (ns.getD i 0)) := by
      rw [List.getElem?_map, List.getElem?_eq_getElem (by omega)]
      simp only [Option.map_some, List.getD_eq_getElem?_getD]
      rw [List.getElem?_eq_getElem (by omega)]; rfl
    obtain ⟨u, e1, e2⟩ := rv.get hx
    rw [hi'] at e1
    cases e1
    exact e2
  · refine ⟨.int _, H, I.kept fun b o eo => hk b o (fun hmem => ?_) (Heap.get?_push_of_some _ eo), ⟨_, rfl⟩, ?_⟩
    · rcases List.mem_cons.mp hmem with e1 | hmem
      · exact absurd (e1 ▸ Heap.lt_size eo) (Nat.lt_irrefl _)
      · cases hmem
    · rw [List.size_toArray, hlen, preSum_eq ns _ (Nat.le_refl _), List.take_length]
      exact q
end Fx

namespace Fx
open PySem PySem.Spec PyProof.Rows L2
variable {X : Cx}
theorem code_tupleD {prog : Program} {w : World} {A : Around} {E : Value → Shared → Prop} {s : Shared} {d : Addr} {n : Nat} {P : Nat → Value → Prop} {OK : PySem.Heap → Prop} {Q₁ : Value → Shared → Prop} (K : PySem.W.KdlSrc prog w "dict" d d n P OK) (hh : A.handled = Option.none) (hok : OK s.heap) (hn : n ≤ sizeLine)
    (h : ∀ (h' : PySem.Heap) (tk : Nat) (acc : Array Value), (∀ b o, s.heap.get? b = some o → h'.get? b = some o) → ItemsOf P acc n → Q₁ (.ref h'.objs.size) { s with heap := h'.push { cls := .type "tuple", data := .seq acc }, toks := tk }) :
    codeAny (model prog w) A (.call (.builtin "tuple.__new__") ⟨[.type "tuple", .ref d], []⟩) (wants Q₁ E) s := by
  refine codeAny_of_tree ?_
  show wpAny _ A.in1 (do checkBuiltinCall "tuple.__new__" ⟨[.type "tuple", .ref d], []⟩; again (.builtin "tuple.__new__" ⟨[.type "tuple", .ref d], []⟩)) _ _ s
  refine wpAny_bind (wpAny_of_eq (PySem.F.newCall_tuple_1 _) (wpAny_pure ⟨plainId_quiet PySem.F.plain_tuple_new _, codeAny_builtin PySem.F.entry_tuple_new ?_⟩))
  rw [Around.under_plainId PySem.F.plain_tuple_new _]
  have hsub := sub_tuple_self
  have hinit := init_tuple_lookup
  have hmh := madeHere_tuple
  have hT := K.type s hok
  have col : ∀ {R : List Value → Shared → Prop} {E : Value → Shared → Prop}, (∀ (h' : PySem.Heap) (tk : Nat) (acc : Array Value), (∀ b o, s.heap.get? b = some o → h'.get? b = some o) → ItemsOf P acc n → R acc.toList { s with heap := h', toks := tk }) →
      wpAny (model prog w) A.in1 (collect (.ref d)) R E s := fun {R E} hR => PySem.W.kdu_collect (A := A.in1) K hh hok hn hR
  wp_walk using wpAny_typeOf hT, col
  intro h' tk acc hk hacc
  show wpAny _ _ (Builtin.Tuple.tupleExact acc.toList.toArray >>= fun v => ret v) _ _ _
  unfold Builtin.Tuple.tupleExact
  refine wpAny_bind (wpAny_newObj_type ?_ (by show acc.toList.toArray.size ≤ sizeLine; simp only [Array.toArray_toList]; rw [hacc.1]; exact hn))
  refine wpAny_pure ?_
  have e : acc.toList.toArray = acc := by simp
  rw [e]
  exact h h' tk acc hk hacc
theorem call_tupleD (hcalm : X.calm = true) : CallR X (.type "tuple") (fun xs H Q => ∃ (a : Addr) (kvs : List (Key × V)), xs = [.ref a] ∧ Rd H a (.dK kvs) ∧ ∀ p, H p = Option.none → Q (.ref p) (upd H p (.tup (kvs.map fun kv => kV kv.1)))) := by
  intro pins s σ H xs us Q I r q
  obtain ⟨a, kvs, ex, hd, q⟩ := q
  subst ex
  obtain ⟨u, eu, rx⟩ := vals1 r
  subst eu
  cases rx
  obtain ⟨z, lo, vs, rel, dd⟩ := dk_rd I.hok hd
  obtain ⟨ep, hat⟩ := dd.dictAt
  have ek : (kvs.map fun kv => kV kv.1) = vs.map fun p => kV p.1 := by
    have e := congrArg (List.map kV) rel.keys
    rw [List.map_map, List.map_map] at e
    exact e
  have h16 : vs.length ≤ sizeLine := by rw [← rel.length]; exact z
  have K := PySem.W.kdl_dict (prog := X.prog) (w := X.w) (knd := mixKind X.prog X.w) (kvs := vs) (ep := ep) lo
  refine callType_codes (Q₁ := fun obj s₁ => s₁.TypeIs obj "tuple" ∧ EP X pins σ Q obj s₁) PySem.F.called_tuple (PySem.F.typeCall_tuple_1 _) PySem.F.entry_object_init
    (code_tupleD K (show X.A.handled = Option.none from I.ok.hd hcalm) hat h16 fun h' tk acc hk hacc => ?_) fun obj s₁ h₁ => ?_
  · have hv : Vals (vs.map fun p => kV p.1) acc.toList := keys_at (by rw [Array.length_toList]; exact hacc.1) fun j v e => hacc.2 j v (by rw [← Array.getElem?_toList]; exact e)
    have I1 : Inv X pins σ H { s with heap := h', toks := tk } := I.kept hk
    refine ⟨⟨_, Heap.get?_push_size _ rfl, rfl⟩, .ref h'.objs.size, upd H h'.objs.size (.tup (kvs.map fun kv => kV kv.1)), I1.laid (t' := tk) (fun b o e => Heap.get?_push_of_some _ e) (Nat.le_refl _) ?_, rfl, q _ (I1.hok.fresh (Nat.le_refl _))⟩
    have hz : ((kvs.map fun kv => kV kv.1)).length ≤ sizeLine := by rw [List.length_map]; exact z
    exact ⟨hz, acc.toList, by rw [ek]; exact hv, by rw [Array.toArray_toList]; exact IsTup.new _ _⟩
  · exact ⟨h₁.1, PySem.F.args_object_init_2 obj _, object_init_meets PySem.F.called_tuple.init.lookup PySem.F.called_tuple.made (by decide) X.prog X.w X.A.in1 _ s₁ ⟨h₁.1, rfl, h₁.2⟩⟩
end Fx

namespace Fx
namespace SrtQ
open PySem PyProof.Rows Srt SrtO
variable {prog : Program} {w : World} {A : Around} {E : Value → Shared → Prop} {s : Shared}
/-- what is gathered of a tuple -/
theorem gather_tup {c : Addr} {us : List Value} {R : List Value → Shared → Prop} (ht : ∃ o, s.heap.get? c = some o ∧ o.cls = .type "tuple" ∧ ∃ n, o.data = .seq us.toArray n) (hz : us.length ≤ sizeLine)
    (q : R us { s with heap := (s.heap.push (seqObj "list" #[] 0)).update s.heap.objs.size (Obj.mapSeq (· ++ us.toArray)) }) : wpAny (model prog w) A (collect (.ref c)) R E s := by
  obtain ⟨o, g1, g2, n, g3⟩ := ht
  unfold collect; refine wpAny_bind (wpAny_runValue (codeAny_builtin entry_proto_collect' ?_))
  show wpAny _ _ (do again (.builtin "list.__iadd__" ⟨[← newList [], .ref c], []⟩)) _ _ s
  refine wpAny_bind (wpAny_newList (wpAny_pure ⟨Code.quiet_builtin _ (by decide +kernel), codeAny_builtin entry_list_iadd' ?_⟩)); show wpAny _ _ (Builtin.List.listExtendWith (.ref s.heap.objs.size) (.ref c) (.ref s.heap.objs.size)) _ _ { s with heap := s.heap.push (seqObj "list" #[] 0) }
  unfold Builtin.List.listExtendWith
  have g1' : (s.heap.push (seqObj "list" #[] 0)).get? c = some o := Heap.get?_push_of_some _ g1
  refine wpAny_bind (wpAny_typeOf (T := "tuple") ⟨o, g1', g2⟩ ?_)
  have e2 : (Value.type "tuple" == Value.type "tuple") = true := by rfl
  rw [if_pos (by rw [e2]; simp)]
  refine wpAny_bind (listItems_at g1' g3 ?_)
  refine wpAny_bind (listItems_at (xs := #[]) (n := 0) (Heap.get?_push_size _ rfl) rfl ?_); rw [if_neg (by simp)]
  refine wpAny_bind (listUpdate_at (xs := #[]) (n := 0) (Heap.get?_push_size _ rfl) rfl ?_ (Nat.zero_le _) (by show (#[] ++ us.toArray).size ≤ sizeLine + 1; simp only [Array.size_append, List.size_toArray, List.length_nil]; omega)); refine wpAny_pure ?_
  show wpAny (model prog w) A (do
      let o ← load s.heap.objs.size
      match o.data with
      | .seq xs _ => pure xs.toList
      | _ => unsupported "internal:collect") R E { s with heap := (s.heap.push (seqObj "list" #[] 0)).update s.heap.objs.size (Obj.mapSeq (· ++ us.toArray)) }
  refine wpAny_bind (wpAny_load (get?_update_seq (Heap.get?_push_size _ rfl) _) ?_); show wpAny _ _ (pure ((#[] : Array Value) ++ us.toArray).toList) R E _
  rw [show ((#[] : Array Value) ++ us.toArray).toList = us by simp]; exact wpAny_pure q
/-- sorted of a tuple of ints -/
theorem sorted_tupI {c : Addr} {us : List Value} {ns : List Int} {R : Value → Shared → Prop} (ht : ∃ o, s.heap.get? c = some o ∧ o.cls = .type "tuple" ∧ ∃ n, o.data = .seq us.toArray n) (hz : us.length ≤ sizeLine) (hI : IntsAre us ns)
    (q : ∀ out : List Value, Srtd ltIv out → Stb ltIv out us → R (.ref (s.heap.objs.size + 1)) { s with heap := sortedAll s.heap us out.toArray }) : wpAny (model prog w) A (call (.builtin "sorted") [.ref c]) R E s := by
  refine Calls.call_function_entry kind_sorted plain_sorted entry_sorted (args_sorted1 _) ?_; unfold Builtin.«sorted»
  refine wpAny_bind (m := checkCount "sorted" 1 1 _) (wpAny_pure ?_); refine wpAny_bind (gather_tup ht hz ?_)
  refine wpAny_bind (wpAny_newList ?_ hz)
  have e1 : ((s.heap.push (seqObj "list" #[] 0)).update s.heap.objs.size (Obj.mapSeq (· ++ us.toArray))).objs.size = s.heap.objs.size + 1 := by rw [Heap.size_update, size_push']
  have e2 : (((s.heap.push (seqObj "list" #[] 0)).update s.heap.objs.size (Obj.mapSeq (· ++ us.toArray))).push (seqObj "list" us.toArray 0)).get? (s.heap.objs.size + 1) = some (seqObj "list" us.toArray 0) := by rw [← e1]; exact Heap.get?_push_size _ rfl
  show wpAny _ _ _ _ _ { s with heap := ((s.heap.push (seqObj "list" #[] 0)).update s.heap.objs.size (Obj.mapSeq (· ++ us.toArray))).push (seqObj "list" us.toArray 0) }
  rw [e1]
  refine wpAny_bind (wpAny_holding (wpAny_call_entry slot_list_sort ⟨_, e2, rfl⟩ entry_list_sort (list_sort_ord swo_int e2 hz (fun h2 => ints_sortable hI h2) fun out hs hb => ⟨_, rfl, ?_⟩) (args_list_sort _)))
  exact wpAny_pure ⟨_, rfl, q out hs hb⟩
end SrtQ
open PySem PySem.Spec PyProof.Rows L2
variable {X : Cx}
theorem cr_sortedTI : CallR X (.builtin "sorted") (fun vs H Q => ∃ (a : Addr) (ns : List Int), vs = [V.ref a] ∧ SqT X.K H a (ns.map V.int) ∧ ∀ (ms : List Int) (p : Addr), ms.Perm ns → ms.Pairwise (· ≤ ·) → H p = Option.none → Q (.ref p) (upd H p (.lst (ms.map V.int)))) := by
  intro pins s σ H vs us Q I r h
  obtain ⟨a, ns, rfl, hs, q⟩ := h
  obtain ⟨its, rv, pl, hz⟩ := I.tuple hs
  rw [Vals.ref1 r]
  have hi := rv.ints
  obtain ⟨o, ho, hc, n, hd⟩ := pl
  refine SrtQ.sorted_tupI ⟨o, ho, hc, n, hd⟩ (by rw [← rv.length]; exact hz) hi fun out h1 h2 => ?_
  obtain ⟨k1, k2, k3⟩ := SrtO.ints_out hi h1 h2
  obtain ⟨ep, he⟩ := PyProof.Rows.sortedAll_at s.heap its out.toArray
  have hl : ((out.map SrtO.iv).map V.int).length ≤ sizeLine := by rw [List.length_map, k2.length_eq]; rw [List.length_map] at hz; exact hz
  exact ⟨.ref _, upd H (s.heap.objs.size + 1) (.lst ((out.map SrtO.iv).map V.int)), I.laid (t' := s.toks) (fun _ _ => PyProof.Rows.sortedAll_old) (Nat.le_succ _) ⟨hl, out, ep, vals_of_ints k1, he⟩, rfl, q _ _ k2 k3 (I.hok.fresh (Nat.le_succ _))⟩
/-- sorted of a dict of ints, however many -/
theorem keys_ints {acc : Array Value} {ks : List Int} {vs : List (Key × Value)} (hkeys : vs.map (·.1) = ks.map Sum.inl) (hn : acc.size = vs.length)
    (h : ∀ (j : Nat) (v : Value), acc[j]? = some v → ∃ k x, vs[j]? = some (k, x) ∧ keyIs k v = true) : IntsAre acc.toList ks := by
  have hl : vs.length = ks.length := by simpa using congrArg List.length hkeys
  refine ints_each (by rw [Array.length_toList]; omega) fun j v e => ?_
  obtain ⟨k, x, e1, e2⟩ := h j v (by rw [← Array.getElem?_toList]; exact e)
  have e3 : (ks.map Sum.inl)[j]? = some k := by rw [← hkeys, List.getElem?_map, e1]; rfl
  rw [List.getElem?_map] at e3
  obtain ⟨y, e4, rfl⟩ := Option.map_eq_some_iff.mp e3
  refine ⟨y, ?_⟩
  rcases keyIs_shape (show keyIs (Sum.inl y) v = true from e2) with ⟨i, t, ek, ev⟩ | ⟨z, t, ek, _⟩
  · cases ek; exact ⟨t, e4, ev⟩
  · cases ek
theorem cr_sortedDI (hcalm : X.calm = true) : CallR X (.builtin "sorted") (fun us H Q => ∃ (a : Addr) (kvs : List (Key × V)) (ks : List Int), us = [.ref a] ∧ Rd H a (.dK kvs) ∧ kvs.map (·.1) = ks.map Sum.inl ∧ ks.length ≤ 1000000 ∧
    ∀ (ms : List Int) (p : Addr), ms.Perm ks → ms.Pairwise (· ≤ ·) → H p = Option.none → Q (.ref p) (upd H p (.lst (ms.map V.int)))) := by
  intro pins s σ H ws us Q I r h
  obtain ⟨a, kvs, ks, rfl, hd, hks, hm, q⟩ := h
  rw [Vals.ref1 r]
  obtain ⟨_, lo, vs, rel, dd⟩ := dk_rd I.hok hd
  obtain ⟨ep, hat⟩ := dd.dictAt
  have hkeys : vs.map (·.1) = ks.map Sum.inl := rel.keys.symm.trans hks
  have hl : vs.length = ks.length := by simpa using congrArg List.length hkeys
  refine Calls.call_function_entry kind_sorted plain_sorted entry_sorted (args_sorted1 _) ?_; unfold Builtin.«sorted»
  refine wpAny_bind (m := checkCount "sorted" 1 1 _) (wpAny_pure ?_)
  refine wpAny_bind (PySem.W.kdu_collect (A := X.A.in1) (PySem.W.kdl_dict (knd := mixKind X.prog X.w) (kvs := vs) (ep := ep) lo) (I.ok.hd hcalm) hat (by rw [sizeLine_eq]; omega) fun g tk acc hk hacc => ?_)
  have hI := keys_ints hkeys hacc.1 hacc.2
  have hz : acc.toList.length ≤ sizeLine := by rw [Array.length_toList, hacc.1, sizeLine_eq]; omega
  refine wpAny_bind (wpAny_newList ?_ hz)
  have e2 : (g.push (seqObj "list" acc.toList.toArray 0)).get? g.objs.size = some (seqObj "list" acc.toList.toArray 0) := Heap.get?_push_size _ rfl
  refine wpAny_bind (wpAny_holding (wpAny_call_entry slot_list_sort ⟨_, e2, rfl⟩ entry_list_sort (SrtO.list_sort_ord (s := { s with heap := g.push (seqObj "list" acc.toList.toArray 0), toks := tk }) SrtO.swo_int e2 hz (fun h2 => SrtO.ints_sortable hI h2) fun out h1 h2 => ⟨_, rfl, ?_⟩) (args_list_sort _)))
  obtain ⟨k1, k2, k3⟩ := SrtO.ints_out hI h1 h2
  obtain ⟨ev, he⟩ := sortedHeap_at (vs := acc.toList) (out := out.toArray) e2
  have J : Inv X pins σ H { s with heap := g, toks := tk } := I.kept hk
  have hw : ((out.map SrtO.iv).map V.int).length ≤ sizeLine := by rw [List.length_map, k2.length_eq, sizeLine_eq]; omega
  refine wpAny_pure ⟨_, rfl, .ref g.objs.size, upd H g.objs.size (.lst ((out.map SrtO.iv).map V.int)), J.laid (t' := tk) (fun b u e => ?_) (Nat.le_refl _) ⟨hw, out, ev, vals_of_ints k1, he⟩, rfl, q _ _ k2 k3 (J.hok.fresh (Nat.le_refl _))⟩
  have hb : b < g.objs.size := Heap.lt_size e
  rw [sortedHeap_old (Nat.ne_of_lt hb) (by rw [size_push']; exact Nat.lt_succ_of_lt hb)]
  exact Heap.get?_push_of_some _ e
/-- which pair a place holds -/
noncomputable def pairAt (K : PySem.W.Frag) (H : Hp) : V → Int × Int
  | .ref t => by
    classical
    exact if h : ∃ p : Int × Int, SqT K H t [.int p.1, .int p.2] then h.choose else (0, 0)
  | _ => (0, 0)
theorem pairAt_eq {pins : List (Addr × PySem.Obj)} {σ : L2.St} {H : Hp} {s : Shared} (I : L2.Inv X pins σ H s) {t : Addr} {i j : Int} (h : SqT X.K H t [.int i, .int j]) : pairAt X.K H (.ref t) = (i, j) := by
  have he : ∃ p : Int × Int, SqT X.K H t [.int p.1, .int p.2] := ⟨(i, j), h⟩
  unfold pairAt
  simp only []
  rw [dif_pos he]
  have := I.tuple_inj he.choose_spec h
  injection this with e1 e2
  injection e1 with e1
  injection e2 with e2 _
  injection e2 with e2
  exact Prod.ext e1 e2
theorem rl_pair {M : Mp} {H : Hp} {e : Int × Int} {v : V} (r : Rl X.K M H (pV e) v) : ∃ t, v = .ref t ∧ SqT X.K H t [.int e.1, .int e.2] := by
  obtain ⟨a, vs, rfl, h1, h2⟩ := r.tup
  cases h2 with
  | cons r1 t1 =>
    cases t1 with
    | cons r2 t2 =>
      cases t2
      cases r1
      cases r2
      exact ⟨a, rfl, h1⟩
theorem rls_pairs {pins : List (Addr × PySem.Obj)} {σ : L2.St} {H : Hp} {s : Shared} (I : L2.Inv X pins σ H s) {M : Mp} : ∀ {ps : List (Int × Int)} {vs : List V}, Rls X.K M H (ps.map pV) vs → vs.map (pairAt X.K H) = ps ∧ ∀ v ∈ vs, Rl X.K M H (pV (pairAt X.K H v)) v
  | [], _, .nil => ⟨rfl, fun _ h => nomatch h⟩
  | p :: ps, _, .cons (v := v) r t => by
    obtain ⟨h1, h2⟩ := rls_pairs I t
    obtain ⟨a, rfl, h3⟩ := rl_pair r
    have e : pairAt X.K H (.ref a) = p := pairAt_eq I h3
    refine ⟨by rw [List.map_cons, h1, e], fun x hx => ?_⟩
    rcases List.mem_cons.mp hx with rfl | hx
    · rw [e]; exact r
    · exact h2 x hx
theorem rls_of_each {M : Mp} {H : Hp} {k : V → Int × Int} : ∀ {vs : List V}, (∀ v ∈ vs, Rl X.K M H (pV (k v)) v) → Rls X.K M H ((vs.map k).map pV) vs
  | [], _ => .nil
  | v :: vs, h => .cons (h v List.mem_cons_self) (rls_of_each fun y hy => h y (List.mem_cons_of_mem _ hy))
theorem leP_tr {a b c : Int × Int} (h1 : leP a b = true) (h2 : leP b c = true) : leP a c = true := by
  unfold leP at *
  simp only [decide_eq_true_eq] at *
  omega
theorem leP_tot (a b : Int × Int) : (leP a b || leP b a) = true := by
  unfold leP
  simp only [Bool.or_eq_true, decide_eq_true_eq]
  omega
theorem sortP_eq {ps qs : List (Int × Int)} (p : qs.Perm ps) (s : qs.Pairwise fun a b => leP a b = true) : qs = sortP ps := by
  have p2 : (sortP ps).Perm ps := List.mergeSort_perm ps _
  have s2 : (sortP ps).Pairwise fun a b => leP a b = true := List.pairwise_mergeSort (le := leP) (fun a b c h1 h2 => leP_tr h1 h2) leP_tot ps
  refine List.Perm.eq_of_pairwise (fun a b _ _ h1 h2 => ?_) s s2 (p.trans p2.symm)
  unfold leP at h1 h2
  simp only [decide_eq_true_eq] at h1 h2
  exact Prod.ext (by omega) (by omega)
theorem cr_sortedPR {M : Mp} : CallR X (.builtin "sorted") (fun us H Q => ∃ (a : Addr) (vs : List V) (ps : List (Int × Int)), us = [V.ref a] ∧ SqL X.K H a vs ∧ Rls X.K M H (ps.map pV) vs ∧ ∀ ys p, Rls X.K M H ((sortP ps).map pV) ys → H p = Option.none → Q (.ref p) (upd H p (.lst ys))) := by
  intro pins s σ H us ws Q I r h
  obtain ⟨a, vs, ps, rfl, hs, hr, q⟩ := h
  obtain ⟨its, rv, hl, hz⟩ := I.list hs
  obtain ⟨u, rfl, ru⟩ := vals1 r
  obtain rfl : u = Value.ref a := ru
  obtain ⟨k1, k2⟩ := rls_pairs I hr
  have hx : ∀ x ∈ vs, ∃ t, x = V.ref t ∧ SqT X.K H t [.int (pairAt X.K H x).1, .int (pairAt X.K H x).2] := fun x hx => rl_pair (k2 x hx)
  obtain ⟨e1, e2⟩ := refs_back rv fun x m => by obtain ⟨t, e, _⟩ := hx x m; exact ⟨t, e⟩
  refine SrtO.sorted_pairsO (k := fun u => pairAt X.K H (backV u)) hl.isList (by rw [← rv.length]; exact hz) (fun v hv => ?_) fun h' d out h1 h2 kp hd hn => ?_
  · obtain ⟨t, rfl⟩ := e2 v hv
    have hm : V.ref t ∈ vs := by rw [e1]; exact List.mem_map.mpr ⟨_, hv, rfl⟩
    obtain ⟨t', e, ht⟩ := hx _ hm
    cases e
    obtain ⟨its2, r2, ⟨o, ho, hc, n, hd⟩, _⟩ := I.tuple ht
    obtain ⟨u1, u2, rfl, ri, rj⟩ := vals2 r2
    obtain ⟨t1, rfl⟩ := ri
    obtain ⟨t2, rfl⟩ := rj
    exact ⟨t, o, t1, t2, n, rfl, ho, hc, hd⟩
  · have h3 : ∀ u ∈ out, ∃ a, u = Value.ref a := fun u hu => e2 u (h2.perm.mem_iff.mp hu)
    obtain ⟨n, hn⟩ := hn
    have hb : (out.map backV).Perm vs := by rw [e1]; exact h2.perm.map backV
    have hy : ∀ v ∈ out.map backV, Rl X.K M H (pV (pairAt X.K H v)) v := fun v hv => k2 v (hb.mem_iff.mp hv)
    have hs2 : ((out.map backV).map (pairAt X.K H)).Pairwise fun a b => leP a b = true := by
      rw [List.pairwise_map]
      refine List.Pairwise.imp ?_ (SrtO.srtd_map (lt := fun x y => SrtO.lexB (pairAt X.K H x) (pairAt X.K H y)) h1)
      intro x y hxy
      have := SrtO.lexB_no.mp hxy
      unfold leP
      simp only [decide_eq_true_eq]
      omega
    have hp2 : ((out.map backV).map (pairAt X.K H)).Perm ps := by
      have := hb.map (pairAt X.K H)
      rw [k1] at this
      exact this
    have hf := rls_of_each hy
    rw [sortP_eq hp2 hs2] at hf
    refine ⟨.ref d, upd H d (.lst (out.map backV)), I.laid (t' := s.toks) kp hd ⟨?_, out, n, vals_back h3, hn⟩, rfl, q _ d hf (I.hok.fresh hd)⟩
    rw [hb.length_eq]
    exact hz
end Fx

namespace Fx
namespace RJ
open PySem
open PySem.Sem (wp)
section
variable {prog : Program} {w : World} {A : Around} {E : Value → Shared → Prop} {s : Shared}
theorem zipM_next_item {z TI TO i1 i2 l1 l2 : Addr} {k1 k2 : Nat} {xs ys : Array Value} {x y a b : Value} {Q : Value → Shared → Prop} (D : ZipApart z TI TO i1 i2 l1 l2)
    (jz : IsZip s.heap z TI TO .none) (jI : IsPair s.heap TI (.ref i1) (.ref i2)) (jO : IsPair s.heap TO a b)
    (h1 : s.heap.IsTupleIter i1 l1 k1) (h2 : s.heap.IsListIter i2 l2 k2) (m1 : s.heap.IsTuple l1 xs) (m2 : s.heap.IsList l2 ys) (hx : xs[k1]? = some x) (hy : ys[k2]? = some y)
    (jq : ∀ h', IsZip h' z TI TO (rawInt s.heap.objs.size) → IsPair h' TO x y → h'.IsTupleIter i1 l1 (k1 + 1) → h'.IsListIter i2 l2 (k2 + 1) → IsPair h' s.heap.objs.size x y → h'.objs.size = s.heap.objs.size + 1 →
      (∀ c o, c ≠ z → c ≠ TO → c ≠ i1 → c ≠ i2 → s.heap.get? c = some o → h'.get? c = some o) → Q (.ref s.heap.objs.size) { s with heap := h' }) :
    wpAny (model prog w) A (Builtin.«zip.__next__» ⟨[.ref z], []⟩) (fun fin s' => ∃ v, fin = .done (.ret v) ∧ Q v s') E s := by
  show wpAny _ _ (field (.ref z) 2 >>= _) _ _ _
  refine wpAny_bind (wpAny_field jz rfl (x := .bool false) rfl ?_)
  show wpAny _ _ (field (.ref z) 3 >>= _) _ _ _
  refine wpAny_bind (wpAny_field jz rfl (x := .ref TI) rfl ?_)
  refine wpAny_bind (wpAny_seqItems jI rfl ?_)
  show wpAny _ _ (Builtin.SmallTypes.ownedTupleIsFree (.ref z) >>= _) _ _ _
  refine wpAny_bind ?_
  unfold Builtin.SmallTypes.ownedTupleIsFree
  refine wpAny_bind (wpAny_field jz rfl (x := .none) rfl (wpAny_pure ?_))
  simp only [if_true]
  refine wpAny_bind (wpAny_rule ?_)
  refine wpAny_bind (wpAny_field jz rfl (x := .ref TO) rfl ?_)
  refine wpAny_bind (wpAny_setField_rec jz (by simp) fun h₁ jz₁ hs₁ => ?_)
  replace jz₁ : IsZip h₁ z TI TO .ellipsis := jz₁
  refine wpAny_bind ?_
  simp only [List.zipIdx_cons, List.zipIdx_nil, List.forIn_cons, List.forIn_nil]

  refine wpAny_bind (wpAny_bind (wpAny_onRaise ?_))
  show wpAny _ _ (Builtin.SmallTypes.nextOf (.ref i1) >>= _) _ _ _
  refine wpAny_bind (RZ.nextOf_tuple_item (h1.extBut hs₁.extBut D.i1z) (m1.extBut hs₁.extBut D.l1z) hx fun h₂ h1₂ hs₂ => wpAny_pure ?_)
  have jO₂ : IsPair h₂ TO a b := hs₂.extBut _ _ D.TOi1 (hs₁.extBut _ _ D.TOz jO)
  refine wpAny_bind (wpAny_seqItems jO₂ rfl ?_)
  refine wpAny_bind (wpAny_updateSeq_pair jO₂ fun h₃ jO₃ hs₃ => ?_)
  replace jO₃ : IsPair h₃ TO x b := jO₃
  refine wpAny_bind (wpAny_letGo (wpAny_pure ?_))

  refine wpAny_bind (wpAny_bind (wpAny_onRaise ?_))
  show wpAny _ _ (Builtin.SmallTypes.nextOf (.ref i2) >>= _) _ _ _
  refine wpAny_bind (wpAny_nextOf_list_item (((h2.extBut hs₁.extBut D.i2z).extBut hs₂.extBut D.i12.symm).extBut hs₃.extBut D.TOi2.symm)
    (((m2.extBut hs₁.extBut D.l2z).extBut hs₂.extBut D.l2i1).extBut hs₃.extBut D.l2TO) hy fun h₄ h2₄ hs₄ => wpAny_pure ?_)
  have jO₄ : IsPair h₄ TO x b := hs₄.extBut _ _ D.TOi2 jO₃
  refine wpAny_bind (wpAny_seqItems jO₄ rfl ?_)
  refine wpAny_bind (wpAny_updateSeq_pair jO₄ fun h₅ jO₅ hs₅ => ?_)
  replace jO₅ : IsPair h₅ TO x y := jO₅
  refine wpAny_bind (wpAny_letGo (wpAny_pure (wpAny_pure ?_)))

  refine wpAny_bind (wpAny_seqItems jO₅ rfl ?_)
  refine wpAny_bind (wpAny_newTuple ?_)
  have jsz : h₅.objs.size = s.heap.objs.size := by rw [hs₅.1, hs₄.1, hs₃.1, hs₂.1, hs₁.1]
  have jz₅ : IsZip h₅ z TI TO .ellipsis := hs₅.extBut _ _ D.TOz.symm (hs₄.extBut _ _ D.i2z.symm (hs₃.extBut _ _ D.TOz.symm (hs₂.extBut _ _ D.i1z.symm jz₁)))
  have jk₅ : ∀ c o, c ≠ z → c ≠ TO → c ≠ i1 → c ≠ i2 → s.heap.get? c = some o → h₅.get? c = some o := fun c o c1 c2 c3 c4 e =>
    hs₅.extBut _ _ c2 (hs₄.extBut _ _ c4 (hs₃.extBut _ _ c2 (hs₂.extBut _ _ c3 (hs₁.extBut _ _ c1 e))))
  have h1₅ : h₅.IsTupleIter i1 l1 (k1 + 1) := ((h1₂.extBut hs₃.extBut D.TOi1.symm).extBut hs₄.extBut D.i12).extBut hs₅.extBut D.TOi1.symm
  have h2₅ : h₅.IsListIter i2 l2 (k2 + 1) := h2₄.extBut hs₅.extBut D.TOi2.symm
  have hzlt : z < h₅.objs.size := Heap.lt_size jz₅
  have hTOlt : TO < h₅.objs.size := Heap.lt_size jO₅
  have hi1lt : i1 < h₅.objs.size := by obtain ⟨_, e, _⟩ := h1₅; exact Heap.lt_size e
  have hi2lt : i2 < h₅.objs.size := by obtain ⟨_, e, _⟩ := h2₅; exact Heap.lt_size e
  show wpAny _ _ (Builtin.SmallTypes.ownedTupleHandOut (.ref z) (.ref h₅.objs.size) >>= _) _ _ _
  refine wpAny_bind ?_
  unfold Builtin.SmallTypes.ownedTupleHandOut
  have jz₆ : IsZip (h₅.push { cls := .type "tuple", data := .seq #[x, y] }) z TI TO .ellipsis := Heap.get?_push_of_some _ jz₅
  refine wpAny_bind (wpAny_setField_rec jz₆ (by simp) fun h₇ jz₇ hs₇ => ?_)
  replace jz₇ : IsZip h₇ z TI TO (rawInt h₅.objs.size) := jz₇
  refine wpAny_setField_rec jz₇ (by simp) fun h₈ jz₈ hs₈ => ?_
  replace jz₈ : IsZip h₈ z TI TO (rawInt h₅.objs.size) := jz₈
  have up : ∀ c o, c ≠ z → h₅.get? c = some o → h₈.get? c = some o := fun c o c1 e => hs₈.extBut _ _ c1 (hs₇.extBut _ _ c1 (Heap.get?_push_of_some _ e))
  have hT₈ : IsPair h₈ h₅.objs.size x y := hs₈.extBut _ _ (Nat.ne_of_gt hzlt) (hs₇.extBut _ _ (Nat.ne_of_gt hzlt) (Heap.get?_push_size _ rfl))
  have hz8 : h₈.objs.size = h₅.objs.size + 1 := by rw [hs₈.1, hs₇.1, Heap.size_push]
  rw [jsz] at jz₈ hT₈ hz8
  refine wpAny_pure ⟨_, rfl, ?_⟩
  show Q (.ref h₅.objs.size) _
  rw [jsz]
  exact jq h₈ jz₈ (up _ _ D.TOz jO₅) (h1₅.at fun o e => up _ o D.i1z e) (h2₅.at fun o e => up _ o D.i2z e) hT₈ hz8 fun c o c1 c2 c3 c4 e => up c o c1 (jk₅ c o c1 c2 c3 c4 e)

theorem zipM_next_end {z TI TO i1 i2 l1 l2 : Addr} {k1 k2 : Nat} {xs ys : Array Value} {a b : Value} {Q : Fin → Shared → Prop} (hh : A.handled = none) (D : ZipApart z TI TO i1 i2 l1 l2)
    (jz : IsZip s.heap z TI TO .none) (jI : IsPair s.heap TI (.ref i1) (.ref i2)) (jO : IsPair s.heap TO a b)
    (h1 : s.heap.IsTupleIter i1 l1 k1) (h2 : s.heap.IsListIter i2 l2 k2) (m1 : s.heap.IsTuple l1 xs) (m2 : s.heap.IsList l2 ys) (jend : xs[k1]? = none ∨ ys[k2]? = none)
    (je : ∀ h' e, (∀ c o, c ≠ z → c ≠ TO → c ≠ i1 → c ≠ i2 → s.heap.get? c = some o → h'.get? c = some o) → (∃ o, h'.get? e = some o ∧ o.cls = .type "StopIteration") → E (.ref e) { s with heap := h' }) :
    wpAny (model prog w) A (Builtin.«zip.__next__» ⟨[.ref z], []⟩) Q E s := by
  show wpAny _ _ (field (.ref z) 2 >>= _) _ _ _
  refine wpAny_bind (wpAny_field jz rfl (x := .bool false) rfl ?_)
  show wpAny _ _ (field (.ref z) 3 >>= _) _ _ _
  refine wpAny_bind (wpAny_field jz rfl (x := .ref TI) rfl ?_)
  refine wpAny_bind (wpAny_seqItems jI rfl ?_)
  show wpAny _ _ (Builtin.SmallTypes.ownedTupleIsFree (.ref z) >>= _) _ _ _
  refine wpAny_bind ?_
  unfold Builtin.SmallTypes.ownedTupleIsFree
  refine wpAny_bind (wpAny_field jz rfl (x := .none) rfl (wpAny_pure ?_))
  simp only [if_true]
  refine wpAny_bind (wpAny_rule ?_)
  refine wpAny_bind (wpAny_field jz rfl (x := .ref TO) rfl ?_)
  refine wpAny_bind (wpAny_setField_rec jz (by simp) fun h₁ jz₁ hs₁ => ?_)
  replace jz₁ : IsZip h₁ z TI TO .ellipsis := jz₁
  refine wpAny_bind ?_
  simp only [List.zipIdx_cons, List.zipIdx_nil, List.forIn_cons, List.forIn_nil]
  refine wpAny_bind (wpAny_bind (wpAny_onRaise ?_))
  show wpAny _ _ (Builtin.SmallTypes.nextOf (.ref i1) >>= _) _ _ _
  cases hx : xs[k1]? with
  | none =>
    refine wpAny_bind (RZ.nextOf_tuple_end hh (h1.extBut hs₁.extBut D.i1z) (m1.extBut hs₁.extBut D.l1z) hx fun h₂ e hs₂ he => ?_)
    obtain ⟨oe, hoe, hce⟩ := he
    have jz₂ : IsZip h₂ z TI TO .ellipsis := hs₂ _ _ D.i1z.symm jz₁
    have hez : e ≠ z := fun x => by subst x; rw [jz₂] at hoe; cases hoe; simp at hce
    refine wpAny_setField_rec jz₂ (by simp) fun h₃ _ hs₃ => je h₃ e (fun c o c1 _ c3 _ x => hs₃.extBut _ _ c1 (hs₂ _ _ c3 (hs₁.extBut _ _ c1 x))) ⟨oe, hs₃.extBut _ _ hez hoe, hce⟩
  | some x =>
    have hy : ys[k2]? = none := by rcases jend with h | h; rw [hx] at h; cases h; exact h
    refine wpAny_bind (RZ.nextOf_tuple_item (h1.extBut hs₁.extBut D.i1z) (m1.extBut hs₁.extBut D.l1z) hx fun h₂ h1₂ hs₂ => wpAny_pure ?_)
    have jO₂ : IsPair h₂ TO a b := hs₂.extBut _ _ D.TOi1 (hs₁.extBut _ _ D.TOz jO)
    refine wpAny_bind (wpAny_seqItems jO₂ rfl ?_)
    refine wpAny_bind (wpAny_updateSeq_pair jO₂ fun h₃ jO₃ hs₃ => ?_)
    refine wpAny_bind (wpAny_letGo (wpAny_pure ?_))
    refine wpAny_bind (wpAny_bind (wpAny_onRaise ?_))
    show wpAny _ _ (Builtin.SmallTypes.nextOf (.ref i2) >>= _) _ _ _
    refine wpAny_bind (wpAny_nextOf_list_end hh (((h2.extBut hs₁.extBut D.i2z).extBut hs₂.extBut D.i12.symm).extBut hs₃.extBut D.TOi2.symm)
      (((m2.extBut hs₁.extBut D.l2z).extBut hs₂.extBut D.l2i1).extBut hs₃.extBut D.l2TO) hy fun h₄ e hs₄ he => ?_)
    obtain ⟨oe, hoe, hce⟩ := he
    have jz₄ : IsZip h₄ z TI TO .ellipsis := hs₄ _ _ D.i2z.symm (hs₃.extBut _ _ D.TOz.symm (hs₂.extBut _ _ D.i1z.symm jz₁))
    have hez : e ≠ z := fun x => by subst x; rw [jz₄] at hoe; cases hoe; simp at hce
    refine wpAny_setField_rec jz₄ (by simp) fun h₅ _ hs₅ => je h₅ e (fun c o c1 c2 c3 c4 x => hs₅.extBut _ _ c1 (hs₄ _ _ c4 (hs₃.extBut _ _ c2 (hs₂.extBut _ _ c3 (hs₁.extBut _ _ c1 x))))) ⟨oe, hs₅.extBut _ _ hez hoe, hce⟩

theorem pyNext_zipM_item {z TI TO i1 i2 l1 l2 : Addr} {k1 k2 : Nat} {xs ys : Array Value} {x y a b : Value} {Q : Option Value → Shared → Prop} (D : ZipApart z TI TO i1 i2 l1 l2)
    (jz : IsZip s.heap z TI TO .none) (jI : IsPair s.heap TI (.ref i1) (.ref i2)) (jO : IsPair s.heap TO a b)
    (h1 : s.heap.IsTupleIter i1 l1 k1) (h2 : s.heap.IsListIter i2 l2 k2) (m1 : s.heap.IsTuple l1 xs) (m2 : s.heap.IsList l2 ys) (hx : xs[k1]? = some x) (hy : ys[k2]? = some y)
    (jq : ∀ h', IsZip h' z TI TO (rawInt s.heap.objs.size) → IsPair h' TO x y → h'.IsTupleIter i1 l1 (k1 + 1) → h'.IsListIter i2 l2 (k2 + 1) → IsPair h' s.heap.objs.size x y → h'.objs.size = s.heap.objs.size + 1 →
      (∀ c o, c ≠ z → c ≠ TO → c ≠ i1 → c ≠ i2 → s.heap.get? c = some o → h'.get? c = some o) → Q (some (.ref s.heap.objs.size)) { s with heap := h' }) :
    wpAny (model prog w) A (pyNext (.ref z)) Q E s := by
  have hT : s.TypeIs (.ref z) "zip" := ⟨_, jz, rfl⟩
  unfold pyNext
  exact wpAny_bind (wpAny_attempt (wpAny_callSpecial?_slot (name := Str.ofString "__next__") hT F.slot_zip_next
    (wpAny_call_entry F.slot_zip_next hT F.entry_zip_next
      (zipM_next_item D jz jI jO h1 h2 m1 m2 hx hy fun h' a1 a2 a3 a4 a5 a6 a7 => wpAny_pure (jq h' a1 a2 a3 a4 a5 a6 a7)) (F.args_zip_next_1 _))))

theorem pyNext_zipM_end {z TI TO i1 i2 l1 l2 : Addr} {k1 k2 : Nat} {xs ys : Array Value} {a b : Value} {Q : Option Value → Shared → Prop} (hh : A.handled = none) (D : ZipApart z TI TO i1 i2 l1 l2)
    (jz : IsZip s.heap z TI TO .none) (jI : IsPair s.heap TI (.ref i1) (.ref i2)) (jO : IsPair s.heap TO a b)
    (h1 : s.heap.IsTupleIter i1 l1 k1) (h2 : s.heap.IsListIter i2 l2 k2) (m1 : s.heap.IsTuple l1 xs) (m2 : s.heap.IsList l2 ys) (jend : xs[k1]? = none ∨ ys[k2]? = none)
    (jq : ∀ h', (∀ c o, c ≠ z → c ≠ TO → c ≠ i1 → c ≠ i2 → s.heap.get? c = some o → h'.get? c = some o) → Q none { s with heap := h' }) : wpAny (model prog w) A (pyNext (.ref z)) Q E s := by
  have hT : s.TypeIs (.ref z) "zip" := ⟨_, jz, rfl⟩
  unfold pyNext
  refine wpAny_bind (wpAny_attempt (wpAny_callSpecial?_slot (name := Str.ofString "__next__") hT F.slot_zip_next
    (wpAny_call_entry F.slot_zip_next hT F.entry_zip_next (zipM_next_end hh D jz jI jO h1 h2 m1 m2 jend fun h' e jk he => ?_) (F.args_zip_next_1 _))))
  obtain ⟨o, ho, hc⟩ := he
  refine wpAny_bind (wpAny_isInstance (T := "StopIteration") (b := true) ⟨o, ho, hc⟩ isSubtype_stop ?_)
  exact wpAny_pure (jq _ jk)
end
end RJ
namespace RJ
open PySem PySem.Spec PyProof.Rows L2 RZ
def ItzM (K : PySem.W.Frag) (a b : Addr) : It :=
  ⟨fun i H => ∃ (xs ys : List V) (x y : V), SqT K H a xs ∧ SqL K H b ys ∧ xs[i]? = some x ∧ ys[i]? = some y,
    fun i H v H' => ∃ T x y, v = .ref T ∧ H T = none ∧ H' = upd H T (.tup [x, y]) ∧ (∀ xs, SqT K H a xs → xs[i]? = some x) ∧ ∀ ys, SqL K H b ys → ys[i]? = some y,
    fun i H => ∃ xs ys : List V, SqT K H a xs ∧ SqL K H b ys ∧ (xs.length ≤ i ∨ ys.length ≤ i)⟩
theorem turn_zipM {P : Program} {w : World} {K : PySem.W.Frag} {elts : List Expr} {kk : Nat} {tpos : Pos} {a b z TI TO i1 i2 : Addr} (D : ZipApart z TI TO i1 i2 a b) :
    Turn P w K (.Tuple elts kk tpos) (ItzM K a b) [z, TI, TO, i1, i2] z (fun i h => IsZip h z TI TO .none ∧ IsPair h TI (.ref i1) (.ref i2) ∧ (∃ x y, IsPair h TO x y) ∧ h.IsTupleIter i1 a i ∧ h.IsListIter i2 b i) where
  mem := by simp
  obj := fun i h st c hc => by
    obtain ⟨jz, jI, ⟨x, y, jO⟩, ⟨o1, e1, _, d1⟩, ⟨o2, e2, _, d2⟩⟩ := st
    have e' : c = z ∨ c = TI ∨ c = TO ∨ c = i1 ∨ c = i2 := by simpa using hc
    rcases e' with q | q | q | q | q
    · rw [q]; exact ⟨_, jz, fun v q => nomatch q⟩
    · rw [q]; exact ⟨_, jI, fun v q => nomatch q⟩
    · rw [q]; exact ⟨_, jO, fun v q => nomatch q⟩
    · rw [q]; exact ⟨o1, e1, fun v q => by rw [d1] at q; cases q⟩
    · rw [q]; exact ⟨o2, e2, fun v q => by rw [d2] at q; cases q⟩
  keep := fun i h h' st k => by
    obtain ⟨jz, jI, ⟨x, y, jO⟩, h1, h2⟩ := st
    exact ⟨k z (by simp) _ jz, k TI (by simp) _ jI, ⟨x, y, k TO (by simp) _ jO⟩, h1.at fun o q => k i1 (by simp) o q, h2.at fun o q => k i2 (by simp) o q⟩
  item := by
    intro X hP hw hK hc i pins s σ H E I hf st hg
    subst hP hw hK
    obtain ⟨jz, jI, ⟨x0, y0, jO⟩, h1, h2⟩ := st
    obtain ⟨xs, ys, x, y, hqx, hqy, hx, hy⟩ := hg
    obtain ⟨its, rv, p, _⟩ := I.tuple hqx
    obtain ⟨its2, rv2, p2, _⟩ := I.list hqy
    obtain ⟨u, hu, ru⟩ := rv.get hx
    obtain ⟨u2, hu2, ru2⟩ := rv2.get hy
    have hzl : z < s.heap.objs.size := Heap.lt_size jz
    refine pyNext_zipM_item D jz jI jO h1 h2 p p2.isList (x := u) (y := u2) (by simpa using hu) (by simpa using hu2) fun h' z' TO' h1' h2' hT jsz jk => ?_
    refine ⟨_, rfl, wpAny_letOwnedTupleGo_zip (s := { s with heap := h' }) z' fun h'' z'' sb => ?_⟩
    have hT2 : h''.get? s.heap.objs.size = some { cls := .type "tuple", data := .seq #[u, u2] } := (sb.2 _ (Nat.ne_of_gt hzl)).trans hT
    have new : ObjOk X.prog X.w (upd H s.heap.objs.size (.tup [x, y])) h'' s.heap.objs.size (.tup [x, y]) :=
      ⟨by show 2 ≤ sizeLine; decide, [u, u2], .cons ru (.cons ru2 .nil), ⟨_, hT2, rfl, _, rfl⟩⟩
    have I1 : Inv X pins σ (upd H s.heap.objs.size (.tup [x, y])) { s with heap := h'' } :=
      I.turnedNew (t' := s.toks) (ch := [z, TI, TO, i1, i2]) (fun c o hb q => (sb.2 c (fun q' => hb (by simp [q']))).trans (jk c o (fun q' => hb (by simp [q'])) (fun q' => hb (by simp [q'])) (fun q' => hb (by simp [q'])) (fun q' => hb (by simp [q'])) q)) hf (Nat.le_refl _) new
    refine ⟨.ref s.heap.objs.size, _, I1, rfl, ⟨_, x, y, rfl, I.hok.fresh (Nat.le_refl _), rfl, fun l hl => by rw [I.tuple_inj hl hqx]; exact hx, fun l hl => by rw [I.list_inj hl hqy]; exact hy⟩, ⟨z'', ?_, ⟨u, u2, ?_⟩, ?_, ?_⟩, fun c hcm => ?_⟩
    · exact (sb.2 _ D.TIz).trans (jk _ _ D.TIz D.TITO D.TIi1 D.TIi2 jI)
    · exact (sb.2 _ D.TOz).trans TO'
    · exact h1'.at fun o q => (sb.2 _ D.i1z).trans q
    · exact h2'.at fun o q => (sb.2 _ D.i2z).trans q
    · have hlt : c < s.heap.objs.size := by
        have e' : c = z ∨ c = TI ∨ c = TO ∨ c = i1 ∨ c = i2 := by simpa using hcm
        rcases e' with q | q | q | q | q
        · rw [q]; exact hzl
        · rw [q]; exact Heap.lt_size jI
        · rw [q]; exact Heap.lt_size jO
        · rw [q]; obtain ⟨_, e1, _⟩ := h1; exact Heap.lt_size e1
        · rw [q]; obtain ⟨_, e2, _⟩ := h2; exact Heap.lt_size e2
      rw [upd_ne (Nat.ne_of_lt hlt)]
      exact (hf c hcm).1
  done := by
    intro X hP hw hK hc i pins s σ H E I hf st hg
    subst hP hw hK
    obtain ⟨jz, jI, ⟨x0, y0, jO⟩, h1, h2⟩ := st
    obtain ⟨xs, ys, hqx, hqy, jend⟩ := hg
    obtain ⟨its, rv, p, _⟩ := I.tuple hqx
    obtain ⟨its2, rv2, p2, _⟩ := I.list hqy
    have l1 := rv.length
    have l2 := rv2.length
    have he : its.toArray[i]? = none ∨ its2.toArray[i]? = none := by
      rcases jend with q | q
      · exact .inl (by simp; omega)
      · exact .inr (by simp; omega)
    exact pyNext_zipM_end (I.ok.hd hc) D jz jI jO h1 h2 p p2.isList he fun h' jk => ⟨rfl, I.turnedL (t' := s.toks) (ch := [z, TI, TO, i1, i2]) (fun c o hb q =>
      jk c o (fun q' => hb (by simp [q'])) (fun q' => hb (by simp [q'])) (fun q' => hb (by simp [q'])) (fun q' => hb (by simp [q'])) q) hf⟩
  self := fun A i s Q E st h => wpAny_pyIter_zip st.1 h

def iZipB (K : PySem.W.Frag) (ta : TA) : TI := fun σ H R => ta σ H fun vs H1 => ∃ a b xs ys, vs = [.ref a, .ref b] ∧ ((SqL K H1 a xs ∧ SqL K H1 b ys ∧ R (Itz K a b) H1) ∨ (SqT K H1 a xs ∧ SqT K H1 b ys ∧ R (ItzT K a b) H1) ∨ (SqT K H1 a xs ∧ SqL K H1 b ys ∧ R (ItzM K a b) H1))
theorem pi_zipB {X : Cx} {e e2 : Expr} {ta : TA} {p pos tpos : Pos} {elts : List Expr} {kk : Nat} (hg : Gl X "zip") (hm : X.mg "zip" = none) (ha : PA X [e, e2] ta)
    (hs : starEach [e, e2] X.env = (false, eval e X.env) :: starEach [e2] X.env := by rfl) (hpl : (backTo pos (starEach [e2] X.env)).any (·.1) = false := by rfl) :
    PI X (.Tuple elts kk tpos) (.Call (.Name "zip" p) [e, e2] [] pos) (iZipB X.K ta) := by
  refine ⟨fun pins s σ H R I h => ?_⟩
  refine Call_ (ld_blt I hg hm PyProof.Rows.boot_zip (PyProof.Rows.callWith_type1 (thn (ha.run pos pins s σ H _ I h) fun us s1 ⟨vs, H1, I1, r1, q1⟩ => ?_) hs hpl))
  obtain ⟨a, b, xs, ys, ex, q1⟩ := q1
  subst ex
  cases r1 with
  | cons r rr =>
    cases rr with
    | cons r' rr =>
      cases rr
      cases r
      cases r'
      have fresh5 : ∀ c, c ∈ [s1.heap.objs.size + 4, s1.heap.objs.size + 2, s1.heap.objs.size + 3, s1.heap.objs.size, s1.heap.objs.size + 1] → FpOk X pins H1 c := fun c hcm => by
        have e' : c = s1.heap.objs.size + 4 ∨ c = s1.heap.objs.size + 2 ∨ c = s1.heap.objs.size + 3 ∨ c = s1.heap.objs.size ∨ c = s1.heap.objs.size + 1 := by simpa using hcm
        have hle : s1.heap.objs.size ≤ c := by
          rcases e' with z | z | z | z | z
          · rw [z]; exact Nat.le_add_right _ _
          · rw [z]; exact Nat.le_add_right _ _
          · rw [z]; exact Nat.le_add_right _ _
          · rw [z]; exact Nat.le_refl _
          · rw [z]; exact Nat.le_add_right _ _
        exact I1.fpOk hle (I1.hok.fresh hle)
      rcases q1 with ⟨hqx, hqy, q⟩ | ⟨hqx, hqy, q⟩ | ⟨hqx, hqy, q⟩
      · obtain ⟨its, rv, p1, _⟩ := I1.list hqx
        obtain ⟨its2, rv2, p2, _⟩ := I1.list hqy
        refine call_zip_2 p1.isList p2.isList fun h' jz jI jO h1 h2 jsz jk => wpAny_pyIter_zip jz ?_
        have I2 : Inv X pins σ H1 { s1 with heap := h' } := I1.kept (t' := s1.toks) jk
        exact ⟨s1.heap.objs.size + 4, [s1.heap.objs.size + 4, s1.heap.objs.size + 2, s1.heap.objs.size + 3, s1.heap.objs.size, s1.heap.objs.size + 1], _, _, H1, rfl, I2, turn_zip (PySem.W.ktu_apart s1.heap.objs.size a b p1.lt p2.lt), ⟨jz, jI, ⟨_, _, jO⟩, h1, h2⟩, fresh5, q⟩
      · obtain ⟨its, rv, p1, _⟩ := I1.tuple hqx
        obtain ⟨its2, rv2, p2, _⟩ := I1.tuple hqy
        obtain ⟨o1, ho1, _⟩ := id p1
        obtain ⟨o2, ho2, _⟩ := id p2
        refine call_zipT (show s1.heap.IsTuple a its.toArray from p1) (show s1.heap.IsTuple b its2.toArray from p2) fun h' jz jI jO h1 h2 jsz jk => wpAny_pyIter_zip jz ?_
        have I2 : Inv X pins σ H1 { s1 with heap := h' } := I1.kept (t' := s1.toks) jk
        exact ⟨s1.heap.objs.size + 4, [s1.heap.objs.size + 4, s1.heap.objs.size + 2, s1.heap.objs.size + 3, s1.heap.objs.size, s1.heap.objs.size + 1], _, _, H1, rfl, I2, turn_zipT (PySem.W.ktu_apart s1.heap.objs.size a b (Heap.lt_size ho1) (Heap.lt_size ho2)), ⟨jz, jI, ⟨_, _, jO⟩, h1, h2⟩, fresh5, q⟩
      · obtain ⟨its, rv, p1, _⟩ := I1.tuple hqx
        obtain ⟨its2, rv2, p2, _⟩ := I1.list hqy
        obtain ⟨o1, ho1, _⟩ := id p1
        refine zip_begins2 (begins_tuple a its.toArray) (begins_list b its2.toArray) (show s1.heap.IsTuple a its.toArray from p1) p2.isList fun h' jz jI jO h1 h2 jsz jk => wpAny_pyIter_zip jz ?_
        have I2 : Inv X pins σ H1 { s1 with heap := h' } := I1.kept (t' := s1.toks) jk
        exact ⟨s1.heap.objs.size + 4, [s1.heap.objs.size + 4, s1.heap.objs.size + 2, s1.heap.objs.size + 3, s1.heap.objs.size, s1.heap.objs.size + 1], _, _, H1, rfl, I2, turn_zipM (PySem.W.ktu_apart s1.heap.objs.size a b (Heap.lt_size ho1) p2.lt), ⟨jz, jI, ⟨_, _, jO⟩, ⟨_, h1, rfl, rfl⟩, ⟨_, h2, rfl, rfl⟩⟩, fresh5, q⟩

end RJ
end Fx

namespace Fx
open PySem PySem.Spec PyProof.Rows L2
variable {X : Cx}
theorem call_divmodW : CallR X (.builtin "divmod") (fun xs H Q => ∃ i j, xs = [.int i, .int j] ∧ 0 < j ∧ j < p64 ∧ ∀ p, H p = Option.none → Q (.ref p) (upd H p (.tup [.int (i / j), .int (i % j)]))) := by
  intro pins s σ H xs us Q I r h
  obtain ⟨i, j, rfl, h1, h2, q⟩ := h
  obtain ⟨u, w', rfl, ⟨t, rfl⟩, ⟨t', rfl⟩⟩ := vals2 r
  refine divmod_int (by omega) ?_ (.inl (PyProof.noPylong_of_log2 (p64_log h1 h2).2))
  rw [Int.fdiv_eq_ediv_of_nonneg i (by omega), Int.fmod_eq_emod_of_nonneg i (by omega)]
  have hn : H s.heap.objs.size = Option.none := I.hok.fresh (Nat.le_refl _)
  refine ⟨.ref s.heap.objs.size, _, ?_, rfl, q _ hn⟩
  refine I.laid (fun b o e => Heap.get?_push_of_some _ e) (Nat.le_refl _) ⟨by simp only [List.length_cons, List.length_nil]; rw [sizeLine_eq]; decide, [.int (i / j) s.toks, .int (i % j) (s.toks + 1)], .cons ⟨_, rfl⟩ (.cons ⟨_, rfl⟩ .nil), ?_⟩
  exact ⟨_, Heap.get?_push_size s.heap rfl, rfl, 0, rfl⟩
section
variable {K : PySem.W.Frag} {M : Mp} {H : Hp} {G : Heap} {Q : VK} {c : Val}
/-- a scalar answer -/
theorem fin_sc {v : V} (hh : HeapR K M G H) (q : ∀ u H', Later M H M H' → HeapR K M G H' → (Rl K M H' c u ∧ Fr K M H H' c u) → Q u H') (r : Rl K M H c v) (hc : ∀ xs, c ≠ .lst xs) : Q v H :=
  q v H (Later.refl M H) hh ⟨r, fun xs e => absurd e (hc xs)⟩
end
theorem rlds1 {K : PySem.W.Frag} {M : Mp} {H : Hp} {x : Val} {us : List V} (r : RlDs K M H [x] us) : ∃ u, us = [u] ∧ RlD K M H x u := by
  cases r with
  | cons h t => cases t; exact ⟨_, rfl, h⟩
theorem rlds2 {K : PySem.W.Frag} {M : Mp} {H : Hp} {x y : Val} {us : List V} (r : RlDs K M H [x, y] us) : ∃ u w, us = [u, w] ∧ RlD K M H x u ∧ RlD K M H y w := by
  cases r with
  | cons h t => cases t with
    | cons h2 t2 => cases t2; exact ⟨_, _, rfl, h, h2⟩
theorem rls_ints {K : PySem.W.Frag} {M : Mp} {H : Hp} : ∀ ns : List Int, Rls K M H (ns.map .int) (ns.map V.int)
  | [] => .nil
  | n :: ns => .cons (.int n) (rls_ints ns)
theorem prs_eq : ∀ {xs : List Val} {ps : List (Int × Int)}, prs? xs = some ps → xs = ps.map pV
  | [], _, e => by cases e; rfl
  | x :: xs, ps, e => by
    unfold prs? at e
    split at e
    · cases e
      rename_i h; cases h
    · rename_i i j r h
      cases h
      cases hq : prs? xs with
      | none => rw [hq] at e; cases e
      | some qs =>
        rw [hq] at e
        cases e
        rw [prs_eq hq]; rfl
    · cases e
theorem sort_eq {ns ns' : List Int} (p : ns'.Perm ns) (s : ns'.Pairwise (· ≤ ·)) : ns' = sortI ns := by
  have p2 : (sortI ns).Perm ns := List.mergeSort_perm ns _
  have s2 : (sortI ns).Pairwise (· ≤ ·) := by
    have := List.pairwise_mergeSort (le := fun a b : Int => decide (a ≤ b)) (fun a b c h1 h2 => by simp only [decide_eq_true_eq] at *; omega) (fun a b => by simp only [Bool.or_eq_true, decide_eq_true_eq]; omega) ns
    exact this.imp fun h => by simpa using h
  exact List.Perm.eq_of_pairwise (fun a b _ _ h1 h2 => by omega) s s2 (p.trans p2.symm)
theorem int_keys : ∀ {ks : List Key} {ns : List Int}, intKeys? ks = some ns → ks = ns.map Sum.inl
  | [], _, e => by cases e; rfl
  | .inl i :: ks, ns, e => by
    rw [intKeys?] at e
    cases q : intKeys? ks with
    | none => rw [q] at e; cases e
    | some ms => rw [q] at e; cases e; rw [int_keys q]; rfl
  | .inr _ :: _, _, e => by cases e
theorem zip_keys {ks : List Key} {us : List V} (h : ks.length = us.length) : (ks.zip us).map (·.1) = ks := by
  rw [List.map_fst_zip]
  omega
theorem no_mod {X : Cx} {pins : List (Addr × PySem.Obj)} {σ : L2.St} {H : Hp} {s : Shared} (I : Inv X pins σ H s) (hM : KM X.K) {a : Addr} {o : PySem.Obj} (h : s.heap.get? a = some o) (hc : o.cls = .type "list") : sysModules ≠ a := by
  rintro rfl
  obtain ⟨o2, e, hn⟩ := hM
  have := I.kIn _ _ e
  rw [h] at this
  cases this
  exact hn hc
theorem reads_dict {X : Cx} {pins : List (Addr × PySem.Obj)} {σ : L2.St} {H : Hp} {s : Shared} (I : Inv X pins σ H s) {a : Addr} (h : H a = some (.dK [])) : Reads s.heap (.ref a) (.dict []) (a :: ([] ++ [])) ∧ sysModules ≠ a := by
  obtain ⟨_, hm, vs, hk, o, es, ep, ho, he, hd, hr⟩ := dk_of I.hok h
  refine ⟨?_, fun e => by rw [← e] at hm; simp at hm⟩
  cases hk
  obtain ⟨_, hp, _⟩ := hr
  have en : es.toList = [] := by
    generalize es.toList = l at hp
    cases hp
    rfl
  exact .dict ho he.1 hd (by rw [en]; exact .nil) (by rw [en]; exact .nil)
mutual
theorem reads_of {X : Cx} {pins : List (Addr × PySem.Obj)} {σ : L2.St} {H : Hp} {s : Shared} (I : Inv X pins σ H s) (hM : KM X.K) {M : Mp} : ∀ {x : Val} {v : V} {d : PyData}, Rl X.K M H x v → toR x = some d → ∀ u, RelV v u → ∃ as, Reads s.heap u d as ∧ sysModules ∉ as
  | _, _, _, .nn, e, u, r => by cases e; cases r; exact ⟨_, .none, by simp⟩
  | _, _, _, .bool b, e, u, r => by cases e; cases r; exact ⟨_, .bool b, by simp⟩
  | _, _, _, .int i, e, u, r => by cases e; obtain ⟨t, rfl⟩ := r; exact ⟨_, .int i t, by simp⟩
  | _, _, _, .str z, e, u, r => by cases e; obtain ⟨t, rfl⟩ := r; exact ⟨_, .str _ t, by simp⟩
  | _, _, _, .txt z, e, u, r => by cases e; obtain ⟨t, rfl⟩ := r; exact ⟨_, .str _ t, by simp⟩
  | _, _, _, .tupT (xs := xs) _ hr hs, e, u, r => by
    cases q : toRs xs with
    | none => rw [toR, q] at e; cases e
    | some ds =>
      rw [toR, q] at e; cases e; cases r
      obtain ⟨its, rv, ⟨o, ho, hc, n, hd⟩, _⟩ := I.tuple (.inl hr)
      obtain ⟨as, h1, h2⟩ := readsAll_of I hM hs q its rv
      exact ⟨as, .tuple ho hc hd (by simpa using h1), h2⟩
  | _, _, _, .tupK (xs := xs) hk hs, e, u, r => by
    cases q : toRs xs with
    | none => rw [toR, q] at e; cases e
    | some ds =>
      rw [toR, q] at e; cases e; cases r
      obtain ⟨its, rv, ⟨o, ho, hc, n, hd⟩, _⟩ := I.tuple (hk.sq H)
      obtain ⟨as, h1, h2⟩ := readsAll_of I hM hs q its rv
      exact ⟨as, .tuple ho hc hd (by simpa using h1), h2⟩
  | _, _, _, .lst (xs := xs) _ hr hs, e, u, r => by
    cases q : toRs xs with
    | none => rw [toR, q] at e; cases e
    | some ds =>
      rw [toR, q] at e; cases e; cases r
      obtain ⟨its, rv, ⟨o, n, ho, hc, _, hd⟩, _⟩ := I.list (.of hr)
      obtain ⟨as, h1, h2⟩ := readsAll_of I hM hs q its rv
      exact ⟨_, .list ho hc hd (by simpa using h1), fun z => (List.mem_cons.mp z).elim (no_mod I hM ho hc) h2⟩
  | _, _, _, .frzT (xs := xs) _ hr hs, e, u, r => by
    cases q : toRs xs with
    | none => rw [toR, q] at e; cases e
    | some ds =>
      rw [toR, q] at e; cases e; cases r
      obtain ⟨its, rv, ⟨o, n, ho, hc, _, hd⟩, _⟩ := I.list (.inl hr)
      obtain ⟨as, h1, h2⟩ := readsAll_of I hM hs q its rv
      exact ⟨_, .list ho hc hd (by simpa using h1), fun z => (List.mem_cons.mp z).elim (no_mod I hM ho hc) h2⟩
  | _, _, _, .frzK (xs := xs) hk hs, e, u, r => by
    cases q : toRs xs with
    | none => rw [toR, q] at e; cases e
    | some ds =>
      rw [toR, q] at e; cases e; cases r
      obtain ⟨its, rv, ⟨o, n, ho, hc, _, hd⟩, _⟩ := I.list (hk.sq H)
      obtain ⟨as, h1, h2⟩ := readsAll_of I hM hs q its rv
      exact ⟨_, .list ho hc hd (by simpa using h1), fun z => (List.mem_cons.mp z).elim (no_mod I hM ho hc) h2⟩
  | _, _, _, .dctT _ h, e, u, r => by
    cases e; cases r
    obtain ⟨h1, h2⟩ := reads_dict I h
    exact ⟨_, h1, fun z => by simp at z; exact h2 z⟩
  | _, _, _, .ref _, e, u, r => by cases e
theorem readsAll_of {X : Cx} {pins : List (Addr × PySem.Obj)} {σ : L2.St} {H : Hp} {s : Shared} (I : Inv X pins σ H s) (hM : KM X.K) {M : Mp} : ∀ {xs : List Val} {us : List V} {ds : List PyData}, Rls X.K M H xs us → toRs xs = some ds → ∀ ws, Vals us ws → ∃ as, ReadsAll s.heap ws ds as ∧ sysModules ∉ as
  | _, _, _, .nil, e, ws, r => by cases e; cases r; exact ⟨_, .nil, by simp⟩
  | _, _, _, .cons (x := x) (xs := xs) h t, e, ws, r => by
    rw [toRs] at e
    cases q1 : toR x with
    | none => rw [q1] at e; cases e
    | some d =>
      rw [q1] at e
      cases q2 : toRs xs with
      | none => rw [q2] at e; cases e
      | some ds =>
        rw [q2] at e; cases e
        cases r with
        | cons r1 r2 =>
          obtain ⟨as, h1, h2⟩ := reads_of I hM h q1 _ r1
          obtain ⟨bs, k1, k2⟩ := readsAll_of I hM t q2 _ r2
          exact ⟨_, .cons h1 k1, fun z => (List.mem_append.mp z).elim h2 k2⟩
end
theorem readsD_of {X : Cx} {pins : List (Addr × PySem.Obj)} {σ : L2.St} {H : Hp} {s : Shared} (I : Inv X pins σ H s) (hM : KM X.K) {M : Mp} {x : Val} {v : V} {d : PyData} (ra : RlD X.K M H x v) (e : toR x = some d) (u : Value) (r : RelV v u) : ∃ as, Reads s.heap u d as ∧ sysModules ∉ as := by
  rcases ra with ra | ⟨xs, vs, a, rfl, rfl, h, t⟩ | ⟨ks, _, us, a, rfl, rfl, h, hl, t⟩
  · exact reads_of I hM ra e u r
  · cases q : toRs xs with
    | none => rw [toR, q] at e; cases e
    | some ds =>
      rw [toR, q] at e; cases e; cases r
      obtain ⟨its, rv, ⟨o, n, ho, hc, _, hd⟩, _⟩ := I.list (.of h)
      obtain ⟨as, h1, h2⟩ := readsAll_of I hM t q its rv
      exact ⟨_, .list ho hc hd (by simpa using h1), fun z => (List.mem_cons.mp z).elim (no_mod I hM ho hc) h2⟩
  · rw [toR] at e
    split at e
    · rename_i z
      cases e; cases r
      have z1 : ks = [] := List.isEmpty_iff.mp (Bool.and_eq_true_iff.mp z).1
      subst z1
      obtain ⟨h1, h2⟩ := reads_dict I h
      exact ⟨_, h1, fun z => by simp at z; exact h2 z⟩
    · cases e
/-- repr of data, where no object is being shown -/
theorem call_reprD (hgd : X.A.guards = some []) (hun : X.A.units + 101 < cLine) (hM : KM X.K) : CallR X (.builtin "repr") (fun xs H Q => ∃ v x M d, xs = [v] ∧ RlD X.K M H x v ∧ toR x = some d ∧ d.showable = true ∧ d.depth ≤ 100 ∧ d.shown.length ≤ sizeLine ∧ Q (.str d.shown) H) := by
  intro pins s σ H xs us Q I r h
  obtain ⟨v, x, M, d, rfl, ra, e, hs, hd, hz, q⟩ := h
  obtain ⟨u, rfl, rv⟩ := vals1 r
  obtain ⟨as, rr, hn⟩ := readsD_of I hM ra e u rv
  have big : ∀ {a : Addr}, Reads s.heap (.ref a) d as → wpAny (model X.prog X.w) X.A (call (.builtin "repr") [.ref a]) (EP X pins σ Q) X.xe s := fun {a} rr =>
    repr_of_reads' rr hs (fun _ => hn) hgd (by omega) (fun _ _ e => e) (fun h' t tk hk => ⟨.str d.shown, H, I.kept (t' := tk) hk, ⟨_, rfl⟩, q⟩) hz
  cases rr with
  | none => exact PySem.P.repr_of_none ⟨.str _, H, I.tok _, ⟨_, rfl⟩, q⟩
  | bool b => exact PySem.P.repr_of_bool ⟨.str _, H, I.tok _, ⟨_, rfl⟩, q⟩
  | int i t => exact PySem.P.repr_of_int (by simpa [PyData.showable] using hs) ⟨.str _, H, I.tok _, ⟨_, rfl⟩, q⟩
  | str x t => exact PySem.P.repr_of_str ⟨.str _, H, I.tok _, ⟨_, rfl⟩, q⟩ (by simpa only [PyData.shown] using hz)
  | list h1 h2 h3 h4 => exact big (.list h1 h2 h3 h4)
  | tuple h1 h2 h3 h4 => exact big (.tuple h1 h2 h3 h4)
  | dict h1 h2 h3 h4 h5 => exact big (.dict h1 h2 h3 h4 h5)
theorem reprV_some {x c : Val} (h : reprV x = some c) : ∃ d, toR x = some d ∧ d.showable = true ∧ d.depth ≤ 100 ∧ d.shown.length ≤ 16777216 ∧ c = .txt d.shown := by
  unfold reprV at h
  cases q : toR x with
  | none => rw [q] at h; cases h
  | some d =>
    rw [q] at h
    have h : (if d.showable = true ∧ d.depth ≤ 100 ∧ d.shown.length ≤ 16777216 then some (Val.txt d.shown) else none) = some c := h
    split at h
    · rename_i z
      cases h
      exact ⟨d, rfl, z.1, z.2.1, z.2.2, rfl⟩
    · cases h
theorem call_bf (hcalm : X.calm = true) (hgd : X.A.guards = some []) (hun : X.A.units + 101 < cLine) (hM : KM X.K) (f : Bf) : CallR X (bfN f) (rBf X.K f) := by
  intro pins s σ H us ws Q I r ⟨M, G, vs, c, hh, rs, hc, q⟩
  cases f with
  | len =>
    match vs, rs, hc with
    | [x], rs, hc =>
      obtain ⟨u, rfl, r1⟩ := rlds1 rs
      have hc1 : (∃ z, x = .str z ∧ (if z.length ≤ lineN then some (Val.int z.length) else none) = some c) ∨ ∀ z, x ≠ .str z := by
        cases x <;> first | exact .inl ⟨_, rfl, hc⟩ | exact .inr fun z e => nomatch e
      rcases hc1 with ⟨z, rfl, hc1⟩ | hns
      · split at hc1
        · rename_i hz
          cases hc1
          cases r1.str
          exact call_len_str pins s σ H _ ws Q I r ⟨_, rfl, by rw [ofString_length]; exact hz, fin_sc hh q (by rw [ofString_length]; exact .int _) (fun _ e => nomatch e)⟩
        · cases hc1
      have hc2 : (∃ ks xs, x = .dct ks xs ∧ c = .int ks.length) ∨ (seq? x).map (fun xs => Val.int xs.length) = some c := by
        cases x <;> first | exact absurd rfl (hns _) | exact .inr hc | (cases hc; exact .inl ⟨_, _, rfl, rfl⟩)
      rcases hc2 with ⟨ks, xs, rfl, rfl⟩ | hc
      · obtain ⟨a, zs, rfl, h2, hl, t⟩ := r1.dct
        exact call_lenD pins s σ H _ ws Q I r ⟨a, _, rfl, h2, fin_sc hh q (by rw [List.length_zip, ← hl, Nat.min_self]; exact .int _) (fun _ e => nomatch e)⟩
      cases hx : seq? x with
      | none => rw [hx] at hc; cases hc
      | some xs =>
        rw [hx] at hc
        cases hc
        obtain ⟨a, zs, rfl, h2, t⟩ := r1.seq hx
        exact call_len_seq pins s σ H _ ws Q I r ⟨a, zs, rfl, h2, fin_sc hh q (show Rl X.K M H (.int xs.length) (.int zs.length) by rw [t.length]; exact .int _) (fun _ e => nomatch e)⟩
    | [], _, hc => cases hc
    | a :: _ :: _, _, hc => exact absurd hc (by cases a <;> (intro z; cases z))
  | tuple =>
    match vs, rs, hc with
    | [x], rs, hc =>
      obtain ⟨u, rfl, r1⟩ := rlds1 rs
      have hc2 : (∃ ks xs ns, x = .dct ks xs ∧ intKeys? ks = some ns ∧ c = .tup (ns.map .int)) ∨ (seq? x).map Val.tup = some c := by
        cases x with
        | dct ks xs =>
          have hc : (intKeys? ks).map (fun ns => Val.tup (ns.map .int)) = some c := hc
          cases qk : intKeys? ks with
          | none => rw [qk] at hc; cases hc
          | some ns => rw [qk] at hc; cases hc; exact .inl ⟨_, _, ns, rfl, qk, rfl⟩
        | _ => exact .inr hc
      rcases hc2 with ⟨ks, xs, ns, rfl, hk, rfl⟩ | hc
      · obtain ⟨a, zs, rfl, h2, hl, t⟩ := r1.dct
        have ek : ((ks.zip zs).map fun kv => kV kv.1) = ns.map V.int := by
          have := congrArg (List.map kV) (zip_keys hl)
          rw [List.map_map] at this
          rw [show ((ks.zip zs).map fun kv => kV kv.1) = (ks.zip zs).map (kV ∘ (·.1)) from rfl, this, int_keys hk, List.map_map]; rfl
        refine call_tupleD hcalm pins s σ H _ ws Q I r ⟨a, _, rfl, .inl h2, fun p hp => ?_⟩
        rw [ek]
        exact q _ _ (Later.new M hp) (hh.new hp) ⟨Rl.newTup hh hp (rls_ints ns), fun _ e => nomatch e⟩
      cases hx : seq? x with
      | none => rw [hx] at hc; cases hc
      | some xs =>
        rw [hx] at hc
        cases hc
        cases x with
        | tup ys =>
          cases hx
          obtain ⟨a, zs, rfl, h2, t⟩ := r1.tup
          refine call_tuple_of pins s σ H _ ws Q I r ⟨a, zs, rfl, .inr ⟨h2, ?_⟩⟩
          rcases r1 with r1 | ⟨_, _, _, e1, _⟩ | ⟨_, _, _, _, e1, _⟩
          · exact fin_sc hh q r1 (fun _ e => nomatch e)
          · cases e1
          · cases e1
        | lst ys =>
          cases hx
          obtain ⟨a, zs, rfl, h2, t⟩ := r1.lst
          exact call_tuple_of pins s σ H _ ws Q I r ⟨a, zs, rfl, .inl ⟨.of h2, fun p hp => q _ _ (Later.new M hp) (hh.new hp) ⟨Rl.newTup hh hp t, fun _ e => nomatch e⟩⟩⟩
        | frz ys =>
          cases hx
          obtain ⟨a, zs, rfl, h2, t⟩ := r1.frz
          exact call_tuple_of pins s σ H _ ws Q I r ⟨a, zs, rfl, .inl ⟨h2, fun p hp => q _ _ (Later.new M hp) (hh.new hp) ⟨Rl.newTup hh hp t, fun _ e => nomatch e⟩⟩⟩
        | _ => cases hx
    | [], _, hc => cases hc
    | a :: _ :: _, _, hc => exact absurd hc (by cases a <;> (intro z; cases z))
  | repr =>
    match vs, rs, hc with
    | [x], rs, hc =>
      obtain ⟨u, rfl, r1⟩ := rlds1 rs
      have hc : reprV x = some c := by cases x <;> exact hc
      obtain ⟨d, h1, h2, h3, h4, rfl⟩ := reprV_some hc
      exact call_reprD hgd hun hM pins s σ H _ ws Q I r ⟨u, x, _, d, rfl, r1, h1, h2, h3, by rw [sizeLine_eq]; exact h4, fin_sc hh q (.txt _) (fun _ e => nomatch e)⟩
    | [], _, hc => cases hc
    | a :: _ :: _, _, hc => exact absurd hc (by cases a <;> (intro z; cases z))
  | sorted =>
    match vs, rs, hc with
    | [.lst xs], rs, hc =>
      obtain ⟨u, rfl, r1⟩ := rlds1 rs
      have hc : sortL xs = some c := hc
      unfold sortL at hc
      cases hx : ints? xs with
      | none =>
        rw [hx] at hc
        have hc : (prs? xs).map (fun ps => Val.lst ((sortP ps).map pV)) = some c := hc
        cases hp : prs? xs with
        | none => rw [hp] at hc; cases hc
        | some ps =>
          rw [hp] at hc
          cases hc
          obtain ⟨a, zs, rfl, h2, t⟩ := r1.lst
          rw [prs_eq hp] at t
          refine cr_sortedPR (M := M) pins s σ H _ ws Q I r ⟨a, zs, ps, rfl, .of h2, t, fun ys p hy hp => ?_⟩
          have hL := Later.new (o := .lst ys) M hp
          exact q _ _ hL (hh.new hp) ⟨Rl.newLst hh hp hy, fun ys' e => by cases e; exact ⟨p, _, rfl, hp, rfl, hy⟩⟩
      | some ns =>
        rw [hx] at hc
        cases hc
        obtain ⟨a, zs, rfl, h2, t⟩ := r1.lst
        have ez := ints_of t hx
        subst ez
        refine cr_sortedI pins s σ H _ ws Q I r ⟨a, ns, rfl, .of h2, fun ns' p pe so hp => ?_⟩
        rw [sort_eq pe so]
        exact q _ _ (Later.new M hp) (hh.new hp) ⟨Rl.newLst hh hp (rls_ints _), fun ys e => by cases e; exact ⟨p, _, rfl, hp, rfl, rls_ints _⟩⟩
    | [.tup xs], rs, hc =>
      obtain ⟨u, rfl, r1⟩ := rlds1 rs
      have hc : (ints? xs).map (fun ns => Val.lst ((sortI ns).map .int)) = some c := hc
      cases hx : ints? xs with
      | none => rw [hx] at hc; cases hc
      | some ns =>
        rw [hx] at hc
        cases hc
        obtain ⟨a, zs, rfl, h2, t⟩ := r1.tup
        have ez := ints_of t hx
        subst ez
        refine cr_sortedTI pins s σ H _ ws Q I r ⟨a, ns, rfl, h2, fun ns' p pe so hp => ?_⟩
        rw [sort_eq pe so]
        exact q _ _ (Later.new M hp) (hh.new hp) ⟨Rl.newLst hh hp (rls_ints _), fun ys e => by cases e; exact ⟨p, _, rfl, hp, rfl, rls_ints _⟩⟩
    | [.dct ks xs], rs, hc =>
      obtain ⟨u, rfl, r1⟩ := rlds1 rs
      have hc : (if ks.length ≤ 1000000 then (intKeys? ks).map (fun ns => Val.lst ((sortI ns).map .int)) else none) = some c := hc
      split at hc
      · rename_i h64
        cases hx : intKeys? ks with
        | none => rw [hx] at hc; cases hc
        | some ns =>
          rw [hx] at hc
          cases hc
          obtain ⟨a, zs, rfl, h2, hl, t⟩ := r1.dct
          have ek := int_keys hx
          refine cr_sortedDI hcalm pins s σ H _ ws Q I r ⟨a, _, ns, rfl, .inl h2, (zip_keys hl).trans ek, by rw [ek, List.length_map] at h64; exact h64, fun ns' p pe so hp => ?_⟩
          rw [sort_eq pe so]
          exact q _ _ (Later.new M hp) (hh.new hp) ⟨Rl.newLst hh hp (rls_ints _), fun ys e => by cases e; exact ⟨p, _, rfl, hp, rfl, rls_ints _⟩⟩
      · cases hc
    | [], _, hc => cases hc
    | [.none], _, hc => cases hc
    | [.bool _], _, hc => cases hc
    | [.int _], _, hc => cases hc
    | [.str _], _, hc => cases hc
    | [.frz _], _, hc => cases hc
    | [.ref _], _, hc => cases hc
    | a :: _ :: _, _, hc => exact absurd hc (by cases a <;> (intro z; cases z))
  | list =>
    match vs, rs, hc with
    | [x], rs, hc =>
      obtain ⟨u, rfl, r1⟩ := rlds1 rs
      cases hx : seq? x with
      | none => simp only [bfK, hx] at hc; cases hc
      | some xs =>
        simp only [bfK, hx, Option.map_some, Option.some.injEq] at hc
        subst hc
        obtain ⟨a, zs, rfl, h2, t⟩ := r1.seq hx
        exact call_list_of pins s σ H _ ws Q I r ⟨a, zs, rfl, h2, fun p hp => q _ _ (Later.new M hp) (hh.new hp) ⟨Rl.newLst hh hp t, fun ys e => by cases e; exact ⟨p, zs, rfl, hp, rfl, t⟩⟩⟩
    | [], _, hc => cases hc
    | _ :: _ :: _, _, hc => cases hc
  | int =>
    match vs, rs, hc with
    | [.int i], rs, hc =>
      obtain ⟨u, rfl, r1⟩ := rlds1 rs
      cases r1.int; cases hc
      exact call_int1 pins s σ H _ ws Q I r (.inl ⟨i, rfl, fin_sc hh q (.int _) (fun _ e => nomatch e)⟩)
    | [.bool b], rs, hc =>
      obtain ⟨u, rfl, r1⟩ := rlds1 rs
      cases r1.bool; cases hc
      exact call_int1 pins s σ H _ ws Q I r (.inr ⟨b, rfl, fin_sc hh q (.int _) (fun _ e => nomatch e)⟩)
    | [], _, hc => cases hc
    | [.none], _, hc | [.str _], _, hc | [.tup _], _, hc | [.lst _], _, hc | [.frz _], _, hc | [.ref _], _, hc => cases hc
    | a :: _ :: _, _, hc => cases a <;> cases hc
  | str =>
    match vs, rs, hc with
    | [.int i], rs, hc =>
      obtain ⟨u, rfl, r1⟩ := rlds1 rs
      cases r1.int
      have hc : (if -p64 < i ∧ i < p64 then some (Val.str (toString i)) else none) = some c := hc
      split at hc
      · rename_i hz
        cases hc
        refine call_str_int pins s σ H _ ws Q I r ⟨i, rfl, ?_, fin_sc hh q (.str _) (fun _ e => nomatch e)⟩
        have h0 : i.natAbs < 2 ^ 64 := by
          have : p64 = ((2 ^ 64 : Nat) : Int) := by unfold p64; decide
          omega
        by_cases hn : i.natAbs = 0
        · rw [hn]; decide
        · exact Nat.lt_of_lt_of_le ((Nat.log2_lt hn).mpr h0) (by decide)
      · cases hc
    | [], _, hc => cases hc
    | [.none], _, hc | [.bool _], _, hc | [.str _], _, hc | [.tup _], _, hc | [.lst _], _, hc | [.frz _], _, hc | [.ref _], _, hc => cases hc
    | a :: _ :: _, _, hc => cases a <;> cases hc
  | abs =>
    match vs, rs, hc with
    | [.int i], rs, hc =>
      obtain ⟨u, rfl, r1⟩ := rlds1 rs
      cases r1.int; cases hc
      exact call_abs pins s σ H _ ws Q I r ⟨i, rfl, fin_sc hh q (.int _) (fun _ e => nomatch e)⟩
    | [], _, hc => cases hc
    | [.none], _, hc | [.bool _], _, hc | [.str _], _, hc | [.tup _], _, hc | [.lst _], _, hc | [.frz _], _, hc | [.ref _], _, hc => cases hc
    | a :: _ :: _, _, hc => cases a <;> cases hc
  | sum =>
    match vs, rs, hc with
    | [.lst xs], rs, hc =>
      obtain ⟨u, rfl, r1⟩ := rlds1 rs
      obtain ⟨a, zs, rfl, h2, t⟩ := r1.lst
      cases hx : ints? xs with
      | none => simp only [bfK, hx] at hc; cases hc
      | some ns =>
        simp only [bfK, hx, Option.map_some, Option.some.injEq] at hc
        subst hc
        have e := ints_of t hx
        subst e
        exact cr_sum hcalm pins s σ H _ ws Q I r ⟨a, ns, rfl, .of h2, fin_sc hh q (.int _) (fun _ e => nomatch e)⟩
    | [.tup xs], rs, hc =>
      obtain ⟨u, rfl, r1⟩ := rlds1 rs
      obtain ⟨a, zs, rfl, h2, t⟩ := r1.tup
      cases hx : ints? xs with
      | none => simp only [bfK, hx] at hc; cases hc
      | some ns =>
        simp only [bfK, hx, Option.map_some, Option.some.injEq] at hc
        subst hc
        have e := ints_of t hx
        subst e
        exact cr_sumT hcalm pins s σ H _ ws Q I r ⟨a, ns, rfl, h2, fin_sc hh q (.int _) (fun _ e => nomatch e)⟩
    | [], _, hc => cases hc
    | [.none], _, hc | [.bool _], _, hc | [.int _], _, hc | [.str _], _, hc | [.frz _], _, hc | [.ref _], _, hc => cases hc
    | a :: _ :: _, _, hc => cases a <;> cases hc
  | max =>
    match vs, rs, hc with
    | [.int i, .int j], rs, hc =>
      obtain ⟨u, w, rfl, r1, r2⟩ := rlds2 rs
      cases r1.int; cases r2.int; cases hc
      exact call_max2 hcalm pins s σ H _ ws Q I r ⟨i, j, rfl, fin_sc hh q (.int _) (fun _ e => nomatch e)⟩
    | [.lst xs], rs, hc =>
      obtain ⟨u, rfl, r1⟩ := rlds1 rs
      obtain ⟨a, zs, rfl, h2, t⟩ := r1.lst
      have hc : (if xs.isEmpty = true then none else (ints? xs).map fun ns => Val.int (maxL ns)) = some c := hc
      split at hc
      · cases hc
      · rename_i hne
        cases hx : ints? xs with
        | none => rw [hx] at hc; cases hc
        | some ns =>
          rw [hx] at hc
          cases hc
          have e := ints_of t hx
          subst e
          have hl : 0 < ns.length := by
            have := t.length
            rw [List.length_map] at this
            rw [← this]
            cases xs with
            | nil => exact absurd rfl hne
            | cons _ _ => exact Nat.succ_pos _
          obtain ⟨m1, m2⟩ := maxL_spec ns hl
          refine cr_max hcalm pins s σ H _ ws Q I r ⟨a, ns, rfl, .of h2, hl, fun m h3 h4 => ?_⟩
          have e : m = maxL ns := Int.le_antisymm (m2 m h3) (h4 _ m1)
          subst e
          exact fin_sc hh q (.int _) (fun _ e => nomatch e)
    | [], _, hc => cases hc
    | [.none], _, hc | [.bool _], _, hc | [.int _], _, hc | [.str _], _, hc | [.tup _], _, hc | [.frz _], _, hc | [.ref _], _, hc => cases hc
    | [.int _, .none], _, hc | [.int _, .bool _], _, hc | [.int _, .str _], _, hc | [.int _, .tup _], _, hc | [.int _, .lst _], _, hc | [.int _, .frz _], _, hc | [.int _, .ref _], _, hc => cases hc
    | [.none, _], _, hc | [.bool _, _], _, hc | [.str _, _], _, hc | [.tup _, _], _, hc | [.lst _, _], _, hc | [.frz _, _], _, hc | [.ref _, _], _, hc => cases hc
    | a :: b :: _ :: _, _, hc => cases a <;> first | (cases hc; done) | (cases b <;> cases hc)
  | min =>
    match vs, rs, hc with
    | [.int i, .int j], rs, hc =>
      obtain ⟨u, w, rfl, r1, r2⟩ := rlds2 rs
      cases r1.int; cases r2.int; cases hc
      exact call_min2 hcalm pins s σ H _ ws Q I r ⟨i, j, rfl, fin_sc hh q (.int _) (fun _ e => nomatch e)⟩
    | [.lst xs], rs, hc =>
      obtain ⟨u, rfl, r1⟩ := rlds1 rs
      obtain ⟨a, zs, rfl, h2, t⟩ := r1.lst
      have hc : (if xs.isEmpty = true then none else (ints? xs).map fun ns => Val.int (minL ns)) = some c := hc
      split at hc
      · cases hc
      · rename_i hne
        cases hx : ints? xs with
        | none => rw [hx] at hc; cases hc
        | some ns =>
          rw [hx] at hc
          cases hc
          have e := ints_of t hx
          subst e
          have hl : 0 < ns.length := by
            have := t.length
            rw [List.length_map] at this
            rw [← this]
            cases xs with
            | nil => exact absurd rfl hne
            | cons _ _ => exact Nat.succ_pos _
          obtain ⟨m1, m2⟩ := minL_spec ns hl
          refine cr_min hcalm pins s σ H _ ws Q I r ⟨a, ns, rfl, .of h2, hl, fun m h3 h4 => ?_⟩
          have e : m = minL ns := Int.le_antisymm (h4 _ m1) (m2 m h3)
          subst e
          exact fin_sc hh q (.int _) (fun _ e => nomatch e)
    | [], _, hc => cases hc
    | [.none], _, hc | [.bool _], _, hc | [.int _], _, hc | [.str _], _, hc | [.tup _], _, hc | [.frz _], _, hc | [.ref _], _, hc => cases hc
    | [.int _, .none], _, hc | [.int _, .bool _], _, hc | [.int _, .str _], _, hc | [.int _, .tup _], _, hc | [.int _, .lst _], _, hc | [.int _, .frz _], _, hc | [.int _, .ref _], _, hc => cases hc
    | [.none, _], _, hc | [.bool _, _], _, hc | [.str _, _], _, hc | [.tup _, _], _, hc | [.lst _, _], _, hc | [.frz _, _], _, hc | [.ref _, _], _, hc => cases hc
    | a :: b :: _ :: _, _, hc => cases a <;> first | (cases hc; done) | (cases b <;> cases hc)
  | all =>
    match vs, rs, hc with
    | [.lst xs], rs, hc =>
      obtain ⟨u, rfl, r1⟩ := rlds1 rs
      obtain ⟨a, zs, rfl, h2, t⟩ := r1.lst
      cases hx : bools? xs with
      | none => simp only [bfK, hx] at hc; cases hc
      | some ns =>
        simp only [bfK, hx, Option.map_some, Option.some.injEq] at hc
        subst hc
        have e := bools_of t hx
        subst e
        exact cr_all hcalm pins s σ H _ ws Q I r ⟨a, ns, rfl, .of h2, fin_sc hh q (.bool _) (fun _ e => nomatch e)⟩
    | [], _, hc => cases hc
    | [.none], _, hc | [.bool _], _, hc | [.int _], _, hc | [.str _], _, hc | [.tup _], _, hc | [.frz _], _, hc | [.ref _], _, hc => cases hc
    | a :: _ :: _, _, hc => cases a <;> cases hc
  | any =>
    match vs, rs, hc with
    | [.lst xs], rs, hc =>
      obtain ⟨u, rfl, r1⟩ := rlds1 rs
      obtain ⟨a, zs, rfl, h2, t⟩ := r1.lst
      cases hx : bools? xs with
      | none => simp only [bfK, hx] at hc; cases hc
      | some ns =>
        simp only [bfK, hx, Option.map_some, Option.some.injEq] at hc
        subst hc
        have e := bools_of t hx
        subst e
        exact cr_any hcalm pins s σ H _ ws Q I r ⟨a, ns, rfl, .of h2, fin_sc hh q (.bool _) (fun _ e => nomatch e)⟩
    | [], _, hc => cases hc
    | [.none], _, hc | [.bool _], _, hc | [.int _], _, hc | [.str _], _, hc | [.tup _], _, hc | [.frz _], _, hc | [.ref _], _, hc => cases hc
    | a :: _ :: _, _, hc => cases a <;> cases hc
  | divmod =>
    match vs, rs, hc with
    | [.int i, .int j], rs, hc =>
      obtain ⟨u, w, rfl, r1, r2⟩ := rlds2 rs
      cases r1.int; cases r2.int
      have hc : (if 0 < j ∧ j < p64 then some (Val.tup [.int (i / j), .int (i % j)]) else none) = some c := hc
      split at hc
      · rename_i hz
        cases hc
        exact call_divmodW pins s σ H _ ws Q I r ⟨i, j, rfl, hz.1, hz.2, fun p hp => q _ _ (Later.new M hp) (hh.new hp) ⟨Rl.newTup hh hp (.cons (.int _) (.cons (.int _) .nil)), fun _ e => nomatch e⟩⟩
      · cases hc
    | [], _, hc => cases hc
    | [a], _, hc => cases a <;> cases hc
    | [.int _, .none], _, hc | [.int _, .bool _], _, hc | [.int _, .str _], _, hc | [.int _, .tup _], _, hc | [.int _, .lst _], _, hc | [.int _, .frz _], _, hc | [.int _, .ref _], _, hc => cases hc
    | [.none, _], _, hc | [.bool _, _], _, hc | [.str _, _], _, hc | [.tup _, _], _, hc | [.lst _, _], _, hc | [.frz _, _], _, hc | [.ref _, _], _, hc => cases hc
    | a :: b :: _ :: _, _, hc => cases a <;> first | (cases hc; done) | (cases b <;> cases hc)
end Fx

namespace Fx
open PySem PySem.Spec PyProof.Rows L2
variable {X : Cx}
section
variable {K : PySem.W.Frag}
theorem isEmpty_rls {M : Mp} {H : Hp} {xs : List Val} {vs : List V} (r : Rls K M H xs vs) : vs.isEmpty = xs.isEmpty := by
  cases r <;> rfl
theorem tru_of {M : Mp} {H : Hp} {v : Val} {u : V} {k : Bool} (r : RlD K M H v u) (h : truthV v = some k) : TruV K u H k := by
  cases v with
  | none => cases r.nn; cases h; rfl
  | bool b => cases r.bool; cases h; rfl
  | int i => cases r.int; cases h; rfl
  | str s =>
    cases r.str
    have h : (if s.length ≤ 16777216 then some ((s.length : Int) != 0) else none) = some k := h
    split at h
    · rename_i hz
      cases h
      exact ⟨by rw [ofString_length]; exact hz, by rw [ofString_length]⟩
    · cases h
  | tup xs => obtain ⟨a, vs, rfl, h1, t⟩ := r.tup; cases h; exact .inr (.inl ⟨vs, h1, by rw [isEmpty_rls t]⟩)
  | lst xs => obtain ⟨a, vs, rfl, h1, t⟩ := r.lst; cases h; exact .inl ⟨vs, .of h1, by rw [isEmpty_rls t]⟩
  | frz xs => obtain ⟨a, vs, rfl, h1, t⟩ := r.frz; cases h; exact .inl ⟨vs, h1, by rw [isEmpty_rls t]⟩
  | ref n => cases h
  | dct _ _ => cases h
  | txt _ => cases h
end

variable {W : WX} {Γ : Calls}
theorem pe_varK {K : PySem.W.Frag} {i : Nat} {x : Str} {pos : Pos} (hN : X.N[i]? = some x) (hv : Vis X.env.scope x) (hd : (x == ("__debug__" : Str)) = false) (hcd : (x == ("__classdict__" : Str)) = false) : PE X (.Name x pos) (tE K W (evE Γ (.var i))) := by
  refine peImp (pe_var hN hv hd hcd) fun σ H Q ⟨M, G, s, hh, hs, hm⟩ => ?_
  have h := hs.at_ i
  rw [evE] at hm
  revert h hm
  cases s.getD i .no with
  | val w => exact fun hm ⟨u, e, r⟩ => ⟨u, e, hm M u H (Later.refl M H) hh r⟩
  | _ => exact fun hm _ => hm.elim
theorem pe_ownK {K : PySem.W.Frag} {i : Nat} {x : Str} {pos : Pos} (hN : X.N[i]? = some x) (hv : Vis X.env.scope x) (hd : (x == ("__debug__" : Str)) = false) (hcd : (x == ("__classdict__" : Str)) = false) : PE X (.Name x pos) (tO K W (evE Γ (.own i))) := by
  refine peImp (pe_var hN hv hd hcd) fun σ H Q ⟨M, G, s, hh, hs, hm⟩ => ?_
  have h := hs.at_ i
  rw [evE] at hm
  revert h hm
  cases s.getD i .no with
  | own xs => exact fun hm ⟨a, vs, e, o, q, t⟩ => ⟨_, e, hm M _ H (Later.refl M H) hh (.inr ⟨xs, vs, a, rfl, rfl, hh.ok.d1 i a o, q, t⟩)⟩
  | frz xs => exact fun hm ⟨a, vs, e, o, q, t⟩ => ⟨_, e, hm M _ H (Later.refl M H) hh (.inr ⟨xs, vs, a, rfl, rfl, hh.ok.d2 a o, q, t⟩)⟩
  | _ => exact fun hm _ => hm.elim
theorem pe_conK {K : PySem.W.Frag} {e : Expr} {c : Val} {v : V} (h : PE X e (L2.tC v)) (r : ∀ M H, Rl K M H c v) : PE X e (tE K W (evE Γ (.con c))) :=
  peImp h fun σ H Q ⟨M, G, s, hh, hs, hm⟩ => by
    rw [evE] at hm
    exact hm M v H (Later.refl M H) hh (r M H)
theorem pa_nilK {K : PySem.W.Frag} : PA X [] (tAs K W (evEs Γ .nil)) :=
  paImp pa_nil fun σ H Q ⟨M, G, s, hh, hs, hm⟩ => by
    rw [evEs] at hm
    exact hm M [] H (Later.refl M H) hh .nil
theorem pa_consK {K : PySem.W.Frag} {e : Expr} {es : List Expr} {i : E} {is : Es} (ha : PE X e (tE K W (evE Γ i))) (hr : PA X es (tAs K W (evEs Γ is))) (hs : starEach (e :: es) X.env = (false, eval e X.env) :: starEach es X.env) : PA X (e :: es) (tAs K W (evEs Γ (.cons i is))) :=
  paImp (pa_cons ha hr hs) fun σ H Q ⟨M, G, s, hh, hs, hm⟩ => by
    rw [evEs, R.wp_bind] at hm
    refine ⟨M, G, s, hh, hs, R.wp_mono hm (fun x G1 hm M1 u1 H1 l1 hh1 r1 => ⟨M1, G1, s, hh1, hs.later hh.ok l1, ?_⟩) fun _ _ x => x⟩
    rw [R.wp_bind] at hm
    exact R.wp_mono hm (fun ys G2 k M2 us H2 l2 hh2 r2 => k M2 _ H2 (l1.trans l2) hh2 (.cons (r1.later l2) r2)) fun _ _ x => x.later l1
theorem pa_nilO {K : PySem.W.Frag} : PA X [] (tAO K W (evEs Γ .nil)) :=
  paImp pa_nil fun σ H Q ⟨M, G, s, hh, hs, hm⟩ => by
    rw [evEs] at hm
    exact hm M [] H (Later.refl M H) hh .nil
theorem pa_consO {K : PySem.W.Frag} {e : Expr} {es : List Expr} {i : E} {is : Es} (ha : PE X e (tO K W (evE Γ i))) (hr : PA X es (tAO K W (evEs Γ is))) (hs : starEach (e :: es) X.env = (false, eval e X.env) :: starEach es X.env) : PA X (e :: es) (tAO K W (evEs Γ (.cons i is))) :=
  paImp (pa_cons ha hr hs) fun σ H Q ⟨M, G, s, hh, hs, hm⟩ => by
    rw [evEs, R.wp_bind] at hm
    refine ⟨M, G, s, hh, hs, R.wp_mono hm (fun x G1 hm M1 u1 H1 l1 hh1 r1 => ⟨M1, G1, s, hh1, hs.later hh.ok l1, ?_⟩) fun _ _ x => x⟩
    rw [R.wp_bind] at hm
    exact R.wp_mono hm (fun ys G2 k M2 us H2 l2 hh2 r2 => k M2 _ H2 (l1.trans l2) hh2 (.cons (r1.later l2) r2)) fun _ _ x => x.later l1
def Es.len : Es → Nat
  | .nil => 0
  | .cons _ es => es.len + 1
theorem evEs_len : ∀ (es : Es) (s : Store) (G : Heap) {k : List Val → Heap → Prop} {x : Exc → Heap → Prop}, (evEs Γ es s G).wp k x → (evEs Γ es s G).wp (fun vs G' => vs.length = es.len ∧ k vs G') x
  | .nil, _, _, _, _, h => by rw [evEs] at h ⊢; exact ⟨rfl, h⟩
  | .cons e es, s, G, k, x, h => by
    rw [evEs, R.wp_bind] at h ⊢
    refine R.wp_mono h (fun v G1 h => ?_) fun _ _ x => x
    rw [R.wp_bind] at h ⊢
    exact R.wp_mono (evEs_len es s G1 h) (fun vs G2 h => ⟨by rw [List.length_cons, h.1]; rfl, h.2⟩) fun _ _ x => x
theorem len_line {n : Nat} (h : n ≤ 1000) : n ≤ sizeLine := Nat.le_trans h (by rw [sizeLine_eq]; decide)
theorem pe_tupK {K : PySem.W.Frag} {es : List Expr} {is : Es} {x1 : Nat} {pos : Pos} (h : PA X es (tAs K W (evEs Γ is))) (hz : is.len ≤ 1000) : PE X (.Tuple es x1 pos) (tE K W (evE Γ (.tup is))) :=
  peImp (pe_tup h) fun σ H Q ⟨M, G, s, hh, hs, hm⟩ => by
    rw [evE, R.wp_bind] at hm
    refine ⟨M, G, s, hh, hs, R.wp_mono (evEs_len is s G hm) (fun vs G1 ⟨hl, k⟩ M1 us H1 l1 hh1 r1 => ⟨?_, fun p hp => ?_⟩) fun _ _ x => x⟩
    · rw [← r1.length, hl]; exact len_line hz
    · exact k M1 _ _ (l1.trans (Later.new M1 hp)) (hh1.new hp) (Rl.newTup hh1 hp r1)
theorem pe_lstK {K : PySem.W.Frag} {es : List Expr} {is : Es} {pos : Pos} (h : PA X es (tAs K W (evEs Γ is))) (hz : is.len ≤ 1000) : PE X (.List es pos) (tF K W (evE Γ (.lst is))) :=
  peImp (pe_lst h) fun σ H Q ⟨M, G, s, hh, hs, hm⟩ => by
    rw [evE, R.wp_bind] at hm
    refine ⟨M, G, s, hh, hs, R.wp_mono (evEs_len is s G hm) (fun vs G1 ⟨hl, k⟩ M1 us H1 l1 hh1 r1 => ⟨?_, fun p hp => ?_⟩) fun _ _ x => x⟩
    · rw [← r1.length, hl]; exact len_line hz
    · obtain ⟨xs, e, k⟩ := k
      cases e
      exact k M1 p _ _ (l1.trans (Later.new M1 hp)) (l1.since.gone hp) (.mk_ hh1 hp r1)
theorem pe_binK {op : Operator} {a b : Expr} {i j : E} {pos : Pos} (ha : PE X a (tO X.K W (evE Γ i))) (hb : PE X b (tO X.K W (evE Γ j))) : PE X (.BinOp a op b pos) (tE X.K W (evE Γ (.bin op i j))) :=
  peImp (pe_op (op_binK op) ha hb) fun σ H Q ⟨M, G, s, hh, hs, hm⟩ => by
    rw [evE, R.wp_bind] at hm
    refine ⟨M, G, s, hh, hs, R.wp_mono hm (fun x G1 hm M1 u1 H1 l1 hh1 r1 => ⟨M1, G1, s, hh1, hs.later hh.ok l1, ?_⟩) fun _ _ x => x⟩
    rw [R.wp_bind] at hm
    refine R.wp_mono hm (fun y G2 hm M2 u2 H2 l2 hh2 r2 => ?_) fun _ _ x => x.later l1
    obtain ⟨v, hc, k⟩ := R.wp_opt hm
    exact ⟨M2, G2, _, _, v, hh2, (r1.later l2).d.rd hh2, r2.d.rd hh2, hc, fun u H' l3 hh3 r3 _ => k M2 u H' ((l1.trans l2).trans l3) hh3 r3⟩
/-- .. that gives a new list -/
theorem pe_binF {op : Operator} {a b : Expr} {i j : E} {pos : Pos} (ha : PE X a (tO X.K W (evE Γ i))) (hb : PE X b (tO X.K W (evE Γ j))) : PE X (.BinOp a op b pos) (tF X.K W (evE Γ (.bin op i j))) :=
  peImp (pe_op (op_binK op) ha hb) fun σ H Q ⟨M, G, s, hh, hs, hm⟩ => by
    rw [evE, R.wp_bind] at hm
    refine ⟨M, G, s, hh, hs, R.wp_mono hm (fun x G1 hm M1 u1 H1 l1 hh1 r1 => ⟨M1, G1, s, hh1, hs.later hh.ok l1, ?_⟩) fun _ _ x => x⟩
    rw [R.wp_bind] at hm
    refine R.wp_mono hm (fun y G2 hm M2 u2 H2 l2 hh2 r2 => ?_) fun _ _ x => x.later l1
    obtain ⟨v, hc, xs, e, k⟩ := R.wp_opt hm
    subst e
    refine ⟨M2, G2, _, _, .lst xs, hh2, (r1.later l2).d.rd hh2, r2.d.rd hh2, hc, fun u H' l3 hh3 r3 f => ?_⟩
    obtain ⟨a, ws, rfl, hn, rfl, t⟩ := f xs rfl
    exact k M2 a ws _ ((l1.trans l2).trans l3) ((l1.trans l2).since.gone hn) (.mk_ hh2 hn t)
theorem pe_negK {a : Expr} {i : E} {pos : Pos} (ha : PE X a (tE X.K W (evE Γ i))) : PE X (.UnaryOp .USub a pos) (tE X.K W (evE Γ (.neg i))) :=
  peImp (pe_un un_neg ha) fun σ H Q ⟨M, G, s, hh, hs, hm⟩ => by
    rw [evE, R.wp_bind] at hm
    refine ⟨M, G, s, hh, hs, R.wp_mono hm (fun x G1 hm M1 u1 H1 l1 hh1 r1 => ?_) fun _ _ x => x⟩
    cases x with
    | int n => cases r1; exact ⟨n, rfl, hm M1 _ H1 l1 hh1 (.int _)⟩
    | _ => exact hm.elim
theorem pe_cmpK {op : CmpOp} {a b : Expr} {i j : E} {pos : Pos} (hu : X.A.units + 65 < cLine) (ha : PE X a (tO X.K W (evE Γ i))) (hb : PE X b (tO X.K W (evE Γ j))) (hm : behindInMarks op b = false) : PE X (.Compare a [op] [b] pos) (tE X.K W (evE Γ (.cmp op i j))) :=
  peImp (pe_cmpR (pos := pos) (op_cmpK hu op) ha hb hm) fun σ H Q ⟨M, G, s, hh, hs, hm⟩ => by
    rw [evE, R.wp_bind] at hm
    refine ⟨M, G, s, hh, hs, R.wp_mono hm (fun x G1 hm M1 u1 H1 l1 hh1 r1 => ⟨M1, G1, s, hh1, hs.later hh.ok l1, ?_⟩) fun _ _ x => x⟩
    rw [R.wp_bind] at hm
    refine R.wp_mono hm (fun y G2 hm M2 u2 H2 l2 hh2 r2 => ?_) fun _ _ x => x.later l1
    obtain ⟨v, hc, k⟩ := R.wp_opt hm
    exact ⟨M2, G2, _, _, v, hh2, (r1.later l2).d.rd hh2, r2.d.rd hh2, hc, fun u H' l3 hh3 r3 _ => k M2 u H' ((l1.trans l2).trans l3) hh3 r3⟩
theorem pe_cmp2K {op op2 : CmpOp} {a b c : Expr} {i j l : E} {pos : Pos} (hu : X.A.units + 65 < cLine) (ha : PE X a (tO X.K W (evE Γ i))) (hb : PE X b (tO X.K W (evE Γ j))) (hc : PE X c (tO X.K W (evE Γ l))) (hm : lastMarks [op, op2] [b, c] = false) :
    PE X (.Compare a [op, op2] [b, c] pos) (tE X.K W (evE Γ (.cmp2 op op2 i j l))) :=
  peImp (pe_chain (pos := pos) (op_cmpK hu op) (op_cmpK hu op2) ha hb hc hm) fun σ H Q ⟨M, G, s, hh, hs, hm⟩ => by
    rw [evE, R.wp_bind] at hm
    refine ⟨M, G, s, hh, hs, R.wp_mono hm (fun x G1 hm M1 u1 H1 l1 hh1 r1 => ⟨M1, G1, s, hh1, hs.later hh.ok l1, ?_⟩) fun _ _ x => x⟩
    rw [R.wp_bind] at hm
    refine R.wp_mono hm (fun y G2 hm M2 u2 H2 l2 hh2 r2 => ?_) fun _ _ x => x.later l1
    rw [R.wp_bind] at hm
    obtain ⟨b1, hc, hm⟩ := R.wp_opt hm
    refine ⟨M2, G2, _, _, .bool b1, hh2, (r1.later l2).d.rd hh2, r2.d.rd hh2, (by show (cmpK op _ _).map Val.bool = _; rw [hc]; rfl), fun u H' l3 hh3 r3 _ => ?_⟩
    cases r3
    refine ⟨b1, rfl, ?_⟩
    have l123 := (l1.trans l2).trans l3
    cases b1 with
    | false =>
      rw [if_neg Bool.false_ne_true] at hm ⊢
      exact hm M2 _ H' l123 hh3 (.bool _)
    | true =>
      rw [if_pos rfl, R.wp_bind] at hm
      rw [if_pos rfl]
      refine ⟨M2, G2, s, hh3, hs.later hh.ok l123, R.wp_mono hm (fun z G4 hm M4 u4 H4 l4 hh4 r4 => ?_) fun _ _ x => x.later l123⟩
      obtain ⟨v, hc2, k⟩ := R.wp_opt hm
      exact ⟨M4, G4, _, _, v, hh4, (r2.later (l3.trans l4)).d.rd hh4, r4.d.rd hh4, hc2, fun u H5 l5 hh5 r5 _ => k M4 u H5 ((l123.trans l4).trans l5) hh5 r5⟩
theorem pe_notK {a : Expr} {i : E} {pos : Pos} (ha : PE X a (tO X.K W (evE Γ i))) : PE X (.UnaryOp .Not a pos) (tE X.K W (evE Γ (.not i))) :=
  peImp (pe_notT ha) fun σ H Q ⟨M, G, s, hh, hs, hm⟩ => by
    rw [evE, R.wp_bind] at hm
    refine ⟨M, G, s, hh, hs, R.wp_mono hm (fun x G1 hm M1 u1 H1 l1 hh1 r1 => ?_) fun _ _ x => x⟩
    obtain ⟨v, hc, k⟩ := R.wp_opt hm
    cases hb : truthV (rd G1 x) with
    | none => rw [hb] at hc; cases hc
    | some b =>
      rw [hb] at hc
      cases hc
      exact ⟨b, tru_of (r1.d.rd hh1) hb, k M1 _ H1 l1 hh1 (.bool _)⟩
theorem pe_andK {a b : Expr} {rest : List Expr} {i j : E} {pos : Pos} (ha : PE X a (tE X.K W (evE Γ i))) (hb : PE X (.BoolOp .And (b :: rest) pos) (tE X.K W (evE Γ j))) : PE X (.BoolOp .And (a :: b :: rest) pos) (tE X.K W (evE Γ (.and i j))) :=
  peImp (pe_andT ha hb) fun σ H Q ⟨M, G, s, hh, hs, hm⟩ => by
    rw [evE, R.wp_bind] at hm
    refine ⟨M, G, s, hh, hs, R.wp_mono hm (fun x G1 hm M1 u1 H1 l1 hh1 r1 => ?_) fun _ _ x => x⟩
    rw [R.wp_bind] at hm
    obtain ⟨b1, hc, hm⟩ := R.wp_opt hm
    refine ⟨b1, tru_of ((RlD.rd (.inl r1) hh1)) hc, ?_⟩
    cases b1 with
    | true =>
      rw [if_pos rfl] at hm ⊢
      exact ⟨M1, G1, s, hh1, hs.later hh.ok l1, R.wp_mono hm (fun v G2 k M2 u2 H2 l2 hh2 r2 => k M2 u2 H2 (l1.trans l2) hh2 r2) fun _ _ x => x.later l1⟩
    | false =>
      rw [if_neg Bool.false_ne_true] at hm ⊢
      exact hm M1 u1 H1 l1 hh1 r1
theorem pe_orK {a b : Expr} {rest : List Expr} {i j : E} {pos : Pos} (ha : PE X a (tE X.K W (evE Γ i))) (hb : PE X (.BoolOp .Or (b :: rest) pos) (tE X.K W (evE Γ j))) : PE X (.BoolOp .Or (a :: b :: rest) pos) (tE X.K W (evE Γ (.or i j))) :=
  peImp (pe_orT ha hb) fun σ H Q ⟨M, G, s, hh, hs, hm⟩ => by
    rw [evE, R.wp_bind] at hm
    refine ⟨M, G, s, hh, hs, R.wp_mono hm (fun x G1 hm M1 u1 H1 l1 hh1 r1 => ?_) fun _ _ x => x⟩
    rw [R.wp_bind] at hm
    obtain ⟨b1, hc, hm⟩ := R.wp_opt hm
    refine ⟨b1, tru_of ((RlD.rd (.inl r1) hh1)) hc, ?_⟩
    cases b1 with
    | false =>
      rw [if_neg Bool.false_ne_true] at hm ⊢
      exact ⟨M1, G1, s, hh1, hs.later hh.ok l1, R.wp_mono hm (fun v G2 k M2 u2 H2 l2 hh2 r2 => k M2 u2 H2 (l1.trans l2) hh2 r2) fun _ _ x => x.later l1⟩
    | true =>
      rw [if_pos rfl] at hm ⊢
      exact hm M1 u1 H1 l1 hh1 r1
theorem pt_valK {a : Expr} {i : E} (ha : PE X a (tO X.K W (evE Γ i))) (he : ∀ whole, isTrue a X.env whole = (do let v ← whole; standAt a.pos; holding [v] (truthy v))) : PT X a (tT X.K W (evE Γ i)) :=
  ptImp (pt_truth ha he) fun σ H Q ⟨M, G, s, hh, hs, hm⟩ => ⟨M, G, s, hh, hs, R.wp_mono hm (fun v G' ⟨b, hb, k⟩ M1 u H1 l1 hh1 r1 => ⟨b, tru_of (r1.d.rd hh1) hb, k M1 H1 l1 hh1⟩) fun _ _ x => x⟩
theorem bool_end {K : PySem.W.Frag} {M M' : Mp} {H H' : Hp} {G : Heap} {o : Option Bool} {v : Val} {u : V} {Q : Bool → Hp → Prop} (hc : o.map Val.bool = some v) (k : ∃ b, truthV (rd G v) = some b ∧ ∀ M' H', Later M H M' H' → HeapR K M' G H' → Q b H') (l : Later M H M' H') (hh : HeapR K M' G H') (r : Rl K M' H' v u) : ∃ b, u = .bl b ∧ Q b H' := by
  cases o with
  | none => cases hc
  | some b0 =>
    cases hc
    cases r
    obtain ⟨b, e, k⟩ := k
    cases e
    exact ⟨_, rfl, k M' H' l hh⟩
theorem pt_cmpK {op : CmpOp} {a b : Expr} {i j : E} {pos : Pos} (hu : X.A.units + 65 < cLine) (ha : PE X a (tO X.K W (evE Γ i))) (hb : PE X b (tO X.K W (evE Γ j))) (hm : behindInMarks op b = false) : PT X (.Compare a [op] [b] pos) (tT X.K W (evE Γ (.cmp op i j))) :=
  ptImp (pt_cmpR (pos := pos) (op_cmpK hu op) ha hb hm) fun σ H Q ⟨M, G, s, hh, hs, hm⟩ => by
    rw [evE, R.wp_bind] at hm
    refine ⟨M, G, s, hh, hs, R.wp_mono hm (fun x G1 hm M1 u1 H1 l1 hh1 r1 => ⟨M1, G1, s, hh1, hs.later hh.ok l1, ?_⟩) fun _ _ x => x⟩
    rw [R.wp_bind] at hm
    refine R.wp_mono hm (fun y G2 hm M2 u2 H2 l2 hh2 r2 => ?_) fun _ _ x => x.later l1
    obtain ⟨v, hc, k⟩ := R.wp_opt hm
    exact ⟨M2, G2, _, _, v, hh2, (r1.later l2).d.rd hh2, r2.d.rd hh2, hc, fun u H' l3 hh3 r3 _ => bool_end hc k ((l1.trans l2).trans l3) hh3 r3⟩
theorem pt_cmp2K {op op2 : CmpOp} {a b c : Expr} {i j l : E} {pos : Pos} (hu : X.A.units + 65 < cLine) (ha : PE X a (tO X.K W (evE Γ i))) (hb : PE X b (tO X.K W (evE Γ j))) (hc : PE X c (tO X.K W (evE Γ l))) (hm : lastMarks [op, op2] [b, c] = false) :
    PT X (.Compare a [op, op2] [b, c] pos) (tT X.K W (evE Γ (.cmp2 op op2 i j l))) :=
  ptImp (pt_chain (pos := pos) (op_cmpK hu op) (op_cmpK hu op2) ha hb hc hm) fun σ H Q ⟨M, G, s, hh, hs, hm⟩ => by
    rw [evE, R.wp_bind] at hm
    refine ⟨M, G, s, hh, hs, R.wp_mono hm (fun x G1 hm M1 u1 H1 l1 hh1 r1 => ⟨M1, G1, s, hh1, hs.later hh.ok l1, ?_⟩) fun _ _ x => x⟩
    rw [R.wp_bind] at hm
    refine R.wp_mono hm (fun y G2 hm M2 u2 H2 l2 hh2 r2 => ?_) fun _ _ x => x.later l1
    rw [R.wp_bind] at hm
    obtain ⟨b1, hc, hm⟩ := R.wp_opt hm
    refine ⟨M2, G2, _, _, .bool b1, hh2, (r1.later l2).d.rd hh2, r2.d.rd hh2, (by show (cmpK op _ _).map Val.bool = _; rw [hc]; rfl), fun u H' l3 hh3 r3 _ => ?_⟩
    cases r3
    refine ⟨b1, rfl, ?_⟩
    have l123 := (l1.trans l2).trans l3
    cases b1 with
    | false =>
      rw [if_neg Bool.false_ne_true] at hm ⊢
      obtain ⟨b2, e, k⟩ := hm
      cases e
      exact ⟨_, rfl, k M2 H' l123 hh3⟩
    | true =>
      rw [if_pos rfl, R.wp_bind] at hm
      rw [if_pos rfl]
      refine ⟨M2, G2, s, hh3, hs.later hh.ok l123, R.wp_mono hm (fun z G4 hm M4 u4 H4 l4 hh4 r4 => ?_) fun _ _ x => x.later l123⟩
      obtain ⟨v, hc2, k⟩ := R.wp_opt hm
      exact ⟨M4, G4, _, _, v, hh4, (r2.later (l3.trans l4)).d.rd hh4, r4.d.rd hh4, hc2, fun u H5 l5 hh5 r5 _ => bool_end hc2 k ((l123.trans l4).trans l5) hh5 r5⟩
theorem pt_notK {a : Expr} {i : E} {pos : Pos} (ha : PT X a (tT X.K W (evE Γ i))) : PT X (.UnaryOp .Not a pos) (tT X.K W (evE Γ (.not i))) :=
  ptImp (pt_not ha) fun σ H Q ⟨M, G, s, hh, hs, hm⟩ => by
    rw [evE, R.wp_bind] at hm
    refine ⟨M, G, s, hh, hs, R.wp_mono hm (fun x G1 hm => ?_) fun _ _ x => x⟩
    obtain ⟨v, hc, b, e, k⟩ := R.wp_opt hm
    cases hb : truthV (rd G1 x) with
    | none => rw [hb] at hc; cases hc
    | some b0 =>
      rw [hb] at hc
      cases hc
      cases e
      exact ⟨b0, rfl, fun M1 H1 l1 hh1 => k M1 H1 l1 hh1⟩
theorem pw_andK {a b : Expr} {rest : List Expr} {i j : E} {pos : Pos} (ha : PT X a (tT X.K W (evE Γ i))) (hb : PW X (.BoolOp .And (b :: rest) pos) (tT X.K W (evE Γ j))) : PW X (.BoolOp .And (a :: b :: rest) pos) (tT X.K W (evE Γ (.and i j))) := by
  have h := pw_and ha hb
  refine ⟨fun wh pins s σ H Q I ⟨M, G, st, hh, hs, hm⟩ => h.run wh pins s σ H Q I ?_⟩
  rw [evE, R.wp_bind] at hm
  refine ⟨M, G, st, hh, hs, R.wp_mono hm (fun x G1 hm => ?_) fun _ _ x => x⟩
  rw [R.wp_bind] at hm
  obtain ⟨b1, hc, hm⟩ := R.wp_opt hm
  refine ⟨b1, hc, fun M1 H1 l1 hh1 => ?_⟩
  cases b1 with
  | true =>
    rw [if_pos rfl] at hm ⊢
    exact ⟨M1, G1, st, hh1, hs.later hh.ok l1, R.wp_mono hm (fun v G2 ⟨b, e, k⟩ => ⟨b, e, fun M2 H2 l2 hh2 => k M2 H2 (l1.trans l2) hh2⟩) fun _ _ x => x.later l1⟩
  | false =>
    rw [if_neg Bool.false_ne_true] at hm ⊢
    obtain ⟨b, e, k⟩ := hm
    rw [hc] at e
    cases e
    exact k M1 H1 l1 hh1
theorem pw_orK {a b : Expr} {rest : List Expr} {i j : E} {pos : Pos} (ha : PT X a (tT X.K W (evE Γ i))) (hb : PW X (.BoolOp .Or (b :: rest) pos) (tT X.K W (evE Γ j))) : PW X (.BoolOp .Or (a :: b :: rest) pos) (tT X.K W (evE Γ (.or i j))) := by
  have h := pw_or ha hb
  refine ⟨fun wh pins s σ H Q I ⟨M, G, st, hh, hs, hm⟩ => h.run wh pins s σ H Q I ?_⟩
  rw [evE, R.wp_bind] at hm
  refine ⟨M, G, st, hh, hs, R.wp_mono hm (fun x G1 hm => ?_) fun _ _ x => x⟩
  rw [R.wp_bind] at hm
  obtain ⟨b1, hc, hm⟩ := R.wp_opt hm
  refine ⟨b1, hc, fun M1 H1 l1 hh1 => ?_⟩
  cases b1 with
  | false =>
    rw [if_neg Bool.false_ne_true] at hm ⊢
    exact ⟨M1, G1, st, hh1, hs.later hh.ok l1, R.wp_mono hm (fun v G2 ⟨b, e, k⟩ => ⟨b, e, fun M2 H2 l2 hh2 => k M2 H2 (l1.trans l2) hh2⟩) fun _ _ x => x.later l1⟩
  | true =>
    rw [if_pos rfl] at hm ⊢
    obtain ⟨b, e, k⟩ := hm
    rw [hc] at e
    cases e
    exact k M1 H1 l1 hh1
theorem pe_iteK {c a b : Expr} {i j l : E} {pos : Pos} (hc : PT X c (tT X.K W (evE Γ i))) (ha : PE X a (tE X.K W (evE Γ j))) (hb : PE X b (tE X.K W (evE Γ l))) : PE X (.IfExp c a b pos) (tE X.K W (evE Γ (.ite i j l))) :=
  peImp (pe_ifExp hc ha hb) fun σ H Q ⟨M, G, s, hh, hs, hm⟩ => by
    rw [evE, R.wp_bind] at hm
    refine ⟨M, G, s, hh, hs, R.wp_mono hm (fun x G1 hm => ?_) fun _ _ x => x⟩
    rw [R.wp_bind] at hm
    obtain ⟨b1, hc, hm⟩ := R.wp_opt hm
    refine ⟨b1, hc, fun M1 H1 l1 hh1 => ?_⟩
    have hs1 := hs.later hh.ok l1
    show if b1 = true then tE X.K W (evE Γ j) σ H1 Q else tE X.K W (evE Γ l) σ H1 Q
    cases b1 with
    | true =>
      rw [if_pos rfl] at hm ⊢
      exact ⟨M1, G1, s, hh1, hs1, R.wp_mono hm (fun v G2 k M2 u2 H2 l2 hh2 r2 => k M2 u2 H2 (l1.trans l2) hh2 r2) fun _ _ x => x.later l1⟩
    | false =>
      rw [if_neg Bool.false_ne_true] at hm ⊢
      exact ⟨M1, G1, s, hh1, hs1, R.wp_mono hm (fun v G2 k M2 u2 H2 l2 hh2 r2 => k M2 u2 H2 (l1.trans l2) hh2 r2) fun _ _ x => x.later l1⟩
end Fx

namespace Fx
open PySem PySem.Spec PyProof.Rows L2
variable {X : Cx} {W : WX} {Γ : Calls}
theorem atI_rls {K : PySem.W.Frag} {M : Mp} {H : Hp} {xs : List Val} {vs : List V} {k : Int} {c : Val} (r : Rls K M H xs vs) (h : atI xs k = some c) : ∃ u, atI vs k = some u ∧ Rl K M H c u := by
  unfold atI at h ⊢
  rw [← r.length]
  cases e : ixN xs.length k with
  | none => rw [e] at h; cases h
  | some j =>
    rw [e] at h
    exact r.get h
/-- d[k] -/
def rIxDct : R2 := fun x y H Q => ∃ a v, x = .ref a ∧ DGet H a y (some v) ∧ Q v H
theorem ix_dct (hu : X.A.units + 1 < cLine) : IxR X rIxDct := by
  intro value slice pins s σ H x y v u Q I rx ry h hs
  obtain ⟨a, r, rfl, g, q⟩ := h
  obtain rfl : v = Value.ref a := rx
  exact tail_any (dict_typeIs I g) slot_dict_getitem.lookup (d_getItem hu I g ry fun w' s' I' r' => ⟨r, H, I', r', q⟩) hs
/-- a[i] of a list, a tuple, a dict -/
theorem pe_idxK {a b : Expr} {i j : E} {pos : Pos} (hu : X.A.units + 1 < cLine) (ha : PE X a (tO X.K W (evE Γ i))) (hb : PE X b (tE X.K W (evE Γ j))) (hs : PlainIx b) : PE X (.Subscript a b pos) (tE X.K W (evE Γ (.idx i j))) :=
  peImp (pe_ix (pos := pos) ((ix_seq (X := X)).or (ix_dct hu)) ha hb hs) fun σ H Q ⟨M, G, s, hh, hst, hm⟩ => by
    rw [evE, R.wp_bind] at hm
    refine ⟨M, G, s, hh, hst, R.wp_mono hm (fun x G1 hm M1 u1 H1 l1 hh1 r1 => ⟨M1, G1, s, hh1, hst.later hh.ok l1, ?_⟩) fun _ _ x => x⟩
    rw [R.wp_bind] at hm
    refine R.wp_mono hm (fun y G2 hm M2 u2 H2 l2 hh2 r2 => ?_) fun _ _ x => x.later l1
    obtain ⟨c, hc, k⟩ := R.wp_opt hm
    have rx := (r1.later l2).d.rd hh2
    have l12 := l1.trans l2
    generalize rd G2 x = xv at hc rx
    cases xv with
    | dct ks xs =>
      have hc : (keyOf y).bind (dLook ks xs) = some c := by cases y <;> exact hc
      cases qk : keyOf y with
      | none => rw [qk] at hc; cases hc
      | some kk =>
        rw [qk] at hc
        have hc : dLook ks xs kk = some c := hc
        obtain ⟨p, vs, rfl, h2, hl, t⟩ := rx.dct
        have lk := look_rl (ks := ks) t kk
        rw [hc] at lk
        obtain ⟨u, hu2, ru⟩ := lk
        have ek := key_rl (.inl r2) qk
        subst ek
        exact .inr ⟨p, u, rfl, by rw [← hu2]; exact DGet.k h2, k M2 u H2 l12 hh2 ru⟩
    | tup xs =>
      cases y with
      | int n =>
        cases r2
        obtain ⟨p, vs, rfl, h2, t⟩ := rx.tup
        obtain ⟨u, hu, ru⟩ := atI_rls t (show atI xs n = some c from hc)
        exact .inl (.inr (.inl ⟨p, vs, n, u, rfl, rfl, h2, hu, k M2 u H2 l12 hh2 ru⟩))
      | _ => cases hc
    | lst xs =>
      cases y with
      | int n =>
        cases r2
        obtain ⟨p, vs, rfl, h2, t⟩ := rx.lst
        obtain ⟨u, hu, ru⟩ := atI_rls t (show atI xs n = some c from hc)
        exact .inl (.inl ⟨p, vs, n, u, rfl, rfl, .of h2, hu, k M2 u H2 l12 hh2 ru⟩)
      | _ => cases hc
    | frz xs =>
      cases y with
      | int n =>
        cases r2
        obtain ⟨p, vs, rfl, h2, t⟩ := rx.frz
        obtain ⟨u, hu, ru⟩ := atI_rls t (show atI xs n = some c from hc)
        exact .inl (.inl ⟨p, vs, n, u, rfl, rfl, h2, hu, k M2 u H2 l12 hh2 ru⟩)
      | _ => cases hc
    | str z =>
      cases y with
      | int n =>
        cases r2
        cases rx.str
        have hc : (if z.length ≤ lineN then (atI z.toList n).map fun c => Val.str (String.ofList [c]) else none) = some c := hc
        split at hc
        · rename_i hz
          cases ha : atI z.toList n with
          | none => rw [ha] at hc; cases hc
          | some ch =>
            rw [ha] at hc
            cases hc
            have h2 : atI (Str.ofString z).cps.toList n = some ch.toNat := by
              rw [ofString_list]
              unfold atI at ha ⊢
              rw [List.length_map]
              cases hj : ixN z.toList.length n with
              | none => rw [hj] at ha; cases ha
              | some j =>
                rw [hj] at ha
                have ha : z.toList[j]? = some ch := ha
                show (z.toList.map Char.toNat)[j]? = _
                rw [List.getElem?_map, ha]; rfl
            exact .inl (.inr (.inr ⟨_, n, ch.toNat, rfl, rfl, by rw [ofString_length]; exact hz, h2, k M2 _ H2 l12 hh2 (by
              have := Rl.str (K := X.K) (M := M2) (H := H2) (String.ofList [ch])
              rwa [ofString_ofList] at this)⟩))
        · cases hc
      | _ => cases hc
    | _ => cases y <;> cases hc
theorem cut_rls {K : PySem.W.Frag} {M : Mp} {H : Hp} {xs : List Val} {vs : List V} (r : Rls K M H xs vs) (lo hi : Option Int) : Rls K M H (cutL xs lo hi) (cutV vs lo hi) := by
  unfold cutL cutV
  rw [← r.length]
  exact (r.drop _).take _
theorem cut_whole {xs : List Val} {lo hi : Option Int} (h : HT.sIx xs.length 0 lo = 0 ∧ HT.sIx xs.length xs.length hi = xs.length) : cutL xs lo hi = xs := by
  unfold cutL
  rw [h.1, h.2, List.drop_zero, Nat.sub_zero, List.take_length]
/-- a slice's part, by values -/
def tP (K : PySem.W.Frag) (W : WX) (m : Store → Heap → R (Option Int)) : TO := fun st H Q => ∃ M G s, HeapR K M G H ∧ StoreR K M H s st ∧
  (m s G).wp (fun o G' => ∀ M' H', Later M H M' H' → HeapR K M' G' H' → Q o H') (XW K W M H st)
noncomputable def partE (Γ : Calls) (b : Bool) (i : E) : Store → Heap → R (Option Int) := fun s G => (evE Γ i s G).bind fun y G2 => R.opt (ixO b y) G2
theorem po_noneK : PO X none (tP X.K W (partE Γ false (.con .none))) :=
  ⟨fun pins s σ H Q I ⟨M, G, st, hh, hst, hm⟩ => po_none.run pins s σ H Q I (by
    unfold partE at hm
    rw [evE] at hm
    exact hm M H (Later.refl M H) hh)⟩
theorem po_someK {e : Expr} {i : E} (h : PE X e (tE X.K W (evE Γ i))) : PO X (some e) (tP X.K W (partE Γ true i)) :=
  ⟨fun pins s σ H Q I ⟨M, G, st, hh, hst, hm⟩ => (po_some h).run pins s σ H Q I (by
    unfold partE at hm
    rw [R.wp_bind] at hm
    refine ⟨M, G, st, hh, hst, R.wp_mono hm (fun v G' hm M1 u H1 l1 hh1 r1 => ?_) fun _ _ x => x⟩
    cases v with
    | int n => cases r1; exact ⟨n, rfl, hm M1 H1 l1 hh1⟩
    | _ => exact hm.elim)⟩
/-- the slice of any sequence -/
def rSl (K : PySem.W.Frag) : V → Option Int → Option Int → Hp → VK → Prop := fun x lo hi H Q => rSlL K x lo hi H Q ∨ rSlA K x lo hi H Q ∨ rSlS x lo hi H Q
theorem sl_any : SlR X (rSl X.K) := sl_list.or (sl_tupA.or sl_str)
theorem rSl_of {K : PySem.W.Frag} {M : Mp} {G : Heap} {H : Hp} {x c : Val} {u : V} {lo hi : Option Int} {Q : VK} (hh : HeapR K M G H) (r : RlD K M H x u) (hc : sliceV x lo hi = some c)
    (k : ∀ u H', Later M H M H' → HeapR K M G H' → Rl K M H' c u → Fr K M H H' c u → Q u H') : rSl K u lo hi H Q := by
  cases x with
  | tup xs =>
    cases hc
    obtain ⟨p, vs, rfl, h2, t⟩ := r.tup
    have e := t.length
    refine .inr (.inl ⟨p, vs, rfl, h2, fun w => ?_, fun _ p' hp => ?_⟩)
    · rw [← e] at w
      rw [cut_whole w] at k
      rcases r with r | ⟨_, _, _, e1, _⟩ | ⟨_, _, _, _, e1, _⟩
      · exact k _ H (Later.refl M H) hh r (Fr.no fun _ e => nomatch e)
      · cases e1
      · cases e1
    · exact k _ _ (Later.new M hp) (hh.new hp) (Rl.newTup hh hp (cut_rls t lo hi)) (Fr.no fun _ e => nomatch e)
  | lst xs =>
    cases hc
    obtain ⟨p, vs, rfl, h2, t⟩ := r.lst
    exact .inl ⟨p, vs, rfl, .of h2, fun p' hp => k _ _ (Later.new M hp) (hh.new hp) (Rl.newLst hh hp (cut_rls t lo hi)) fun ys e => by cases e; exact ⟨p', _, rfl, hp, rfl, cut_rls t lo hi⟩⟩
  | frz xs =>
    cases hc
    obtain ⟨p, vs, rfl, h2, t⟩ := r.frz
    exact .inl ⟨p, vs, rfl, h2, fun p' hp => k _ _ (Later.new M hp) (hh.new hp) (Rl.newLst hh hp (cut_rls t lo hi)) fun ys e => by cases e; exact ⟨p', _, rfl, hp, rfl, cut_rls t lo hi⟩⟩
  | str z =>
    have hc : (if z.length ≤ lineN then some (Val.str (String.ofList (cutL z.toList lo hi))) else none) = some c := hc
    split at hc
    · rename_i hz
      cases hc
      cases r.str
      refine .inr (.inr ⟨_, rfl, by rw [ofString_length]; exact hz, k _ H (Later.refl M H) hh ?_ (Fr.no fun _ e => nomatch e)⟩)
      have := Rl.str (K := K) (M := M) (H := H) (String.ofList (cutL z.toList lo hi))
      rw [ofString_ofList] at this
      have e : cutS (Str.ofString z) lo hi = ⟨((cutL z.toList lo hi).map Char.toNat).toArray⟩ := by
        unfold cutS cutL
        rw [ofString_list, ofString_length, List.map_take, List.map_drop, String.length_toList]
      rw [e]
      exact this
    · cases hc
  | _ => cases hc
theorem sl_core {i j l : E} {bl bh : Bool} {σ : L2.St} {H : Hp} {M : Mp} {G : Heap} {s : Store} {Q : VK} {kk : Val → Heap → Prop} (hh : HeapR X.K M G H) (hst : StoreR X.K M H s σ) (hm : (evE Γ (.slice i bl j bh l) s G).wp kk (XW X.K W M H σ))
    (fin : ∀ c G3, kk c G3 → ∀ M3 H3 u H4, Later M H M3 H3 → HeapR X.K M3 G3 H3 → Later M3 H3 M3 H4 → HeapR X.K M3 G3 H4 → Rl X.K M3 H4 c u → Fr X.K M3 H3 H4 c u → Q u H4) : tSl (rSl X.K) (tO X.K W (evE Γ i)) (tP X.K W (partE Γ bl j)) (tP X.K W (partE Γ bh l)) σ H Q := by
  rw [evE, R.wp_bind] at hm
  refine ⟨M, G, s, hh, hst, R.wp_mono hm (fun x G1 hm M1 u1 H1 l1 hh1 r1 => ?_) fun _ _ x => x⟩
  rw [R.wp_bind] at hm
  refine ⟨M1, G1, s, hh1, hst.later hh.ok l1, R.wp_mono hm (fun lo G2 hm M2 H2 l2 hh2 => ?_) fun _ _ x => x.later l1⟩
  rw [R.wp_bind] at hm
  have l12 := l1.trans l2
  refine ⟨M2, G2, s, hh2, hst.later hh.ok l12, R.wp_mono hm (fun hi G3 hm M3 H3 l3 hh3 => ?_) fun _ _ x => x.later l12⟩
  obtain ⟨c, hc, k⟩ := R.wp_opt hm
  exact rSl_of hh3 ((r1.later (l2.trans l3)).d.rd hh3) hc fun u H4 l4 hh4 r4 f => fin c G3 k M3 H3 u H4 (l12.trans l3) hh3 l4 hh4 r4 f
theorem pe_sliceK {a : Expr} {lo hi : Option Expr} {i j l : E} {bl bh : Bool} {pos p2 : Pos} (ha : PE X a (tO X.K W (evE Γ i))) (hl : PO X lo (tP X.K W (partE Γ bl j))) (hu : PO X hi (tP X.K W (partE Γ bh l))) :
    PE X (.Subscript a (.Slice lo hi none p2) pos) (tE X.K W (evE Γ (.slice i bl j bh l))) :=
  peImp (pe_slice (pos := pos) (p2 := p2) sl_any ha hl hu) fun σ H Q ⟨M, G, s, hh, hst, hm⟩ => sl_core hh hst hm fun c G3 k M3 H3 u H4 l1 hh3 l2 hh4 r _ => k M3 u H4 (l1.trans l2) hh4 r
theorem pe_sliceF {a : Expr} {lo hi : Option Expr} {i j l : E} {bl bh : Bool} {pos p2 : Pos} (ha : PE X a (tO X.K W (evE Γ i))) (hl : PO X lo (tP X.K W (partE Γ bl j))) (hu : PO X hi (tP X.K W (partE Γ bh l))) :
    PE X (.Subscript a (.Slice lo hi none p2) pos) (tF X.K W (evE Γ (.slice i bl j bh l))) :=
  peImp (pe_slice (pos := pos) (p2 := p2) sl_any ha hl hu) fun σ H Q ⟨M, G, s, hh, hst, hm⟩ => sl_core hh hst hm fun c G3 k M3 H3 u H4 l1 hh3 l2 hh4 r f => by
    obtain ⟨xs, e, k⟩ := k
    subst e
    obtain ⟨a, ws, rfl, hn, rfl, t⟩ := f xs rfl
    exact k M3 a ws _ (l1.trans l2) (l1.since.gone hn) (.mk_ hh3 hn t)
theorem bf_core {f : Bf} {is : Es} {σ : L2.St} {H : Hp} {M : Mp} {G : Heap} {s : Store} {Q : VK} {kk : Val → Heap → Prop} (hh : HeapR X.K M G H) (hst : StoreR X.K M H s σ) (hm : (evE Γ (.bcall f is) s G).wp kk (XW X.K W M H σ))
    (fin : ∀ c G3, kk c G3 → ∀ M3 H3 u H4, Later M H M3 H3 → HeapR X.K M3 G3 H3 → Later M3 H3 M3 H4 → HeapR X.K M3 G3 H4 → Rl X.K M3 H4 c u → Fr X.K M3 H3 H4 c u → Q u H4) : tCB (rBf X.K f) (tAO X.K W (evEs Γ is)) σ H Q := by
  rw [evE, R.wp_bind] at hm
  refine ⟨M, G, s, hh, hst, R.wp_mono hm (fun vs G1 hm M1 us H1 l1 hh1 r1 => ?_) fun _ _ x => x⟩
  obtain ⟨c, hc, k⟩ := R.wp_opt hm
  exact ⟨M1, G1, _, c, hh1, r1.rds hh1, hc, fun u H4 l4 hh4 ⟨r4, f⟩ => fin c G1 k M1 H1 u H4 l1 hh1 l4 hh4 r4 f⟩
def bfS : Bf → Str
  | .str => "str" | .sorted => "sorted" | .len => "len" | .tuple => "tuple" | .list => "list" | .int => "int" | .abs => "abs" | .sum => "sum" | .max => "max" | .min => "min" | .all => "all" | .any => "any" | .divmod => "divmod" | .repr => "repr"
theorem boot_bf (f : Bf) : bootBuiltins (bfS f) = some (bfN f) := by
  cases f <;> (simp only [bfS, bfN]; first | exact PySem.boot_len | kernel_rfl | rfl)
theorem bfS_name (f : Bf) : bfS f ≠ "__name__" ∧ (bfS f == ("__debug__" : Str)) = false := by
  cases f <;> exact ⟨by simp only [bfS]; decide +kernel, by simp only [bfS]; decide +kernel⟩
theorem pe_bfT {f : Bf} {p pos : Pos} {e : Expr} {es : List Expr} {t : L2.TA} {r : List V → Hp → VK → Prop} (hc : CallR X (bfN f) r) (hg : Gl X (bfS f)) (hm : X.mg (bfS f) = none) (ha : PA X (e :: es) t)
    (he : starEach (e :: es) X.env = (false, eval e X.env) :: starEach es X.env) (hpl : (backTo pos (starEach es X.env)).any (·.1) = false) : PE X (.Call (.Name (bfS f) p) (e :: es) [] pos) (tCB r t) := by
  have hb := boot_bf f
  have h1 := (bfS_name f).1
  have h2 := (bfS_name f).2
  cases f <;> first | exact pe_callB hc hg hm hb ha h1 h2 he hpl | exact pe_callTy hc hg hm hb ha h1 h2 he hpl
theorem pe_bfK {f : Bf} {is : Es} {p pos : Pos} {e : Expr} {es : List Expr} (hcalm : X.calm = true) (hgd : X.A.guards = some []) (hun : X.A.units + 101 < cLine) (hM : KM X.K) (hg : Gl X (bfS f)) (hm : X.mg (bfS f) = none) (ha : PA X (e :: es) (tAO X.K W (evEs Γ is)))
    (he : starEach (e :: es) X.env = (false, eval e X.env) :: starEach es X.env) (hpl : (backTo pos (starEach es X.env)).any (·.1) = false) : PE X (.Call (.Name (bfS f) p) (e :: es) [] pos) (tE X.K W (evE Γ (.bcall f is))) :=
  peImp (pe_bfT (call_bf hcalm hgd hun hM f) hg hm ha he hpl) fun σ H Q ⟨M, G, s, hh, hst, hm⟩ => bf_core hh hst hm fun c G3 k M3 H3 u H4 l1 hh3 l2 hh4 r _ => k M3 u H4 (l1.trans l2) hh4 r
theorem pe_bfF {f : Bf} {is : Es} {p pos : Pos} {e : Expr} {es : List Expr} (hcalm : X.calm = true) (hgd : X.A.guards = some []) (hun : X.A.units + 101 < cLine) (hM : KM X.K) (hg : Gl X (bfS f)) (hm : X.mg (bfS f) = none) (ha : PA X (e :: es) (tAO X.K W (evEs Γ is)))
    (he : starEach (e :: es) X.env = (false, eval e X.env) :: starEach es X.env) (hpl : (backTo pos (starEach es X.env)).any (·.1) = false) : PE X (.Call (.Name (bfS f) p) (e :: es) [] pos) (tF X.K W (evE Γ (.bcall f is))) :=
  peImp (pe_bfT (call_bf hcalm hgd hun hM f) hg hm ha he hpl) fun σ H Q ⟨M, G, s, hh, hst, hm⟩ => bf_core hh hst hm fun c G3 k M3 H3 u H4 l1 hh3 l2 hh4 r f => by
    obtain ⟨xs, e, k⟩ := k
    subst e
    obtain ⟨a, ws, rfl, hn, rfl, t⟩ := f xs rfl
    exact k M3 a ws _ (l1.trans l2) (l1.since.gone hn) (.mk_ hh3 hn t)
def tyS : Ty → Str
  | .int => "int" | .bool => "bool" | .tuple => "tuple" | .list => "list" | .str => "str" | .none_ => "NoneType"
theorem boot_ty (t : Ty) (h : t ≠ .none_) : bootBuiltins (tyS t) = some (.type (tyN t)) := by
  cases t <;> first | exact absurd rfl h | (simp only [tyS, tyN]; kernel_rfl)
theorem boot_isi : bootBuiltins ("isinstance" : Str) = some (.builtin "isinstance") := by kernel_rfl
theorem pe_isiK {a : Expr} {i : E} {t : Ty} {p p2 pos : Pos} (hg : Gl X "isinstance") (hm : X.mg "isinstance" = none) (ht : t ≠ .none_) (hg2 : Gl X (tyS t)) (hm2 : X.mg (tyS t) = none) (ha : PE X a (tO X.K W (evE Γ i)))
    (he : starEach [a, .Name (tyS t) p2] X.env = (false, eval a X.env) :: starEach [.Name (tyS t) p2] X.env) : PE X (.Call (.Name "isinstance" p) [a, .Name (tyS t) p2] [] pos) (tE X.K W (evE Γ (.isi i t))) := by
  have n1 : tyS t ≠ "__name__" ∧ (tyS t == ("__debug__" : Str)) = false := by
    cases t <;> exact ⟨by simp only [tyS]; decide +kernel, by simp only [tyS]; decide +kernel⟩
  have hty : PE X (.Name (tyS t) p2) (L2.tC (.ty (tyN t))) := pe_bltn hg2 hm2 (boot_ty t ht) rfl n1.1 n1.2
  refine peImp (pe_callB call_isi hg hm boot_isi (pa_cons ha (pa_cons hty pa_nil (by rfl)) he) (by decide +kernel) (by decide +kernel) he (by rfl)) fun σ H Q ⟨M, G, s, hh, hst, hm⟩ => ?_
  rw [evE, R.wp_bind] at hm
  refine ⟨M, G, s, hh, hst, R.wp_mono hm (fun x G1 hm M1 u1 H1 l1 hh1 r1 => ?_) fun _ _ x => x⟩
  have rx := r1.d.rd hh1
  obtain ⟨c, hc, k⟩ := R.wp_opt hm
  unfold isO at hc
  split at hc
  · cases hc
  · rename_i hr
    cases hc
    have hr : (rd G1 x).isRef = false := by simpa using hr
    exact ⟨u1, .ty (tyN t), _, _, _, rfl, .ty _, tyx_of rx hr, kit_ty (kit_all t _ hr), k M1 _ H1 l1 hh1 (.bool _)⟩
theorem NewL.heap {K : PySem.W.Frag} {M M' : Mp} {H H' : Hp} {G' : Heap} {a : Addr} {xs : List Val} {vs : List V} (n : NewL K M' G' H' a xs vs) (ok : MpOk M H) (l : Later M H M' H') (hn : H a = Option.none) :
    Later M H { M' with φ := M'.φ ++ [a] } H' ∧ HeapR K { M' with φ := M'.φ ++ [a] } (G' ++ [.lst xs]) H' ∧ Rl K { M' with φ := M'.φ ++ [a] } H' (.ref G'.length) (.ref a) := by
  have ok' := n.hh.ok
  have na : a ∉ M'.φ := ok'.d2 a (.inr rfl)
  have sw : Ext (M'.add a) H' { M' with φ := M'.φ ++ [a] } H' := ⟨⟨[a], rfl⟩, fun b h => .inl (by
    rcases h with h | h | h
    · rcases List.mem_append.mp h with h | h
      · exact .inl h
      · exact .inr (.inr (.inr (by simpa using h)))
    · exact .inr (.inl h)
    · exact .inr (.inr (.inl h))), fun _ _ _ h => h⟩
  have len := n.hh.len
  refine ⟨?_, ⟨⟨?_, fun i b h => ?_, fun b h => ?_, fun i b h z => ok'.d3 i b h (.inl z), ok'.oin, ok'.oth, fun b h => ok'.xth b (.inl h)⟩, ?_, fun k b ob h1 h2 => ?_⟩, .ref ?_⟩
  · obtain ⟨x, e, f⟩ := l.pre
    refine ⟨⟨x ++ [a], by rw [← List.append_assoc, ← e], fun b hb => ?_⟩, l.ow, l.xo, l.xo', l.keep, l.there⟩
    rcases List.mem_append.mp hb with h | h
    · exact f b h
    · rw [show b = a by simpa using h]; exact hn
  · rw [List.nodup_append]
    exact ⟨ok'.nodup, by simp, fun b hb c hc e => na (by rw [show c = a by simpa using hc] at e; rw [← e]; exact hb)⟩
  · intro z
    rcases List.mem_append.mp z with z | z
    · exact ok'.d1 i b h z
    · exact ok'.d3 i b h (.inr (by simpa using z))
  · intro z
    rcases List.mem_append.mp z with z | z
    · exact ok'.d2 b (.inl h) z
    · obtain rfl : b = a := by simpa using z
      exact n.nx h
  · show (M'.φ ++ [a]).length = (G' ++ [Obj.lst xs]).length
    rw [List.length_append, List.length_append, show M'.φ.length = G'.length from len]; rfl
  · by_cases hk : k < M'.φ.length
    · have h1' : M'.φ[k]? = some b := by rw [← h1]; exact (List.getElem?_append_left hk).symm
      have h2' : G'[k]? = some ob := by rw [← h2]; exact (List.getElem?_append_left (by rw [← len]; exact hk)).symm
      have := n.hh.obj k b ob h1' h2'
      cases ob with
      | dct ks ys => obtain ⟨us, e, hl, t⟩ := this; exact ⟨us, e, hl, t.ext sw⟩
      | tab f => obtain ⟨h0, ps, e, t⟩ := this; exact ⟨h0, ps, e, t.ext sw⟩
      | lst ys => obtain ⟨us, e, t⟩ := this; exact ⟨us, e, t.ext sw⟩
    · have hk2 : G'.length ≤ k := by rw [← len]; exact Nat.le_of_not_lt hk
      have h1' : (M'.φ ++ [a])[k]? = some b := h1
      rw [List.getElem?_append_right (Nat.le_of_not_lt hk)] at h1'
      rw [List.getElem?_append_right hk2] at h2
      have e0 : k - G'.length = 0 := by
        obtain ⟨z, _⟩ := List.getElem?_eq_some_iff.mp h2
        simp at z; omega
      have e0' : k - M'.φ.length = 0 := by rw [show M'.φ.length = G'.length from len]; exact e0
      rw [e0] at h2
      rw [e0'] at h1'
      cases h2
      cases h1'
      exact ⟨vs, n.at_, n.rs.ext sw⟩
  · rw [← show M'.φ.length = G'.length from len, List.getElem?_append_right (Nat.le_refl _), Nat.sub_self]; rfl
theorem pe_heapK {e : Expr} {i : E} (h : PE X e (tF X.K W (evE Γ i))) : PE X e (tE X.K W (evE Γ (.heap i))) :=
  peImp h fun σ H Q ⟨M, G, s, hh, hst, hm⟩ => by
    rw [evE, R.wp_bind] at hm
    refine ⟨M, G, s, hh, hst, R.wp_mono hm (fun v G1 hm => ?_) fun _ _ x => x⟩
    cases v with
    | lst xs =>
      refine ⟨xs, rfl, fun M1 a vs H1 l1 hn n => ?_⟩
      obtain ⟨k1, k2, k3⟩ := n.heap hh.ok l1 hn
      exact hm _ _ _ k1 k2 k3
    | _ => exact hm.elim
/-- one more thing in the heap -/
theorem heap_push {K : PySem.W.Frag} {M : Mp} {H : Hp} {G : Heap} {a : Addr} {o : HO} {ob : Obj} (hh : HeapR K M G H) (hp : H a = Option.none) (r : ObjR K { M with φ := M.φ ++ [a] } (upd H a o) a ob) :
    Later M H { M with φ := M.φ ++ [a] } (upd H a o) ∧ HeapR K { M with φ := M.φ ++ [a] } (G ++ [ob]) (upd H a o) ∧ Rl K { M with φ := M.φ ++ [a] } (upd H a o) (.ref G.length) (.ref a) := by
  have ok := hh.ok
  have nin : ∀ b o', H b = some o' → b ≠ a := fun b o' e => ne_of_none e hp
  have na : a ∉ M.φ := fun z => by
    obtain ⟨o', e⟩ := hh.there z
    rw [hp] at e; cases e
  have kp : ∀ b o', H b = some o' → upd H a o b = some o' := fun b o' e => by rw [upd_ne (nin b o' e)]; exact e
  have ext : Ext M H { M with φ := M.φ ++ [a] } (upd H a o) := ⟨⟨[a], rfl⟩, fun b h => by
    rcases h with h | h | h
    · rcases List.mem_append.mp h with h | h
      · exact .inl (.inl h)
      · exact .inr (by rw [show b = a by simpa using h]; exact hp)
    · exact .inl (.inr (.inl h))
    · exact .inl (.inr (.inr h)), fun b o' _ e => kp b o' e⟩
  refine ⟨⟨⟨[a], rfl, fun b hb => by rw [show b = a by simpa using hb]; exact hp⟩, rfl, fun _ h => h, fun _ h => .inl h, fun b o' _ e => kp b o' e, fun b o' e => ⟨o', kp b o' e⟩⟩,
    ⟨⟨?_, fun i b h => ?_, fun b h => ?_, ok.d3, ok.oin, fun i b h => let ⟨o', e⟩ := ok.oth i b h; ⟨o', kp b o' e⟩, fun b h => let ⟨o', e⟩ := ok.xth b h; ⟨o', kp b o' e⟩⟩, ?_, fun k b ob' h1 h2 => ?_⟩, .ref ?_⟩
  · rw [List.nodup_append]
    exact ⟨ok.nodup, by simp, fun b hb c hc e => na (by rw [show c = a by simpa using hc] at e; rw [← e]; exact hb)⟩
  · intro z
    rcases List.mem_append.mp z with z | z
    · exact ok.d1 i b h z
    · obtain ⟨o', e⟩ := ok.oth i b h
      exact nin b o' e (by simpa using z)
  · intro z
    rcases List.mem_append.mp z with z | z
    · exact ok.d2 b h z
    · obtain ⟨o', e⟩ := ok.xth b h
      exact nin b o' e (by simpa using z)
  · show (M.φ ++ [a]).length = (G ++ [ob]).length
    rw [List.length_append, List.length_append, hh.len]; rfl
  · by_cases hk : k < M.φ.length
    · have h1' : M.φ[k]? = some b := by rw [← h1]; exact (List.getElem?_append_left hk).symm
      have h2' : G[k]? = some ob' := by rw [← h2]; exact (List.getElem?_append_left (by rw [← hh.len]; exact hk)).symm
      have := hh.obj k b ob' h1' h2'
      cases ob' with
      | dct ks ys => obtain ⟨us, e, hl, t⟩ := this; exact ⟨us, kp _ _ e, hl, t.ext ext⟩
      | tab f => obtain ⟨h0, ps, e, t⟩ := this; exact ⟨h0, ps, kp _ _ e, t.ext ext⟩
      | lst ys => obtain ⟨us, e, t⟩ := this; exact ⟨us, kp _ _ e, t.ext ext⟩
    · have hk2 : G.length ≤ k := by rw [← hh.len]; exact Nat.le_of_not_lt hk
      have h1' : (M.φ ++ [a])[k]? = some b := h1
      rw [List.getElem?_append_right (Nat.le_of_not_lt hk)] at h1'
      rw [List.getElem?_append_right hk2] at h2
      have e0 : k - G.length = 0 := by
        obtain ⟨z, _⟩ := List.getElem?_eq_some_iff.mp h2
        simp at z; omega
      have e0' : k - M.φ.length = 0 := by rw [hh.len]; exact e0
      rw [e0] at h2
      rw [e0'] at h1'
      cases h2
      cases h1'
      exact r
  · rw [← hh.len, List.getElem?_append_right (Nat.le_refl _), Nat.sub_self]; rfl
/-- {} -/
theorem pe_dnew {pos : Pos} : PE X (.Dict [] [] pos) (tE X.K W (evE Γ .dnew)) :=
  peImp pe_dnewK fun σ H Q ⟨M, G, s, hh, hst, hm⟩ p hp => by
    rw [evE] at hm
    obtain ⟨k1, k2, k3⟩ := heap_push (o := .dK []) (ob := .dct [] []) hh hp ⟨[], upd_same, rfl, .nil⟩
    exact hm _ _ _ k1 k2 k3
/-- {}, a value that nobody changes -/
theorem pe_dval {pos : Pos} : PE X (.Dict [] [] pos) (tE X.K W (evE Γ .dval)) :=
  peImp pe_dnewK fun σ H Q ⟨M, G, s, hh, hst, hm⟩ p hp => by
    rw [evE] at hm
    exact hm M _ _ (Later.new M hp) (hh.new hp) (.dctT (hh.fresh hp) upd_same)
end Fx

namespace Fx
open PySem PySem.Spec PyProof.Rows L2
variable {X : Cx} {W : WX} {Γ : Calls}
/-- a callee's map: the caller's own lists are not to be touched -/
def Mp.callee (M : Mp) : Mp := ⟨M.φ, fun _ => none, fun a => M.xo a ∨ ∃ i, M.ow i = some a⟩
section
variable {K : PySem.W.Frag} {M M' : Mp} {H H' : Hp} {G G' : Heap}
theorem callee_ex {a : Addr} : M.callee.ex a ↔ M.ex a := by
  constructor
  · rintro (h | ⟨i, h⟩ | h | h)
    · exact .inl h
    · cases h
    · exact .inr (.inr h)
    · exact .inr (.inl h)
  · rintro (h | h | h)
    · exact .inl h
    · exact .inr (.inr (.inr h))
    · exact .inr (.inr (.inl h))
theorem callee_ext : Ext M H M.callee H := Ext.swap rfl fun _ h => callee_ex.mp h
theorem HeapR.callee (hh : HeapR K M G H) : HeapR K M.callee G H := by
  have ok := hh.ok
  refine ⟨⟨ok.nodup, fun i a h => (by cases h), fun a h => ?_, fun i a h => (by cases h), fun i j a h => (by cases h), fun i a h => (by cases h), fun a h => ?_⟩, hh.len, fun n a o h1 h2 => ?_⟩
  · rcases h with h | ⟨i, h⟩
    · exact ok.d2 a h
    · exact ok.d1 i a h
  · rcases h with h | ⟨i, h⟩
    · exact ok.xth a h
    · exact ok.oth i a h
  · have := hh.obj n a o h1 h2
    cases o with
    | dct ks ys => obtain ⟨us, e, hl, t⟩ := this; exact ⟨us, e, hl, t.ext callee_ext⟩
    | tab f => obtain ⟨h0, ps, e, t⟩ := this; exact ⟨h0, ps, e, t.ext callee_ext⟩
    | lst ys => obtain ⟨us, e, t⟩ := this; exact ⟨us, e, t.ext callee_ext⟩
/-- behind a call -/
def Mp.back (M Mc : Mp) : Mp := ⟨Mc.φ, M.ow, M.xo⟩
theorem back_ext (hx : ∀ a, M.callee.xo a → M'.xo a) : Ext M' H' (M.back M') H' := Ext.swap rfl fun a h => by
  rcases h with h | ⟨i, h⟩ | h
  · exact .inl h
  · exact .inr (.inr (hx a (.inr ⟨i, h⟩)))
  · exact .inr (.inr (hx a (.inl h)))
theorem back_later (l : Later M.callee H M' H') : Later M H (M.back M') H' := ⟨l.pre, rfl, fun _ h => h, fun _ h => .inl h, l.keep, l.there⟩
theorem back_heap (hh : HeapR K M G H) (l : Later M.callee H M' H') (hh' : HeapR K M' G' H') : HeapR K (M.back M') G' H' := by
  have ok := hh.ok
  have ok' := hh'.ok
  refine ⟨⟨ok'.nodup, fun i a h => ok'.d2 a (l.xo a (.inr ⟨i, h⟩)), fun a h => ok'.d2 a (l.xo a (.inl h)), ok.d3, ok.oin, fun i a h => ?_, fun a h => ?_⟩, hh'.len, fun n a o h1 h2 => ?_⟩
  · obtain ⟨o, e⟩ := ok.oth i a h
    exact l.there a o e
  · obtain ⟨o, e⟩ := ok.xth a h
    exact l.there a o e
  · have := hh'.obj n a o h1 h2
    cases o with
    | dct ks ys => obtain ⟨us, e, hl, t⟩ := this; exact ⟨us, e, hl, t.ext (back_ext l.xo)⟩
    | tab f => obtain ⟨h0, ps, e, t⟩ := this; exact ⟨h0, ps, e, t.ext (back_ext l.xo)⟩
    | lst ys => obtain ⟨us, e, t⟩ := this; exact ⟨us, e, t.ext (back_ext l.xo)⟩
end
theorem ExcR.ext {K : PySem.W.Frag} {M M' : Mp} {H : Hp} {e : Exc} {cls : Value} {d : Option Addr} (x : ExcR K M H e cls d) (l : Ext M H M' H) : ExcR K M' H e cls d := by
  obtain ⟨cl, ar⟩ := e
  obtain ⟨h1, h2⟩ := x
  refine ⟨h1, ?_⟩
  cases ar with
  | none => exact h2
  | some p =>
    obtain ⟨f, y⟩ := p
    obtain ⟨dd, v, e1, e2, r⟩ := h2
    exact ⟨dd, v, e1, e2, r.ext l⟩
/-- what a def promises -/
def spF (K : PySem.W.Frag) (n : Nat) (c : List Val → Heap → R Val) : Sp := fun us H Q E => us.length = n ∧ ∃ M G vs, M.ow = (fun _ => none) ∧ HeapR K M G H ∧ Rls K M H vs us ∧
  (c vs G).wp (fun v G' => ∀ M' u H', Later M H M' H' → HeapR K M' G' H' → Rl K M' H' v u → Q u H') (fun e G' => ∀ M' cls d H', Later M H M' H' → HeapR K M' G' H' → ExcR K M' H' e cls d → E cls d H')
structure RoomG (k : Nat) (A : Around) : Prop where
  r : Room k A
  g : A.guards = some []
theorem RoomG.mono {j k : Nat} {A : Around} (h : RoomG k A) (hj : j ≤ k) : RoomG j A := ⟨h.r.mono hj, h.g⟩
/-- a def's promise where no object is being shown -/
structure FnG (P : Program) (w : World) (K : PySem.W.Frag) (mg : Str → Option Value) (base : PySem.Heap) (CX : CXT) (k : Nat) (f : Addr) (fd : FuncData) (ps : List Str) (sp : Sp) : Prop where
  len : ∀ vs H Q E, sp vs H Q E → vs.length = ps.length
  run : ∀ (A : Around) (outer : List Env) (s : Shared) (H : Hp) (args : Args) (us : List Value) (vs : List V) (Q : VK) (E : XK), RoomG k A → Env0 P w K mg base A outer s H →
    BindsTo s fd args (ps.zip us) → Vals vs us → sp vs H Q E → codeAny (model P w) A (.call (.ref f) args) (CR CX outer P w H s Q E) s
section
variable {CX : CXT} {k : Nat} {f : Addr} {fd : FuncData} {ps : List Str} {sp : Sp} {dvs : List V} {ds : List Value} {E : L2.St → XK}
theorem run_g {pins : List (Addr × PySem.Obj)} {σ : L2.St} {H : Hp} {s : Shared} {Q : VK} {us : List Value} {vs : List V} (F : FnG X.prog X.w X.K X.mg X.base CX k f fd ps sp) (hr : RoomG k X.A)
    (hb : Binds X.K fd ps ds) (hd : Vals dvs ds) (hx : PassesAt CX X σ (E σ)) (I : Inv X pins σ H s) (r : Vals vs us) (h : sp (vs ++ dvs) H Q (E σ)) :
    wpAny (model X.prog X.w) X.A (call (.ref f) us) (EP X pins σ Q) X.xe s := by
  have all := r.append hd
  have num : (us ++ ds).length = ps.length := all.length.symm.trans (F.len _ _ _ _ h)
  have c := F.run X.A _ s H ⟨us, []⟩ _ _ Q (E σ) hr I.env0 (hb s us I.kIn num) all h
  refine wpAny_call (codeAny_mono c ?_)
  intro res s1 q
  match res, q with
  | .error e, q => exact hx pins H s e s1 I q
  | .ok (.ret u), q => exact I.after q
theorem pe_callG {x : Str} {p pos : Pos} {e : Expr} {es : List Expr} {t : L2.TA} (F : FnG X.prog X.w X.K X.mg X.base CX k f fd ps sp) (hr : RoomG k X.A) (hg : Gl X x) (hm : X.mg x = some (.ref f)) (hk : PySem.W.keepIn X.K (.ref f) = true)
    (hb : Binds X.K fd ps ds) (hd : Vals dvs ds) (hx : ∀ σ, PassesAt CX X σ (E σ)) (ha : PA X (e :: es) t) (hdb : (x == ("__debug__" : Str)) = false) (he : starEach (e :: es) X.env = (false, eval e X.env) :: starEach es X.env)
    (hpl : (backTo pos (starEach es X.env)).any (·.1) = false) :
    PE X (.Call (.Name x p) (e :: es) [] pos) (fun σ H Q => t σ H fun vs H1 => sp (vs ++ dvs) H1 Q (E σ)) := by
  refine ⟨fun pins s σ H Q I h => wpAny_Call_Name_kw (ld_glob I hg hm ?_ hdb)⟩
  refine PySem.W.callWith_K (h₀ := X.base) I.ok.mod.kin hk (thn (ha.run pos pins s σ H _ I h) ?_) he hpl
  rintro us s1 ⟨vs, H1, I1, r, q⟩
  exact ⟨I1.kIn, run_g F hr hb hd (hx σ) I1 r q⟩
end
/-- a def that stands behind a name -/
structure DefOk (P : Program) (w : World) (K : PySem.W.Frag) (mg : Str → Option Value) (base : PySem.Heap) (k : Nat) (f : String) (n : Nat) (c : List Val → Heap → R Val) (a : Addr) (fd : FuncData) (ps : List Str) : Prop where
  glob : mg (Str.ofString f) = some (.ref a)
  keep : PySem.W.keepIn K (.ref a) = true
  len : ps.length = n
  binds : Binds K fd ps []
  ok : FnG P w K mg base (CX P w) k a fd ps (spF K n c)
theorem pe_callK {k n : Nat} {f : String} {a : Addr} {fd : FuncData} {ps : List Str} {is : Es} {p pos : Pos} {e : Expr} {es : List Expr} (D : DefOk X.prog X.w X.K X.mg X.base k f n (Γ f) a fd ps) (hr : RoomG k X.A) (tk : Takes X W) (hg : Gl X (Str.ofString f)) (hl : is.len = n)
    (ha : PA X (e :: es) (tAs X.K W (evEs Γ is))) (hdb : (Str.ofString f == ("__debug__" : Str)) = false) (he : starEach (e :: es) X.env = (false, eval e X.env) :: starEach es X.env) (hpl : (backTo pos (starEach es X.env)).any (·.1) = false) :
    PE X (.Call (.Name (Str.ofString f) p) (e :: es) [] pos) (tE X.K W (evE Γ (.call f is))) :=
  peImp (pe_callG (E := fun σ => WE W σ) D.ok hr hg D.glob D.keep D.binds .nil (fun σ => passAt tk σ) ha hdb he hpl) fun σ H Q ⟨M, G, s, hh, hst, hm⟩ => by
    rw [evE, R.wp_bind] at hm
    refine ⟨M, G, s, hh, hst, R.wp_mono (evEs_len is s G hm) (fun vs G1 ⟨hlen, hm⟩ M1 us H1 l1 hh1 r1 => ?_) fun _ _ x => x⟩
    show spF X.K n (Γ f) (us ++ []) H1 Q (WE W σ)
    rw [List.append_nil]
    refine ⟨by rw [← r1.length, hlen, hl], M1.callee, G1, vs, rfl, hh1.callee, r1.ext callee_ext, R.wp_mono hm (fun v G' k M' u H' l hh' r => ?_) fun e G' x M' cls d H' l hh' r => ?_⟩
    · exact k _ u H' (l1.trans (back_later l)) (back_heap hh1 l hh') (r.ext (back_ext l.xo))
    · exact x _ cls d H' (l1.trans (back_later l)) (back_heap hh1 l hh') (r.ext (back_ext l.xo))
theorem pe_call0K {k : Nat} {f : String} {a : Addr} {fd : FuncData} {ps : List Str} {p pos : Pos} (D : DefOk X.prog X.w X.K X.mg X.base k f 0 (Γ f) a fd ps) (hr : RoomG k X.A) (tk : Takes X W) (hg : Gl X (Str.ofString f)) (hdb : (Str.ofString f == ("__debug__" : Str)) = false) :
    PE X (.Call (.Name (Str.ofString f) p) [] [] pos) (tE X.K W (evE Γ (.call f .nil))) := by
  refine ⟨fun pins s σ H Q I ⟨M, G, st, hh, hst, hm⟩ => ?_⟩
  rw [evE, R.wp_bind, evEs] at hm
  refine wpAny_Call_Name_kw (ld_glob I hg D.glob ?_ hdb)
  refine PySem.W.callWith_K0 I.kIn D.keep (run_g (E := fun σ => WE W σ) (us := []) D.ok hr D.binds .nil (passAt tk σ) I .nil ?_)
  refine ⟨rfl, M.callee, G, [], rfl, hh.callee, .nil, R.wp_mono hm (fun v G' k M' u H' l hh' r => ?_) fun e G' x M' cls d H' l hh' r => ?_⟩
  · exact k _ u H' (back_later l) (back_heap hh l hh') (r.ext (back_ext l.xo))
  · exact x _ cls d H' (back_later l) (back_heap hh l hh') (r.ext (back_ext l.xo))
/-- what an iterator gives, turn by turn, while things go on by Ev -/
def ItR (Ev : Mp → Hp → Mp → Hp → Prop) (K : PySem.W.Frag) (M : Mp) (H : Hp) (J : L2.It) (xs : List Val) : Prop :=
  ∃ Gd Y, L2.Walk J xs.length Gd Y ∧ ∀ M2 H2, Ev M H M2 H2 → Gd H2 ∧ ∀ i u H', i < xs.length → Y i H2 u H' → ∃ x, xs[i]? = some x ∧ ∀ G2, HeapR K M2 G2 H2 → HeapR K M2 G2 H' ∧ Later M2 H2 M2 H' ∧ Rl K M2 H' x u
def tI (Ev : Mp → Hp → Mp → Hp → Prop) (K : PySem.W.Frag) (W : WX) (m : Store → Heap → R (List Val)) : TI := fun st H R => ∃ M G s, HeapR K M G H ∧ StoreR K M H s st ∧
  (m s G).wp (fun xs G' => ∀ M' H' J, Later M H M' H' → HeapR K M' G' H' → ItR Ev K M' H' J xs → R J H') (XW K W M H st)
theorem piImp {tg iter : Expr} {t t' : TI} (h : PI X tg iter t) (i : ∀ σ H R, t' σ H R → t σ H R) : PI X tg iter t' := ⟨fun pins s σ H R I q => h.run pins s σ H R I (i σ H R q)⟩
/-- a list or a tuple -/
def iSeq (K : PySem.W.Frag) (tl : L2.TE) : TI := fun σ H R => tl σ H fun x H1 => (∃ a xs, x = .ref a ∧ SqL K H1 a xs ∧ R (Itl K a) H1) ∨ ∃ a xs, x = .ref a ∧ SqT K H1 a xs ∧ R (Itt K a) H1
theorem pi_seq {tg l : Expr} {tl : L2.TE} (hl : PE X l tl) : PI X tg l (iSeq X.K tl) := by
  refine ⟨fun pins s σ H R I h => ?_⟩
  refine thn (hl.run pins s σ H _ I h) fun v s1 ⟨x, H1, I1, r1, q1⟩ => ?_
  rcases q1 with ⟨a, xs, e, hq, q⟩ | ⟨a, xs, e, hq, q⟩
  · subst e
    cases r1
    obtain ⟨its, rv, p, hz⟩ := I1.list hq
    refine wpAny_pyIter_list p.isList ?_
    refine ⟨s1.heap.objs.size, [s1.heap.objs.size], _, _, H1, rfl, I1.kept (t' := s1.toks) fun b o e => Heap.get?_push_of_some _ e, turn_list a _, ⟨_, Heap.get?_push_size _ rfl, rfl, rfl⟩, fun b hb => ?_, q⟩
    have e : b = s1.heap.objs.size := by simpa using hb
    subst e
    exact I1.fpOk (Nat.le_refl _) (I1.hok.fresh (Nat.le_refl _))
  · subst e
    cases r1
    obtain ⟨its, rv, p, hz⟩ := I1.tuple hq
    refine wpAny_pyIter_tuple (show s1.heap.IsTuple a its.toArray from p) ?_
    refine ⟨s1.heap.objs.size, [s1.heap.objs.size], _, _, H1, rfl, I1.kept (t' := s1.toks) fun b o e => Heap.get?_push_of_some _ e, turn_tuple a _, ⟨_, Heap.get?_push_size _ rfl, rfl, rfl⟩, fun b hb => ?_, q⟩
    have e : b = s1.heap.objs.size := by simpa using hb
    subst e
    exact I1.fpOk (Nat.le_refl _) (I1.hok.fresh (Nat.le_refl _))
/-- a list, a tuple or a text -/
def iSeqS (K : PySem.W.Frag) (tl : L2.TE) : TI := fun σ H R => tl σ H fun x H1 => ((∃ a xs, x = .ref a ∧ SqL K H1 a xs ∧ R (Itl K a) H1) ∨ ∃ a xs, x = .ref a ∧ SqT K H1 a xs ∧ R (Itt K a) H1) ∨ ∃ z, x = .str z ∧ R (Its z) H1
theorem pi_seqS {tg l : Expr} {tl : L2.TE} (hl : PE X l tl) : PI X tg l (iSeqS X.K tl) := by
  refine ⟨fun pins s σ H R I h => ?_⟩
  refine thn (hl.run pins s σ H _ I h) fun v s1 ⟨x, H1, I1, r1, q1⟩ => ?_
  rcases q1 with (⟨a, xs, e, hq, q⟩ | ⟨a, xs, e, hq, q⟩) | ⟨z, e, q⟩
  · subst e
    cases r1
    obtain ⟨its, rv, p, hz⟩ := I1.list hq
    refine wpAny_pyIter_list p.isList ?_
    refine ⟨s1.heap.objs.size, [s1.heap.objs.size], _, _, H1, rfl, I1.kept (t' := s1.toks) fun b o e => Heap.get?_push_of_some _ e, turn_list a _, ⟨_, Heap.get?_push_size _ rfl, rfl, rfl⟩, fun b hb => ?_, q⟩
    have e : b = s1.heap.objs.size := by simpa using hb
    subst e
    exact I1.fpOk (Nat.le_refl _) (I1.hok.fresh (Nat.le_refl _))
  · subst e
    cases r1
    obtain ⟨its, rv, p, hz⟩ := I1.tuple hq
    refine wpAny_pyIter_tuple (show s1.heap.IsTuple a its.toArray from p) ?_
    refine ⟨s1.heap.objs.size, [s1.heap.objs.size], _, _, H1, rfl, I1.kept (t' := s1.toks) fun b o e => Heap.get?_push_of_some _ e, turn_tuple a _, ⟨_, Heap.get?_push_size _ rfl, rfl, rfl⟩, fun b hb => ?_, q⟩
    have e : b = s1.heap.objs.size := by simpa using hb
    subst e
    exact I1.fpOk (Nat.le_refl _) (I1.hok.fresh (Nat.le_refl _))
  · subst e
    obtain ⟨t, rfl⟩ := r1
    cases ha : z.cps.all (· < 128)
    · exact wpAny_pyIter_wide ha (pi_one (tk := s1.toks) I1 _ (turn_str _ z t "str_iterator" (.inr rfl)) ⟨_, Heap.get?_push_size _ rfl, rfl, rfl⟩ q)
    · exact wpAny_pyIter_ascii ha (pi_one (tk := s1.toks) I1 _ (turn_str _ z t "str_ascii_iterator" (.inl rfl)) ⟨_, Heap.get?_push_size _ rfl, rfl, rfl⟩ q)
/-- the signs of a text -/
theorem itr_str {Ev : Mp → Hp → Mp → Hp → Prop} {K : PySem.W.Frag} {M : Mp} {H : Hp} (z : String) : ItR Ev K M H (Its (Str.ofString z)) (signs z) := by
  have hl : (signs z).length = (Str.ofString z).cps.size := by
    rw [← Array.length_toList, ofString_list]; simp [signs]
  refine ⟨_, _, by rw [hl]; exact walk_str, fun M2 H2 e => ⟨trivial, fun i u H' hi y => ?_⟩⟩
  obtain ⟨rfl, c, hc, rfl⟩ := y
  have h2 : (z.toList.map Char.toNat)[i]? = some c := by rw [← ofString_list, Array.getElem?_toList]; exact hc
  rw [List.getElem?_map] at h2
  cases hz : z.toList[i]? with
  | none => rw [hz] at h2; cases h2
  | some ch =>
    rw [hz] at h2
    have h2 : ch.toNat = c := Option.some.inj h2
    subst h2
    refine ⟨.str (String.ofList [ch]), by rw [signs, List.getElem?_map, hz]; rfl, fun G2 hh => ⟨hh, Later.refl _ _, ?_⟩⟩
    have := Rl.str (K := K) (M := M2) (H := H') (String.ofList [ch])
    rwa [ofString_ofList] at this
section
variable {K : PySem.W.Frag} {M : Mp} {H : Hp} {a : Addr} {xs : List Val} {vs : List V}
/-- what stands may be read later -/
theorem itr_list {Ev : Mp → Hp → Mp → Hp → Prop} (r : Rls K M H xs vs) (h : ∀ M2 H2, Ev M H M2 H2 → SqL K H2 a vs ∧ Rls K M2 H2 xs vs) : ItR Ev K M H (Itl K a) xs := by
  refine ⟨_, _, by rw [r.length]; exact walk_list (K := K) (a := a) (xs := vs), fun M2 H2 e => ⟨(h M2 H2 e).1, fun i u H' _ y => ?_⟩⟩
  obtain ⟨rfl, hu⟩ := y
  have t := (h M2 _ e).2
  obtain ⟨hi, _⟩ := List.getElem?_eq_some_iff.mp hu
  have hx : i < xs.length := by rw [t.length]; exact hi
  obtain ⟨w, hw, rw'⟩ := t.get (List.getElem?_eq_getElem hx)
  rw [hu] at hw
  cases hw
  exact ⟨_, List.getElem?_eq_getElem hx, fun G2 hh => ⟨hh, Later.refl _ _, rw'⟩⟩
theorem itr_tup {Ev : Mp → Hp → Mp → Hp → Prop} (r : Rls K M H xs vs) (h : ∀ M2 H2, Ev M H M2 H2 → SqT K H2 a vs ∧ Rls K M2 H2 xs vs) : ItR Ev K M H (Itt K a) xs := by
  refine ⟨_, _, by rw [r.length]; exact walk_tup (K := K) (a := a) (xs := vs), fun M2 H2 e => ⟨(h M2 H2 e).1, fun i u H' _ y => ?_⟩⟩
  obtain ⟨rfl, hu⟩ := y
  have t := (h M2 _ e).2
  obtain ⟨hi, _⟩ := List.getElem?_eq_some_iff.mp hu
  have hx : i < xs.length := by rw [t.length]; exact hi
  obtain ⟨w, hw, rw'⟩ := t.get (List.getElem?_eq_getElem hx)
  rw [hu] at hw
  cases hw
  exact ⟨_, List.getElem?_eq_getElem hx, fun G2 hh => ⟨hh, Later.refl _ _, rw'⟩⟩
end
/-- a value that is a sequence stays what it is: of a value, behind statements; of an operand, behind expressions -/
structure SeqAt (Ev : Mp → Hp → Mp → Hp → Prop) (K : PySem.W.Frag) (M : Mp) (H : Hp) (u : V) (xs : List Val) : Prop where
  go : ∃ a vs, u = .ref a ∧ Rls K M H xs vs ∧ ((∀ M2 H2, Ev M H M2 H2 → SqL K H2 a vs ∧ Rls K M2 H2 xs vs) ∨ ∀ M2 H2, Ev M H M2 H2 → SqT K H2 a vs ∧ Rls K M2 H2 xs vs)
theorem seqAt_since {K : PySem.W.Frag} {M : Mp} {H : Hp} {v : Val} {u : V} {xs : List Val} (r : Rl K M H v u) (e : seq? v = some xs) : SeqAt Since K M H u xs := by
  cases r with
  | tupT hx hr t => cases e; exact ⟨_, _, rfl, t, .inr fun M2 H2 l => ⟨.inl (l.rd hx hr).1, t.since l⟩⟩
  | tupK hk t => cases e; exact ⟨_, _, rfl, t, .inr fun M2 H2 l => ⟨hk.sq H2, t.since l⟩⟩
  | lst hx hr t => cases e; exact ⟨_, _, rfl, t, .inl fun M2 H2 l => ⟨.of (l.at_ hx hr).1, t.since l⟩⟩
  | frzT hx hr t => cases e; exact ⟨_, _, rfl, t, .inl fun M2 H2 l => ⟨.inl (l.rd hx hr).1, t.since l⟩⟩
  | frzK hk t => cases e; exact ⟨_, _, rfl, t, .inl fun M2 H2 l => ⟨hk.sq H2, t.since l⟩⟩
  | _ => cases e
theorem SeqAt.later {K : PySem.W.Frag} {M : Mp} {H : Hp} {u : V} {xs : List Val} (s : SeqAt Since K M H u xs) : SeqAt Later K M H u xs := by
  obtain ⟨a, vs, e, t, h⟩ := s.go
  exact ⟨a, vs, e, t, h.imp (fun k M2 H2 l => k M2 H2 l.since) fun k M2 H2 l => k M2 H2 l.since⟩
theorem seqAt_later {K : PySem.W.Frag} {M : Mp} {H : Hp} {v : Val} {u : V} {xs : List Val} (r : RlO K M H v u) (e : seq? v = some xs) : SeqAt Later K M H u xs := by
  rcases r with r | ⟨ys, vs, a, rfl, rfl, n, h, t⟩
  · exact (seqAt_since r e).later
  · cases e
    exact ⟨a, vs, rfl, t, .inl fun M2 H2 l => ⟨.of (l.keep a _ n h), t.later l⟩⟩
theorem SeqAt.it {Ev : Mp → Hp → Mp → Hp → Prop} (ev : ∀ M H, Ev M H M H) {K : PySem.W.Frag} {M : Mp} {H : Hp} {u : V} {xs : List Val} {R : It → Hp → Prop} (s : SeqAt Ev K M H u xs) (k : ∀ J, ItR Ev K M H J xs → R J H) :
    (∃ a vs, u = .ref a ∧ SqL K H a vs ∧ R (Itl K a) H) ∨ ∃ a vs, u = .ref a ∧ SqT K H a vs ∧ R (Itt K a) H := by
  obtain ⟨a, vs, e, t, h⟩ := s.go
  rcases h with h | h
  · exact .inl ⟨a, vs, e, (h M H (ev M H)).1, k _ (itr_list t h)⟩
  · exact .inr ⟨a, vs, e, (h M H (ev M H)).1, k _ (itr_tup t h)⟩
theorem seqI_cases {v : Val} {xs : List Val} (h : seqI? v = some xs) : (∃ z, v = .str z ∧ xs = signs z) ∨ seq? v = some xs := by
  cases v with
  | str z => exact .inl ⟨z, rfl, (Option.some.inj h).symm⟩
  | _ => exact .inr h
theorem pi_ofS {tg e : Expr} {i : E} (h : PE X e (tE X.K W (evE Γ i))) : PI X tg e (tI Since X.K W (evI Γ (.of i))) :=
  piImp (pi_seqS h) fun σ H RR ⟨M, G, s, hh, hst, hm⟩ => by
    rw [evI, R.wp_bind] at hm
    refine ⟨M, G, s, hh, hst, R.wp_mono hm (fun v G1 hm M1 u H1 l1 hh1 r1 => ?_) fun _ _ x => x⟩
    obtain ⟨xs, hc, k⟩ := R.wp_opt hm
    rcases seqI_cases hc with ⟨z, rfl, rfl⟩ | hc
    · cases r1
      exact .inr ⟨_, rfl, k M1 H1 _ l1 hh1 (itr_str z)⟩
    · exact .inl ((seqAt_since r1 hc).it Since.refl fun J it => k M1 H1 J l1 hh1 it)
theorem pi_ofL {tg e : Expr} {i : E} (h : PE X e (tO X.K W (evE Γ i))) : PI X tg e (tI Later X.K W (evI Γ (.of i))) :=
  piImp (pi_seqS h) fun σ H RR ⟨M, G, s, hh, hst, hm⟩ => by
    rw [evI, R.wp_bind] at hm
    refine ⟨M, G, s, hh, hst, R.wp_mono hm (fun v G1 hm M1 u H1 l1 hh1 r1 => ?_) fun _ _ x => x⟩
    obtain ⟨xs, hc, k⟩ := R.wp_opt hm
    rcases seqI_cases hc with ⟨z, rfl, rfl⟩ | hc
    · cases r1.d.str
      exact .inr ⟨_, rfl, k M1 H1 _ l1 hh1 (itr_str z)⟩
    · exact .inl ((seqAt_later r1 hc).it Later.refl fun J it => k M1 H1 J l1 hh1 it)
end Fx

namespace Fx
open PySem PySem.Spec PyProof.Rows L2
set_option maxHeartbeats 1000000 in
theorem meets_enumerate_newT (l : Addr) (items : Array Value) (n : Nat) (dct : Option Addr) (sl : Array (Option Value)) :
    Meets (Builtin.«enumerate.__new__» ⟨[.type "enumerate", .ref l], []⟩) (fun A R s => s.heap.get? l = some { cls := .type "tuple", dict := dct, data := .seq items n, slots := sl } ∧
      R (.ok (.ret (.ref (s.heap.push { cls := .type "tuple_iterator", data := .fields #[.ref l, .int 0 0] }).objs.size)))
        { s with heap := (s.heap.push { cls := .type "tuple_iterator", data := .fields #[.ref l, .int 0 0] }).push { cls := .type "enumerate", data := .fields #[.none, .bool false, .ref s.heap.objs.size, rawInt 0, .none, .none] } }) :=
  .of_wp fun prog w A R s h => by
    obtain ⟨hp, g, d, tk, os⟩ := s
    obtain ⟨hl, h⟩ := h
    have hL : hp.IsTuple l items := ⟨_, hl, rfl, n, rfl⟩
    have hsub := sub_enumerate
    wp_walk using AutoSeq1.wpAny_loadPart' hl, wpAny_pyIter_tuple hL
    refine wpAny_stack_any fun st => wpAny_pure ?_
    split
    · rename_i c _ _ _ _ _
      cases (c == Value.type "enumerate")
      · wp_walk using AutoSeq1.wpAny_loadPart' hl, wpAny_pyIter_tuple hL
        exact ⟨_, rfl, h⟩
      · wp_walk using AutoSeq1.wpAny_loadPart' hl, wpAny_pyIter_tuple hL
        exact ⟨_, rfl, h⟩
    · wp_walk using AutoSeq1.wpAny_loadPart' hl, wpAny_pyIter_tuple hL
      exact ⟨_, rfl, h⟩
section
variable {prog : Program} {w : World} {A : Around} {E : Value → Shared → Prop} {s : Shared}
theorem call_enumerate_tuple {l : Addr} {items : Array Value} {Q : Value → Shared → Prop} (hL : s.heap.IsTuple l items)
    (h : ∀ h', IsEnum h' (s.heap.objs.size + 1) s.heap.objs.size 0 .none → h'.IsTupleIter s.heap.objs.size l 0 → h'.objs.size = s.heap.objs.size + 2 →
      (∀ b o, s.heap.get? b = some o → h'.get? b = some o) → Q (.ref (s.heap.objs.size + 1)) { s with heap := h' }) :
    wpAny (model prog w) A (call (.type "enumerate") [.ref l]) Q E s := by
  obtain ⟨⟨c, dct, dt, sl⟩, hl, hc, n, hd⟩ := hL
  replace hc : c = .type "tuple" := hc
  replace hd : dt = .seq items n := hd
  subst hc hd
  refine callType_new F.called_enumerate (by decide) (F.typeCall_enumerate_1 _) (F.newCall_enumerate_1 _) (fun obj => F.args_object_init_2 obj _) F.entry_enumerate_new
    (meets_enumerate_newT l items n dct sl) ⟨hl, ?_⟩
  have hz : (s.heap.push { cls := .type "tuple_iterator", data := .fields #[.ref l, .int 0 0] }).objs.size = s.heap.objs.size + 1 := Heap.size_push ..
  show _ ∧ _
  rw [hz]
  have he : IsEnum ((s.heap.push { cls := .type "tuple_iterator", data := .fields #[.ref l, .int 0 0] }).push
      { cls := .type "enumerate", data := .fields #[.none, .bool false, .ref s.heap.objs.size, rawInt 0, .none, .none] }) (s.heap.objs.size + 1) s.heap.objs.size 0 .none := by
    have := Heap.get?_push_size (s.heap.push { cls := .type "tuple_iterator", data := .fields #[.ref l, .int 0 0] })
      (o := { cls := .type "enumerate", data := .fields #[.none, .bool false, .ref s.heap.objs.size, rawInt 0, .none, .none] }) rfl
    rw [hz] at this; exact this
  refine ⟨⟨_, he, rfl⟩, h _ he ⟨_, Heap.get?_push_of_some _ (Heap.get?_push_size _ rfl), rfl, rfl⟩ (by rw [Heap.size_push, hz]) fun b o x => Heap.get?_push_of_some _ (Heap.get?_push_of_some _ x)⟩
end
def IteT (K : PySem.W.Frag) (a : Addr) : L2.It :=
  ⟨fun i H => ∃ (xs : List V) (x : V), SqT K H a xs ∧ xs[i]? = some x, fun i H v H' => ∃ T x, v = .ref T ∧ H T = none ∧ H' = upd H T (.tup [.int (i : Nat), x]) ∧ ∀ xs, SqT K H a xs → xs[i]? = some x, fun i H => ∃ xs : List V, SqT K H a xs ∧ xs.length ≤ i⟩
theorem turn_enumT {P : Program} {w : World} {K : PySem.W.Frag} {elts : List Expr} {kk : Nat} {tpos : Pos} (a e it : Addr) (hae : a ≠ e) (hai : a ≠ it) :
    Turn P w K (.Tuple elts kk tpos) (IteT K a) [e, it] e (fun i h => (∃ old, IsEnum h e it ((i : Nat) : Int) old) ∧ h.IsTupleIter it a i ∧ e ≠ it) where
  mem := by simp
  obj := fun i h st b hb => by
    obtain ⟨⟨old, he⟩, ⟨o, ho, hc, hd⟩, _⟩ := st
    have e' : b = e ∨ b = it := by simpa using hb
    rcases e' with z | z
    · rw [z]; exact ⟨_, he, fun v q => nomatch q⟩
    · rw [z]; exact ⟨o, ho, fun v q => by rw [hd] at q; cases q⟩
  keep := fun i h h' st k => let ⟨⟨old, he⟩, hi, hne⟩ := st; ⟨⟨old, k e (by simp) _ he⟩, hi.at fun o q => k it (by simp) o q, hne⟩
  item := by
    intro X hP hw hK hc i pins s σ H E I hf st hg
    subst hP hw hK
    obtain ⟨⟨old, he⟩, hit, hne⟩ := st
    obtain ⟨xs, x, hq, hx⟩ := hg
    obtain ⟨its, rv, p, hz⟩ := I.tuple hq
    obtain ⟨u, hu, ru⟩ := rv.get hx
    have hel : e < s.heap.objs.size := Heap.lt_size he
    have hil : it < s.heap.objs.size := by obtain ⟨_, q, _⟩ := hit; exact Heap.lt_size q
    have hlt : i < its.toArray.size := by
      obtain ⟨z, _⟩ := List.getElem?_eq_some_iff.mp hu
      simpa using z
    refine wpAny_pyNext_enum_itemD (Draws.tuple (A := X.A.in1) (I.ok.hd hc) it a hai its.toArray) he ⟨hit, show s.heap.IsTuple a its.toArray from p⟩ hlt hne (by simp [hne, Ne.symm hae]) fun v h' tk hv ho hit' hT hsz hk => ?_
    have hv' : its[i]? = some v := by simpa using hv
    rw [hu] at hv'
    cases hv'
    refine ⟨_, rfl, wpAny_letOwnedTupleGo_enum (s := { s with heap := h', toks := tk + 1 }) ho fun h'' he' sb => ?_⟩
    have hT2 : h''.get? s.heap.objs.size = some { cls := .type "tuple", data := .seq #[.int i tk, u] } := (sb.2 _ (Nat.ne_of_gt hel)).trans hT
    have new : ObjOk X.prog X.w (upd H s.heap.objs.size (.tup [.int (i : Nat), x])) h'' s.heap.objs.size (.tup [.int (i : Nat), x]) :=
      ⟨by show 2 ≤ sizeLine; decide, [.int i tk, u], .cons ⟨_, rfl⟩ (.cons ru .nil), ⟨_, hT2, rfl, _, rfl⟩⟩
    have I1 : Inv X pins σ (upd H s.heap.objs.size (.tup [.int (i : Nat), x])) { s with heap := h'', toks := tk + 1 } :=
      I.turnedNew (ch := [e, it]) (fun b ob hb q => (sb.2 b (fun z => hb (by simp [z]))).trans (hk b ob (fun z => hb (by simp [z])) (fun z => hb (by simp [z])) q)) hf (Nat.le_refl _) new
    refine ⟨.ref s.heap.objs.size, _, I1, rfl, ⟨_, x, rfl, I.hok.fresh (Nat.le_refl _), rfl, fun ys hy => by rw [I.tuple_inj hy hq]; exact hx⟩, ⟨⟨u, ?_⟩, hit'.1.at fun o q => (sb.2 it (Ne.symm hne)).trans q, hne⟩, fun b hb => ?_⟩
    · have e1 : ((i + 1 : Nat) : Int) = (i : Int) + 1 := by omega
      rw [e1]; exact he'
    · have hb' : b < s.heap.objs.size := by
        have e' : b = e ∨ b = it := by simpa using hb
        rcases e' with z | z
        · rw [z]; exact hel
        · rw [z]; exact hil
      rw [upd_ne (Nat.ne_of_lt hb')]
      exact (hf b hb).1
  done := by
    intro X hP hw hK hc i pins s σ H E I hf st hg
    subst hP hw hK
    obtain ⟨⟨old, he⟩, hit, hne⟩ := st
    obtain ⟨xs, hq, hx⟩ := hg
    obtain ⟨its, rv, p, hz⟩ := I.tuple hq
    obtain ⟨f0, f1, f2, f3, f4, f5⟩ := hf it (by simp)
    have hl := rv.length
    have hxn : its.toArray[i]? = none := by
      have hx : xs.length ≤ i := hx
      simp; omega
    have hT : s.TypeIs (.ref e) "enumerate" := ⟨_, he, rfl⟩
    unfold pyNext
    refine wpAny_bind (wpAny_attempt (wpAny_callSpecial?_slot (name := Str.ofString "__next__") hT F.slot_enumerate_next
      (wpAny_call_entry F.slot_enumerate_next hT F.entry_enumerate_next ?_ (F.args_enumerate_next_1 _))))
    show wpAny _ _ (field (.ref e) 2 >>= _) _ _ _
    refine wpAny_bind (wpAny_field he rfl (x := .ref it) rfl ?_)
    refine wpAny_bind (wpAny_nextOf_tuple_end (I.ok.hd hc) hit (show s.heap.IsTuple a its.toArray from p) hxn fun h' x he' hx' => ?_)
    obtain ⟨o, ho, hcl⟩ := hx'
    refine wpAny_bind (wpAny_isInstance (T := "StopIteration") (b := true) ⟨o, ho, hcl⟩ isSubtype_stop ?_)
    exact wpAny_pure ⟨rfl, I.turned (t' := s.toks) (fun b o hb q => he' b o hb q) f0 f1 f3 f4 f5⟩
  self := fun A i s Q E st h => let ⟨⟨_, he⟩, _⟩ := st; wpAny_pyIter_enum he h
def iEnumA (K : PySem.W.Frag) (ta : L2.TA) : TI := fun σ H R => ta σ H fun vs H1 => ∃ a xs, vs = [.ref a] ∧ ((SqL K H1 a xs ∧ R (Ite K a) H1) ∨ (SqT K H1 a xs ∧ R (IteT K a) H1))
theorem pi_enumA {X : Cx} {e : Expr} {ta : L2.TA} {p pos tpos : Pos} {elts : List Expr} {kk : Nat} (hg : Gl X "enumerate") (hm : X.mg "enumerate" = none) (ha : PA X [e] ta) (hs : starEach [e] X.env = [(false, eval e X.env)]) :
    PI X (.Tuple elts kk tpos) (.Call (.Name "enumerate" p) [e] [] pos) (iEnumA X.K ta) := by
  refine ⟨fun pins s σ H R I h => ?_⟩
  refine Call_ (ld_blt I hg hm boot_enumerate (PyProof.Rows.callWith_type1 (thn (ha.run pos pins s σ H _ I h) fun us s1 ⟨vs, H1, I1, r1, q1⟩ => ?_) hs rfl))
  obtain ⟨a, xs, ex, q1⟩ := q1
  subst ex
  cases r1 with
  | cons r rr =>
    cases rr
    cases r
    have fp : ∀ b, b ∈ [s1.heap.objs.size + 1, s1.heap.objs.size] → FpOk X pins H1 b := fun b hb => by
      have e' : b = s1.heap.objs.size + 1 ∨ b = s1.heap.objs.size := by simpa using hb
      have hle : s1.heap.objs.size ≤ b := by
        rcases e' with z | z
        · rw [z]; exact Nat.le_succ _
        · rw [z]; exact Nat.le_refl _
      exact I1.fpOk hle (I1.hok.fresh hle)
    rcases q1 with ⟨hq, q⟩ | ⟨hq, q⟩
    · obtain ⟨its, rv, p', hz⟩ := I1.list hq
      refine call_enumerate_list p'.isList fun h' he hit hsz hk => wpAny_pyIter_enum he ?_
      have I2 : Inv X pins σ H1 { s1 with heap := h' } := I1.kept (t' := s1.toks) hk
      exact ⟨s1.heap.objs.size + 1, [s1.heap.objs.size + 1, s1.heap.objs.size], _, _, H1, rfl, I2, turn_enum a (s1.heap.objs.size + 1) s1.heap.objs.size, ⟨⟨.none, he⟩, hit, Nat.succ_ne_self _⟩, fp, q⟩
    · obtain ⟨its, rv, p', hz⟩ := I1.tuple hq
      have ha := p'.lt
      refine call_enumerate_tuple (show s1.heap.IsTuple a its.toArray from p') fun h' he hit hsz hk => wpAny_pyIter_enum he ?_
      have I2 : Inv X pins σ H1 { s1 with heap := h' } := I1.kept (t' := s1.toks) hk
      exact ⟨s1.heap.objs.size + 1, [s1.heap.objs.size + 1, s1.heap.objs.size], _, _, H1, rfl, I2, turn_enumT a (s1.heap.objs.size + 1) s1.heap.objs.size (Nat.ne_of_lt (Nat.lt_succ_of_lt ha)) (Nat.ne_of_lt ha), ⟨⟨.none, he⟩, hit, Nat.succ_ne_self _⟩, fp, q⟩
theorem walk_enumT {K : PySem.W.Frag} {a : Addr} {xs : List V} : L2.Walk (IteT K a) xs.length (fun H => SqT K H a xs) (YPair (fun i => some (.int (i : Nat))) (fun i => xs[i]?)) := by
  refine ⟨fun i _ hi q => ⟨xs, xs[i], q, by simp [hi]⟩, fun _ q => ⟨xs, q, Nat.le_refl _⟩, fun i H v H' _ q y => ?_⟩
  obtain ⟨T, x, h1, h2, h3, h4⟩ := y
  exact ⟨T, .int (i : Nat), x, h1, h2, h3, rfl, h4 xs q⟩
theorem walk_zipT {K : PySem.W.Frag} {a b : Addr} {xs ys : List V} {n : Nat} (hn : n = min xs.length ys.length) : L2.Walk (RZ.ItzT K a b) n (fun H => SqT K H a xs ∧ SqT K H b ys) (YPair (fun i => xs[i]?) (fun i => ys[i]?)) := by
  subst hn
  refine ⟨fun i _ hi q => ?_, fun _ q => ⟨xs, ys, q.1, q.2, by omega⟩, fun i H v H' _ q y => ?_⟩
  · have h1 : i < xs.length := by omega
    have h2 : i < ys.length := by omega
    exact ⟨xs, ys, xs[i], ys[i], q.1, q.2, by simp [h1], by simp [h2]⟩
  · obtain ⟨T, x, z, h1, h2, h3, h4, h5⟩ := y
    exact ⟨T, x, z, h1, h2, h3, h4 xs q.1, h5 ys q.2⟩
theorem walk_zipM {K : PySem.W.Frag} {a b : Addr} {xs ys : List V} {n : Nat} (hn : n = min xs.length ys.length) : L2.Walk (RJ.ItzM K a b) n (fun H => SqT K H a xs ∧ SqL K H b ys) (YPair (fun i => xs[i]?) (fun i => ys[i]?)) := by
  subst hn
  refine ⟨fun i _ hi q => ?_, fun _ q => ⟨xs, ys, q.1, q.2, by omega⟩, fun i H v H' _ q y => ?_⟩
  · have h1 : i < xs.length := by omega
    have h2 : i < ys.length := by omega
    exact ⟨xs, ys, xs[i], ys[i], q.1, q.2, by simp [h1], by simp [h2]⟩
  · obtain ⟨T, x, z, h1, h2, h3, h4, h5⟩ := y
    exact ⟨T, x, z, h1, h2, h3, h4 xs q.1, h5 ys q.2⟩
end Fx

namespace Fx
open PySem PySem.Spec PyProof.Rows L2
variable {X : Cx} {W : WX} {Γ : Calls} {Ev : Mp → Hp → Mp → Hp → Prop}
theorem rangeV_length : ∀ (n : Nat) (lo : Int), (rangeV lo n).length = n
  | 0, _ => rfl
  | n + 1, lo => by rw [rangeV, List.length_cons, rangeV_length n]
theorem rangeV_get : ∀ (n i : Nat) (lo : Int), i < n → (rangeV lo n)[i]? = some (.int (lo + i))
  | 0, _, _, h => absurd h (Nat.not_lt_zero _)
  | n + 1, 0, lo, _ => by simp [rangeV]
  | n + 1, i + 1, lo, h => by
    rw [rangeV, List.getElem?_cons_succ, rangeV_get n i (lo + 1) (by omega)]
    congr 2
    omega
theorem itr_range {K : PySem.W.Frag} {M : Mp} {H : Hp} (lo : Int) (n : Nat) : ItR Ev K M H (Itr lo n) (rangeV lo n) := by
  refine ⟨_, _, by rw [rangeV_length]; exact walk_range, fun M2 H2 e => ⟨trivial, fun i u H' hi y => ?_⟩⟩
  obtain ⟨rfl, rfl⟩ := y
  rw [rangeV_length] at hi
  exact ⟨_, rangeV_get n i lo hi, fun G2 hh => ⟨hh, Later.refl _ _, .int _⟩⟩
theorem rngK_some {lo hi : Int} {xs : List Val} (h : rngK lo hi = some xs) : (-p62 ≤ lo ∧ lo < p62 ∧ -p62 ≤ hi ∧ hi < p62) ∧ xs = rangeV lo (hi - lo).toNat := by
  unfold rngK at h
  split at h
  · rename_i z; cases h; exact ⟨z, rfl⟩
  · cases h
theorem pi_rng1 {tg a : Expr} {i : E} {p pos : Pos} (hg : Gl X "range") (hm : X.mg "range" = none) (ha : PE X a (tE X.K W (evE Γ i))) (hs : starEach [a] X.env = [(false, eval a X.env)]) : PI X tg (.Call (.Name "range" p) [a] [] pos) (tI Ev X.K W (evI Γ (.rng1 i))) :=
  piImp (pi_range1 hg hm (pa_cons ha pa_nil hs) hs) fun σ H RR ⟨M, G, s, hh, hst, hm⟩ => by
    rw [evI, R.wp_bind] at hm
    refine ⟨M, G, s, hh, hst, R.wp_mono hm (fun v G1 hm M1 u H1 l1 hh1 r1 => ?_) fun _ _ x => x⟩
    cases v with
    | int n =>
      cases r1
      obtain ⟨xs, hc, k⟩ := R.wp_opt hm
      obtain ⟨⟨_, _, z1, z2⟩, rfl⟩ := rngK_some hc
      have := itr_range (Ev := Ev) (K := X.K) (M := M1) (H := H1) 0 (n - 0).toNat
      rw [Int.sub_zero] at this k
      exact ⟨n, rfl, z1, z2, k M1 H1 _ l1 hh1 this⟩
    | _ => exact hm.elim
theorem pi_rng2 {tg a b : Expr} {i j : E} {p pos : Pos} (hg : Gl X "range") (hm : X.mg "range" = none) (ha : PE X a (tE X.K W (evE Γ i))) (hb : PE X b (tE X.K W (evE Γ j))) (hs : starEach [a, b] X.env = [(false, eval a X.env), (false, eval b X.env)]) (hs2 : starEach [b] X.env = [(false, eval b X.env)]) :
    PI X tg (.Call (.Name "range" p) [a, b] [] pos) (tI Ev X.K W (evI Γ (.rng2 i j))) :=
  piImp (pi_range2 hg hm (pa_cons ha (pa_cons hb pa_nil hs2) (by rw [hs, hs2])) hs hs2) fun σ H RR ⟨M, G, s, hh, hst, hm⟩ => by
    rw [evI, R.wp_bind] at hm
    refine ⟨M, G, s, hh, hst, R.wp_mono hm (fun v G1 hm M1 u H1 l1 hh1 r1 => ?_) fun _ _ x => x⟩
    rw [R.wp_bind] at hm
    refine ⟨M1, G1, s, hh1, hst.later hh.ok l1, R.wp_mono hm (fun v2 G2 hm M2 u2 H2 l2 hh2 r2 => ?_) fun _ _ x => x.later l1⟩
    cases v with
    | int m =>
      cases v2 with
      | int n =>
        cases r1
        cases r2
        obtain ⟨xs, hc, k⟩ := R.wp_opt hm
        obtain ⟨z, rfl⟩ := rngK_some hc
        exact ⟨m, n, rfl, z, k M2 H2 _ (l1.trans l2) hh2 (itr_range _ _)⟩
      | _ => exact hm.elim
    | _ => exact hm.elim
/-- a new pair at each turn -/
theorem itr_pair {K : PySem.W.Frag} {M : Mp} {H : Hp} {J : L2.It} {xs : List Val} {Gd : Hp → Prop} {f g : Nat → Option V} {fv gv : Nat → Option Val} (w : L2.Walk J xs.length Gd (YPair f g)) (hx : ∀ i, i < xs.length → ∃ x y, fv i = some x ∧ gv i = some y ∧ xs[i]? = some (.tup [x, y]))
    (h : ∀ M2 H2, Ev M H M2 H2 → Gd H2 ∧ (∀ i u x, f i = some u → fv i = some x → Rl K M2 H2 x u) ∧ ∀ i u x, g i = some u → gv i = some x → Rl K M2 H2 x u) : ItR Ev K M H J xs := by
  refine ⟨_, _, w, fun M2 H2 e => ⟨(h M2 H2 e).1, fun i u H' hi y => ?_⟩⟩
  obtain ⟨T, x, y, rfl, hT, rfl, hf, hg⟩ := y
  obtain ⟨a, b, ha, hb, hab⟩ := hx i hi
  obtain ⟨_, h1, h2⟩ := h M2 H2 e
  exact ⟨_, hab, fun G2 hh => ⟨hh.new hT, Later.new M2 hT, Rl.newTup hh hT (.cons (h1 i x a hf ha) (.cons (h2 i y b hg hb) .nil))⟩⟩
theorem zipV_length : ∀ (xs ys : List Val), (zipV xs ys).length = min xs.length ys.length
  | [], _ => by simp [zipV]
  | _ :: _, [] => by simp [zipV]
  | x :: xs, y :: ys => by rw [zipV, List.length_cons, zipV_length xs ys]; simp only [List.length_cons]; omega
theorem zipV_get : ∀ (xs ys : List Val) (i : Nat), i < (zipV xs ys).length → ∃ x y, xs[i]? = some x ∧ ys[i]? = some y ∧ (zipV xs ys)[i]? = some (.tup [x, y])
  | [], _, _, h => by simp [zipV] at h
  | _ :: _, [], _, h => by simp [zipV] at h
  | x :: xs, y :: ys, 0, _ => ⟨x, y, rfl, rfl, rfl⟩
  | x :: xs, y :: ys, i + 1, h => by
    obtain ⟨a, b, h1, h2, h3⟩ := zipV_get xs ys i (by rw [zipV, List.length_cons] at h; omega)
    exact ⟨a, b, by simpa using h1, by simpa using h2, by simpa [zipV] using h3⟩
theorem enumV_length : ∀ (xs : List Val) (k : Int), (enumV k xs).length = xs.length
  | [], _ => rfl
  | x :: xs, k => by rw [enumV, List.length_cons, List.length_cons, enumV_length xs]
theorem enumV_get : ∀ (xs : List Val) (k : Int) (i : Nat), i < xs.length → ∃ x, xs[i]? = some x ∧ (enumV k xs)[i]? = some (.tup [.int (k + i), x])
  | [], _, _, h => by simp at h
  | x :: xs, k, 0, _ => ⟨x, rfl, by simp [enumV]⟩
  | x :: xs, k, i + 1, h => by
    obtain ⟨a, h1, h2⟩ := enumV_get xs (k + 1) i (by simpa using h)
    refine ⟨a, by simpa using h1, ?_⟩
    rw [enumV, List.getElem?_cons_succ, h2]
    have : k + 1 + (i : Int) = k + ((i + 1 : Nat) : Int) := by omega
    rw [this]
theorem rls_at {K : PySem.W.Frag} {M : Mp} {H : Hp} {xs : List Val} {vs : List V} (t : Rls K M H xs vs) {i : Nat} {u : V} {x : Val} (hu : vs[i]? = some u) (hx : xs[i]? = some x) : Rl K M H x u := by
  obtain ⟨w, hw, r⟩ := t.get hx
  rw [hu] at hw
  cases hw
  exact r
/-- the two ways of a sequence, by its kind -/
theorem seq_tup {K : PySem.W.Frag} {M : Mp} {H : Hp} {u : V} {xs : List Val} (r : Rl K M H (.tup xs) u) : ∃ a vs, u = .ref a ∧ Rls K M H xs vs ∧ ∀ M2 H2, Since M H M2 H2 → SqT K H2 a vs ∧ Rls K M2 H2 xs vs := by
  cases r with
  | tupT hx hr t => exact ⟨_, _, rfl, t, fun M2 H2 l => ⟨.inl (l.rd hx hr).1, t.since l⟩⟩
  | tupK hk t => exact ⟨_, _, rfl, t, fun M2 H2 l => ⟨hk.sq H2, t.since l⟩⟩
theorem seq_lst {K : PySem.W.Frag} {M : Mp} {H : Hp} {u : V} {xs : List Val} (r : Rl K M H (.lst xs) u) : ∃ a vs, u = .ref a ∧ Rls K M H xs vs ∧ ∀ M2 H2, Since M H M2 H2 → SqL K H2 a vs ∧ Rls K M2 H2 xs vs := by
  cases r with
  | lst hx hr t => exact ⟨_, _, rfl, t, fun M2 H2 l => ⟨.of (l.at_ hx hr).1, t.since l⟩⟩
theorem pi_zipK {e e2 : Expr} {i j : E} {p pos tpos : Pos} {elts : List Expr} {kk : Nat} (hev : ∀ M H M2 H2, Ev M H M2 H2 → Since M H M2 H2) (evr : ∀ M H, Ev M H M H) (hg : Gl X "zip") (hm : X.mg "zip" = none) (ha : PE X e (tE X.K W (evE Γ i))) (hb : PE X e2 (tE X.K W (evE Γ j)))
    (hs : starEach [e, e2] X.env = (false, eval e X.env) :: starEach [e2] X.env) (hs2 : starEach [e2] X.env = (false, eval e2 X.env) :: starEach [] X.env) (hpl : (backTo pos (starEach [e2] X.env)).any (·.1) = false) :
    PI X (.Tuple elts kk tpos) (.Call (.Name "zip" p) [e, e2] [] pos) (tI Ev X.K W (evI Γ (.zip i j))) :=
  piImp (RJ.pi_zipB hg hm (pa_cons ha (pa_cons hb pa_nil hs2) hs) hs hpl) fun σ H RR ⟨M, G, s, hh, hst, hm⟩ => by
    rw [evI, R.wp_bind] at hm
    refine ⟨M, G, s, hh, hst, R.wp_mono hm (fun v G1 hm M1 u H1 l1 hh1 r1 => ?_) fun _ _ x => x⟩
    rw [R.wp_bind] at hm
    refine ⟨M1, G1, s, hh1, hst.later hh.ok l1, R.wp_mono hm (fun v2 G2 hm M2 u2 H2 l2 hh2 r2 => ?_) fun _ _ x => x.later l1⟩
    have r1' := r1.later l2
    cases v with
    | tup xs =>
      cases v2 with
      | tup ys =>
        obtain ⟨a, vs, rfl, t1, k1⟩ := seq_tup r1'
        obtain ⟨b, us, rfl, t2, k2⟩ := seq_tup r2
        refine ⟨a, b, vs, us, rfl, .inr (.inl ⟨(k1 M2 H2 (Since.refl _ _)).1, (k2 M2 H2 (Since.refl _ _)).1, hm M2 H2 _ (l1.trans l2) hh2 ?_⟩)⟩
        refine itr_pair (fv := fun i => xs[i]?) (gv := fun i => ys[i]?) (walk_zipT (K := X.K) (a := a) (b := b) (xs := vs) (ys := us) (by rw [zipV_length, t1.length, t2.length])) (fun i hi => zipV_get xs ys i hi) fun M3 H3 e => ?_
        have q1 := k1 M3 H3 (hev _ _ _ _ e)
        have q2 := k2 M3 H3 (hev _ _ _ _ e)
        exact ⟨⟨q1.1, q2.1⟩, fun i u x h1 h2 => rls_at q1.2 h1 h2, fun i u x h1 h2 => rls_at q2.2 h1 h2⟩
      | lst ys =>
        obtain ⟨a, vs, rfl, t1, k1⟩ := seq_tup r1'
        obtain ⟨b, us, rfl, t2, k2⟩ := seq_lst r2
        refine ⟨a, b, vs, us, rfl, .inr (.inr ⟨(k1 M2 H2 (Since.refl _ _)).1, (k2 M2 H2 (Since.refl _ _)).1, hm M2 H2 _ (l1.trans l2) hh2 ?_⟩)⟩
        refine itr_pair (fv := fun i => xs[i]?) (gv := fun i => ys[i]?) (walk_zipM (K := X.K) (a := a) (b := b) (xs := vs) (ys := us) (by rw [zipV_length, t1.length, t2.length])) (fun i hi => zipV_get xs ys i hi) fun M3 H3 e => ?_
        have q1 := k1 M3 H3 (hev _ _ _ _ e)
        have q2 := k2 M3 H3 (hev _ _ _ _ e)
        exact ⟨⟨q1.1, q2.1⟩, fun i u x h1 h2 => rls_at q1.2 h1 h2, fun i u x h1 h2 => rls_at q2.2 h1 h2⟩
      | _ => exact hm.elim
    | lst xs =>
      cases v2 with
      | lst ys =>
        obtain ⟨a, vs, rfl, t1, k1⟩ := seq_lst r1'
        obtain ⟨b, us, rfl, t2, k2⟩ := seq_lst r2
        refine ⟨a, b, vs, us, rfl, .inl ⟨(k1 M2 H2 (Since.refl _ _)).1, (k2 M2 H2 (Since.refl _ _)).1, hm M2 H2 _ (l1.trans l2) hh2 ?_⟩⟩
        refine itr_pair (fv := fun i => xs[i]?) (gv := fun i => ys[i]?) (walk_zip (K := X.K) (a := a) (b := b) (xs := vs) (ys := us) (by rw [zipV_length, t1.length, t2.length])) (fun i hi => zipV_get xs ys i hi) fun M3 H3 e => ?_
        have q1 := k1 M3 H3 (hev _ _ _ _ e)
        have q2 := k2 M3 H3 (hev _ _ _ _ e)
        exact ⟨⟨q1.1, q2.1⟩, fun i u x h1 h2 => rls_at q1.2 h1 h2, fun i u x h1 h2 => rls_at q2.2 h1 h2⟩
      | _ => exact hm.elim
    | _ => exact hm.elim
theorem pi_enumK {e : Expr} {i : E} {p pos tpos : Pos} {elts : List Expr} {kk : Nat} (hev : ∀ M H M2 H2, Ev M H M2 H2 → Since M H M2 H2) (hg : Gl X "enumerate") (hm : X.mg "enumerate" = none) (ha : PE X e (tE X.K W (evE Γ i))) (hs : starEach [e] X.env = [(false, eval e X.env)]) :
    PI X (.Tuple elts kk tpos) (.Call (.Name "enumerate" p) [e] [] pos) (tI Ev X.K W (evI Γ (.enum i))) :=
  piImp (pi_enumA hg hm (pa_cons ha pa_nil hs) hs) fun σ H RR ⟨M, G, s, hh, hst, hm⟩ => by
    rw [evI, R.wp_bind] at hm
    refine ⟨M, G, s, hh, hst, R.wp_mono hm (fun v G1 hm M1 u H1 l1 hh1 r1 => ?_) fun _ _ x => x⟩
    obtain ⟨ys, hc, k⟩ := R.wp_opt hm
    cases v with
    | tup xs =>
      cases hc
      obtain ⟨a, vs, rfl, t1, k1⟩ := seq_tup r1
      refine ⟨a, vs, rfl, .inr ⟨(k1 M1 H1 (Since.refl _ _)).1, k M1 H1 _ l1 hh1 ?_⟩⟩
      refine itr_pair (fv := fun i => some (.int (i : Nat))) (gv := fun i => xs[i]?) (by rw [enumV_length, t1.length]; exact walk_enumT (K := X.K) (a := a) (xs := vs)) (fun i hi => ?_) fun M3 H3 e => ?_
      · rw [enumV_length] at hi
        obtain ⟨x, h1, h2⟩ := enumV_get xs 0 i hi
        exact ⟨_, x, rfl, h1, by rw [h2, Int.zero_add]⟩
      · have q1 := k1 M3 H3 (hev _ _ _ _ e)
        refine ⟨q1.1, fun i u x h1 h2 => ?_, fun i u x h1 h2 => rls_at q1.2 h1 h2⟩
        cases h1; cases h2; exact .int _
    | lst xs =>
      cases hc
      obtain ⟨a, vs, rfl, t1, k1⟩ := seq_lst r1
      refine ⟨a, vs, rfl, .inl ⟨(k1 M1 H1 (Since.refl _ _)).1, k M1 H1 _ l1 hh1 ?_⟩⟩
      refine itr_pair (fv := fun i => some (.int (i : Nat))) (gv := fun i => xs[i]?) (by rw [enumV_length, t1.length]; exact walk_enum (K := X.K) (a := a) (xs := vs)) (fun i hi => ?_) fun M3 H3 e => ?_
      · rw [enumV_length] at hi
        obtain ⟨x, h1, h2⟩ := enumV_get xs 0 i hi
        exact ⟨_, x, rfl, h1, by rw [h2, Int.zero_add]⟩
      · have q1 := k1 M3 H3 (hev _ _ _ _ e)
        refine ⟨q1.1, fun i u x h1 h2 => ?_, fun i u x h1 h2 => rls_at q1.2 h1 h2⟩
        cases h1; cases h2; exact .int _
    | _ => cases hc
end Fx

namespace Fx
open PySem PySem.Spec PyProof.Rows L2
variable {X : Cx} {W : WX} {Γ : Calls} {K : PySem.W.Frag}
section
variable {M M' : Mp} {H H' : Hp} {s : Store} {st : L2.St}
theorem getD_set {α : Type} {l : List α} {i j : Nat} {a d : α} : (l.set i a).getD j d = if j = i ∧ i < l.length then a else l.getD j d := by
  by_cases h : j = i ∧ i < l.length
  · obtain ⟨rfl, h2⟩ := h
    rw [if_pos ⟨rfl, h2⟩, List.getD_eq_getElem?_getD, List.getElem?_set_self h2]; rfl
  · rw [if_neg h, List.getD_eq_getElem?_getD, List.getD_eq_getElem?_getD]
    by_cases e : j = i
    · subst e
      have h2 : ¬ j < l.length := fun z => h ⟨rfl, z⟩
      rw [List.getElem?_eq_none (by simpa using h2), List.getElem?_eq_none (by simpa using h2)]
    · rw [List.getElem?_set_ne (Ne.symm e)]
theorem StoreR.setVal (r : StoreR K M H s st) (i : Nat) {x : Val} {v : V} (rv : Rl K M H x v) : StoreR K M H (s.set i (.val x)) (st.set i (some v)) := by
  refine ⟨by rw [List.length_set, List.length_set, r.len], fun j => ?_⟩
  rw [getD_set]
  split
  · rename_i h
    obtain ⟨rfl, h2⟩ := h
    exact ⟨v, List.getElem?_set_self (by rw [← r.len]; exact h2), rv⟩
  · rename_i h
    have := r.at_ j
    by_cases e : j = i
    · subst e
      have h2 : ¬ j < s.length := fun z => h ⟨rfl, z⟩
      have e0 : s.getD j .no = .no := by rw [List.getD_eq_getElem?_getD, List.getElem?_eq_none (by simpa using h2)]; rfl
      rw [e0]
      trivial
    · rw [List.getElem?_set_ne (Ne.symm e)]; exact this
theorem StoreR.setNo (r : StoreR K M H s st) (i : Nat) : StoreR K M H (s.set i .no) (st.set i none) := by
  refine ⟨by rw [List.length_set, List.length_set, r.len], fun j => ?_⟩
  rw [getD_set]
  split
  · trivial
  · rename_i h
    have := r.at_ j
    by_cases e : j = i
    · subst e
      have h2 : ¬ j < s.length := fun z => h ⟨rfl, z⟩
      have e0 : s.getD j .no = .no := by rw [List.getD_eq_getElem?_getD, List.getElem?_eq_none (by simpa using h2)]; rfl
      rw [e0]
      trivial
    · rw [List.getElem?_set_ne (Ne.symm e)]; exact this
theorem StoreR.wipe (r : StoreR K M H s st) : ∀ ws : List Nat, StoreR K M H (wipeS s ws) (L2.wipe st ws)
  | [] => r
  | i :: ws => (r.wipe ws).setNo i
end
theorem wipe_set {st : L2.St} {i : Nat} {o : Option V} : ∀ {ws : List Nat}, L2.wipe (st.set i o) ws = if i ∈ ws then L2.wipe st ws else (L2.wipe st ws).set i o
  | [] => by simp [L2.wipe]
  | w :: ws => by
    rw [L2.wipe, L2.wipe, wipe_set (ws := ws)]
    by_cases h : i = w
    · subst h
      rw [if_pos (List.mem_cons_self)]
      split
      · rfl
      · rw [List.set_set]
    · by_cases h2 : i ∈ ws
      · rw [if_pos h2, if_pos (List.mem_cons_of_mem _ h2)]
      · rw [if_neg h2, if_neg (by simp [h, h2]), List.set_comm _ _ h]
theorem wipe_wipe {σ : L2.St} (vs : List Nat) : ∀ (ws : List Nat), (∀ i ∈ ws, i ∈ vs) → L2.wipe (L2.wipe σ ws) vs = L2.wipe σ vs
  | [], _ => rfl
  | w :: ws, h => by
    rw [L2.wipe, wipe_set, if_pos (h w List.mem_cons_self)]
    exact wipe_wipe vs ws fun i hi => h i (List.mem_cons_of_mem _ hi)
mutual
/-- the slots of a target -/
def tgS : Tg → List Nat
  | .name i => [i]
  | .tup ts => tgsS ts
def tgsS : Tgs → List Nat
  | .nil => []
  | .cons t ts => tgS t ++ tgsS ts
end
/-- a store of values changed at the slots ws alone -/
def Only (ws : List Nat) (st st' : L2.St) : Prop := ∀ vs, (∀ i ∈ ws, i ∈ vs) → L2.wipe st' vs = L2.wipe st vs
def gT (K : PySem.W.Frag) (t : Tg) : TG := fun v st H Q => ∃ M G s x s1, HeapR K M G H ∧ StoreR K M H s st ∧ Rl K M H x v ∧ setT t x s = some s1 ∧ ∀ st', StoreR K M H s1 st' → Only (tgS t) st st' → Q st' H
def gTs (K : PySem.W.Frag) (ts : Tgs) : TGs := fun vs st H Q => ∃ M G s xs s1, HeapR K M G H ∧ StoreR K M H s st ∧ Rls K M H xs vs ∧ setTs ts xs s = some s1 ∧ ∀ st', StoreR K M H s1 st' → Only (tgsS ts) st st' → Q st' H
theorem pgImp {tg : Expr} {t t' : TG} (h : PG X tg t) (i : ∀ v σ H Q, t' v σ H Q → t v σ H Q) : PG X tg t' := ⟨fun pins s σ H v u Q I r q => h.run pins s σ H v u Q I r (i v σ H Q q)⟩
theorem pgsImp {tg : List Expr} {t t' : TGs} (h : PGs X tg t) (i : ∀ v σ H Q, t' v σ H Q → t v σ H Q) : PGs X tg t' := ⟨fun pins s σ H v u Q I r q => h.run pins s σ H v u Q I r (i v σ H Q q)⟩
theorem pg_nameK {i : Nat} {x : Str} {pos : Pos} (hN : X.N.Nodup) (hi : X.N[i]? = some x) (hx : Loc X.env.scope x) (hf : X.fn x = true ∨ X.env.scope.names.lookup x = some .local) : PG X (.Name x pos) (gT X.K (.name i)) :=
  pgImp (pg_name hN hi hx hf) fun v σ H Q ⟨M, G, s, y, s1, hh, hst, r, e, k⟩ => by
    cases e
    exact k _ (hst.setVal i r) fun vs h => by rw [wipe_set, if_pos (h i (by simp [tgS]))]
theorem pgs_nilK : PGs X [] (gTs X.K .nil) :=
  pgsImp pgs_nil fun v σ H Q ⟨M, G, s, y, s1, hh, hst, r, e, k⟩ => by
    cases y with
    | nil => cases r; cases e; exact ⟨rfl, k σ hst fun _ _ => rfl⟩
    | cons _ _ => cases e
theorem pgs_consK {e : Expr} {es : List Expr} {t : Tg} {ts : Tgs} (h1 : PG X e (gT X.K t)) (h2 : PGs X es (gTs X.K ts)) (hs : (assignEach (e :: es) X.env).map (·.2) = assign e X.env :: (assignEach es X.env).map (·.2)) : PGs X (e :: es) (gTs X.K (.cons t ts)) :=
  pgsImp (pgs_cons h1 h2 hs) fun v σ H Q ⟨M, G, s, y, s1, hh, hst, r, e, k⟩ => by
    cases y with
    | nil => cases e
    | cons x xs =>
      cases r with
      | cons r rr =>
        rw [setTs] at e
        cases e1 : setT t x s with
        | none => rw [e1] at e; cases e
        | some s2 =>
          rw [e1] at e
          refine ⟨_, _, rfl, M, G, s, x, s2, hh, hst, r, e1, fun st1 hst1 o1 => ⟨M, G, s2, xs, s1, hh, hst1, rr, e, fun st2 hst2 o2 => k st2 hst2 fun vs h => ?_⟩⟩
          rw [o2 vs fun i hi => h i (by rw [tgsS]; exact List.mem_append_right _ hi), o1 vs fun i hi => h i (by rw [tgsS]; exact List.mem_append_left _ hi)]
def Tgs.len : Tgs → Nat
  | .nil => 0
  | .cons _ ts => ts.len + 1
theorem setTs_len : ∀ {ts : Tgs} {xs : List Val} {s s1 : Store}, setTs ts xs s = some s1 → xs.length = ts.len
  | .nil, [], _, _, _ => rfl
  | .nil, _ :: _, _, _, h => by rw [setTs] at h; cases h
  | .cons _ _, [], _, _, h => by rw [setTs] at h; cases h
  | .cons t ts, x :: xs, s, s1, h => by
    rw [setTs] at h
    cases e : setT t x s with
    | none => rw [e] at h; cases h
    | some s2 => rw [e] at h; rw [List.length_cons, setTs_len h]; rfl
theorem pg_tupK {es : List Expr} {k : Nat} {pos : Pos} {ts : Tgs} (hc : X.calm = true) (h : PGs X es (gTs X.K ts)) (hn : (assignEach es X.env).length = ts.len) (hst : (assignEach es X.env).findIdx? (·.1) = none) : PG X (.Tuple es k pos) (gT X.K (.tup ts)) :=
  pgImp (pg_tup hc h hn hst) fun v σ H Q ⟨M, G, s, y, s1, hh, hs, r, e, k⟩ => by
    cases y with
    | tup xs =>
      rw [setT] at e
      obtain ⟨a, vs, rfl, h2, t⟩ := r.tup
      exact ⟨a, vs, rfl, h2, by rw [← t.length, setTs_len e], M, G, s, xs, s1, hh, hs, t, e, fun st' q o => k st' q fun vs h => o vs (by rw [tgS] at h; exact h)⟩
    | _ => cases e
/-- no exception is looked for -/
def WF : WX := fun _ _ _ _ => False
theorem R.wp_calm {α : Type} {r : R α} {k : α → Heap → Prop} {x : Exc → Heap → Prop} (h : r.calm.wp k x) : r.wp k fun _ _ => False := by
  cases r <;> exact h
section
variable {M M1 : Mp} {H H1 : Hp} {G : Heap} {D : Addr} {o o' : HO}
/-- a list of one's own, new -/
theorem later_add (ok : MpOk M H) (hD : H D = none) : Later M H (M.add D) (upd H D o) := by
  refine ⟨⟨[], by simp [Mp.add], fun _ h => nomatch h⟩, rfl, fun _ h => .inl h, fun a h => h.imp id fun e => by rw [e]; exact hD, fun a ob _ h => ?_, fun a ob h => ?_⟩
  · rw [upd_ne (ne_of_none h hD)]; exact h
  · exact ⟨ob, by rw [upd_ne (ne_of_none h hD)]; exact h⟩
/-- .. written -/
theorem heap_own (hh : HeapR K M G H) (hx : M.xo D) : HeapR K M G (upd H D o) ∧ Ext M H M (upd H D o) := by
  have ext : Ext M H M (upd H D o) := ⟨⟨[], by simp⟩, fun _ h => .inl h, fun a ob h e => by rw [upd_ne (fun z => h (.inr (.inr (by rw [z]; exact hx))))]; exact e⟩
  have ok := hh.ok
  refine ⟨⟨⟨ok.nodup, ok.d1, ok.d2, ok.d3, ok.oin, fun i a h => ?_, fun a h => ?_⟩, hh.len, fun n a ob h1 h2 => ?_⟩, ext⟩
  · by_cases e : a = D
    · exact ⟨o, by rw [e]; exact upd_same⟩
    · obtain ⟨o', z⟩ := ok.oth i a h
      exact ⟨o', by rw [upd_ne e]; exact z⟩
  · by_cases e : a = D
    · exact ⟨o, by rw [e]; exact upd_same⟩
    · obtain ⟨o', z⟩ := ok.xth a h
      exact ⟨o', by rw [upd_ne e]; exact z⟩
  · have na : a ≠ D := fun z => ok.d2 D hx (by rw [← z]; exact List.mem_of_getElem? h1)
    have := hh.obj n a ob h1 h2
    cases ob with
    | dct ks ys => obtain ⟨us, e, hl, t⟩ := this; exact ⟨us, by rw [upd_ne na]; exact e, hl, t.ext ext⟩
    | tab f => obtain ⟨h0, ps, e, t⟩ := this; exact ⟨h0, ps, by rw [upd_ne na]; exact e, t.ext ext⟩
    | lst ys => obtain ⟨us, e, t⟩ := this; exact ⟨us, by rw [upd_ne na]; exact e, t.ext ext⟩
theorem later_own (l : Later M H M1 H1) (hD : H D = none) : Later M H M1 (upd H1 D o) :=
  ⟨l.pre, l.ow, l.xo, l.xo', fun a ob h e => by rw [upd_ne (ne_of_none e hD)]; exact l.keep a ob h e, fun a ob e => by
    obtain ⟨o', z⟩ := l.there a ob e
    exact ⟨o', by rw [upd_ne (ne_of_none e hD)]; exact z⟩⟩
theorem StoreR.ext_own {s : Store} {st : L2.St} (r : StoreR K M H s st) (ok : MpOk M H) (e : Ext M H M (upd H D o)) (hx : M.xo D) (hno : ∀ i, s.getD i .no ≠ .no → ∀ xs, s.getD i .no = .frz xs → ∀ a, st[i]? = some (some (.ref a)) → a ≠ D) : StoreR K M (upd H D o) s st := ⟨r.len, fun i => by
  have h := r.at_ i
  have h2 := hno i
  revert h h2
  cases s.getD i .no with
  | no => exact fun _ _ => trivial
  | val v => exact fun ⟨u, e1, q⟩ _ => ⟨u, e1, q.ext e⟩
  | own xs => exact fun ⟨a, vs, e1, w, q, t⟩ _ => ⟨a, vs, e1, w, by rw [upd_ne (fun z => ok.d3 i a w (by rw [z]; exact hx))]; exact q, t.ext e⟩
  | frz xs => exact fun ⟨a, vs, e1, w, q, t⟩ h => ⟨a, vs, e1, w, by rw [upd_ne (h (fun z => nomatch z) xs rfl a e1)]; exact q, t.ext e⟩⟩
end
/-- the list that a comprehension makes -/
structure CompAt (K : PySem.W.Frag) (M1 : Mp) (H1 : Hp) (D : Addr) (M2 : Mp) (G2 : Heap) (H2 : Hp) (acc : List Val) (accV : List V) : Prop where
  l : Later M1 H1 M2 H2
  xD : M2.xo D
  hh : HeapR K M2 G2 H2
  at_ : H2 D = some (.lst accV)
  rs : Rls K M2 H2 acc accV
theorem CompAt.more {M1 M2 M3 : Mp} {H1 H2 H3 : Hp} {D : Addr} {G2 G3 : Heap} {acc : List Val} {accV : List V} (c : CompAt K M1 H1 D M2 G2 H2 acc accV) (l : Later M2 H2 M3 H3) (hh : HeapR K M3 G3 H3) : CompAt K M1 H1 D M3 G3 H3 acc accV :=
  ⟨c.l.trans l, l.xo D c.xD, hh, l.keep D _ (c.hh.ok.d2 D c.xD) c.at_, c.rs.later l⟩
theorem CompAt.app {M1 M2 : Mp} {H1 H2 : Hp} {D : Addr} {G2 : Heap} {acc : List Val} {accV : List V} {y : Val} {u : V} (c : CompAt K M1 H1 D M2 G2 H2 acc accV) (hD : H1 D = none) (r : Rl K M2 H2 y u) : CompAt K M1 H1 D M2 G2 (upd H2 D (.lst (accV ++ [u]))) (acc ++ [y]) (accV ++ [u]) :=
  ⟨later_own c.l hD, c.xD, (heap_own c.hh c.xD).1, upd_same, (c.rs.append (.cons r .nil)).ext (heap_own c.hh c.xD).2⟩
theorem CompAt.new {M1 M2 : Mp} {H1 H2 : Hp} {D : Addr} {G2 : Heap} {acc : List Val} {accV : List V} (c : CompAt K M1 H1 D M2 G2 H2 acc accV) (ok : MpOk M1 H1) (hD : H1 D = none) : ∃ M', Later M1 H1 M' H2 ∧ NewL K M' G2 H2 D acc accV := by
  let M' : Mp := ⟨M2.φ, M2.ow, fun a => M2.xo a ∧ a ≠ D⟩
  have e : M'.add D = M2 := by
    have : (fun b => (M2.xo b ∧ b ≠ D) ∨ b = D) = M2.xo := by
      funext b
      by_cases h : b = D
      · subst h; exact propext ⟨fun _ => c.xD, fun _ => .inr rfl⟩
      · exact propext ⟨fun z => z.elim (·.1) fun q => absurd q h, fun z => .inl ⟨z, h⟩⟩
    show Mp.mk M2.φ M2.ow (fun b => (M2.xo b ∧ b ≠ D) ∨ b = D) = M2
    rw [this]
  refine ⟨M', ⟨c.l.pre, c.l.ow, fun a h => ⟨c.l.xo a h, fun z => ?_⟩, fun a h => c.l.xo' a h.1, c.l.keep, c.l.there⟩, by rw [e]; exact c.hh, c.at_, by rw [e]; exact c.rs, fun z => z.2 rfl⟩
  obtain ⟨o, q⟩ := ok.xth a h
  rw [z, hD] at q; cases q
/-- a frozen list of the frame is not the comprehension's -/
theorem frz_ne {M1 M2 : Mp} {H1 H2 : Hp} {D : Addr} {s : Store} {st : L2.St} (r : StoreR K M1 H1 s st) (hD : H1 D = none) : ∀ i, s.getD i .no ≠ .no → ∀ xs, s.getD i .no = .frz xs → ∀ a, st[i]? = some (some (.ref a)) → a ≠ D := fun i _ xs e a ha z => by
  have h := r.at_ i
  rw [e] at h
  obtain ⟨b, vs, e1, _, q, _⟩ := h
  rw [ha] at e1
  cases e1
  rw [z, hD] at q
  cases q
/-- one turn of a comprehension -/
theorem compR_cons (tg : Val → Store → Option Store) (c e : Store → Heap → R Val) (x : Val) (xs : List Val) (s : Store) (G : Heap) :
    compR tg c e (x :: xs) s G = (R.opt (tg x s) G).bind fun s1 G1 => (c s1 G1).bind fun cv G2 => (R.opt (truthV (rd G2 cv)) G2).bind fun b G3 =>
      if b then (e s1 G3).bind fun v G4 => (compR tg c e xs s G4).bind fun vs G5 => .ok (v :: vs) G5 else compR tg c e xs s G3 := rfl
/-- tests of a clause -/
def tTs (K : PySem.W.Frag) (W : WX) (m : Store → Heap → R Val) : L2.TT := tT K W m
theorem pts_noneK : PTs X [] (tT K W (evE Γ (.con (.bool true)))) :=
  ⟨fun pins s σ H Q I ⟨M, G, st, hh, hst, hm⟩ => pts_nil.run pins s σ H Q I (by
    rw [evE] at hm
    obtain ⟨b, e, k⟩ := hm
    cases e
    exact k M H (Later.refl M H) hh)⟩
theorem pe_compF {elt tg iter : Expr} {ifs : List Expr} {scope : Scope} {own : List (Str × Nat)} {pos : Pos} {t : Tg} {it : Itx} {c e : E} (hc : X.calm = true) (hN : X.N.Nodup) (hi : PI X tg iter (tI Later X.K W (evI Γ it))) (ok : BlkOk X.N X.env.scope scope own) (hts : ∀ i ∈ tgS t, i ∈ own.map (·.2))
    (hg : ∀ (s : Shared) (H : Hp) (C : Addr) (cl : List (Str × Addr)) (fp : List Addr), PG (X.blk s H scope (compEnvC scope cl C X.env) fp) tg (gT X.K t)) (ht : ∀ (s : Shared) (H : Hp) (C : Addr) (cl : List (Str × Addr)) (fp : List Addr), PTs (X.blk s H scope (compEnvC scope cl C X.env) fp) ifs (tT X.K WF (evE Γ c)))
    (he : ∀ (s : Shared) (H : Hp) (C : Addr) (cl : List (Str × Addr)) (fp : List Addr), PE (X.blk s H scope (compEnvC scope cl C X.env) fp) elt (tE X.K WF (evE Γ e))) (hs : ∀ x, foldedSetIterable iter X.env x = pure x) (Q' : L2.VK → Prop) (σ : L2.St) (H : Hp) (Q : L2.VK)
    (h : ∃ M G s, HeapR X.K M G H ∧ StoreR X.K M H s σ ∧ (evE Γ (.comp (own.map (·.2)) t it c e) s G).wp (fun v G' => ∃ xs, v = .lst xs ∧ ∀ M' a vs H', Later M H M' H' → H a = Option.none → NewL X.K M' G' H' a xs vs → Q (.ref a) H') (XW X.K W M H σ)) :
    tLc (tI Later X.K W (evI Γ it)) (gT X.K t) (tT X.K WF (evE Γ c)) (tE X.K WF (evE Γ e)) (own.map (·.2)) σ H Q := by
  obtain ⟨M, G, s, hh, hst, hm⟩ := h
  rw [evE, R.wp_bind] at hm
  refine ⟨M, G, s, hh, hst, R.wp_mono hm (fun xs G1 hm M1 H1 J l1 hh1 itr D hD => ?_) fun _ _ x => x⟩
  have hst1 := hst.later hh.ok l1
  have hm' : ¬ lineN < xs.length ∧ (compR (setT t) (evE Γ c) (evE Γ e) xs (wipeS s (own.map (·.2))) G1).wp (fun vs G2 => ∀ M' a us H', Later M H M' H' → H a = Option.none → NewL X.K M' G2 H' a vs us → Q (.ref a) H') fun _ _ => False := by
    split at hm
    · exact hm.elim
    · rename_i hz
      refine ⟨hz, ?_⟩
      have h2 := R.wp_calm hm
      rw [R.wp_bind] at h2
      exact R.wp_mono h2 (fun vs G2 ⟨ys, e, k⟩ => by cases e; exact k) fun _ _ x => x
  obtain ⟨hz, hm⟩ := hm'
  obtain ⟨Gd, Y, wk, hY⟩ := itr
  generalize hws : own.map (·.2) = ws at *
  let Pv : Nat → Hp → Prop := fun i Hc => ∃ M2 G2 acc accV, CompAt X.K M1 H1 D M2 G2 Hc acc accV ∧ acc.length ≤ i ∧
    (compR (setT t) (evE Γ c) (evE Γ e) (xs.drop i) (wipeS s ws) G2).wp (fun vs G2 => ∀ M' a us H', Later M H M' H' → H a = Option.none → NewL X.K M' G2 H' a (acc ++ vs) us → Q (.ref a) H') fun _ _ => False
  have hHD : H D = none := l1.since.gone hD
  refine lc_it wk Pv ?_ ?_ ?_ ?_
  · exact ⟨M1.add D, G1, [], [], ⟨later_add hh1.ok hD, .inr rfl, hh1.add hD _, upd_same, .nil⟩, Nat.zero_le _, by rw [List.drop_zero]; exact hm⟩
  · rintro i Hc _ ⟨M2, G2, acc, accV, ca, _, _⟩
    exact (hY M2 Hc ca.l).1
  · rintro i x Hc H' hi ⟨M2, G2, acc, accV, ca, hl, hr⟩ y
    obtain ⟨v, hv, hk⟩ := (hY M2 Hc ca.l).2 i x H' hi y
    obtain ⟨hh2, l2, rv⟩ := hk G2 ca.hh
    have hd : xs.drop i = v :: xs.drop (i + 1) := by
      obtain ⟨h1, h2⟩ := List.getElem?_eq_some_iff.mp hv
      rw [List.drop_eq_getElem_cons h1, h2]
    rw [hd, compR_cons, R.wp_bind] at hr
    obtain ⟨s1, e1, hr⟩ := R.wp_opt hr
    have ca2 := ca.more l2 hh2
    have hst2 : StoreR X.K M2 H' (wipeS s ws) (L2.wipe σ ws) := (hst1.later hh1.ok ca2.l).wipe ws
    refine ⟨M2, G2, wipeS s ws, v, s1, hh2, hst2, rv, e1, fun σ2 hst3 on => ⟨?_, M2, G2, s1, hh2, hst3, ?_⟩⟩
    · rw [on ws hts]
      exact wipe_wipe ws ws fun _ h => h
    · rw [R.wp_bind] at hr
      refine R.wp_mono hr (fun cv G3 hr => ?_) fun _ _ x => x.elim
      rw [R.wp_bind] at hr
      obtain ⟨b, hb, hr⟩ := R.wp_opt hr
      refine ⟨b, hb, fun M3 H3 l3 hh3 => ?_⟩
      have ca3 := ca2.more l3 hh3
      show if b = true then tE X.K WF (evE Γ e) σ2 H3 (fun y H4 => ∃ acc, H4 D = some (HO.lst acc) ∧ acc.length < sizeLine ∧ Pv (i + 1) (upd H4 D (HO.lst (acc ++ [y])))) else Pv (i + 1) H3
      cases b with
      | false =>
        rw [if_neg Bool.false_ne_true] at hr ⊢
        exact ⟨M3, G3, acc, accV, ca3, Nat.le_succ_of_le hl, hr⟩
      | true =>
        rw [if_pos rfl] at hr ⊢
        rw [R.wp_bind] at hr
        refine ⟨M3, G3, s1, hh3, hst3.later hh2.ok l3, R.wp_mono hr (fun yv G4 hr M4 u H4 l4 hh4 r4 => ?_) fun _ _ x => x.elim⟩
        have ca4 := ca3.more l4 hh4
        refine ⟨accV, ca4.at_, ?_, M4, G4, acc ++ [yv], accV ++ [u], ca4.app hD r4, by rw [List.length_append]; simp; omega, ?_⟩
        · rw [← ca4.rs.length]
          have : xs.length ≤ lineN := Nat.le_of_not_lt hz
          rw [lineN_eq] at this
          omega
        · rw [R.wp_bind] at hr
          exact R.wp_mono hr (fun vs G5 k => by
            have k : ∀ M' a us H', Later M H M' H' → H a = Option.none → NewL X.K M' G5 H' a (acc ++ (yv :: vs)) us → Q (.ref a) H' := k
            rw [show acc ++ [yv] ++ vs = acc ++ (yv :: vs) by simp]; exact k) fun _ _ x => x
  · rintro Hc ⟨M2, G2, acc, accV, ca, _, hr⟩
    rw [List.drop_length] at hr
    have hr : ∀ M' a us H', Later M H M' H' → H a = Option.none → NewL X.K M' G2 H' a (acc ++ []) us → Q (.ref a) H' := hr
    rw [List.append_nil] at hr
    obtain ⟨M', l', n⟩ := ca.new hh1.ok hD
    exact hr M' D accV Hc (l1.trans l') hHD n
end Fx

namespace Fx
open PySem PySem.Spec PyProof.Rows L2
variable {X : Cx} {W : WX} {Γ : Calls} {K : PySem.W.Frag}
/-- a returned value: the frame's own lists are given away -/
def Mp.noOw (M : Mp) : Mp := ⟨M.φ, fun _ => none, M.xo⟩
def RlR (K : PySem.W.Frag) (M : Mp) (H : Hp) (v : Val) (u : V) : Prop := Rl K M.noOw H v u
theorem noOw_ext {M : Mp} {H : Hp} : Ext M H M.noOw H := Ext.swap rfl fun a h => by
  rcases h with h | ⟨i, h⟩ | h
  · exact .inl h
  · cases h
  · exact .inr (.inr h)
/-- what is wanted behind a statement -/
def nxP (K : PySem.W.Frag) (M : Mp) (H : Hp) (P : L2.St → Hp → Prop) (s' : Store) (G' : Heap) : Prop := ∀ M' H' st', Since M H M' H' → HeapR K M' G' H' → StoreR K M' H' s' st' → P st' H'
def rtP (K : PySem.W.Frag) (M : Mp) (H : Hp) (P : VK) (v : Val) (G' : Heap) : Prop := ∀ M' H' u, Since M H M' H' → HeapR K M' G' H' → RlR K M' H' v u → P u H'
def xS (K : PySem.W.Frag) (W : WX) (M : Mp) (H : Hp) (e : Exc) (s' : Store) (G' : Heap) : Prop := ∀ M' H' st' cls d, Since M H M' H' → HeapR K M' G' H' → StoreR K M' H' s' st' → ExcR K M' H' e cls d → W cls d st' H'
def Post (K : PySem.W.Frag) (W : WX) (M : Mp) (H : Hp) (D : Ends) : RS → Prop
  | .no => False
  | .next s G => nxP K M H D.nx s G
  | .ret v G => rtP K M H D.rt v G
  | .brk s G => nxP K M H D.bk s G
  | .cont s G => nxP K M H D.ct s G
  | .exc e s G => xS K W M H e s G
section
variable {M M1 : Mp} {H H1 : Hp} {D D' : Ends}
theorem nxP.mono {P : L2.St → Hp → Prop} {s : Store} {G : Heap} (h : nxP K M H P s G) (l : Since M H M1 H1) : nxP K M1 H1 P s G := fun M' H' st' l2 => h M' H' st' (l.trans l2)
theorem rtP.mono {P : VK} {v : Val} {G : Heap} (h : rtP K M H P v G) (l : Since M H M1 H1) : rtP K M1 H1 P v G := fun M' H' u l2 => h M' H' u (l.trans l2)
theorem xS.mono {e : Exc} {s : Store} {G : Heap} (h : xS K W M H e s G) (l : Since M H M1 H1) : xS K W M1 H1 e s G := fun M' H' st' cls d l2 => h M' H' st' cls d (l.trans l2)
theorem Post.mono {r : RS} (h : Post K W M H D r) (l : Since M H M1 H1) : Post K W M1 H1 D r := by
  cases r with
  | no => exact h
  | next s G => exact nxP.mono h l
  | ret v G => exact rtP.mono h l
  | brk s G => exact nxP.mono h l
  | cont s G => exact nxP.mono h l
  | exc e s G => exact xS.mono h l
theorem xS.of {s : Store} {st : L2.St} {G G' : Heap} {e : Exc} (x : xS K W M H e s G') (hh : HeapR K M G H) (hst : StoreR K M H s st) : XW K W M H st e G' :=
  fun M' cls d H' l hh' r => x M' H' st cls d l.since hh' (hst.later hh.ok l) r
/-- an expression, then -/
theorem Post.wp {α : Type} {m : R α} {s : Store} {st : L2.St} {G : Heap} {f : α → Heap → RS} (hh : HeapR K M G H) (hst : StoreR K M H s st) (h : Post K W M H D (m.thenS s f)) : m.wp (fun a G' => Post K W M H D (f a G')) (XW K W M H st) := by
  cases m with
  | no => exact h
  | ok a G' => exact h
  | exc e G' => exact xS.of h hh hst
theorem Post.opt {α : Type} {o : Option α} {G : Heap} {s : Store} {f : α → Heap → RS} (h : Post K W M H D ((R.opt o G).thenS s f)) : ∃ a, o = some a ∧ Post K W M H D (f a G) := by
  cases o with
  | none => exact h.elim
  | some a => exact ⟨a, rfl, h⟩
end
def tS (K : PySem.W.Frag) (W : WX) (m : Store → Heap → RS) : L2.TS := fun D st H => ∃ M G s, HeapR K M G H ∧ StoreR K M H s st ∧ Post K W M H D (m s G)
theorem ps_passK {pos : Pos} : PS X (.Pass pos) (tS K W (evS Γ .pass)) := psImp ps_pass fun D σ H ⟨M, G, s, hh, hst, h⟩ => by
  rw [evS] at h
  exact h M H σ (Since.refl _ _) hh hst
theorem ps_breakK {pos : Pos} : PS X (.Break pos) (tS K W (evS Γ .brk)) := psImp ps_break fun D σ H ⟨M, G, s, hh, hst, h⟩ => by
  rw [evS] at h
  exact h M H σ (Since.refl _ _) hh hst
theorem ps_continueK {pos : Pos} : PS X (.Continue pos) (tS K W (evS Γ .cont)) := psImp ps_continue fun D σ H ⟨M, G, s, hh, hst, h⟩ => by
  rw [evS] at h
  exact h M H σ (Since.refl _ _) hh hst
theorem ps_retK {e : Expr} {i : E} {pos : Pos} (he : PE X e (tE K W (evE Γ i))) : PS X (.Return (some e) pos) (tS K W (evS Γ (.ret i))) := psImp (ps_ret he) fun D σ H ⟨M, G, s, hh, hst, h⟩ => by
  rw [evS] at h
  exact ⟨M, G, s, hh, hst, R.wp_mono (Post.wp hh hst h) (fun v G1 k M1 u H1 l1 hh1 r1 => k M1 H1 u l1.since hh1 (r1.ext noOw_ext)) fun _ _ x => x⟩
theorem ps_retNK {pos : Pos} : PS X (.Return none pos) (tS K W (evS Γ .retN)) := psImp ps_retN fun D σ H ⟨M, G, s, hh, hst, h⟩ => by
  rw [evS] at h
  exact h M H .non (Since.refl _ _) hh .nn
theorem ps_retOK {k : Nat} {x : Str} {p pos : Pos} (hN : X.N[k]? = some x) (hv : Vis X.env.scope x) (hd : (x == ("__debug__" : Str)) = false) (hcd : (x == ("__classdict__" : Str)) = false) : PS X (.Return (some (.Name x p)) pos) (tS K W (evS Γ (.retO k))) :=
  psImp (ps_ret (pe_var hN hv hd hcd)) fun D σ H ⟨M, G, s, hh, hst, h⟩ => by
    rw [evS] at h
    have q := hst.at_ k
    revert h q
    cases s.getD k .no with
    | own xs =>
      intro h ⟨a, vs, e, o, ha, t⟩
      refine ⟨_, e, h M H _ (Since.refl _ _) hh (.lst (fun z => ?_) ha (t.ext noOw_ext))⟩
      rcases z with z | ⟨_, z⟩ | z
      · exact hh.ok.d1 k a o z
      · cases z
      · exact hh.ok.d3 k a o z
    | _ => exact fun h _ => h.elim
theorem ps_expK {e : Expr} {i : E} {pos : Pos} (he : PE X e (tE K W (evE Γ i))) (hs : swapsWith e none pos.line X.env = pure false) : PS X (.Expr e pos) (tS K W (evS Γ (.exp i))) := psImp (ps_expr he hs) fun D σ H ⟨M, G, s, hh, hst, h⟩ => by
  rw [evS] at h
  exact ⟨M, G, s, hh, hst, R.wp_mono (Post.wp hh hst h) (fun v G1 k M1 u H1 l1 hh1 r1 => k M1 H1 σ l1.since hh1 (hst.later hh.ok l1)) fun _ _ x => x⟩
theorem ps_docK {x : Str} {j : Nat} {pos pos' : Pos} : PS X (.Expr (.Constant (.str x) j pos) pos') (tS K W (evS Γ .pass)) := psImp ps_doc fun D σ H ⟨M, G, s, hh, hst, h⟩ => by
  rw [evS] at h
  exact h M H σ (Since.refl _ _) hh hst
theorem pss_nilK : PSs X [] (tS K W (evSs Γ .nil)) := pssImp pss_nil fun D σ H ⟨M, G, s, hh, hst, h⟩ => by
  rw [evSs] at h
  exact h M H σ (Since.refl _ _) hh hst
theorem Post.seq {M : Mp} {H : Hp} {D : Ends} {m : RS} {f : Store → Heap → RS} (h : Post K W M H D (m.seq f)) : Post K W M H { D with nx := tS K W f D } m := by
  cases m with
  | no => exact h
  | next s G => exact fun M' H' st' l hh hst => ⟨M', G, s, hh, hst, Post.mono (r := f s G) h l⟩
  | ret v G => exact h
  | brk s G => exact h
  | cont s G => exact h
  | exc e s G => exact h
theorem pss_consK {st : Stmt} {rest : List Stmt} {a : S} {b : Ss} (h1 : PS X st (tS K W (evS Γ a))) (h2 : PSs X rest (tS K W (evSs Γ b))) : PSs X (st :: rest) (tS K W (evSs Γ (.cons a b))) := pssImp (pss_cons h1 h2) fun D σ H ⟨M, G, s, hh, hst, h⟩ => by
  rw [evSs] at h
  exact ⟨M, G, s, hh, hst, h.seq⟩
theorem ps_ifK {c : Expr} {a b : List Stmt} {i : E} {x y : Ss} {pos : Pos} (hc : PT X c (tT K W (evE Γ i))) (ha : PSs X a (tS K W (evSs Γ x))) (hb : PSs X b (tS K W (evSs Γ y))) : PS X (.If c a b pos) (tS K W (evS Γ (.ite i x y))) := psImp (ps_if hc ha hb) fun D σ H ⟨M, G, s, hh, hst, h⟩ => by
  rw [evS] at h
  refine ⟨M, G, s, hh, hst, R.wp_mono (Post.wp hh hst h) (fun v G1 h => ?_) fun _ _ x => x⟩
  obtain ⟨k, hk, h⟩ := Post.opt h
  refine ⟨k, hk, fun M1 H1 l1 hh1 => ?_⟩
  have hst1 := hst.later hh.ok l1
  show if k = true then tS K W (evSs Γ x) D σ H1 else tS K W (evSs Γ y) D σ H1
  cases k with
  | true => rw [if_pos rfl] at h ⊢; exact ⟨M1, G1, s, hh1, hst1, h.mono l1.since⟩
  | false => rw [if_neg Bool.false_ne_true] at h ⊢; exact ⟨M1, G1, s, hh1, hst1, h.mono l1.since⟩
theorem Post.turn {M : Mp} {H : Hp} {D : Ends} {m : RS} {f : Store → Heap → RS} (h : Post K W M H D (m.turn f)) : Post K W M H { D with nx := tS K W f D, ct := tS K W f D, bk := D.nx } m := by
  cases m with
  | no => exact h
  | next s G => exact fun M' H' st' l hh hst => ⟨M', G, s, hh, hst, Post.mono (r := f s G) h l⟩
  | ret v G => exact h
  | brk s G => exact h
  | cont s G => exact fun M' H' st' l hh hst => ⟨M', G, s, hh, hst, Post.mono (r := f s G) h l⟩
  | exc e s G => exact h
theorem forR_cons (tg : Val → Store → Option Store) (b : Store → Heap → RS) (x : Val) (xs : List Val) (s : Store) (G : Heap) : forR tg b (x :: xs) s G = (R.opt (tg x s) G).thenS s fun s1 G1 => (b s1 G1).turn (forR tg b xs) := rfl
theorem forR_go {t : Tg} {b : Ss} {M1 : Mp} {H1 : Hp} {J : L2.It} {xs : List Val} {G1 : Heap} {s : Store} {σ : L2.St} {D : Ends} (itr : ItR Since K M1 H1 J xs) (hh1 : HeapR K M1 G1 H1) (hst1 : StoreR K M1 H1 s σ) (h : Post K W M1 H1 D (forR (setT t) (evSs Γ b) xs s G1)) :
    ∃ Wm : Nat → Nat → L2.St → Hp → Prop, (∃ m, Wm 0 m σ H1) ∧ ∀ i m σ H, Wm i m σ H →
      (J.stop i H ∧ D.nx σ H) ∨ (J.go i H ∧ ∃ N : L2.St → Hp → Prop, (∀ σ' H', N σ' H' → ∃ m', m' < m ∧ Wm (i + 1) m' σ' H') ∧ ∀ x H', J.yld i H x H' → gT K t x σ H' fun σ2 H2 => tS K W (evSs Γ b) { D with nx := N, ct := N, bk := D.nx } σ2 H2) := by
  obtain ⟨Gd, Y, wk, hY⟩ := itr
  let Pv : Nat → L2.St → Hp → Prop := fun i σ Hc => ∃ M2 G2 s2, Since M1 H1 M2 Hc ∧ HeapR K M2 G2 Hc ∧ StoreR K M2 Hc s2 σ ∧ Post K W M2 Hc D (forR (setT t) (evSs Γ b) (xs.drop i) s2 G2)
  refine for_it wk Pv ?_ ?_ ?_ ?_
  · exact ⟨M1, G1, s, Since.refl _ _, hh1, hst1, by rw [List.drop_zero]; exact h⟩
  · rintro i σ Hc _ ⟨M2, G2, s2, l2, _, _, _⟩
    exact (hY M2 Hc l2).1
  · rintro i x σ Hc H' hi ⟨M2, G2, s2, l2, hh2, hst2, hr⟩ y
    obtain ⟨v, hv, hk⟩ := (hY M2 Hc l2).2 i x H' hi y
    obtain ⟨hh3, l3, rv⟩ := hk G2 hh2
    have hd : xs.drop i = v :: xs.drop (i + 1) := by
      obtain ⟨h1, h2⟩ := List.getElem?_eq_some_iff.mp hv
      rw [List.drop_eq_getElem_cons h1, h2]
    rw [hd, forR_cons] at hr
    obtain ⟨s3, e3, hr⟩ := Post.opt hr
    have hst3 := hst2.later hh2.ok l3
    refine ⟨M2, G2, s2, v, s3, hh3, hst3, rv, e3, fun σ3 hst4 _ => ⟨M2, G2, s3, hh3, hst4, ?_⟩⟩
    have ht := (hr.mono l3.since).turn
    have conv : ∀ σ' H', tS K W (forR (setT t) (evSs Γ b) (xs.drop (i + 1))) D σ' H' → ∀ M', Since M1 H1 M' H' → True := fun _ _ _ _ _ => trivial
    -- the turn's end keeps the thread from the loop's start
    cases hq : evSs Γ b s3 G2 with
    | no => rw [hq] at hr; exact hr.elim
    | next s G => rw [hq] at hr; exact fun M' H'' st' l hh hst => ⟨M', G, s, (l2.trans l3.since).trans l, hh, hst, (Post.mono (r := forR _ _ _ s G) hr l3.since).mono l⟩
    | ret v G => rw [hq] at hr; exact rtP.mono hr l3.since
    | brk s G => rw [hq] at hr; exact nxP.mono hr l3.since
    | cont s G => rw [hq] at hr; exact fun M' H'' st' l hh hst => ⟨M', G, s, (l2.trans l3.since).trans l, hh, hst, (Post.mono (r := forR _ _ _ s G) hr l3.since).mono l⟩
    | exc e s G => rw [hq] at hr; exact xS.mono hr l3.since
  · rintro σ Hc ⟨M2, G2, s2, l2, hh2, hst2, hr⟩
    rw [List.drop_length] at hr
    exact hr M2 Hc σ (Since.refl _ _) hh2 hst2
theorem ps_forK {tg iter : Expr} {body : List Stmt} {t : Tg} {it : Itx} {b : Ss} {pos : Pos} (hp : PassesOwn (model X.prog X.w) X.A X.env X.xe) (hc : X.calm = true) (hi : PI X tg iter (tI Since X.K W (evI Γ it))) (hg : PG X tg (gT X.K t)) (hb : PSs X body (tS X.K W (evSs Γ b))) (hs : ∀ x, foldedSetIterable iter X.env x = pure x) :
    PS X (.For tg iter body [] pos) (tS X.K W (evS Γ (.for_ t it b))) := psImp (ps_for hp hc hi hg hb hs) fun D σ H ⟨M, G, s, hh, hst, h⟩ => by
  rw [evS] at h
  exact ⟨M, G, s, hh, hst, R.wp_mono (Post.wp hh hst h) (fun xs G1 h M1 H1 J l1 hh1 itr => forR_go itr hh1 (hst.later hh.ok l1) (h.mono l1.since)) fun _ _ x => x⟩
theorem whileR_succ (c : Store → Heap → R Val) (b : Store → Heap → RS) (n : Nat) (s : Store) (G : Heap) : whileR c b (n + 1) s G = (c s G).thenS s fun x G1 => (R.opt (truthV (rd G1 x)) G1).thenS s fun k G2 => if k then (b s G2).turn (whileR c b n) else .next s G2 := rfl
theorem ps_whileK {c : Expr} {body : List Stmt} {i : E} {b : Ss} {pos : Pos} (hp : PassesOwn (model X.prog X.w) X.A X.env X.xe) (hc : PT X c (tT X.K W (evE Γ i))) (hb : PSs X body (tS X.K W (evSs Γ b))) : PS X (.While c body [] pos) (tS X.K W (evS Γ (.while_ i b))) := psImp (ps_while hp hc hb) fun D σ H ⟨M, G, s, hh, hst, h⟩ => by
  rw [evS] at h
  generalize fuelW = n at h
  refine ⟨fun m σ Hc => ∃ M2 G2 s2, HeapR X.K M2 G2 Hc ∧ StoreR X.K M2 Hc s2 σ ∧ Post X.K W M2 Hc D (whileR (evE Γ i) (evSs Γ b) m s2 G2), ⟨n, M, G, s, hh, hst, h⟩, ?_⟩
  rintro m σ Hc ⟨M2, G2, s2, hh2, hst2, hr⟩
  cases m with
  | zero => exact hr.elim
  | succ m =>
    rw [whileR_succ] at hr
    refine ⟨M2, G2, s2, hh2, hst2, R.wp_mono (Post.wp hh2 hst2 hr) (fun x G3 hr => ?_) fun _ _ x => x⟩
    obtain ⟨k, hk, hr⟩ := Post.opt hr
    refine ⟨k, hk, fun M3 H3 l3 hh3 => ?_⟩
    have hst3 := hst2.later hh2.ok l3
    have hr := hr.mono l3.since
    show if k = true then _ else _
    cases k with
    | false =>
      rw [if_neg Bool.false_ne_true] at hr ⊢
      exact hr M3 H3 σ (Since.refl _ _) hh3 hst3
    | true =>
      rw [if_pos rfl] at hr ⊢
      refine ⟨tS X.K W (whileR (evE Γ i) (evSs Γ b) m) D, fun σ' H' ⟨M', G', s', q1, q2, q3⟩ => ⟨m, Nat.lt_succ_self m, M', G', s', q1, q2, q3⟩, M3, G3, s2, hh3, hst3, hr.turn⟩
end Fx

namespace Fx
open PySem PySem.Spec PyProof.Rows L2
variable {X : Cx} {W : WX} {Γ : Calls} {K : PySem.W.Frag}
theorem asg_name {i : Nat} {v : Val} {u : V} {M M1 : Mp} {H H1 : Hp} {G1 : Heap} {s : Store} {σ : L2.St} {D : Ends} (k : Post K W M H D (.next (s.set i (.val v)) G1)) (l : Since M H M1 H1) (hh : HeapR K M1 G1 H1) (hst : StoreR K M1 H1 s σ) (r : Rl K M1 H1 v u) : D.nx (σ.set i (some u)) H1 :=
  k M1 H1 _ l hh (hst.setVal i r)
theorem ps_asgK {i : Nat} {x : Str} {e : Expr} {j : E} {p pos : Pos} (hN : X.N.Nodup) (hi : X.N[i]? = some x) (hx : Loc X.env.scope x) (he : PE X e (tE K W (evE Γ j))) (hs : swapsWith e (some (.Name x p)) pos.line X.env = pure false) (hf : X.fn x = true ∨ X.env.scope.names.lookup x = some .local) :
    PS X (.Assign [.Name x p] e pos) (tS K W (evS Γ (.asg (.name i) j))) := psImp (ps_set hN hi hx he hs hf) fun D σ H ⟨M, G, s, hh, hst, h⟩ => by
  rw [evS] at h
  refine ⟨M, G, s, hh, hst, R.wp_mono (Post.wp hh hst h) (fun v G1 k M1 u H1 l1 hh1 r1 => ?_) fun _ _ x => x⟩
  obtain ⟨s1, e1, k⟩ := Post.opt k
  cases e1
  exact asg_name k l1.since hh1 (hst.later hh.ok l1) r1
theorem ps_asgT {tg e : Expr} {t : Tg} {j : E} {pos : Pos} (he : PE X e (tE X.K W (evE Γ j))) (hg : PG X tg (gT X.K t)) (hs : swapsWithSole [tg] e pos.line X.env = pure false) (hw : swappedStores [tg] e X.env = pure none) (h1 : (assignEach [tg] X.env).map (·.2) = [assign tg X.env]) :
    PS X (.Assign [tg] e pos) (tS X.K W (evS Γ (.asg t j))) := psImp (ps_asg he hg hs hw h1) fun D σ H ⟨M, G, s, hh, hst, h⟩ => by
  rw [evS] at h
  refine ⟨M, G, s, hh, hst, R.wp_mono (Post.wp hh hst h) (fun v G1 k M1 u H1 l1 hh1 r1 => ?_) fun _ _ x => x⟩
  obtain ⟨s1, e1, k⟩ := Post.opt k
  exact ⟨M1, G1, s, v, s1, hh1, hst.later hh.ok l1, r1, e1, fun st' hst' _ => k M1 H1 st' l1.since hh1 hst'⟩
theorem ps_asgP2 {i j : Nat} {x y : Str} {a b : Expr} {is : Es} {px py pt pos : Pos} {kt k2 : Nat} {pt2 : Pos} (hc : X.calm = true) (hN : X.N.Nodup) (hi : X.N[i]? = some x) (hj : X.N[j]? = some y) (hij : i ≠ j) (hx : X.env.scope.names.lookup x = some .local) (hy : X.env.scope.names.lookup y = some .local) (ha : PA X [a, b] (tAs K W (evEs Γ is))) (hl : is.len = 2)
    (hw : swappedStores [.Tuple [.Name x px, .Name y py] kt pt] (.Tuple [a, b] k2 pt2) X.env = pure (some [x, y])) (hs : swapsWithSole [.Tuple [.Name x px, .Name y py] kt pt] (.Tuple [a, b] k2 pt2) pos.line X.env = pure false) :
    PS X (.Assign [.Tuple [.Name x px, .Name y py] kt pt] (.Tuple [a, b] k2 pt2) pos) (tS K W (evS Γ (.asg (.tup (.cons (.name i) (.cons (.name j) .nil))) (.tup is)))) := psImp (ps_par hc hN hi hj hij hx hy ha hw hs) fun D σ H ⟨M, G, s, hh, hst, h⟩ => by
  rw [evS] at h
  have h := Post.wp hh hst h
  rw [evE, R.wp_bind] at h
  refine ⟨M, G, s, hh, hst, R.wp_mono (evEs_len is s G h) (fun vs G1 ⟨hlen, k⟩ M1 us H1 l1 hh1 r1 => ?_) fun _ _ x => x⟩
  rw [hl] at hlen
  obtain ⟨s1, e1, k⟩ := Post.opt (show Post K W M H D ((R.opt _ G1).thenS s .next) from k)
  match vs, hlen with
  | [v, w], _ =>
    cases r1 with
    | cons r1 rr =>
      cases rr with
      | cons r2 rr =>
        cases rr
        cases e1
        exact ⟨_, _, rfl, k M1 H1 _ l1.since hh1 (((hst.later hh.ok l1).setVal i r1).setVal j r2)⟩
theorem ps_asgP3 {i j l : Nat} {x y z : Str} {a b c : Expr} {is : Es} {px py pz pt pos : Pos} {kt k2 : Nat} {pt2 : Pos} (hc : X.calm = true) (hN : X.N.Nodup) (hi : X.N[i]? = some x) (hj : X.N[j]? = some y) (hl : X.N[l]? = some z) (hij : i ≠ j) (hil : i ≠ l) (hjl : j ≠ l)
    (hx : X.env.scope.names.lookup x = some .local) (hy : X.env.scope.names.lookup y = some .local) (hz : X.env.scope.names.lookup z = some .local) (ha : PA X [a, b, c] (tAs K W (evEs Γ is))) (hlen0 : is.len = 3)
    (hw : swappedStores [.Tuple [.Name x px, .Name y py, .Name z pz] kt pt] (.Tuple [a, b, c] k2 pt2) X.env = pure (some [x, y, z])) (hs : swapsWithSole [.Tuple [.Name x px, .Name y py, .Name z pz] kt pt] (.Tuple [a, b, c] k2 pt2) pos.line X.env = pure false) :
    PS X (.Assign [.Tuple [.Name x px, .Name y py, .Name z pz] kt pt] (.Tuple [a, b, c] k2 pt2) pos) (tS K W (evS Γ (.asg (.tup (.cons (.name i) (.cons (.name j) (.cons (.name l) .nil)))) (.tup is)))) := psImp (ps_par3 hc hN hi hj hl hij hil hjl hx hy hz ha hw hs) fun D σ H ⟨M, G, s, hh, hst, h⟩ => by
  rw [evS] at h
  have h := Post.wp hh hst h
  rw [evE, R.wp_bind] at h
  refine ⟨M, G, s, hh, hst, R.wp_mono (evEs_len is s G h) (fun vs G1 ⟨hlen, k⟩ M1 us H1 l1 hh1 r1 => ?_) fun _ _ x => x⟩
  rw [hlen0] at hlen
  obtain ⟨s1, e1, k⟩ := Post.opt (show Post K W M H D ((R.opt _ G1).thenS s .next) from k)
  match vs, hlen with
  | [v, w, q], _ =>
    cases r1 with
    | cons r1 rr =>
      cases rr with
      | cons r2 rr =>
        cases rr with
        | cons r3 rr =>
          cases rr
          cases e1
          exact ⟨_, _, _, rfl, k M1 H1 _ l1.since hh1 ((((hst.later hh.ok l1).setVal i r1).setVal j r2).setVal l r3)⟩
theorem own_new {M M1 : Mp} {H H1 : Hp} {G1 : Heap} {a : Addr} {xs : List Val} {vs : List V} {s : Store} {σ : L2.St} {i : Nat} (hi : i < s.length) (ok : MpOk M H) (hst : StoreR K M H s σ) (l : Later M H M1 H1) (hn : H a = none) (n : NewL K M1 G1 H1 a xs vs) :
    ∃ M2, Since M H M2 H1 ∧ HeapR K M2 G1 H1 ∧ StoreR K M2 H1 (s.set i (.own xs)) (σ.set i (some (.ref a))) := by
  let M2 : Mp := ⟨M1.φ, fun j => if j = i then some a else M1.ow j, M1.xo⟩
  have ok1 := n.hh.ok
  have sw : Ext (M1.add a) H1 M2 H1 := Ext.swap rfl fun b h => by
    rcases h with h | ⟨j, h⟩ | h
    · exact .inl h
    · by_cases e : j = i
      · have h : (if j = i then some a else M1.ow j) = some b := h
        rw [if_pos e] at h
        exact .inr (.inr (.inr (Option.some.inj h).symm))
      · have h : (if j = i then some a else M1.ow j) = some b := h
        rw [if_neg e] at h
        exact .inr (.inl ⟨j, h⟩)
    · exact .inr (.inr (.inl h))
  have owc : ∀ j b, M2.ow j = some b → (j = i ∧ b = a) ∨ (j ≠ i ∧ M1.ow j = some b) := fun j b h => by
    by_cases e : j = i
    · have h : (if j = i then some a else M1.ow j) = some b := h
      rw [if_pos e] at h
      exact .inl ⟨e, (Option.some.inj h).symm⟩
    · have h : (if j = i then some a else M1.ow j) = some b := h
      rw [if_neg e] at h
      exact .inr ⟨e, h⟩
  have aow : ∀ j, M1.ow j ≠ some a := fun j h => ok1.d3 j a h (.inr rfl)
  refine ⟨M2, ⟨l.pre, l.xo, l.xo', fun b h => ?_, fun b o h e => l.keep b o (fun z => h (.inl z)) e, l.there⟩, ⟨⟨ok1.nodup, fun j b h => ?_, fun b h => ok1.d2 b (.inl h), fun j b h z => ?_, fun j k b h1 h2 => ?_, fun j b h => ?_, fun b h => ok1.xth b (.inl h)⟩, n.hh.len, fun k b ob h1 h2 => ?_⟩, ?_⟩
  · rcases h with h | ⟨j, h⟩
    · exact (l.since.mu b (.inl h))
    · rcases owc j b h with ⟨_, e⟩ | ⟨_, h⟩
      · exact .inr (by rw [e]; exact hn)
      · exact .inl (.inr ⟨j, by rw [← l.ow]; exact h⟩)
  · rcases owc j b h with ⟨_, e⟩ | ⟨_, h⟩
    · rw [e]; exact ok1.d2 a (.inr rfl)
    · exact ok1.d1 j b h
  · rcases owc j b h with ⟨_, e⟩ | ⟨_, h⟩
    · exact n.nx (by rw [← e]; exact z)
    · exact ok1.d3 j b h (.inl z)
  · rcases owc j b h1 with ⟨e, eb⟩ | ⟨e, h1'⟩
    · rcases owc k b h2 with ⟨e', _⟩ | ⟨_, h2'⟩
      · rw [e, e']
      · exact absurd (by rw [← eb]; exact h2') (aow k)
    · rcases owc k b h2 with ⟨_, eb⟩ | ⟨_, h2'⟩
      · exact absurd (by rw [← eb]; exact h1') (aow j)
      · exact ok1.oin j k b h1' h2'
  · rcases owc j b h with ⟨_, e⟩ | ⟨_, h⟩
    · exact ⟨_, by rw [e]; exact n.at_⟩
    · exact ok1.oth j b h
  · have := n.hh.obj k b ob h1 h2
    cases ob with
    | dct ks ys => obtain ⟨us, e, hl, t⟩ := this; exact ⟨us, e, hl, t.ext sw⟩
    | tab f => obtain ⟨h0, ps, e, t⟩ := this; exact ⟨h0, ps, e, t.ext sw⟩
    | lst ys => obtain ⟨us, e, t⟩ := this; exact ⟨us, e, t.ext sw⟩
  · have hst1 := hst.later ok l
    have ext0 : Ext M H M2 H1 := ⟨let ⟨x, e, _⟩ := l.pre; ⟨x, e⟩, fun b h => by
      rcases h with h | ⟨j, h⟩ | h
      · exact (l.since.ex' (.inl h))
      · rcases owc j b h with ⟨_, e⟩ | ⟨_, h⟩
        · exact .inr (by rw [e]; exact hn)
        · exact (l.since.ex' (.inr (.inl ⟨j, h⟩)))
      · exact (l.since.ex' (.inr (.inr h))), fun b o h e => l.keep b o (fun z => h (.inl z)) e⟩
    have sw2 : ∀ {v : Val} {u : V}, Rl K M H v u → Rl K M2 H1 v u := fun r => r.ext ext0
    refine ⟨by rw [List.length_set, List.length_set, hst.len], fun j => ?_⟩
    rw [getD_set]
    split
    · rename_i h
      obtain ⟨rfl, h2⟩ := h
      exact ⟨a, vs, List.getElem?_set_self (by rw [← hst.len]; exact h2), by show (if j = j then some a else _) = _; rw [if_pos rfl], n.at_, n.rs.ext sw⟩
    · rename_i h
      have e : j ≠ i := fun z => h ⟨z, hi⟩
      have q := hst.at_ j
      have q1 := hst1.at_ j
      rw [List.getElem?_set_ne (Ne.symm e)]
      revert q q1
      cases s.getD j .no with
      | no => exact fun _ _ => trivial
      | val v => exact fun ⟨u, e1, r⟩ _ => ⟨u, e1, sw2 r⟩
      | own ys =>
        intro ⟨b, us, e1, o, hb, t⟩ _
        refine ⟨b, us, e1, ?_, l.keep b _ (ok.d1 j b o) hb, ?_⟩
        · show (if j = i then some a else M1.ow j) = some b
          rw [if_neg e, l.ow]; exact o
        · exact t.ext ext0
      | frz ys =>
        intro ⟨b, us, e1, o, hb, t⟩ _
        refine ⟨b, us, e1, l.xo b o, l.keep b _ (ok.d2 b o) hb, ?_⟩
        exact t.ext ext0
theorem ps_ownK {i : Nat} {x : Str} {e : Expr} {j : E} {p pos : Pos} (hN : X.N.Nodup) (hi : X.N[i]? = some x) (hx : Loc X.env.scope x) (he : PE X e (tF K W (evE Γ j))) (hs : swapsWith e (some (.Name x p)) pos.line X.env = pure false) (hf : X.fn x = true ∨ X.env.scope.names.lookup x = some .local) :
    PS X (.Assign [.Name x p] e pos) (tS K W (evS Γ (.asgOwn i j))) := psImp (ps_set hN hi hx he hs hf) fun D σ H ⟨M, G, s, hh, hst, h⟩ => by
  rw [evS] at h
  refine ⟨M, G, s, hh, hst, R.wp_mono (Post.wp hh hst h) (fun v G1 k => ?_) fun _ _ x => x⟩
  cases v with
  | lst xs =>
    refine ⟨xs, rfl, fun M1 a vs H1 l1 hn n => ?_⟩
    by_cases hl : i < s.length
    · obtain ⟨M2, q1, q2, q3⟩ := own_new hl hh.ok hst l1 hn n
      exact k M2 H1 _ q1 q2 q3
    · have e1 : s.set i (.own xs) = s := List.set_eq_of_length_le (Nat.le_of_not_lt hl)
      have e2 : σ.set i (some (V.ref a)) = σ := List.set_eq_of_length_le (by rw [← hst.len]; exact Nat.le_of_not_lt hl)
      have k : Post K W M H D (.next (s.set i (.own xs)) G1) := k
      rw [e1] at k
      show D.nx (σ.set i (some (V.ref a))) H1
      rw [e2]
      exact k M1 H1 σ l1.since (n.val hh.ok l1 hn).1 (hst.later hh.ok l1)
  | _ => exact k.elim
theorem own_write {M : Mp} {H : Hp} {G : Heap} {s : Store} {st : L2.St} {k : Nat} {a : Addr} {xs ys : List Val} {us : List V} (hh : HeapR K M G H) (hst : StoreR K M H s st) (e : s.getD k .no = .own xs) (hs : st[k]? = some (some (.ref a))) (ho : M.ow k = some a) (r : Rls K M H ys us) :
    Since M H M (upd H a (.lst us)) ∧ HeapR K M G (upd H a (.lst us)) ∧ StoreR K M (upd H a (.lst us)) (s.set k (.own ys)) st := by
  have ok := hh.ok
  obtain ⟨oa, hoa⟩ := ok.oth k a ho
  have ext : Ext M H M (upd H a (.lst us)) := ⟨⟨[], by simp⟩, fun _ h => .inl h, fun b ob h q => by rw [upd_ne (fun z => h (.inr (.inl ⟨k, by rw [z]; exact ho⟩)))]; exact q⟩
  have th : ∀ b o, H b = some o → ∃ o', upd H a (.lst us) b = some o' := fun b o q => by
    by_cases z : b = a
    · exact ⟨_, by rw [z]; exact upd_same⟩
    · exact ⟨o, by rw [upd_ne z]; exact q⟩
  refine ⟨⟨⟨[], by simp, fun _ h => nomatch h⟩, fun _ h => h, fun _ h => .inl h, fun _ h => .inl h, fun b o h q => by rw [upd_ne (fun z => h (.inr ⟨k, by rw [z]; exact ho⟩))]; exact q, th⟩,
    ⟨⟨ok.nodup, ok.d1, ok.d2, ok.d3, ok.oin, fun i b h => let ⟨o, q⟩ := ok.oth i b h; th b o q, fun b h => let ⟨o, q⟩ := ok.xth b h; th b o q⟩, hh.len, fun n b ob h1 h2 => ?_⟩, by rw [List.length_set, hst.len], fun j => ?_⟩
  · have nb : b ≠ a := fun z => ok.d1 k a ho (by rw [← z]; exact List.mem_of_getElem? h1)
    have := hh.obj n b ob h1 h2
    cases ob with
    | dct ks zs => obtain ⟨ws, q, hl, t⟩ := this; exact ⟨ws, by rw [upd_ne nb]; exact q, hl, t.ext ext⟩
    | tab f => obtain ⟨h0, ps, q, t⟩ := this; exact ⟨h0, ps, by rw [upd_ne nb]; exact q, t.ext ext⟩
    | lst zs => obtain ⟨ws, q, t⟩ := this; exact ⟨ws, by rw [upd_ne nb]; exact q, t.ext ext⟩
  · rw [getD_set]
    split
    · rename_i h
      obtain ⟨rfl, _⟩ := h
      exact ⟨a, us, hs, ho, upd_same, r.ext ext⟩
    · rename_i h
      have q := hst.at_ j
      have nk : ∀ zs, s.getD j .no = .own zs → j ≠ k := fun zs z zz => by
        subst zz
        have : ¬ j < s.length := fun q => h ⟨rfl, q⟩
        rw [List.getD_eq_getElem?_getD, List.getElem?_eq_none (Nat.le_of_not_lt this)] at z
        cases z
      revert q nk
      cases s.getD j .no with
      | no => exact fun _ _ => trivial
      | val v => exact fun ⟨u, e1, q⟩ _ => ⟨u, e1, q.ext ext⟩
      | own zs => exact fun ⟨b, ws, e1, w, q, t⟩ nk => ⟨b, ws, e1, w, by rw [upd_ne (fun z => nk zs rfl (ok.oin j k a (by rw [← z]; exact w) ho))]; exact q, t.ext ext⟩
      | frz zs => exact fun ⟨b, ws, e1, w, q, t⟩ _ => ⟨b, ws, e1, w, by rw [upd_ne (fun z => ok.d3 k a ho (by rw [← z]; exact w))]; exact q, t.ext ext⟩
/-- .. a list of the heap -/
theorem ref_write {M : Mp} {H : Hp} {G : Heap} {s : Store} {st : L2.St} {n : Nat} {a : Addr} {xs ys : List Val} {us : List V} (hh : HeapR K M G H) (hst : StoreR K M H s st) (e : G[n]? = some (.lst xs)) (hφ : M.φ[n]? = some a) (r : Rls K M H ys us) :
    Since M H M (upd H a (.lst us)) ∧ HeapR K M (G.set n (.lst ys)) (upd H a (.lst us)) ∧ StoreR K M (upd H a (.lst us)) s st := by
  have ok := hh.ok
  have ma : a ∈ M.φ := List.mem_of_getElem? hφ
  have ext : Ext M H M (upd H a (.lst us)) := ⟨⟨[], by simp⟩, fun _ h => .inl h, fun b ob h q => by rw [upd_ne (fun z => h (.inl (by rw [z]; exact ma)))]; exact q⟩
  have th : ∀ b o, H b = some o → ∃ o', upd H a (.lst us) b = some o' := fun b o q => by
    by_cases z : b = a
    · exact ⟨_, by rw [z]; exact upd_same⟩
    · exact ⟨o, by rw [upd_ne z]; exact q⟩
  refine ⟨⟨⟨[], by simp, fun _ h => nomatch h⟩, fun _ h => h, fun _ h => .inl h, fun _ h => .inl h, fun b o h q => by rw [upd_ne (fun z => h (.inl (by rw [z]; exact ma)))]; exact q, th⟩,
    ⟨⟨ok.nodup, ok.d1, ok.d2, ok.d3, ok.oin, fun i b h => let ⟨o, q⟩ := ok.oth i b h; th b o q, fun b h => let ⟨o, q⟩ := ok.xth b h; th b o q⟩, by rw [List.length_set]; exact hh.len, fun m b ob h1 h2 => ?_⟩, hst.len, fun j => ?_⟩
  · by_cases hm : m = n
    · subst hm
      rw [hφ] at h1
      cases h1
      rw [List.getElem?_set_self (List.getElem?_eq_some_iff.mp e).1] at h2
      cases h2
      exact ⟨us, upd_same, r.ext ext⟩
    · rw [List.getElem?_set_ne (Ne.symm hm)] at h2
      have nb : b ≠ a := fun z => by
        subst z
        obtain ⟨z1, e1⟩ := List.getElem?_eq_some_iff.mp h1
        obtain ⟨z2, e2⟩ := List.getElem?_eq_some_iff.mp hφ
        exact hm ((List.getElem_inj ok.nodup).mp (e1.trans e2.symm))
      have := hh.obj m b ob h1 h2
      cases ob with
      | dct ks zs => obtain ⟨ws, q, hl, t⟩ := this; exact ⟨ws, by rw [upd_ne nb]; exact q, hl, t.ext ext⟩
      | tab f => obtain ⟨h0, ps, q, t⟩ := this; exact ⟨h0, ps, by rw [upd_ne nb]; exact q, t.ext ext⟩
      | lst zs => obtain ⟨ws, q, t⟩ := this; exact ⟨ws, by rw [upd_ne nb]; exact q, t.ext ext⟩
  · have q := hst.at_ j
    revert q
    cases s.getD j .no with
    | no => exact fun _ => trivial
    | val v => exact fun ⟨u, e1, q⟩ => ⟨u, e1, q.ext ext⟩
    | own zs => exact fun ⟨b, ws, e1, w, q, t⟩ => ⟨b, ws, e1, w, by rw [upd_ne (fun z => ok.d1 j b w (by rw [z]; exact ma))]; exact q, t.ext ext⟩
    | frz zs => exact fun ⟨b, ws, e1, w, q, t⟩ => ⟨b, ws, e1, w, by rw [upd_ne (fun z => ok.d2 b w (by rw [z]; exact ma))]; exact q, t.ext ext⟩
theorem appRule {o e : Expr} {to : L2.TE} {t : L2.TA} {apos cpos : Pos} (ho : PE X o to) (ha : PA X [e] t) (hbase : attributeBase o ("append" : Str) X.env (eval o X.env) = eval o X.env)
    (hfew : ((backTo cpos (starEach [e] X.env)).all (fun x => !x.1) && (backToKw cpos (keywordEach [] X.env)).all (fun x => x.1.isSome)
      && decide ([e].length + ([] : List Keyword).length + (if ([] : List Keyword).isEmpty then 0 else 1) < 30)) = true)
    (hline : (apos.endLine == cpos.line) = true) (hs : starEach [e] X.env = (false, eval e X.env) :: starEach [] X.env) (hplain : (backTo cpos (starEach [] X.env)).any (·.1) = false) :
    PE X (.Call (.Attribute o ("append" : Str) apos) [e] [] cpos) (tBM X.K "list" rAppend to t) :=
  pe_bm PySem.F.plainAttrs_list PySem.F.slot_list_append PySem.F.type_list_append mt_append ho ha hbase hfew hline hs hplain
end Fx

namespace Fx
open PySem PySem.Spec PyProof.Rows L2
variable {X : Cx} {W : WX} {Γ : Calls}
/-- where an own slot's list is -/
theorem own_at {K : PySem.W.Frag} {M : Mp} {H : Hp} {s : Store} {st : L2.St} {k : Nat} {xs : List Val} (hst : StoreR K M H s st) (e : s.getD k .no = .own xs) : ∃ a vs, st[k]? = some (some (.ref a)) ∧ M.ow k = some a ∧ H a = some (.lst vs) ∧ Rls K M H xs vs := by
  have h := hst.at_ k
  rw [e] at h
  exact h
theorem sz_line {n : Nat} (h : n < lineN) : n < sizeLine := by rw [← lineN_eq]; exact h
/-- x.append(e), x a list of one's own -/
theorem ps_appK {k : Nat} {x : Str} {p apos cpos pos : Pos} {e : Expr} {i : E} (hN : X.N[k]? = some x) (hv : Vis X.env.scope x) (hd : (x == ("__debug__" : Str)) = false) (hcd : (x == ("__classdict__" : Str)) = false) (he : PE X e (tE X.K W (evE Γ i)))
    (hfew : ((backTo cpos (starEach [e] X.env)).all (fun x => !x.1) && (backToKw cpos (keywordEach [] X.env)).all (fun x => x.1.isSome)
      && decide ([e].length + ([] : List Keyword).length + (if ([] : List Keyword).isEmpty then 0 else 1) < 30)) = true)
    (hline : (apos.endLine == cpos.line) = true) (hs : starEach [e] X.env = (false, eval e X.env) :: starEach [] X.env) (hplain : (backTo cpos (starEach [] X.env)).any (·.1) = false) :
    PS X (.Expr (.Call (.Attribute (.Name x p) ("append" : Str) apos) [e] [] cpos) pos) (tS X.K W (evS Γ (.app k i))) :=
  psImp (ps_expr (appRule (pe_var hN hv hd hcd) (pa_cons he pa_nil hs) rfl hfew hline hs hplain) rfl) fun D σ H ⟨M, G, s, hh, hst, h⟩ => by
    rw [evS] at h
    cases q : s.getD k .no with
    | own xs =>
      rw [q] at h
      have h := Post.wp hh hst h
      obtain ⟨a, vs, e1, o, ha, t⟩ := own_at hst q
      refine ⟨.ref a, e1, .inl ⟨rfl, vs, .of ha⟩, M, G, s, hh, hst, R.wp_mono h (fun v G1 h M1 u H1 l1 hh1 r1 => ?_) fun _ _ x => x⟩
      split at h
      · rename_i hz
        have hst1 := hst.later hh.ok l1
        obtain ⟨a', vs', e1', o', ha', t'⟩ := own_at hst1 q
        rw [e1] at e1'
        cases e1'
        obtain ⟨w1, w2, w3⟩ := own_write hh1 hst1 q e1 o' (t'.append (.cons r1 .nil))
        exact ⟨a, vs', u, rfl, rfl, ha', by rw [← t'.length]; exact sz_line hz, h M1 _ σ (l1.since.trans w1) w2 w3⟩
      · exact h.elim
    | _ => rw [q] at h; exact h.elim
/-- x.extend(e), both lists -/
theorem ps_extK {k : Nat} {x : Str} {p apos cpos pos : Pos} {e : Expr} {i : E} (hN : X.N[k]? = some x) (hv : Vis X.env.scope x) (hd : (x == ("__debug__" : Str)) = false) (hcd : (x == ("__classdict__" : Str)) = false) (he : PE X e (tE X.K W (evE Γ i)))
    (hfew : ((backTo cpos (starEach [e] X.env)).all (fun x => !x.1) && (backToKw cpos (keywordEach [] X.env)).all (fun x => x.1.isSome)
      && decide ([e].length + ([] : List Keyword).length + (if ([] : List Keyword).isEmpty then 0 else 1) < 30)) = true)
    (hline : (apos.endLine == cpos.line) = true) (hs : starEach [e] X.env = (false, eval e X.env) :: starEach [] X.env) (hplain : (backTo cpos (starEach [] X.env)).any (·.1) = false) :
    PS X (.Expr (.Call (.Attribute (.Name x p) ("extend" : Str) apos) [e] [] cpos) pos) (tS X.K W (evS Γ (.extO k i))) :=
  psImp (ps_expr (pe_bm PySem.F.plainAttrs_list PySem.F.slot_list_extend PySem.F.type_list_extend mt_extend (pe_var hN hv hd hcd) (pa_cons he pa_nil hs) rfl hfew hline hs hplain) rfl) fun D σ H ⟨M, G, s, hh, hst, h⟩ => by
    rw [evS] at h
    cases q : s.getD k .no with
    | own xs =>
      rw [q] at h
      have h := Post.wp hh hst h
      obtain ⟨a, vs, e1, o, ha, t⟩ := own_at hst q
      refine ⟨.ref a, e1, .inl ⟨rfl, vs, .of ha⟩, M, G, s, hh, hst, R.wp_mono h (fun v G1 h M1 u H1 l1 hh1 r1 => ?_) fun _ _ x => x⟩
      cases v with
      | lst ys =>
        have h : Post X.K W M H D (if xs.length + ys.length ≤ lineN then .next (s.set k (.own (xs ++ ys))) G1 else .no) := h
        split at h
        · rename_i hz
          have hst1 := hst.later hh.ok l1
          obtain ⟨a', vs', e1', o', ha', t'⟩ := own_at hst1 q
          rw [e1] at e1'
          cases e1'
          cases r1 with
          | lst hx hb tb =>
            obtain ⟨w1, w2, w3⟩ := own_write hh1 hst1 q e1 o' (t'.append tb)
            exact ⟨a, _, vs', _, rfl, rfl, ha', hb, by rw [← t'.length, ← tb.length, ← lineN_eq]; exact hz, h M1 _ σ (l1.since.trans w1) w2 w3⟩
        · exact h.elim
      | _ => exact h.elim
    | _ => rw [q] at h; exact h.elim
/-- o.append(e), o a list of the heap -/
theorem ps_appRK {o e : Expr} {i j : E} {apos cpos pos : Pos} (ho : PE X o (tE X.K W (evE Γ i))) (he : PE X e (tE X.K W (evE Γ j))) (hbase : attributeBase o ("append" : Str) X.env (eval o X.env) = eval o X.env)
    (hfew : ((backTo cpos (starEach [e] X.env)).all (fun x => !x.1) && (backToKw cpos (keywordEach [] X.env)).all (fun x => x.1.isSome)
      && decide ([e].length + ([] : List Keyword).length + (if ([] : List Keyword).isEmpty then 0 else 1) < 30)) = true)
    (hline : (apos.endLine == cpos.line) = true) (hs : starEach [e] X.env = (false, eval e X.env) :: starEach [] X.env) (hplain : (backTo cpos (starEach [] X.env)).any (·.1) = false) :
    PS X (.Expr (.Call (.Attribute o ("append" : Str) apos) [e] [] cpos) pos) (tS X.K W (evS Γ (.appR i j))) :=
  psImp (ps_expr (appRule ho (pa_cons he pa_nil hs) hbase hfew hline hs hplain) rfl) fun D σ H ⟨M, G, s, hh, hst, h⟩ => by
    rw [evS] at h
    refine ⟨M, G, s, hh, hst, R.wp_mono (Post.wp hh hst h) (fun ov G1 h M1 u1 H1 l1 hh1 r1 => ?_) fun _ _ x => x⟩
    have hst1 := hst.later hh.ok l1
    cases q : rd G1 ov with
    | lst zs =>
      rw [q] at h
      obtain ⟨a, vs, rfl, ha, t⟩ := (show RlD X.K M1 H1 (.lst zs) u1 by rw [← q]; exact RlD.rd (.inl r1) hh1).lst
      refine ⟨.inl ⟨rfl, vs, .of ha⟩, M1, G1, s, hh1, hst1, R.wp_mono (Post.wp hh1 hst1 (h.mono l1.since)) (fun v G2 h M2 u H2 l2 hh2 r2 => ?_) fun _ _ x => x⟩
      cases ov with
      | ref n =>
        have h : Post X.K W M1 H1 D (match G2[n]? with
          | some (.lst xs) => if xs.length < lineN then .next s (G2.set n (.lst (xs ++ [v]))) else .no
          | _ => .no) := h
        cases q2 : G2[n]? with
        | none => rw [q2] at h; exact h.elim
        | some ob =>
          cases ob with
          | dct _ _ => rw [q2] at h; exact h.elim
          | tab _ => rw [q2] at h; exact h.elim
          | lst xs =>
            rw [q2] at h
            have h : Post X.K W M1 H1 D (if xs.length < lineN then .next s (G2.set n (.lst (xs ++ [v]))) else .no) := h
            split at h
            · rename_i hz
              have r1' := r1.later l2
              cases r1' with
              | ref hφ =>
                obtain ⟨ws, hb, tb⟩ := hh2.obj n a _ hφ q2
                obtain ⟨w1, w2, w3⟩ := ref_write hh2 (hst1.later hh1.ok l2) q2 hφ (tb.append (.cons r2 .nil))
                exact ⟨a, ws, u, rfl, rfl, hb, by rw [← tb.length]; exact sz_line hz, h M2 _ σ (l2.since.trans w1) w2 w3⟩
            · exact h.elim
      | _ => exact h.elim
    | _ => rw [q] at h; exact h.elim
theorem last_rls {K : PySem.W.Frag} {M : Mp} {H : Hp} {xs : List Val} {vs : List V} {x : Val} (t : Rls K M H xs vs) (e : xs[xs.length - 1]? = some x) : ∃ u, vs[vs.length - 1]? = some u ∧ Rl K M H x u := by
  rw [← t.length]
  exact t.get e
theorem dropLast_rls {K : PySem.W.Frag} {M : Mp} {H : Hp} {xs : List Val} {vs : List V} (t : Rls K M H xs vs) : Rls K M H xs.dropLast vs.dropLast := by
  rw [List.dropLast_eq_take, List.dropLast_eq_take, t.length]
  exact t.take _
theorem ps_popK {k : Nat} {x : Str} {p apos cpos pos : Pos} (hN : X.N[k]? = some x) (hv : Vis X.env.scope x) (hd : (x == ("__debug__" : Str)) = false) (hcd : (x == ("__classdict__" : Str)) = false) (hline : (apos.endLine == cpos.line) = true) :
    PS X (.Expr (.Call (.Attribute (.Name x p) ("pop" : Str) apos) [] [] cpos) pos) (tS X.K W (evS Γ (.popO k))) :=
  psImp (ps_expr (pe_bm0 PySem.F.plainAttrs_list PySem.F.slot_list_pop PySem.F.type_list_pop mt_pop (pe_var hN hv hd hcd) rfl hline) rfl) fun D σ H ⟨M, G, s, hh, hst, h⟩ => by
    rw [evS] at h
    cases q : s.getD k .no with
    | own xs =>
      rw [q] at h
      obtain ⟨a, vs, e1, o, ha, t⟩ := own_at hst q
      have h : Post X.K W M H D (match xs[xs.length - 1]? with
        | some _ => .next (s.set k (.own xs.dropLast)) G
        | none => .no) := h
      cases q2 : xs[xs.length - 1]? with
      | none => rw [q2] at h; exact h.elim
      | some y =>
        rw [q2] at h
        obtain ⟨u, hu, ru⟩ := last_rls t q2
        obtain ⟨w1, w2, w3⟩ := own_write hh hst q e1 o (dropLast_rls t)
        exact ⟨.ref a, e1, .inl ⟨rfl, vs, .of ha⟩, a, vs, u, rfl, rfl, ha, hu, h M _ σ w1 w2 w3⟩
    | _ => rw [q] at h; exact h.elim
theorem ps_popT {k : Nat} {x : Str} {tg : Expr} {t : Tg} {p apos cpos pos : Pos} (hN : X.N[k]? = some x) (hv : Vis X.env.scope x) (hd : (x == ("__debug__" : Str)) = false) (hcd : (x == ("__classdict__" : Str)) = false) (hline : (apos.endLine == cpos.line) = true) (hg : PG X tg (gT X.K t))
    (hs : swapsWithSole [tg] (.Call (.Attribute (.Name x p) ("pop" : Str) apos) [] [] cpos) pos.line X.env = pure false) (hw : swappedStores [tg] (.Call (.Attribute (.Name x p) ("pop" : Str) apos) [] [] cpos) X.env = pure none) (h1 : (assignEach [tg] X.env).map (·.2) = [assign tg X.env]) :
    PS X (.Assign [tg] (.Call (.Attribute (.Name x p) ("pop" : Str) apos) [] [] cpos) pos) (tS X.K W (evS Γ (.popT t k))) :=
  psImp (ps_asg (pe_bm0 PySem.F.plainAttrs_list PySem.F.slot_list_pop PySem.F.type_list_pop mt_pop (pe_var hN hv hd hcd) rfl hline) hg hs hw h1) fun D σ H ⟨M, G, s, hh, hst, h⟩ => by
    rw [evS] at h
    cases q : s.getD k .no with
    | own xs =>
      rw [q] at h
      obtain ⟨a, vs, e1, o, ha, t⟩ := own_at hst q
      have h : Post X.K W M H D (match xs[xs.length - 1]? with
        | some y => (R.opt (setT _ y (s.set k (.own xs.dropLast))) G).thenS s .next
        | none => .no) := h
      cases q2 : xs[xs.length - 1]? with
      | none => rw [q2] at h; exact h.elim
      | some y =>
        rw [q2] at h
        obtain ⟨u, hu, ru⟩ := last_rls t q2
        obtain ⟨w1, w2, w3⟩ := own_write hh hst q e1 o (dropLast_rls t)
        obtain ⟨s1, e2, h⟩ := Post.opt h
        exact ⟨.ref a, e1, .inl ⟨rfl, vs, .of ha⟩, a, vs, u, rfl, rfl, ha, hu, M, G, _, y, s1, w2, w3, ru.since w1, e2, fun st' hst' _ => h M _ st' w1 w2 hst'⟩
    | _ => rw [q] at h; exact h.elim
theorem ps_augK {i : Nat} {x : Str} {e : Expr} {op : Operator} {j : E} {p pos : Pos} (hop : op = .Add ∨ op = .Sub) (hN : X.N.Nodup) (hi : X.N[i]? = some x) (hx : Loc X.env.scope x) (he : PE X e (tE X.K W (evE Γ j))) (hf : X.fn x = true ∨ X.env.scope.names.lookup x = some .local) :
    PS X (.AugAssign (.Name x p) op e pos) (tS X.K W (evS Γ (.aug i op j))) := by
  have main : ∀ (f : Int → Int → Int), PIp X op (ipI f) → (∀ (s : Store) (G : Heap) a b, evS Γ (.aug i op j) s G = match s.getD i .no with
      | .val (.int a) => (evE Γ j s G).thenS s fun v G1 => match v with
        | .int b => .next (s.set i (.val (.int (f a b)))) G1
        | _ => .no
      | _ => .no) → PS X (.AugAssign (.Name x p) op e pos) (tS X.K W (evS Γ (.aug i op j))) := fun f hp hev => psImp (ps_aug hN hi hx he hp hf) fun D σ H ⟨M, G, s, hh, hst, h⟩ => by
    rw [hev s G 0 0] at h
    cases q : s.getD i .no with
    | val w =>
      rw [q] at h
      cases w with
      | int a =>
        have h := Post.wp hh hst h
        have hs := hst.at_ i
        rw [q] at hs
        obtain ⟨u0, e0, r0⟩ := hs
        cases r0
        refine ⟨_, e0, M, G, s, hh, hst, R.wp_mono h (fun v G1 h M1 u H1 l1 hh1 r1 => ?_) fun _ _ x => x⟩
        cases v with
        | int b =>
          cases r1
          exact ⟨a, b, rfl, rfl, h M1 H1 _ l1.since hh1 ((hst.later hh.ok l1).setVal i (.int _))⟩
        | _ => exact h.elim
      | _ => exact h.elim
    | _ => rw [q] at h; exact h.elim
  rcases hop with rfl | rfl
  · refine main (fun a b => a + b) ip_add fun s G _ _ => ?_
    rw [evS]
    cases s.getD i .no with
    | val w => cases w <;> first | rfl | exact congrArg (R.thenS _ s) (funext fun v => funext fun G1 => by cases v <;> rfl)
    | _ => rfl
  · refine main (fun a b => a - b) ip_sub fun s G _ _ => ?_
    rw [evS]
    cases s.getD i .no with
    | val w => cases w <;> first | rfl | exact congrArg (R.thenS _ s) (funext fun v => funext fun G1 => by cases v <;> rfl)
    | _ => rfl
end Fx

namespace Fx
open PySem PySem.Spec PyProof.Rows L2
variable {X : Cx} {W : WX} {Γ : Calls}
theorem pe_stopK {e : Expr} : PE X e (tE X.K W (evE Γ .stop)) := ⟨fun pins s σ H Q I ⟨M, G, st, hh, hst, hm⟩ => by rw [evE] at hm; exact hm.elim⟩
theorem pt_stopK {e : Expr} : PT X e (tT X.K W (evE Γ .stop)) := ⟨fun pins s σ H Q I ⟨M, G, st, hh, hst, hm⟩ => by rw [evE] at hm; exact hm.elim⟩
theorem ps_stopK {e : Stmt} : PS X e (tS X.K W (evS Γ .stop)) := ⟨fun pins s σ H Q I ⟨M, G, st, hh, hst, hm⟩ => by rw [evS] at hm; exact hm.elim⟩
theorem setK_some {xs ys : List Val} {i v : Val} (h : setK xs i v = some ys) : ∃ k j, i = .int k ∧ ixN xs.length k = some j ∧ ys = xs.set j v := by
  cases i with
  | int k =>
    have h : (ixN xs.length k).map (fun j => xs.set j v) = some ys := h
    cases q : ixN xs.length k with
    | none => rw [q] at h; cases h
    | some j => rw [q] at h; cases h; exact ⟨k, j, rfl, q, rfl⟩
  | _ => cases h
section
variable {K : PySem.W.Frag} {M : Mp} {H : Hp} {G : Heap}
theorem dputV_rl {k : Key} {v : Val} {u : V} (r : Rl K M H v u) : ∀ {ks : List Key} {vs : List Val} {us : List V}, ks.length = us.length → Rls K M H vs us →
    ∃ us', ((ks.zip us).map fun kv => if kv.1 = k then (kv.1, u) else kv) = ks.zip us' ∧ ks.length = us'.length ∧ Rls K M H (dPutV ks vs k v) us'
  | [], _, _, hl, t => by
    cases t with
    | nil => exact ⟨[], rfl, rfl, by rw [dPutV]; exact .nil; all_goals exact fun _ _ _ _ z => nomatch z⟩
    | cons _ _ => cases hl
  | j :: ks, _, _, hl, .nil => by cases hl
  | j :: ks, x :: vs, w :: us, hl, .cons rx t => by
    obtain ⟨us', e1, e2, e3⟩ := dputV_rl (k := k) (ks := ks) r (Nat.succ.inj hl) t
    rw [dPutV]
    by_cases e : j = k
    · refine ⟨u :: us', ?_, by rw [List.length_cons, List.length_cons, e2], .cons (by rw [if_pos e]; exact r) e3⟩
      rw [List.zip_cons_cons, List.map_cons, if_pos e, e1, List.zip_cons_cons]
    · refine ⟨w :: us', ?_, by rw [List.length_cons, List.length_cons, e2], .cons (by rw [if_neg e]; exact rx) e3⟩
      rw [List.zip_cons_cons, List.map_cons, if_neg e, e1, List.zip_cons_cons]
theorem dput_rl {k : Key} {v : Val} {u : V} (r : Rl K M H v u) {ks : List Key} {vs : List Val} {us : List V} (hl : ks.length = us.length) (t : Rls K M H vs us) :
    ∃ us', putK (ks.zip us) k u = (dPut ks vs k v).1.zip us' ∧ (dPut ks vs k v).1.length = us'.length ∧ Rls K M H (dPut ks vs k v).2 us' := by
  have lk := look_rl (ks := ks) t k
  unfold dPut
  cases q : dLook ks vs k with
  | none =>
    rw [q] at lk
    refine ⟨us ++ [u], ?_, ?_, ?_⟩
    · rw [putK_new u (lk hl)]
      show _ = (ks ++ [k]).zip (us ++ [u])
      rw [List.zip_append hl]; rfl
    · show (ks ++ [k]).length = _
      rw [List.length_append, List.length_append, hl]; rfl
    · exact t.append (.cons r .nil)
  | some w =>
    rw [q] at lk
    obtain ⟨u0, hu, _⟩ := lk
    obtain ⟨us', e1, e2, e3⟩ := dputV_rl (k := k) r hl t
    refine ⟨us', ?_, e2, e3⟩
    show putK (ks.zip us) k u = ks.zip us'
    unfold putK
    rw [if_pos (by rw [valV_any, hu]; rfl)]
    exact e1
/-- .. a thing of the heap, written anew -/
theorem ref_put {s : Store} {st : L2.St} {n : Nat} {a : Addr} {o : HO} {ob : Obj} (hh : HeapR K M G H) (hst : StoreR K M H s st) (hn : n < G.length) (hφ : M.φ[n]? = some a) (r : Ext M H M (upd H a o) → ObjR K M (upd H a o) a ob) :
    Since M H M (upd H a o) ∧ HeapR K M (G.set n ob) (upd H a o) ∧ StoreR K M (upd H a o) s st := by
  have ok := hh.ok
  have ma : a ∈ M.φ := List.mem_of_getElem? hφ
  have ext : Ext M H M (upd H a o) := ⟨⟨[], by simp⟩, fun _ h => .inl h, fun b ob h q => by rw [upd_ne (fun z => h (.inl (by rw [z]; exact ma)))]; exact q⟩
  have th : ∀ b o', H b = some o' → ∃ o'', upd H a o b = some o'' := fun b o' q => by
    by_cases z : b = a
    · exact ⟨_, by rw [z]; exact upd_same⟩
    · exact ⟨o', by rw [upd_ne z]; exact q⟩
  refine ⟨⟨⟨[], by simp, fun _ h => nomatch h⟩, fun _ h => h, fun _ h => .inl h, fun _ h => .inl h, fun b o' h q => by rw [upd_ne (fun z => h (.inl (by rw [z]; exact ma)))]; exact q, th⟩,
    ⟨⟨ok.nodup, ok.d1, ok.d2, ok.d3, ok.oin, fun i b h => let ⟨o, q⟩ := ok.oth i b h; th b o q, fun b h => let ⟨o, q⟩ := ok.xth b h; th b o q⟩, by rw [List.length_set]; exact hh.len, fun m b ob' h1 h2 => ?_⟩, hst.len, fun j => ?_⟩
  · by_cases hm : m = n
    · subst hm
      rw [hφ] at h1
      cases h1
      rw [List.getElem?_set_self hn] at h2
      cases h2
      exact r ext
    · rw [List.getElem?_set_ne (Ne.symm hm)] at h2
      have nb : b ≠ a := fun z => by
        subst z
        obtain ⟨z1, e1⟩ := List.getElem?_eq_some_iff.mp h1
        obtain ⟨z2, e2⟩ := List.getElem?_eq_some_iff.mp hφ
        exact hm ((List.getElem_inj ok.nodup).mp (e1.trans e2.symm))
      have := hh.obj m b ob' h1 h2
      cases ob' with
      | dct ks ys => obtain ⟨us, q, hl, t⟩ := this; exact ⟨us, by rw [upd_ne nb]; exact q, hl, t.ext ext⟩
      | tab f => obtain ⟨h0, ps, q, t⟩ := this; exact ⟨h0, ps, by rw [upd_ne nb]; exact q, t.ext ext⟩
      | lst zs => obtain ⟨ws, q, t⟩ := this; exact ⟨ws, by rw [upd_ne nb]; exact q, t.ext ext⟩
  · have q := hst.at_ j
    revert q
    cases s.getD j .no with
    | no => exact fun _ => trivial
    | val v => exact fun ⟨u, e1, q⟩ => ⟨u, e1, q.ext ext⟩
    | own zs => exact fun ⟨b, ws, e1, w, q, t⟩ => ⟨b, ws, e1, w, by rw [upd_ne (fun z => ok.d1 j b w (by rw [z]; exact ma))]; exact q, t.ext ext⟩
    | frz zs => exact fun ⟨b, ws, e1, w, q, t⟩ => ⟨b, ws, e1, w, by rw [upd_ne (fun z => ok.d2 b w (by rw [z]; exact ma))]; exact q, t.ext ext⟩
end
/-- o[i] = v, a list, a dict -/
def rSetX : TSet := fun o i v H Q => rSetL o i v H Q ∨ rSetD o i v H Q
theorem set_x (hu : X.A.units + 1 < cLine) : PSet X rSetX := fun pins s σ H o i v ov iv u Q I ro ri rv h =>
  h.elim (fun h => set_list pins s σ H o i v ov iv u Q I ro ri rv h) fun h => set_dict hu pins s σ H o i v ov iv u Q I ro ri rv h
theorem set_ref {K : PySem.W.Frag} {M : Mp} {H : Hp} {G G' : Heap} {s : Store} {st : L2.St} {o i v : Val} {uo ui u : V} (hh : HeapR K M G H) (hst : StoreR K M H s st) (ro : Rl K M H o uo) (ri : Rl K M H i ui) (r : Rl K M H v u) (h : setRef o i v G = some G') :
    ∃ H', (∀ Q : Hp → Prop, Q H' → rSetX uo ui u H Q) ∧ Since M H M H' ∧ HeapR K M G' H' ∧ StoreR K M H' s st := by
  cases o with
  | ref n =>
    have h : (match G[n]? with
      | some (Obj.lst xs) => (setK xs i v).map fun ys => G.set n (.lst ys)
      | some (Obj.dct ks vs) => if ks.length < lineN then (keyOf i).map fun k => G.set n (.dct (dPut ks vs k v).1 (dPut ks vs k v).2) else none
      | _ => none) = some G' := h
    cases q : G[n]? with
    | none => rw [q] at h; cases h
    | some ob =>
      have hn : n < G.length := (List.getElem?_eq_some_iff.mp q).1
      cases ro with
      | ref hφ =>
        cases ob with
        | lst xs =>
          rw [q] at h
          have h : (setK xs i v).map (fun ys => G.set n (.lst ys)) = some G' := h
          cases q2 : setK xs i v with
          | none => rw [q2] at h; cases h
          | some ys =>
            rw [q2] at h
            cases h
            obtain ⟨k, j, rfl, e2, rfl⟩ := setK_some q2
            cases ri
            obtain ⟨ws, hb, tb⟩ := hh.obj n _ _ hφ q
            obtain ⟨w1, w2, w3⟩ := ref_put (o := .lst (ws.set j u)) (ob := .lst (xs.set j v)) hh hst hn hφ fun ext => ⟨_, upd_same, (tb.set r j).ext ext⟩
            exact ⟨_, fun Q hq => .inl ⟨_, ws, k, j, rfl, rfl, hb, by rw [← tb.length]; exact e2, hq⟩, w1, w2, w3⟩
        | dct ks vs =>
          rw [q] at h
          have h : (if ks.length < lineN then (keyOf i).map fun k => G.set n (.dct (dPut ks vs k v).1 (dPut ks vs k v).2) else none) = some G' := h
          split at h
          · rename_i hz
            cases qk : keyOf i with
            | none => rw [qk] at h; cases h
            | some k =>
              rw [qk] at h
              cases h
              obtain ⟨us, hb, hl, tb⟩ := hh.obj n _ _ hφ q
              have ek := key_rl (.inl ri) qk
              subst ek
              obtain ⟨us', e1, e2, e3⟩ := dput_rl (k := k) r hl tb
              obtain ⟨w1, w2, w3⟩ := ref_put (o := .dK (putK (ks.zip us) k u)) (ob := .dct (dPut ks vs k v).1 (dPut ks vs k v).2) hh hst hn hφ fun ext => ⟨us', by rw [← e1]; exact upd_same, e2, e3.ext ext⟩
              exact ⟨_, fun Q hq => .inr ⟨_, _, rfl, DPut.k hb (by rw [List.length_zip, ← hl, Nat.min_self]; exact sz_line hz), hq⟩, w1, w2, w3⟩
          · cases h
        | tab f => rw [q] at h; cases h
  | _ => cases h
theorem setOwn_some {k : Nat} {i v : Val} {s s' : Store} (h : setOwn k i v s = some s') : ∃ xs n j, s.getD k .no = .own xs ∧ i = .int n ∧ ixN xs.length n = some j ∧ s' = s.set k (.own (xs.set j v)) := by
  unfold setOwn at h
  cases q : s.getD k .no with
  | own xs =>
    rw [q] at h
    have h : (setK xs i v).map (fun ys => s.set k (.own ys)) = some s' := h
    cases q2 : setK xs i v with
    | none => rw [q2] at h; cases h
    | some ys =>
      rw [q2] at h
      cases h
      obtain ⟨n, j, e1, e2, e3⟩ := setK_some q2
      exact ⟨xs, n, j, rfl, e1, e2, by rw [e3]⟩
  | _ => rw [q] at h; cases h
/-- o[i] = e, o a list of the heap -/
theorem ps_setRK {o i e : Expr} {jo ji je : E} {p pos : Pos} (hu : X.A.units + 1 < cLine) (he : PE X e (tE X.K W (evE Γ je))) (ho : PE X o (tE X.K W (evE Γ jo))) (hi : PE X i (tE X.K W (evE Γ ji))) (hs : swapsWithSole [.Subscript o i p] e pos.line X.env = pure false) (hw : swappedStores [.Subscript o i p] e X.env = pure none)
    (h1 : (assignEach [.Subscript o i p] X.env).map (·.2) = [assign (.Subscript o i p) X.env])
    (ha : ∀ v, assign (.Subscript o i p) X.env v = (do
      let ov ← holding [v] (eval o X.env)
      let iv ← holding [v, ov] (eval i X.env)
      standAt p
      holding [v, ov, iv] (setItem ov iv v)
      release [v, ov, iv] [])) :
    PS X (.Assign [.Subscript o i p] e pos) (tS X.K W (evS Γ (.setR jo ji je))) :=
  psImp (ps_asg he (pg_sub ho hi (set_x hu) ha) hs hw h1) fun D σ H ⟨M, G, s, hh, hst, h⟩ => by
    rw [evS] at h
    refine ⟨M, G, s, hh, hst, R.wp_mono (Post.wp hh hst h) (fun v G1 h M1 u H1 l1 hh1 r1 => ?_) fun _ _ x => x⟩
    have hst1 := hst.later hh.ok l1
    refine ⟨M1, G1, s, hh1, hst1, R.wp_mono (Post.wp hh1 hst1 (h.mono l1.since)) (fun ov G2 h M2 uo H2 l2 hh2 r2 => ?_) fun _ _ x => x⟩
    have hst2 := hst1.later hh1.ok l2
    refine ⟨M2, G2, s, hh2, hst2, R.wp_mono (Post.wp hh2 hst2 (h.mono l2.since)) (fun iv G3 h M3 ui H3 l3 hh3 r3 => ?_) fun _ _ x => x⟩
    have hst3 := hst2.later hh2.ok l3
    cases q : setRef ov iv v G3 with
    | none =>
      have h : Post X.K W M2 H2 D (match setRef ov iv v G3 with | some G4 => .next s G4 | none => .no) := h
      rw [q] at h; exact h.elim
    | some G4 =>
      have h : Post X.K W M2 H2 D (match setRef ov iv v G3 with | some G4 => .next s G4 | none => .no) := h
      rw [q] at h
      obtain ⟨H4, hq, w1, w2, w3⟩ := set_ref hh3 hst3 (r2.later l3) r3 ((r1.later l2).later l3) q
      exact hq _ ((h.mono l3.since) M3 _ σ w1 w2 w3)
/-- x[i] = e, x a list of one's own -/
theorem ps_setOK {k : Nat} {x : Str} {i e : Expr} {ji je : E} {px p pos : Pos} (hN : X.N[k]? = some x) (hv : Vis X.env.scope x) (hd : (x == ("__debug__" : Str)) = false) (hcd : (x == ("__classdict__" : Str)) = false) (he : PE X e (tE X.K W (evE Γ je))) (hi : PE X i (tE X.K W (evE Γ ji))) (hs : swapsWithSole [.Subscript (.Name x px) i p] e pos.line X.env = pure false) (hw : swappedStores [.Subscript (.Name x px) i p] e X.env = pure none)
    (h1 : (assignEach [.Subscript (.Name x px) i p] X.env).map (·.2) = [assign (.Subscript (.Name x px) i p) X.env])
    (ha : ∀ v, assign (.Subscript (.Name x px) i p) X.env v = (do
      let ov ← holding [v] (eval (.Name x px) X.env)
      let iv ← holding [v, ov] (eval i X.env)
      standAt p
      holding [v, ov, iv] (setItem ov iv v)
      release [v, ov, iv] [])) :
    PS X (.Assign [.Subscript (.Name x px) i p] e pos) (tS X.K W (evS Γ (.setO k ji je))) :=
  psImp (ps_asg he (pg_sub (pe_var hN hv hd hcd) hi set_list ha) hs hw h1) fun D σ H ⟨M, G, s, hh, hst, h⟩ => by
    rw [evS] at h
    refine ⟨M, G, s, hh, hst, R.wp_mono (Post.wp hh hst h) (fun v G1 h M1 u H1 l1 hh1 r1 => ?_) fun _ _ x => x⟩
    have hst1 := hst.later hh.ok l1
    have h := h.mono l1.since
    cases q0 : s.getD k .no with
    | own ys =>
      rw [q0] at h
      have h : Post X.K W M1 H1 D ((evE Γ ji s G1).thenS s fun iv G2 => match setOwn k iv v s with
        | some s1 => .next s1 G2
        | none => .no) := h
      obtain ⟨a, vs, e0, _, _, _⟩ := own_at hst1 q0
      refine ⟨.ref a, e0, M1, G1, s, hh1, hst1, R.wp_mono (Post.wp hh1 hst1 h) (fun iv G3 h M3 ui H3 l3 hh3 r3 => ?_) fun _ _ x => x⟩
      have hst3 := hst1.later hh1.ok l3
      cases q : setOwn k iv v s with
      | none => rw [q] at h; exact h.elim
      | some s4 =>
        rw [q] at h
        obtain ⟨xs, n, j, e1, rfl, e2, rfl⟩ := setOwn_some q
        obtain ⟨b, ws, e4, o, hb, tb⟩ := own_at hst3 e1
        rw [e0] at e4
        cases e4
        cases r3
        obtain ⟨w1, w2, w3⟩ := own_write hh3 hst3 e1 e0 o (tb.set (r1.later l3) j)
        exact ⟨_, ws, n, j, rfl, rfl, hb, by rw [← tb.length]; exact e2, (h.mono l3.since) M3 _ σ w1 w2 w3⟩
    | _ => rw [q0] at h; exact h.elim
def gPs (K : PySem.W.Frag) (Γ : Calls) (ts : PTgs) : TGs := fun vs σ H Q => ∃ M G s xs, HeapR K M G H ∧ StoreR K M H s σ ∧ Rls K M H xs vs ∧
  (evPTgs Γ ts xs s G).wp (fun s1 G1 => ∀ M' H' st', Since M H M' H' → HeapR K M' G1 H' → StoreR K M' H' s1 st' → Q st' H') fun _ _ => False
theorem pgs_nilP : PGs X [] (gPs X.K Γ .nil) := pgsImp pgs_nil fun v σ H Q ⟨M, G, s, xs, hh, hst, r, h⟩ => by
  cases xs with
  | nil => cases r; exact ⟨rfl, h M H σ (Since.refl _ _) hh hst⟩
  | cons _ _ => exact h.elim
theorem XW.no {M : Mp} {H : Hp} {st : L2.St} {e : Exc} {G : Heap} (h : False) : XW X.K W M H st e G := h.elim
theorem pgs_nameP {i : Nat} {x : Str} {p : Pos} {es : List Expr} {ts : PTgs} (hN : X.N.Nodup) (hi : X.N[i]? = some x) (hx : Loc X.env.scope x) (hf : X.fn x = true ∨ X.env.scope.names.lookup x = some .local) (h2 : PGs X es (gPs X.K Γ ts))
    (hs : (assignEach (.Name x p :: es) X.env).map (·.2) = assign (.Name x p) X.env :: (assignEach es X.env).map (·.2)) : PGs X (.Name x p :: es) (gPs X.K Γ (.cons (.name i) ts)) :=
  pgsImp (pgs_cons (pg_name hN hi hx hf) h2 hs) fun v σ H Q ⟨M, G, s, xs, hh, hst, r, h⟩ => by
    cases xs with
    | nil => exact h.elim
    | cons y ys =>
      cases r with
      | cons r rr => exact ⟨_, _, rfl, M, G, _, ys, hh, hst.setVal i r, rr, h⟩
theorem pgs_itemP {o i : Expr} {jo ji : E} {p : Pos} {es : List Expr} {ts : PTgs} (hu : X.A.units + 1 < cLine) (ho : PE X o (tE X.K W (evE Γ jo))) (hi : PE X i (tE X.K W (evE Γ ji))) (h2 : PGs X es (gPs X.K Γ ts))
    (hs : (assignEach (.Subscript o i p :: es) X.env).map (·.2) = assign (.Subscript o i p) X.env :: (assignEach es X.env).map (·.2))
    (ha : ∀ v, assign (.Subscript o i p) X.env v = (do
      let ov ← holding [v] (eval o X.env)
      let iv ← holding [v, ov] (eval i X.env)
      standAt p
      holding [v, ov, iv] (setItem ov iv v)
      release [v, ov, iv] [])) : PGs X (.Subscript o i p :: es) (gPs X.K Γ (.cons (.item jo ji) ts)) :=
  pgsImp (pgs_cons (pg_sub ho hi (set_x hu) ha) h2 hs) fun v σ H Q ⟨M, G, s, xs, hh, hst, r, h⟩ => by
    cases xs with
    | nil => exact h.elim
    | cons y ys =>
      cases r with
      | cons r rr =>
        rw [evPTgs, R.wp_bind] at h
        refine ⟨_, _, rfl, M, G, s, hh, hst, R.wp_mono h (fun ov G1 h M1 uo H1 l1 hh1 r1 => ?_) fun _ _ z => z.elim⟩
        have hst1 := hst.later hh.ok l1
        rw [R.wp_bind] at h
        refine ⟨M1, G1, s, hh1, hst1, R.wp_mono h (fun iv G3 h M3 ui H3 l3 hh3 r3 => ?_) fun _ _ z => z.elim⟩
        have hst3 := hst1.later hh1.ok l3
        rw [R.wp_bind] at h
        obtain ⟨G4, q, h⟩ := R.wp_opt h
        obtain ⟨H4, hq, w1, w2, w3⟩ := set_ref hh3 hst3 (r1.later l3) r3 ((r.later l1).later l3) q
        exact hq _ ⟨M3, _, s, ys, w2, w3, ((rr.later l1).later l3).since w1, R.wp_mono h (fun s1 G1 h M' H' st' l => h M' H' st' (((l1.trans l3).since.trans w1).trans l)) fun _ _ z => z⟩
theorem pgs_itemPO {k : Nat} {x : Str} {i : Expr} {ji : E} {px p : Pos} {es : List Expr} {ts : PTgs} (hN : X.N[k]? = some x) (hv : Vis X.env.scope x) (hd : (x == ("__debug__" : Str)) = false) (hcd : (x == ("__classdict__" : Str)) = false) (hi : PE X i (tE X.K W (evE Γ ji))) (h2 : PGs X es (gPs X.K Γ ts))
    (hs : (assignEach (.Subscript (.Name x px) i p :: es) X.env).map (·.2) = assign (.Subscript (.Name x px) i p) X.env :: (assignEach es X.env).map (·.2))
    (ha : ∀ v, assign (.Subscript (.Name x px) i p) X.env v = (do
      let ov ← holding [v] (eval (.Name x px) X.env)
      let iv ← holding [v, ov] (eval i X.env)
      standAt p
      holding [v, ov, iv] (setItem ov iv v)
      release [v, ov, iv] [])) : PGs X (.Subscript (.Name x px) i p :: es) (gPs X.K Γ (.cons (.itemO k ji) ts)) :=
  pgsImp (pgs_cons (pg_sub (pe_var hN hv hd hcd) hi set_list ha) h2 hs) fun v σ H Q ⟨M, G, s, xs, hh, hst, r, h⟩ => by
    cases xs with
    | nil => exact h.elim
    | cons y ys =>
      cases r with
      | cons r rr =>
        rw [evPTgs] at h
        cases q0 : s.getD k .no with
        | own zs =>
          rw [q0] at h
          have h : ((evE Γ ji s G).bind fun iv G2 => (R.opt (setOwn k iv y s) G2).bind fun s1 _ => evPTgs Γ ts ys s1 G2).wp _ _ := h
          rw [R.wp_bind] at h
          obtain ⟨a, vs, e0, _, _, _⟩ := own_at hst q0
          refine ⟨_, _, rfl, .ref a, e0, M, G, s, hh, hst, R.wp_mono h (fun iv G3 h M3 ui H3 l3 hh3 r3 => ?_) fun _ _ z => z.elim⟩
          have hst3 := hst.later hh.ok l3
          rw [R.wp_bind] at h
          obtain ⟨s4, q, h⟩ := R.wp_opt h
          obtain ⟨zs, n, j, e1, rfl, e2, rfl⟩ := setOwn_some q
          obtain ⟨b, ws, e4, o, hb, tb⟩ := own_at hst3 e1
          rw [e0] at e4
          cases e4
          cases r3
          obtain ⟨w1, w2, w3⟩ := own_write hh3 hst3 e1 e0 o (tb.set (r.later l3) j)
          exact ⟨_, ws, n, j, rfl, rfl, hb, by rw [← tb.length]; exact e2, M3, _, _, ys, w2, w3, (rr.later l3).since w1, R.wp_mono h (fun s1 G1 h M' H' st' l => h M' H' st' ((l3.since.trans w1).trans l)) fun _ _ z => z⟩
        | _ => rw [q0] at h; exact h.elim
def PTgs.len : PTgs → Nat
  | .nil => 0
  | .cons _ ts => ts.len + 1
theorem evP_len : ∀ {ts : PTgs} {xs : List Val} {s s1 : Store} {G G1 : Heap}, evPTgs Γ ts xs s G = .ok s1 G1 → xs.length = ts.len
  | .nil, [], _, _, _, _, _ => rfl
  | .nil, _ :: _, _, _, _, _, h => by rw [evPTgs] at h; cases h
  | .cons _ _, [], _, _, _, _, h => by rw [evPTgs] at h; cases h
  | .cons (.name i) ts, x :: xs, s, s1, _, _, h => by
    rw [evPTgs] at h
    rw [List.length_cons, evP_len h]; rfl
  | .cons (.item o i) ts, x :: xs, s, s1, _, _, h => by
    rw [evPTgs] at h
    obtain ⟨_, _, _, h⟩ := R.bind_eq_ok h
    obtain ⟨_, _, _, h⟩ := R.bind_eq_ok h
    obtain ⟨_, _, _, h⟩ := R.bind_eq_ok h
    rw [List.length_cons, evP_len h]; rfl
  | .cons (.itemO k i) ts, x :: xs, s, s1, _, _, h => by
    rw [evPTgs] at h
    split at h
    · obtain ⟨_, _, _, h⟩ := R.bind_eq_ok h
      obtain ⟨_, _, _, h⟩ := R.bind_eq_ok h
      rw [List.length_cons, evP_len h]; rfl
    · cases h
theorem ps_parK {es : List Expr} {k : Nat} {pt pos : Pos} {ts : PTgs} {e : Expr} {j : E} (hc : X.calm = true) (he : PE X e (tE X.K W (evE Γ j))) (hp : PGs X es (gPs X.K Γ ts)) (hn : (assignEach es X.env).length = ts.len) (hst : (assignEach es X.env).findIdx? (·.1) = none)
    (hs : swapsWithSole [.Tuple es k pt] e pos.line X.env = pure false) (hw : swappedStores [.Tuple es k pt] e X.env = pure none) (h1 : (assignEach [.Tuple es k pt] X.env).map (·.2) = [assign (.Tuple es k pt) X.env]) :
    PS X (.Assign [.Tuple es k pt] e pos) (tS X.K W (evS Γ (.par ts j))) :=
  psImp (ps_asg he (pg_tup hc hp hn hst) hs hw h1) fun D σ H ⟨M, G, s, hh, hst, h⟩ => by
    rw [evS] at h
    refine ⟨M, G, s, hh, hst, R.wp_mono (Post.wp hh hst h) (fun v G1 h M1 u H1 l1 hh1 r1 => ?_) fun _ _ x => x⟩
    have hst1 := hst.later hh.ok l1
    cases v with
    | tup xs =>
      have h : Post X.K W M H D ((evPTgs Γ ts xs s G1).calm.thenS s .next) := h
      obtain ⟨a, vs, rfl, h2, t⟩ := r1.tup
      cases q : evPTgs Γ ts xs s G1 with
      | no => rw [q] at h; exact h.elim
      | exc _ _ => rw [q] at h; exact h.elim
      | ok s1 G2 =>
        rw [q] at h
        refine ⟨a, vs, rfl, h2, by rw [← t.length, evP_len q], M1, G1, s, xs, hh1, hst1, t, ?_⟩
        rw [q]
        exact fun M' H' st' l hh' hst' => h M' H' st' (l1.since.trans l) hh' hst'
    | _ => exact h.elim
theorem comp_lst {ws : List Nat} {t : Tg} {it : Itx} {c e : E} {s : Store} {G G1 : Heap} {v : Val} (h : evE Γ (.comp ws t it c e) s G = .ok v G1) : ∃ xs, v = .lst xs := by
  rw [evE] at h
  obtain ⟨xs, G2, _, h⟩ := R.bind_eq_ok h
  split at h
  · cases h
  · cases q : (compR (setT t) (evE Γ c) (evE Γ e) xs (wipeS s ws) G2) with
    | ok vs G3 => rw [q] at h; cases h; exact ⟨vs, rfl⟩
    | no => rw [q] at h; cases h
    | exc _ _ => rw [q] at h; cases h
theorem R.wp_comp_lst {ws : List Nat} {t : Tg} {it : Itx} {c e : E} {s : Store} {G : Heap} {k : Val → Heap → Prop} {x : Exc → Heap → Prop} (h : (evE Γ (.comp ws t it c e) s G).wp k x) : (evE Γ (.comp ws t it c e) s G).wp (fun v G1 => (∃ xs, v = .lst xs) ∧ k v G1) x := by
  cases q : evE Γ (.comp ws t it c e) s G with
  | ok v G1 => rw [q] at h; exact ⟨comp_lst q, h⟩
  | no => rw [q] at h; exact h
  | exc _ _ => rw [q] at h; exact h
section
variable {elt tg iter : Expr} {ifs : List Expr} {scope : Scope} {own : List (Str × Nat)} {pos : Pos} {t : Tg} {it : Itx} {c e : E}
theorem pe_compV (hc : X.calm = true) (hN : X.N.Nodup) (hi : PI X tg iter (tI Later X.K W (evI Γ it))) (ok : BlkOk X.N X.env.scope scope own) (hts : ∀ i ∈ tgS t, i ∈ own.map (·.2))
    (hg : ∀ (s : Shared) (H : Hp) (C : Addr) (cl : List (Str × Addr)) (fp : List Addr), PG (X.blk s H scope (compEnvC scope cl C X.env) fp) tg (gT X.K t)) (ht : ∀ (s : Shared) (H : Hp) (C : Addr) (cl : List (Str × Addr)) (fp : List Addr), PTs (X.blk s H scope (compEnvC scope cl C X.env) fp) ifs (tT X.K WF (evE Γ c)))
    (he : ∀ (s : Shared) (H : Hp) (C : Addr) (cl : List (Str × Addr)) (fp : List Addr), PE (X.blk s H scope (compEnvC scope cl C X.env) fp) elt (tE X.K WF (evE Γ e))) (hs : ∀ x, foldedSetIterable iter X.env x = pure x) :
    PE X (.ListComp elt [⟨tg, iter, ifs, 0⟩] scope pos) (tF X.K W (evE Γ (.comp (own.map (·.2)) t it c e))) :=
  peImp (pe_lc hc hN hi ok hg ht he hs) fun σ H Q h => pe_compF (pos := pos) hc hN hi ok hts hg ht he hs (fun _ => True) σ H Q h
/-- x = [..], x a list of one's own -/
theorem ps_compO {i : Nat} {y : Str} {py spos : Pos} (hc : X.calm = true) (hN : X.N.Nodup) (hy : X.N[i]? = some y) (hyl : X.env.scope.names.lookup y = some .local)
    (hsw : swapsWith (.ListComp elt [⟨tg, iter, ifs, 0⟩] scope pos) (some (.Name y py)) spos.line X.env = pure true) (hi : PI X tg iter (tI Later X.K W (evI Γ it))) (ok : BlkOk X.N X.env.scope scope own) (hts : ∀ i ∈ tgS t, i ∈ own.map (·.2))
    (hg : ∀ (s : Shared) (H : Hp) (C : Addr) (cl : List (Str × Addr)) (fp : List Addr), PG (X.blk s H scope (compEnvC scope cl C X.env) fp) tg (gT X.K t)) (ht : ∀ (s : Shared) (H : Hp) (C : Addr) (cl : List (Str × Addr)) (fp : List Addr), PTs (X.blk s H scope (compEnvC scope cl C X.env) fp) ifs (tT X.K WF (evE Γ c)))
    (he : ∀ (s : Shared) (H : Hp) (C : Addr) (cl : List (Str × Addr)) (fp : List Addr), PE (X.blk s H scope (compEnvC scope cl C X.env) fp) elt (tE X.K WF (evE Γ e))) (hs : ∀ x, foldedSetIterable iter X.env x = pure x) :
    PS X (.Assign [.Name y py] (.ListComp elt [⟨tg, iter, ifs, 0⟩] scope pos) spos) (tS X.K W (evS Γ (.asgOwn i (.comp (own.map (·.2)) t it c e)))) :=
  psImp (ps_setLc hc hN hy hyl hsw hi ok hg ht he hs) fun D σ H ⟨M, G, s, hh, hst, h⟩ => pe_compF (pos := pos) hc hN hi ok hts hg ht he hs (fun _ => True) σ H (fun x H1 => gName i x σ H1 D.nx) (by
    rw [evS] at h
    refine ⟨M, G, s, hh, hst, R.wp_mono (Post.wp hh hst h) (fun v G1 k => ?_) fun _ _ x => x⟩
    cases v with
    | lst xs =>
      refine ⟨xs, rfl, fun M1 a vs H1 l1 hn n => ?_⟩
      by_cases hl : i < s.length
      · obtain ⟨M2, q1, q2, q3⟩ := own_new hl hh.ok hst l1 hn n
        exact k M2 H1 _ q1 q2 q3
      · have e1 : s.set i (.own xs) = s := List.set_eq_of_length_le (Nat.le_of_not_lt hl)
        have e2 : σ.set i (some (V.ref a)) = σ := List.set_eq_of_length_le (by rw [← hst.len]; exact Nat.le_of_not_lt hl)
        have k : Post X.K W M H D (.next (s.set i (.own xs)) G1) := k
        rw [e1] at k
        show D.nx (σ.set i (some (V.ref a))) H1
        rw [e2]
        exact k M1 H1 σ l1.since (n.val hh.ok l1 hn).1 (hst.later hh.ok l1)
    | _ => exact k.elim)
theorem ps_compV {i : Nat} {y : Str} {py spos : Pos} (hc : X.calm = true) (hN : X.N.Nodup) (hy : X.N[i]? = some y) (hyl : X.env.scope.names.lookup y = some .local)
    (hsw : swapsWith (.ListComp elt [⟨tg, iter, ifs, 0⟩] scope pos) (some (.Name y py)) spos.line X.env = pure true) (hi : PI X tg iter (tI Later X.K W (evI Γ it))) (ok : BlkOk X.N X.env.scope scope own) (hts : ∀ i ∈ tgS t, i ∈ own.map (·.2))
    (hg : ∀ (s : Shared) (H : Hp) (C : Addr) (cl : List (Str × Addr)) (fp : List Addr), PG (X.blk s H scope (compEnvC scope cl C X.env) fp) tg (gT X.K t)) (ht : ∀ (s : Shared) (H : Hp) (C : Addr) (cl : List (Str × Addr)) (fp : List Addr), PTs (X.blk s H scope (compEnvC scope cl C X.env) fp) ifs (tT X.K WF (evE Γ c)))
    (he : ∀ (s : Shared) (H : Hp) (C : Addr) (cl : List (Str × Addr)) (fp : List Addr), PE (X.blk s H scope (compEnvC scope cl C X.env) fp) elt (tE X.K WF (evE Γ e))) (hs : ∀ x, foldedSetIterable iter X.env x = pure x) :
    PS X (.Assign [.Name y py] (.ListComp elt [⟨tg, iter, ifs, 0⟩] scope pos) spos) (tS X.K W (evS Γ (.asg (.name i) (.comp (own.map (·.2)) t it c e)))) :=
  psImp (ps_setLc hc hN hy hyl hsw hi ok hg ht he hs) fun D σ H ⟨M, G, s, hh, hst, h⟩ => pe_compF (pos := pos) hc hN hi ok hts hg ht he hs (fun _ => True) σ H (fun x H1 => gName i x σ H1 D.nx) (by
    rw [evS] at h
    refine ⟨M, G, s, hh, hst, R.wp_mono (R.wp_comp_lst (Post.wp hh hst h)) (fun v G1 ⟨⟨xs, e0⟩, k⟩ => ?_) fun _ _ x => x⟩
    subst e0
    refine ⟨xs, rfl, fun M1 a vs H1 l1 hn n => ?_⟩
    have k : Post X.K W M H D (.next (s.set i (.val (.lst xs))) G1) := k
    obtain ⟨q1, q2⟩ := n.val hh.ok l1 hn
    exact k M1 H1 _ l1.since q1 ((hst.later hh.ok l1).setVal i q2))
end
end Fx

namespace Fx
open PySem PySem.Spec PyProof.Rows L2
variable {X : Cx} {W : WX} {Γ : Calls}
/-- a dict of the top -/
def DicOk (K : PySem.W.Frag) (w : World) (d : Addr) (ks : List Key) (vs : List Val) : Prop := ∃ (es : Array DictEntry) (n : Nat) (us : List V) (uv : List Value), K.lookup d = some ⟨.type "dict", none, .dict es n, #[]⟩ ∧ (d == sysModules) = false ∧
  (∀ prog : Program, PySem.KeysOf (mixKind prog w) es ∧ PySem.Pairs (mixKind prog w) es.toList (ks.zip uv)) ∧ ks.Nodup ∧ ks.length = us.length ∧ ks.length ≤ sizeLine ∧ Vals us uv ∧ ∀ M H, Rls K M H vs us
theorem kv_zip : ∀ {ks : List Key} {us : List V} {uv : List Value}, ks.length = us.length → Vals us uv → KV (ks.zip us) (ks.zip uv)
  | [], _, _, _, _ => .nil
  | _ :: _, [], _, h, _ => by cases h
  | k :: ks, u :: us, _, h, .cons r t => .cons ⟨rfl, r⟩ (kv_zip (Nat.succ.inj h) t)
theorem call_dcon : CallR X (.type "dict") (fun xs H Q => ∃ (d : Addr) (ks : List Key) (vs : List Val), xs = [V.ref d] ∧ DicOk X.K X.w d ks vs ∧ ∀ (p : Addr) (us : List V), H p = Option.none → ks.length = us.length → (∀ M H, Rls X.K M H vs us) → Q (.ref p) (upd H p (.dK (ks.zip us)))) := by
  intro pins s σ H xs us Q I r q
  obtain ⟨d, ks, vs, rfl, ⟨es, n, us', uv, lk, low, kp, nd, hl, hz, rv, rl⟩, q⟩ := q
  obtain ⟨u, rfl, rx⟩ := vals1 r
  cases rx
  have hk := kp X.prog
  have ho := I.kIn _ _ lk
  have lz : (ks.zip uv).length = ks.length := by rw [List.length_zip, ← rv.length, ← hl, Nat.min_self]
  have dd : s.heap.DictOf (mixKind X.prog X.w) d (ks.zip uv) := ⟨_, es, n, ho, ⟨rfl, rfl, rfl⟩, rfl, hk.1, hk.2, by rw [List.map_fst_zip]; exact nd; rw [← rv.length, ← hl]; exact Nat.le_refl _⟩
  refine kt_call_dict low dd (by rw [lz]; exact hz) fun h' d' hs => ?_
  have hm : (s.heap.objs.size == sysModules) = false := beq_eq_false_iff_ne.mpr (Nat.ne_of_gt I.big)
  have lz2 : (ks.zip us').length = ks.length := by rw [List.length_zip, ← hl, Nat.min_self]
  exact ⟨.ref s.heap.objs.size, upd H s.heap.objs.size (.dK (ks.zip us')), I.laid (t' := s.toks) (fun b u e => (hs.2 b (Nat.ne_of_lt (Heap.lt_size e))).trans (Heap.get?_push_of_some _ e)) (Nat.le_refl _)
    (show ObjOk X.prog X.w _ _ _ (.dK (ks.zip us')) from ⟨by rw [lz2]; exact hz, hm, ks.zip uv, kv_zip hl rv, d'⟩), rfl, q _ _ (I.hok.fresh (Nat.le_refl _)) hl rl⟩
/-- dict(NAME) -/
theorem pe_dcon {x : Str} {d : Addr} {ks : List Key} {vs : List Val} {p p2 pos : Pos} (hg : Gl X "dict") (hm : X.mg "dict" = none) (hgx : Gl X x) (hmx : X.mg x = some (.ref d)) (hdx : (x == ("__debug__" : Str)) = false) (D : DicOk X.K X.w d ks vs) :
    PE X (.Call (.Name "dict" p) [.Name x p2] [] pos) (tE X.K W (evE Γ (.dcon ks vs))) := by
  have hb : bootBuiltins ("dict" : Str) = some (.type "dict") := by kernel_rfl
  have ha : PE X (.Name x p2) (L2.tC (.ref d)) := pe_glob hgx hmx rfl hdx
  refine peImp (pe_callTy call_dcon hg hm hb (pa_cons ha pa_nil (by rfl)) (by decide +kernel) (by decide +kernel) (by rfl) (by rfl)) fun σ H Q ⟨M, G, s, hh, hst, hm⟩ => ?_
  rw [evE] at hm
  refine ⟨d, ks, vs, rfl, D, fun p us hp hl rl => ?_⟩
  obtain ⟨k1, k2, k3⟩ := heap_push (o := .dK (ks.zip us)) (ob := .dct ks vs) hh hp ⟨us, upd_same, hl, rl _ _⟩
  exact hm _ _ _ k1 k2 k3
mutual
theorem conB_ok {K : PySem.W.Frag} : ∀ {c : Val} {u : Value}, conB K c u = true → ∃ v, RelV v u ∧ ∀ M H, Rl K M H c v
  | .none, u, h => by
    cases u with
    | none => exact ⟨.non, rfl, fun _ _ => .nn⟩
    | _ => simp [conB] at h
  | .bool b, u, h => by
    cases u with
    | bool c =>
      have h : b = c := by simpa [conB] using h
      rw [h]; exact ⟨.bl c, rfl, fun _ _ => .bool c⟩
    | _ => simp [conB] at h
  | .int i, u, h => by
    cases u with
    | int j t =>
      have h : i = j := by simpa [conB] using h
      rw [h]; exact ⟨.int j, ⟨t, rfl⟩, fun _ _ => .int j⟩
    | _ => simp [conB] at h
  | .str s, u, h => by
    cases u with
    | str z t =>
      have h : Str.ofString s = z := by simpa [conB] using h
      rw [← h]; exact ⟨.str _, ⟨t, rfl⟩, fun _ _ => .str s⟩
    | _ => simp [conB] at h
  | .tup xs, u, h => by
    cases u with
    | ref a =>
      rw [conB] at h
      cases q : K.lookup a with
      | none => rw [q] at h; cases h
      | some o =>
        obtain ⟨oc, od, dt, sl⟩ := o
        rw [q] at h
        cases oc with
        | type c =>
          cases od with
          | some _ => cases dt <;> cases h
          | none =>
          cases dt with
          | seq its n =>
            simp only [Bool.and_eq_true, decide_eq_true_eq] at h
            obtain ⟨⟨rfl, h2⟩, h3⟩ := h
            obtain ⟨vs, r, rl⟩ := conBs_ok h3
            exact ⟨.ref a, rfl, fun M H => .tupK ⟨_, its, n, q, rfl, rfl, rfl, h2, r⟩ (rl M H)⟩
          | _ => cases h
        | _ => cases od <;> cases dt <;> cases h
    | _ => simp [conB] at h
  | .lst _, u, h => by cases u <;> simp [conB] at h
  | .frz _, u, h => by cases u <;> simp [conB] at h
  | .ref _, u, h => by cases u <;> simp [conB] at h
  | .dct _ _, u, h => by cases u <;> simp [conB] at h
theorem conBs_ok {K : PySem.W.Frag} : ∀ {xs : List Val} {us : List Value}, conBs K xs us = true → ∃ vs, Vals vs us ∧ ∀ M H, Rls K M H xs vs
  | [], us, h => by
    cases us with
    | nil => exact ⟨[], .nil, fun _ _ => .nil⟩
    | cons _ _ => simp [conBs] at h
  | x :: xs, us, h => by
    cases us with
    | nil => simp [conBs] at h
    | cons u us =>
      simp only [conBs, Bool.and_eq_true] at h
      obtain ⟨v, r1, l1⟩ := conB_ok h.1
      obtain ⟨vs, r2, l2⟩ := conBs_ok h.2
      exact ⟨v :: vs, .cons r1 r2, fun M H => .cons (l1 M H) (l2 M H)⟩
end
end Fx

namespace Fx
open PySem PySem.Spec PyProof.Rows L2 RZ
/-- the zip whose last pair is at a -/
abbrev IsZipA (h : PySem.Heap) (z TI TO a : Addr) (f : Bool) : Prop :=
  h.get? z = some { cls := .type "zip", dict := Option.none, data := .fields #[rawInt a, .bool f, .bool false, .ref TI, .ref TO], slots := #[] }
section
variable {prog : Program} {w : World} {A : Around} {E : Value → Shared → Prop} {s : Shared}
theorem zip_free {z TI TO a : Addr} {f : Bool} {oa : PySem.Obj} {Q : Bool → Shared → Prop} (hz : IsZipA s.heap z TI TO a f) (ha : s.heap.get? a = some oa) (haz : a ≠ z)
    (h : ∀ h', IsZipA h' z TI TO a true → Heap.SameBut z s.heap h' → Q false { s with heap := h' }) : wpAny (model prog w) A (Builtin.SmallTypes.ownedTupleIsFree (.ref z)) Q E s := by
  unfold Builtin.SmallTypes.ownedTupleIsFree
  refine wpAny_bind (wpAny_field hz rfl (x := rawInt a) rfl ?_)
  show wpAny _ _ (loadIfAlive ((a : Int).toNat) >>= _) _ _ _
  rw [Int.toNat_natCast]
  refine wpAny_bind (PySem.W.kdx_alive ha ?_)
  simp only [Option.isNone_some, Bool.false_eq_true, if_false]
  refine wpAny_bind (wpAny_field hz rfl (x := .bool f) rfl ?_)
  cases f with
  | true =>
    rw [if_neg (show ¬ ((Value.bool true != Value.bool true) = true) from Bool.false_ne_true)]
    refine wpAny_pure ?_
    exact h s.heap hz (Heap.SameBut.refl _ _)
  | false =>
    rw [if_pos (show (Value.bool false != Value.bool true) = true from rfl)]
    refine wpAny_bind (wpAny_setField_rec hz (by simp) fun h₃ he₃ hs₃ => ?_)
    exact wpAny_pure (h h₃ he₃ hs₃)
/-- what stands apart, and the last pair's place -/
structure ZipOut (h : PySem.Heap) (z TI TO i1 i2 a : Addr) (f : Bool) : Prop where
  zp : IsZipA h z TI TO a f
  al : ∃ oa, h.get? a = some oa
  az : a ≠ z
  a1 : a ≠ i1
  a2 : a ≠ i2
theorem zip_next2 {z TI TO i1 i2 l1 l2 a : Addr} {f : Bool} {k1 k2 : Nat} {xs ys : Array Value} {x y : Value} {Q : Value → Shared → Prop} (D : ZipApart z TI TO i1 i2 l1 l2)
    (hz : ZipOut s.heap z TI TO i1 i2 a f) (hTI : IsPair s.heap TI (.ref i1) (.ref i2))
    (h1 : s.heap.IsTupleIter i1 l1 k1) (h2 : s.heap.IsTupleIter i2 l2 k2) (hl1 : s.heap.IsTuple l1 xs) (hl2 : s.heap.IsTuple l2 ys) (hx : xs[k1]? = some x) (hy : ys[k2]? = some y)
    (hQ : ∀ h', ZipOut h' z TI TO i1 i2 a true → h'.IsTupleIter i1 l1 (k1 + 1) → h'.IsTupleIter i2 l2 (k2 + 1) → IsPair h' s.heap.objs.size x y → h'.objs.size = s.heap.objs.size + 1 →
      (∀ c o, c ≠ z → c ≠ i1 → c ≠ i2 → s.heap.get? c = some o → h'.get? c = some o) → Q (.ref s.heap.objs.size) { s with heap := h' }) :
    wpAny (model prog w) A (Builtin.«zip.__next__» ⟨[.ref z], []⟩) (fun fin s' => ∃ v, fin = .done (.ret v) ∧ Q v s') E s := by
  obtain ⟨hz0, ⟨oa, ha⟩, az, a1, a2⟩ := hz
  show wpAny _ _ (field (.ref z) 2 >>= _) _ _ _
  refine wpAny_bind (wpAny_field hz0 rfl (x := .bool false) rfl ?_)
  show wpAny _ _ (field (.ref z) 3 >>= _) _ _ _
  refine wpAny_bind (wpAny_field hz0 rfl (x := .ref TI) rfl ?_)
  refine wpAny_bind (wpAny_seqItems hTI rfl ?_)
  show wpAny _ _ (Builtin.SmallTypes.ownedTupleIsFree (.ref z) >>= _) _ _ _
  refine wpAny_bind (zip_free hz0 ha az fun h₁ hz₁ hs₁ => ?_)
  simp only [Bool.false_eq_true, if_false]
  refine wpAny_bind ?_
  refine wpAny_bind (wpAny_bind (wpAny_holding ?_))
  show wpAny _ _ (Builtin.SmallTypes.nextOf (.ref i1) >>= _) _ _ _
  refine wpAny_bind (nextOf_tuple_item (h1.extBut hs₁.extBut D.i1z) (hl1.extBut hs₁.extBut D.l1z) hx fun h₂ h1₂ hs₂ => wpAny_pure ?_)
  refine wpAny_pure ?_
  refine wpAny_bind (wpAny_bind (wpAny_holding ?_))
  show wpAny _ _ (Builtin.SmallTypes.nextOf (.ref i2) >>= _) _ _ _
  refine wpAny_bind (nextOf_tuple_item ((h2.extBut hs₁.extBut D.i2z).extBut hs₂.extBut D.i12.symm) ((hl2.extBut hs₁.extBut D.l2z).extBut hs₂.extBut D.l2i1) hy fun h₄ h2₄ hs₄ => wpAny_pure ?_)
  refine wpAny_pure (wpAny_pure ?_)
  show wpAny _ _ (newTuple [x, y] >>= _) _ _ _
  refine wpAny_bind (wpAny_newTuple ?_)
  have hsz : h₄.objs.size = s.heap.objs.size := by rw [hs₄.1, hs₂.1, hs₁.1]
  have kp : ∀ c o, c ≠ z → c ≠ i1 → c ≠ i2 → s.heap.get? c = some o → h₄.get? c = some o := fun c o c1 c3 c4 e => hs₄.extBut _ _ c4 (hs₂.extBut _ _ c3 (hs₁.extBut _ _ c1 e))
  have zi1 : z ≠ i1 := D.i1z.symm
  have zi2 : z ≠ i2 := D.i2z.symm
  have hz₄ : IsZipA h₄ z TI TO a true := hs₄.extBut _ _ zi2 (hs₂.extBut _ _ zi1 hz₁)
  have up : ∀ c o, h₄.get? c = some o → (h₄.push { cls := .type "tuple", data := .seq #[x, y] }).get? c = some o := fun c o e => Heap.get?_push_of_some _ e
  refine wpAny_pure ⟨_, rfl, ?_⟩
  show Q (.ref h₄.objs.size) _
  rw [hsz]
  refine hQ _ ⟨up _ _ hz₄, ⟨oa, up _ _ (kp a oa az a1 a2 ha)⟩, az, a1, a2⟩ ((h1₂.extBut hs₄.extBut D.i12).at fun o e => up _ o e) (h2₄.at fun o e => up _ o e) ?_ ?_ fun c o c1 c3 c4 e => up c o (kp c o c1 c3 c4 e)
  · rw [← hsz]; exact Heap.get?_push_size _ rfl
  · rw [← hsz]; exact Heap.size_push ..
theorem zip_end2 {z TI TO i1 i2 l1 l2 a : Addr} {f : Bool} {k1 k2 : Nat} {xs ys : Array Value} {Q : Fin → Shared → Prop} (hh : A.handled = Option.none) (D : ZipApart z TI TO i1 i2 l1 l2)
    (hz : ZipOut s.heap z TI TO i1 i2 a f) (hTI : IsPair s.heap TI (.ref i1) (.ref i2))
    (h1 : s.heap.IsTupleIter i1 l1 k1) (h2 : s.heap.IsTupleIter i2 l2 k2) (hl1 : s.heap.IsTuple l1 xs) (hl2 : s.heap.IsTuple l2 ys) (hend : xs[k1]? = Option.none ∨ ys[k2]? = Option.none)
    (hE : ∀ h' e, (∀ c o, c ≠ z → c ≠ i1 → c ≠ i2 → s.heap.get? c = some o → h'.get? c = some o) → (∃ o, h'.get? e = some o ∧ o.cls = .type "StopIteration") → E (.ref e) { s with heap := h' }) :
    wpAny (model prog w) A (Builtin.«zip.__next__» ⟨[.ref z], []⟩) Q E s := by
  obtain ⟨hz0, ⟨oa, ha⟩, az, a1, a2⟩ := hz
  show wpAny _ _ (field (.ref z) 2 >>= _) _ _ _
  refine wpAny_bind (wpAny_field hz0 rfl (x := .bool false) rfl ?_)
  show wpAny _ _ (field (.ref z) 3 >>= _) _ _ _
  refine wpAny_bind (wpAny_field hz0 rfl (x := .ref TI) rfl ?_)
  refine wpAny_bind (wpAny_seqItems hTI rfl ?_)
  show wpAny _ _ (Builtin.SmallTypes.ownedTupleIsFree (.ref z) >>= _) _ _ _
  refine wpAny_bind (zip_free hz0 ha az fun h₁ hz₁ hs₁ => ?_)
  simp only [Bool.false_eq_true, if_false]
  refine wpAny_bind ?_
  refine wpAny_bind (wpAny_bind (wpAny_holding ?_))
  show wpAny _ _ (Builtin.SmallTypes.nextOf (.ref i1) >>= _) _ _ _
  cases hx : xs[k1]? with
  | none =>
    refine wpAny_bind (nextOf_tuple_end hh (h1.extBut hs₁.extBut D.i1z) (hl1.extBut hs₁.extBut D.l1z) hx fun h₂ e hs₂ he => ?_)
    exact hE h₂ e (fun c o c1 c3 _ x => hs₂ _ _ c3 (hs₁.extBut _ _ c1 x)) he
  | some x =>
    have hy : ys[k2]? = Option.none := by rcases hend with h | h; rw [hx] at h; cases h; exact h
    refine wpAny_bind (nextOf_tuple_item (h1.extBut hs₁.extBut D.i1z) (hl1.extBut hs₁.extBut D.l1z) hx fun h₂ h1₂ hs₂ => wpAny_pure ?_)
    refine wpAny_pure ?_
    refine wpAny_bind (wpAny_bind (wpAny_holding ?_))
    show wpAny _ _ (Builtin.SmallTypes.nextOf (.ref i2) >>= _) _ _ _
    refine wpAny_bind (nextOf_tuple_end hh ((h2.extBut hs₁.extBut D.i2z).extBut hs₂.extBut D.i12.symm) ((hl2.extBut hs₁.extBut D.l2z).extBut hs₂.extBut D.l2i1) hy fun h₄ e hs₄ he => ?_)
    exact hE h₄ e (fun c o c1 c3 c4 x => hs₄ _ _ c4 (hs₂.extBut _ _ c3 (hs₁.extBut _ _ c1 x))) he
/-- where a zip of two tuples stands, k turns behind its begin -/
inductive ZipSt (h : PySem.Heap) (z TI TO i1 i2 S : Addr) : Prop where
  | new (a b : Value) : IsZip h z TI TO .none → IsPair h TO a b → ZipSt h z TI TO i1 i2 S
  | out (a : Addr) (f : Bool) : ZipOut h z TI TO i1 i2 a f → a ≠ S → ZipSt h z TI TO i1 i2 S
theorem zip_turn {z TI TO i1 i2 l1 l2 S : Addr} {k1 k2 : Nat} {xs ys : Array Value} {x y : Value} {Q : Option Value → Shared → Prop} (D : ZipApart z TI TO i1 i2 l1 l2) (hS : S < s.heap.objs.size)
    (hz : ZipSt s.heap z TI TO i1 i2 S) (hTI : IsPair s.heap TI (.ref i1) (.ref i2))
    (h1 : s.heap.IsTupleIter i1 l1 k1) (h2 : s.heap.IsTupleIter i2 l2 k2) (hl1 : s.heap.IsTuple l1 xs) (hl2 : s.heap.IsTuple l2 ys) (hx : xs[k1]? = some x) (hy : ys[k2]? = some y)
    (hQ : ∀ h', ZipSt h' z TI TO i1 i2 S → h'.IsTupleIter i1 l1 (k1 + 1) → h'.IsTupleIter i2 l2 (k2 + 1) → IsPair h' s.heap.objs.size x y → h'.objs.size = s.heap.objs.size + 1 →
      (∀ c o, c ≠ z → c ≠ TO → c ≠ i1 → c ≠ i2 → s.heap.get? c = some o → h'.get? c = some o) → Q (some (.ref s.heap.objs.size)) { s with heap := h' }) : wpAny (model prog w) A (pyNext (.ref z)) Q E s := by
  have zl : ∀ {c : Addr} {o : PySem.Obj}, s.heap.get? c = some o → s.heap.objs.size ≠ c := fun e => Nat.ne_of_gt (Heap.lt_size e)
  have n1 : s.heap.objs.size ≠ i1 := by obtain ⟨_, e, _⟩ := h1; exact zl e
  have n2 : s.heap.objs.size ≠ i2 := by obtain ⟨_, e, _⟩ := h2; exact zl e
  cases hz with
  | new a b hz hTO =>
    refine pyNext_zipT_item D hz hTI hTO h1 h2 hl1 hl2 hx hy fun h' b1 b2 b3 b4 b5 b6 b7 => hQ h' ?_ b3 b4 b5 b6 b7
    exact .out s.heap.objs.size false ⟨b1, ⟨_, b5⟩, zl hz, n1, n2⟩ (Nat.ne_of_gt hS)
  | out a f hz haS =>
    have hT : s.TypeIs (.ref z) "zip" := ⟨_, hz.zp, rfl⟩
    unfold pyNext
    exact wpAny_bind (wpAny_attempt (wpAny_callSpecial?_slot (name := Str.ofString "__next__") hT PySem.F.slot_zip_next
      (wpAny_call_entry PySem.F.slot_zip_next hT PySem.F.entry_zip_next
        (zip_next2 D hz hTI h1 h2 hl1 hl2 hx hy fun h' b1 b3 b4 b5 b6 b7 => wpAny_pure (hQ h' (.out a true b1 haS) b3 b4 b5 b6 fun c o c1 _ c3 c4 e => b7 c o c1 c3 c4 e)) (PySem.F.args_zip_next_1 _))))
theorem zip_stop {z TI TO i1 i2 l1 l2 S : Addr} {k1 k2 : Nat} {xs ys : Array Value} {Q : Option Value → Shared → Prop} (hh : A.handled = Option.none) (D : ZipApart z TI TO i1 i2 l1 l2)
    (hz : ZipSt s.heap z TI TO i1 i2 S) (hTI : IsPair s.heap TI (.ref i1) (.ref i2))
    (h1 : s.heap.IsTupleIter i1 l1 k1) (h2 : s.heap.IsTupleIter i2 l2 k2) (hl1 : s.heap.IsTuple l1 xs) (hl2 : s.heap.IsTuple l2 ys) (hend : xs[k1]? = Option.none ∨ ys[k2]? = Option.none)
    (hQ : ∀ h', (∀ c o, c ≠ z → c ≠ TO → c ≠ i1 → c ≠ i2 → s.heap.get? c = some o → h'.get? c = some o) → Q Option.none { s with heap := h' }) : wpAny (model prog w) A (pyNext (.ref z)) Q E s := by
  cases hz with
  | new a b hz hTO => exact pyNext_zipT_end hh D hz hTI hTO h1 h2 hl1 hl2 hend hQ
  | out a f hz haS =>
    have hT : s.TypeIs (.ref z) "zip" := ⟨_, hz.zp, rfl⟩
    unfold pyNext
    refine wpAny_bind (wpAny_attempt (wpAny_callSpecial?_slot (name := Str.ofString "__next__") hT PySem.F.slot_zip_next
      (wpAny_call_entry PySem.F.slot_zip_next hT PySem.F.entry_zip_next (zip_end2 hh D hz hTI h1 h2 hl1 hl2 hend fun h' e hk he => ?_) (PySem.F.args_zip_next_1 _))))
    obtain ⟨o, ho, hc⟩ := he
    refine wpAny_bind (wpAny_isInstance (T := "StopIteration") (b := true) ⟨o, ho, hc⟩ isSubtype_stop ?_)
    exact wpAny_pure (hQ _ fun c o c1 _ c3 c4 e => hk c o c1 c3 c4 e)
end
/-- the pairs that were made, above lo -/
structure MadeZ (xs ys : Array Value) (lo : Addr) (h : PySem.Heap) (as : List Addr) : Prop where
  rise : as.Pairwise (· < ·)
  above : ∀ a ∈ as, lo < a
  pairs : ∀ (j : Nat) (a : Addr), as[j]? = some a → ∃ x y, xs[j]? = some x ∧ ys[j]? = some y ∧ IsPair h a x y
section
variable {prog : Program} {w : World} {A : Around} {s : Shared} {R : Result → Shared → Prop} {xs ys : Array Value}
theorem loopZ {S z TI TO i1 i2 l1 l2 : Addr} (hh : A.handled = Option.none) (D : ZipApart z TI TO i1 i2 l1 l2) (b1 : z < S) (b2 : TI < S) (b3 : TO < S) (b4 : i1 < S) (b5 : i2 < S) (b6 : l1 < S) (b7 : l2 < S) (dz : TI ≠ z) (hn : min xs.size ys.size ≤ sizeLine) (res : Value) {h₁ : PySem.Heap}
    (hR : ∀ h' tk acc c as, (∀ b o, b ≠ S → b ≠ z → b ≠ TO → b ≠ i1 → b ≠ i2 → h₁.get? b = some o → h'.get? b = some o) → h'.get? S = some { cls := .type "list", dict := Option.none, data := .seq acc c, slots := #[] } → as.length = min xs.size ys.size → MadeZ xs ys S h' as →
      acc.toList = as.map Value.ref → R (.ok (.ret res)) { s with heap := h', toks := tk }) :
    ∀ (k i : Nat) (h : PySem.Heap) (tk c : Nat) (acc : Array Value) (as : List Addr), min xs.size ys.size - i = k → i ≤ min xs.size ys.size → ZipSt h z TI TO i1 i2 S → IsPair h TI (.ref i1) (.ref i2) → h.IsTupleIter i1 l1 i → h.IsTupleIter i2 l2 i → h.IsTuple l1 xs → h.IsTuple l2 ys →
      (∀ b o, b ≠ S → b ≠ z → b ≠ TO → b ≠ i1 → b ≠ i2 → h₁.get? b = some o → h.get? b = some o) →
      h.get? S = some { cls := .type "list", dict := Option.none, data := .seq acc c, slots := #[] } → acc.toList = as.map Value.ref → as.length = i → MadeZ xs ys S h as →
      codeAny (model prog w) A (.builtin "list.extend.loop" ⟨[.ref S, .ref z, res], []⟩) R { s with heap := h, toks := tk } := by
  have nS : ∀ {c : Addr}, c < S → S ≠ c := fun h => Nat.ne_of_gt h
  intro k
  induction k with
  | zero =>
    intro i h tk c acc as hk hi hst hTI h1 h2 hl1 hl2 hkeep hS hacc hal hG
    refine codeAny_builtin PySem.F.entry_extend_loop ?_
    rw [Around.under_plainId PySem.F.plain_extend_loop _]
    show wpAny _ A.in1 (pyNext (.ref z) >>= _) _ _ _
    refine wpAny_bind (zip_stop (s := { s with heap := h, toks := tk }) (A := A.in1) hh D hst hTI h1 h2 hl1 hl2 ?_ fun h' he => ?_)
    · by_cases q : xs.size ≤ ys.size
      · left; exact Array.getElem?_eq_none (by omega)
      · right; exact Array.getElem?_eq_none (by omega)
    · refine wpAny_pure (hR h' tk acc c as (fun b o c1 c2 c3 c4 c5 e => he b o c2 c3 c4 c5 (hkeep b o c1 c2 c3 c4 c5 e)) (he S _ (nS b1) (nS b3) (nS b4) (nS b5) hS) (by omega) ⟨hG.rise, hG.above, fun j a hj => ?_⟩ hacc)
      obtain ⟨x, y, e1, e2, e3⟩ := hG.pairs j a hj
      have ab := hG.above a (List.mem_of_getElem? hj)
      have gt : ∀ {c : Addr}, c < S → a ≠ c := fun h => Nat.ne_of_gt (Nat.lt_trans h ab)
      exact ⟨x, y, e1, e2, he a _ (gt b1) (gt b3) (gt b4) (gt b5) e3⟩
  | succ k ih =>
    intro i h tk c acc as hk hi hst hTI h1 h2 hl1 hl2 hkeep hS hacc hal hG
    have hx : i < xs.size := by omega
    have hy : i < ys.size := by omega
    have hsz : acc.size = i := by rw [← Array.length_toList, hacc, List.length_map, hal]
    refine codeAny_builtin PySem.F.entry_extend_loop ?_
    rw [Around.under_plainId PySem.F.plain_extend_loop _]
    show wpAny _ A.in1 (pyNext (.ref z) >>= _) _ _ _
    have hSl : S < h.objs.size := Heap.lt_size hS
    refine wpAny_bind (zip_turn (s := { s with heap := h, toks := tk }) (S := S) D hSl hst hTI h1 h2 hl1 hl2 (Array.getElem?_eq_getElem hx) (Array.getElem?_eq_getElem hy) fun h' hst' h1' h2' hp hz hkp => ?_)
    dsimp only at hp hz hkp ⊢
    have hS' := hkp S _ (nS b1) (nS b3) (nS b4) (nS b5) hS
    have up : ∀ b o, b ≠ S → h'.get? b = some o → (h'.update S (Obj.mapSeq (·.push (Value.ref h.objs.size)))).get? b = some o := fun b o hb e => (Heap.get?_update_other _ _ (Ne.symm hb)).trans e
    have ne : ∀ {c : Addr}, c < S → c ≠ S := fun h => Nat.ne_of_lt h
    have st2 : ZipSt (h'.update S (Obj.mapSeq (·.push (Value.ref h.objs.size)))) z TI TO i1 i2 S := by
      cases hst' with
      | new a b e1 e2 => exact .new a b (up _ _ (ne b1) e1) (up _ _ (ne b3) e2)
      | out a f e1 e2 =>
        obtain ⟨p1, ⟨oa, p2⟩, p3, p4, p5⟩ := e1
        exact .out a f ⟨up _ _ (ne b1) p1, ⟨oa, up _ _ e2 p2⟩, p3, p4, p5⟩ e2
    show wpAny _ A.in1 (updateSeq S (·.push (Value.ref h.objs.size)) >>= _) _ _ _
    refine wpAny_bind ?_
    refine wpAny_updateSeq hS' rfl (wpAny_pure ⟨plainId_quiet PySem.F.plain_extend_loop _, ih (i + 1) _ tk _ (acc.push (Value.ref h.objs.size)) (as ++ [h.objs.size]) (by omega) (by omega) st2 (up _ _ (ne b2) (hkp _ _ D.TIz D.TITO D.TIi1 D.TIi2 hTI))
      (h1'.at fun o e => up _ o (ne b4) e) (h2'.at fun o e => up _ o (ne b5) e) ?_ ?_
      (fun b o c1 c2 c3 c4 c5 e => up b o c1 (hkp b o c2 c3 c4 c5 (hkeep b o c1 c2 c3 c4 c5 e))) (Heap.get?_update_self _ hS' rfl) (by rw [Array.toList_push, hacc, List.map_append]; rfl) (by rw [List.length_append, hal]; rfl) ⟨?_, ?_, ?_⟩⟩) (by rw [hsz]; omega) (by show (acc.push (Value.ref h.objs.size)).size ≤ sizeLine + 1; rw [Array.size_push, hsz]; omega)
    · obtain ⟨o, ho, r⟩ := hl1
      exact ⟨o, up _ _ (ne b6) (hkp _ _ D.l1z D.l1TO D.l1i1 D.l1i2 ho), r⟩
    · obtain ⟨o, ho, r⟩ := hl2
      exact ⟨o, up _ _ (ne b7) (hkp _ _ D.l2z D.l2TO D.l2i1 D.l2i2 ho), r⟩
    · refine List.pairwise_append.mpr ⟨hG.rise, List.pairwise_singleton .., fun a ha b hb => ?_⟩
      rw [List.mem_singleton.mp hb]
      obtain ⟨j, hj⟩ := List.mem_iff_getElem?.mp ha
      obtain ⟨x, y, _, _, e3⟩ := hG.pairs j a hj
      exact Heap.lt_size e3
    · intro a ha
      rcases List.mem_append.mp ha with ha | ha
      · exact hG.above a ha
      · rw [List.mem_singleton.mp ha]; exact hSl
    · intro j b hj
      rcases Nat.lt_trichotomy j as.length with q | q | q
      · rw [List.getElem?_append_left q] at hj
        obtain ⟨x, y, e1, e2, e3⟩ := hG.pairs j b hj
        have hb := hG.above b (List.mem_of_getElem? hj)
        have gt : ∀ {c : Addr}, c < S → b ≠ c := fun h => Nat.ne_of_gt (Nat.lt_trans h hb)
        exact ⟨x, y, e1, e2, up b _ (Nat.ne_of_gt hb) (hkp b _ (gt b1) (gt b3) (gt b4) (gt b5) e3)⟩
      · subst q
        have hb : h.objs.size = b := by simpa using hj
        subst hb
        exact ⟨_, _, by rw [hal]; exact Array.getElem?_eq_getElem hx, by rw [hal]; exact Array.getElem?_eq_getElem hy, up _ _ (Nat.ne_of_gt hSl) hp⟩
      · have hnone : (as ++ [h.objs.size])[j]? = Option.none := List.getElem?_eq_none (by rw [List.length_append, List.length_singleton]; omega)
        rw [hnone] at hj; cases hj
end
theorem zip_no_len : typeLookup (.type "zip") "__len__" = pure Option.none := by rw [typeLookup_type, builtinLookup_eq_fast]; kernel_rfl
theorem zip_no_hint : typeLookup (.type "zip") "__length_hint__" = pure Option.none := by rw [typeLookup_type, builtinLookup_eq_fast]; kernel_rfl
section
variable {prog : Program} {w : World} {A : Around} {E : Value → Shared → Prop} {s : Shared} {xs ys : Array Value}
theorem extendZ {R : Result → Shared → Prop} {S z TI TO i1 i2 l1 l2 : Addr} (hh : A.handled = Option.none) (D : ZipApart z TI TO i1 i2 l1 l2) (b1 : z < S) (b2 : TI < S) (b3 : TO < S) (b4 : i1 < S) (b5 : i2 < S) (b6 : l1 < S) (b7 : l2 < S) (hn : min xs.size ys.size ≤ sizeLine) (res : Value)
    (hz : IsZip s.heap z TI TO .none) (hTI : IsPair s.heap TI (.ref i1) (.ref i2)) (hTO : IsPair s.heap TO .none .none) (h1 : s.heap.IsTupleIter i1 l1 0) (h2 : s.heap.IsTupleIter i2 l2 0) (hl1 : s.heap.IsTuple l1 xs) (hl2 : s.heap.IsTuple l2 ys) (c₀ : Nat) (hS : s.heap.get? S = some { cls := .type "list", data := .seq #[] c₀ })
    (hR : ∀ h' tk acc c as, (∀ b o, b ≠ S → b ≠ z → b ≠ TO → b ≠ i1 → b ≠ i2 → s.heap.get? b = some o → h'.get? b = some o) → h'.get? S = some { cls := .type "list", dict := Option.none, data := .seq acc c, slots := #[] } → as.length = min xs.size ys.size → MadeZ xs ys S h' as →
      acc.toList = as.map Value.ref → R (.ok (.ret res)) { s with heap := h', toks := tk }) :
    wpAny (model prog w) A.in1 (Builtin.List.listExtendWith (.ref S) (.ref z) res)
      (fun fin s' => match fin with | .done f => R (.ok f) s' | .again c' => c'.quiet = true ∧ codeAny (model prog w) A c' R s') (fun e s' => R (.error e) s') s := by
  have hT : s.TypeIs (.ref z) "zip" := ⟨_, hz, rfl⟩
  have ne : ∀ {c : Addr}, c < S → c ≠ S := fun h => Nat.ne_of_lt h
  unfold Builtin.List.listExtendWith
  refine wpAny_bind (wpAny_typeOf hT ?_)
  have q1 : Builtin.List.listSameRef (.ref S) (.ref z) = false := by simp [Builtin.List.listSameRef, (ne b1).symm]
  have q2 : (Value.type "zip" == Value.type "list") = false := by decide
  have q3 : (Value.type "zip" == Value.type "tuple") = false := by decide
  simp only [q1, q2, q3, Bool.or_false, Bool.false_eq_true, if_false]
  refine wpAny_bind (wpAny_pyIter_zip hz ?_)
  refine wpAny_bind (wpAny_holding ?_)
  unfold Builtin.List.listLengthHint
  refine wpAny_bind (wpAny_specialOf hT zip_no_len ?_)
  show wpAny _ A.in1 (specialOf (Value.ref z) (Str.ofString "__length_hint__") >>= _) _ _ _
  refine wpAny_bind (wpAny_specialOf hT zip_no_hint ?_)
  refine wpAny_pure ?_
  show wpAny _ A.in1 (rule "list.extend.makes-room" >>= fun _ => Builtin.List.listTouch (.ref S) >>= fun _ =>
    again (.builtin "list.extend.loop" ⟨[.ref S, .ref z, res], []⟩)) _ _ _
  refine wpAny_bind (wpAny_rule ?_)
  refine wpAny_bind ?_
  show wpAny _ A.in1 (updateSeq S (·.push .none) >>= fun _ => updateSeq S (·.pop)) _ _ _
  refine wpAny_bind (wpAny_updateSeq hS rfl ?_)
  have hS₂ := Heap.get?_update_self (Obj.mapSeq (·.push Value.none)) hS rfl
  refine wpAny_updateSeq (hz := by seq_fits) hS₂ rfl ?_
  have hS₃ := Heap.get?_update_self (Obj.mapSeq (·.pop)) hS₂ rfl
  have oth : ∀ b o, b ≠ S → s.heap.get? b = some o → ((s.heap.update S (Obj.mapSeq (·.push Value.none))).update S (Obj.mapSeq (·.pop))).get? b = some o :=
    fun b o hb e => (Heap.get?_update_other _ _ (Ne.symm hb)).trans ((Heap.get?_update_other _ _ (Ne.symm hb)).trans e)
  obtain ⟨o6, e6, r6⟩ := hl1
  obtain ⟨o7, e7, r7⟩ := hl2
  refine wpAny_pure ⟨plainId_quiet PySem.F.plain_extend_loop _, loopZ hh D b1 b2 b3 b4 b5 b6 b7 D.TIz hn res hR _ 0 _ _ _ #[] [] rfl (Nat.zero_le _)
    (.new _ _ (oth _ _ (ne b1) hz) (oth _ _ (ne b3) hTO)) (oth _ _ (ne b2) hTI) (h1.at fun o e => oth _ o (ne b4) e) (h2.at fun o e => oth _ o (ne b5) e)
    ⟨o6, oth _ _ (ne b6) e6, r6⟩ ⟨o7, oth _ _ (ne b7) e7, r7⟩ (fun b o c1 _ _ _ _ e => oth b o c1 e) hS₃ rfl rfl ⟨.nil, fun a h => absurd h (List.not_mem_nil), fun j a h => by simp at h⟩⟩
theorem call_listZ {Q : Value → Shared → Prop} {z TI TO i1 i2 l1 l2 : Addr} (hh : A.handled = Option.none) (D : ZipApart z TI TO i1 i2 l1 l2) (hn : min xs.size ys.size ≤ sizeLine)
    (hz : IsZip s.heap z TI TO .none) (hTI : IsPair s.heap TI (.ref i1) (.ref i2)) (hTO : IsPair s.heap TO .none .none) (h1 : s.heap.IsTupleIter i1 l1 0) (h2 : s.heap.IsTupleIter i2 l2 0) (hl1 : s.heap.IsTuple l1 xs) (hl2 : s.heap.IsTuple l2 ys)
    (hQ : ∀ h' tk acc c as, (∀ b o, b ≠ z → b ≠ TO → b ≠ i1 → b ≠ i2 → s.heap.get? b = some o → h'.get? b = some o) → h'.get? s.heap.objs.size = some { cls := .type "list", dict := Option.none, data := .seq acc c, slots := #[] } → as.length = min xs.size ys.size → MadeZ xs ys s.heap.objs.size h' as →
      acc.toList = as.map Value.ref → Q (.ref s.heap.objs.size) { s with heap := h', toks := tk }) : wpAny (model prog w) A (call (.type "list") [.ref z]) Q E s := by
  refine callType_codes (Q₁ := fun obj s₁ => obj = .ref s.heap.objs.size ∧ s₁ = { s with heap := s.heap.push { cls := .type "list", data := .seq #[] } }) PySem.F.called_list (PySem.F.typeCall_list_1 _) PySem.F.entry_list_init
    (code_list_new _ ⟨rfl, rfl⟩) fun obj s₁ h₁ => ?_
  obtain ⟨rfl, rfl⟩ := h₁
  have hS : (s.heap.push { cls := .type "list", data := .seq #[] }).get? s.heap.objs.size = some { cls := .type "list", data := .seq #[] } := Heap.get?_push_size _ rfl
  have b1 := Heap.lt_size hz
  have b2 := Heap.lt_size hTI
  have b3 := Heap.lt_size hTO
  have b4 : i1 < s.heap.objs.size := by obtain ⟨_, e, _⟩ := h1; exact Heap.lt_size e
  have b5 : i2 < s.heap.objs.size := by obtain ⟨_, e, _⟩ := h2; exact Heap.lt_size e
  have b6 : l1 < s.heap.objs.size := by obtain ⟨_, e, _⟩ := hl1; exact Heap.lt_size e
  have b7 : l2 < s.heap.objs.size := by obtain ⟨_, e, _⟩ := hl2; exact Heap.lt_size e
  have ne : ∀ {c : Addr}, c < s.heap.objs.size → c ≠ s.heap.objs.size := fun h => Nat.ne_of_lt h
  refine ⟨⟨_, hS, rfl⟩, PySem.F.args_list_init_2 _ _, ?_⟩
  show wpAny _ _ (do let old ← Builtin.List.listItems (.ref s.heap.objs.size); Builtin.List.listUpdate (.ref s.heap.objs.size) (fun _ => #[]); letGo old.toList.reverse; Builtin.List.listExtendWith (.ref s.heap.objs.size) (.ref z) .none) _ _ _
  refine wpAny_bind ?_
  unfold Builtin.List.listItems
  refine wpAny_bind (wpAny_seqItems hS rfl (wpAny_pure ?_))
  show wpAny _ _ (updateSeq s.heap.objs.size (fun _ => #[]) >>= fun _ => letGo (#[] : Array Value).toList.reverse >>= fun _ => Builtin.List.listExtendWith (.ref s.heap.objs.size) (.ref z) .none) _ _ _
  refine wpAny_bind (wpAny_updateSeq hS rfl ?_)
  have hS₂ := Heap.get?_update_self (Obj.mapSeq (fun _ => (#[] : Array Value))) hS rfl
  have oth : ∀ b o, b ≠ s.heap.objs.size → s.heap.get? b = some o → ((s.heap.push { cls := .type "list", data := .seq #[] }).update s.heap.objs.size (Obj.mapSeq (fun _ => (#[] : Array Value)))).get? b = some o :=
    fun b o hb e => (Heap.get?_update_other _ _ (Ne.symm hb)).trans (Heap.get?_push_of_some _ e)
  refine wpAny_bind (wpAny_letGo ?_)
  obtain ⟨o6, e6, r6⟩ := hl1
  obtain ⟨o7, e7, r7⟩ := hl2
  refine extendZ (A := A.in1) hh D b1 b2 b3 b4 b5 b6 b7 hn .none (oth _ _ (ne b1) hz) (oth _ _ (ne b2) hTI) (oth _ _ (ne b3) hTO) (h1.at fun o e => oth _ o (ne b4) e) (h2.at fun o e => oth _ o (ne b5) e)
    ⟨o6, oth _ _ (ne b6) e6, r6⟩ ⟨o7, oth _ _ (ne b7) e7, r7⟩ _ hS₂ (fun h' tk acc c as hk hS' hl hm ha => ?_)
  exact ⟨rfl, hQ h' tk acc c as (fun b o c1 c2 c3 c4 e => hk b o (ne (Heap.lt_size e)) c1 c2 c3 c4 (oth b o (ne (Heap.lt_size e)) e)) hS' hl hm ha⟩
end
/-- grown by new places alone -/
def Grown (H H2 : Hp) : Prop := ∀ Φ : Hp → Prop, Φ H → (∀ H' a o, Φ H' → H' a = Option.none → Φ (upd H' a o)) → Φ H2
theorem Grown.one {H : Hp} {a : Addr} {o : HO} (h : H a = Option.none) : Grown H (upd H a o) := fun _ x k => k _ _ _ x h
theorem Grown.trans {H H1 H2 : Hp} (h : Grown H H1) (h2 : Grown H1 H2) : Grown H H2 := fun Φ x k => h2 Φ (h Φ x k) k
theorem Grown.mono {H H2 : Hp} (g : Grown H H2) : ∀ b o, H b = some o → H2 b = some o :=
  g (fun H' => ∀ b o, H b = some o → H' b = some o) (fun _ _ e => e) fun H' a o k hn b ob e => by rw [upd_ne (ne_of_none (k b ob e) hn)]; exact k b ob e
section
variable {X : Cx}
theorem takeZ {pins : List (Addr × PySem.Obj)} {σ : L2.St} {H0 : Hp} {s : Shared} {h' : PySem.Heap} {tk : Nat} {P : Addr → List V → Prop} (I0 : Inv X pins σ H0 s) : ∀ (L : List Addr) (H1 : Hp), Inv X pins σ H1 { s with heap := h', toks := tk } → L.Nodup →
    (∀ a ∈ L, s.heap.objs.size ≤ a ∧ H1 a = Option.none ∧ ∃ vs, P a vs ∧ ∀ H2, L2.ObjOk X.prog X.w H2 h' a (.tup vs)) →
    ∃ H2, Inv X pins σ H2 { s with heap := h', toks := tk } ∧ Grown H1 H2 ∧ ∀ a ∈ L, ∃ vs, P a vs ∧ H2 a = some (.tup vs)
  | [], H1, I1, _, _ => ⟨H1, I1, fun _ x _ => x, fun _ h => nomatch h⟩
  | a :: L, H1, I1, hn, h => by
    obtain ⟨hb, hnone, vs, hP, ok⟩ := h a (List.mem_cons_self ..)
    have I2 : Inv X pins σ (upd H1 a (.tup vs)) { s with heap := h', toks := tk } := I1.take (h' := h') (t' := tk) (fun b ob _ e => e) (I0.fpOk hb hnone) (ok _)
    rw [List.nodup_cons] at hn
    obtain ⟨H2, I3, g, q⟩ := takeZ I0 L (upd H1 a (.tup vs)) I2 hn.2 fun c hc => by
      obtain ⟨c1, c2, c3⟩ := h c (List.mem_cons_of_mem _ hc)
      exact ⟨c1, by rw [upd_ne (fun z => hn.1 (by rw [← z]; exact hc))]; exact c2, c3⟩
    refine ⟨H2, I3, (Grown.one hnone).trans g, fun c hc => ?_⟩
    rcases List.mem_cons.mp hc with rfl | hc
    · exact ⟨vs, hP, g.mono _ _ upd_same⟩
    · exact q c hc
/-- list(zip(a, b)) of two tuples -/
def tZipL (K : PySem.W.Frag) (ta : TA) : TE := fun σ H Q => ta σ H fun vs H1 => ∃ (a b : Addr) (xs ys : List V), vs = [.ref a, .ref b] ∧ SqT K H1 a xs ∧ SqT K H1 b ys ∧
  ∀ (H2 : Hp) (l : Addr) (ps : List Addr), Grown H1 H2 → H1 l = Option.none → H2 l = some (.lst (ps.map V.ref)) → ps.length = min xs.length ys.length →
    (∀ (j : Nat) (q : Addr), ps[j]? = some q → H1 q = Option.none ∧ ∃ x y, xs[j]? = some x ∧ ys[j]? = some y ∧ H2 q = some (.tup [x, y])) → Q (.ref l) H2
theorem vals_get : ∀ {xs : List V} {us : List Value} {j : Nat} {u : Value}, Vals xs us → us[j]? = some u → ∃ x, xs[j]? = some x ∧ RelV x u
  | _, _, j, u, .nil, h => by simp at h
  | _, _, 0, u, .cons r _, h => by cases h; exact ⟨_, rfl, r⟩
  | _, _, j + 1, u, .cons _ t, h => by
    obtain ⟨x, h1, h2⟩ := vals_get t (j := j) (by simpa using h)
    exact ⟨x, by simpa using h1, h2⟩
theorem refs_vals : ∀ ps : List Addr, Vals (ps.map V.ref) (ps.map Value.ref)
  | [] => .nil
  | _ :: ps => .cons rfl (refs_vals ps)
theorem pe_zipL (hc : X.calm = true) {e e2 : PySem.Expr} {ta : TA} {p p2 pos pos2 : Pos} (hgL : Gl X "list") (hmL : X.mg "list" = Option.none) (hg : Gl X "zip") (hm : X.mg "zip" = Option.none) (ha : PA X [e, e2] ta)
    (hs : starEach [e, e2] X.env = (false, eval e X.env) :: starEach [e2] X.env := by rfl) (hpl : (backTo pos2 (starEach [e2] X.env)).any (·.1) = false := by rfl) :
    PE X (.Call (.Name "list" p) [.Call (.Name "zip" p2) [e, e2] [] pos2] [] pos) (tZipL X.K ta) := by
  refine ⟨fun pins s σ H Q I h => ?_⟩
  have hbl : bootBuiltins ("list" : Str) = some (.type "list") := by kernel_rfl
  refine Call_ (ld_blt I hgL hmL hbl (PyProof.Rows.callWith_type1 ?_ rfl rfl))
  refine Calls.spliced_cons ?_
  refine Call_ (ld_blt I hg hm PyProof.Rows.boot_zip (PyProof.Rows.callWith_type1 (thn (ha.run pos2 pins s σ H _ I h) fun us s1 ⟨vs, H1, I1, r1, q1⟩ => ?_) hs hpl))
  obtain ⟨a, b, xs, ys, ex, qx, qy, q⟩ := q1
  subst ex
  obtain ⟨u1, u2, rfl, r1, r2⟩ := vals2 r1
  cases r1
  cases r2
  obtain ⟨its, rv, p1, z1⟩ := I1.tuple qx
  obtain ⟨its2, rv2, p2', z2⟩ := I1.tuple qy
  obtain ⟨o1, ho1, _⟩ := id p1
  obtain ⟨o2, ho2, _⟩ := id p2'
  have hh : X.A.handled = Option.none := I.ok.hd hc
  refine call_zipT (show s1.heap.IsTuple a its.toArray from p1) (show s1.heap.IsTuple b its2.toArray from p2') fun h1 hz hTI hTO i1 i2 hsz hk => ?_
  refine Calls.spliced_nil ?_
  have D := zipApart_new (n := s1.heap.objs.size) (Heap.lt_size ho1) (Heap.lt_size ho2)
  have le1 : its.length = xs.length := rv.length.symm
  have le2 : its2.length = ys.length := rv2.length.symm
  refine call_listZ (s := { s1 with heap := h1 }) (xs := its.toArray) (ys := its2.toArray) hh D (by simp only [List.size_toArray]; omega) hz hTI hTO i1 i2 ?_ ?_ fun h' tk acc c as hk' hS hl hG hacc => ?_
  · obtain ⟨o, ho, r⟩ := p1; exact ⟨o, hk _ _ ho, r⟩
  · obtain ⟨o, ho, r⟩ := p2'; exact ⟨o, hk _ _ ho, r⟩
  have up : ∀ b o, s1.heap.get? b = some o → h'.get? b = some o := fun b o e => by
    have lb := Heap.lt_size e
    have lq : ∀ k, b ≠ s1.heap.objs.size + k := fun k => Nat.ne_of_lt (Nat.lt_of_lt_of_le lb (Nat.le_add_right _ _))
    exact hk' b o (lq 4) (lq 3) (lq 0) (lq 1) (hk b o e)
  have I2 : Inv X pins σ H1 { s1 with heap := h', toks := tk } := I1.kept (t' := tk) up
  have hle : s1.heap.objs.size ≤ h1.objs.size := by rw [hsz]; exact Nat.le_add_right _ _
  have hSn : H1 h1.objs.size = Option.none := I1.hok.fresh hle
  have ab : ∀ q ∈ as, s1.heap.objs.size ≤ q := fun q hq => Nat.le_of_lt (Nat.lt_of_le_of_lt hle (hG.above q hq))
  have hlen : as.length = min xs.length ys.length := by rw [hl]; simp only [List.size_toArray]; omega
  have I3 : Inv X pins σ (upd H1 h1.objs.size (.lst (as.map V.ref))) { s1 with heap := h', toks := tk } := I2.take (h' := h') (t' := tk) (fun b ob _ e => e) (I1.fpOk hle hSn)
    ⟨by rw [List.length_map, hlen]; omega, as.map Value.ref, c, refs_vals as, by rw [← hacc]; simpa using hS⟩
  have nd : as.Nodup := List.Pairwise.imp (fun h => Nat.ne_of_lt h) hG.rise
  obtain ⟨H2, I4, g, qq⟩ := takeZ (P := fun q vs => ∃ (j : Nat) (x y : V), as[j]? = some q ∧ xs[j]? = some x ∧ ys[j]? = some y ∧ vs = [x, y]) I1 as _ I3 nd fun q hq => by
    refine ⟨ab q hq, by rw [upd_ne (Nat.ne_of_gt (hG.above q hq))]; exact I1.hok.fresh (ab q hq), ?_⟩
    obtain ⟨j, hj⟩ := List.mem_iff_getElem?.mp hq
    obtain ⟨x, y, e1, e2, e3⟩ := hG.pairs j q hj
    obtain ⟨vx, w1, w2⟩ := vals_get rv (by simpa using e1)
    obtain ⟨vy, w3, w4⟩ := vals_get rv2 (by simpa using e2)
    exact ⟨[vx, vy], ⟨j, vx, vy, hj, w1, w3, rfl⟩, fun H2 => ⟨by rw [sizeLine_eq]; show 2 ≤ _; omega, [x, y], .cons w2 (.cons w4 .nil), ⟨_, e3, rfl, 0, rfl⟩⟩⟩
  refine ⟨.ref h1.objs.size, H2, I4, rfl, q H2 _ as ((Grown.one hSn).trans g) hSn (g.mono _ _ upd_same) hlen fun j z hj => ⟨I1.hok.fresh (ab z (List.mem_of_getElem? hj)), ?_⟩⟩
  obtain ⟨vs, ⟨j', x, y, h1', h2', h3', rfl⟩, h5⟩ := qq z (List.mem_of_getElem? hj)
  have ej : j' = j := by
    have l1 := (List.getElem?_eq_some_iff.mp h1').1
    exact (List.getElem?_inj l1 nd).mp (h1'.trans hj.symm)
  subst ej
  exact ⟨x, y, h2', h3', h5⟩
end
theorem zipLV_of : ∀ {vs : List Val} {c : Val}, zipLV vs = some c → ∃ xs ys, vs = [.tup xs, .tup ys] ∧ c = .lst (zipV xs ys) := by
  intro vs c h
  unfold zipLV at h
  split at h
  · cases h; exact ⟨_, _, rfl, rfl⟩
  · cases h
theorem zip_rls {K : PySem.W.Frag} {M : Mp} {H2 : Hp} : ∀ {xs ys : List Val} {vx vy : List V} {ps : List Addr}, Rls K M H2 xs vx → Rls K M H2 ys vy → ps.length = min vx.length vy.length →
    (∀ (j : Nat) (q : Addr), ps[j]? = some q → ¬ M.ex q ∧ ∃ x y, vx[j]? = some x ∧ vy[j]? = some y ∧ H2 q = some (.tup [x, y])) → Rls K M H2 (zipV xs ys) (ps.map V.ref)
  | [], _, _, _, ps, .nil, _, hl, _ => by
    have e : ps = [] := List.eq_nil_of_length_eq_zero (by simpa using hl)
    subst e
    unfold zipV
    exact .nil
  | _ :: _, [], _, _, ps, .cons _ _, .nil, hl, _ => by
    have e : ps = [] := List.eq_nil_of_length_eq_zero (by simpa using hl)
    subst e
    unfold zipV
    exact .nil
  | x :: xs, y :: ys, _, _, [], .cons _ _, .cons _ _, hl, _ => by simp at hl
  | x :: xs, y :: ys, _, _, p :: ps, .cons r1 t1, .cons r2 t2, hl, h => by
    unfold zipV
    obtain ⟨nx, u, v, e1, e2, e3⟩ := h 0 p rfl
    cases e1
    cases e2
    refine .cons (.tupT nx (.inl e3) (.cons r1 (.cons r2 .nil))) (zip_rls t1 t2 (by simp only [List.length_cons] at hl; omega) fun j q hj => ?_)
    obtain ⟨n2, u, v, e1, e2, e3⟩ := h (j + 1) q (by simpa using hj)
    exact ⟨n2, u, v, by simpa using e1, by simpa using e2, e3⟩
theorem pe_zipLK {X : Cx} {W : WX} {Γ : Calls} {is : Es} (hc : X.calm = true) {e e2 : PySem.Expr} {p p2 pos pos2 : Pos} (hgL : Gl X "list") (hmL : X.mg "list" = Option.none) (hg : Gl X "zip") (hm : X.mg "zip" = Option.none) (ha : PA X [e, e2] (tAs X.K W (evEs Γ is)))
    (hs : starEach [e, e2] X.env = (false, eval e X.env) :: starEach [e2] X.env) (hpl : (backTo pos2 (starEach [e2] X.env)).any (·.1) = false) :
    PE X (.Call (.Name "list" p) [.Call (.Name "zip" p2) [e, e2] [] pos2] [] pos) (tE X.K W (evE Γ (.zipL is))) :=
  peImp (pe_zipL hc hgL hmL hg hm ha hs hpl) fun σ H Q ⟨M, G, s, hh, hst, hm⟩ => by
    rw [evE, R.wp_bind] at hm
    refine ⟨M, G, s, hh, hst, R.wp_mono hm (fun vs G1 hm M1 us H1 l1 hh1 r1 => ?_) fun _ _ x => x⟩
    obtain ⟨c, hc, k⟩ := R.wp_opt hm
    obtain ⟨xs, ys, rfl, rfl⟩ := zipLV_of hc
    cases r1 with
    | cons t1 rr => cases rr with
      | cons t2 rr =>
        cases rr
        obtain ⟨a, vx, rfl, q1, w1⟩ := t1.tup
        obtain ⟨b, vy, rfl, q2, w2⟩ := t2.tup
        refine ⟨a, b, vx, vy, rfl, q1, q2, fun H2 l ps g hl e hlen hp => ?_⟩
        have z : Later M1 H1 M1 H2 ∧ HeapR X.K M1 G1 H2 := g (fun H' => Later M1 H1 M1 H' ∧ HeapR X.K M1 G1 H') ⟨.refl .., hh1⟩ fun H' a o x hn => ⟨x.1.trans (Later.new M1 hn), x.2.new hn⟩
        refine k M1 _ _ (l1.trans z.1) z.2 (.lst (hh1.fresh hl) e (zip_rls (w1.later z.1) (w2.later z.1) hlen fun j q hj => ?_))
        obtain ⟨n, rest⟩ := hp j q hj
        exact ⟨hh1.fresh n, rest⟩
end Fx

namespace Fx
open PySem PySem.Spec PyProof.Rows L2
variable {X : Cx} {W : WX} {Γ : Calls}
theorem ix_dcon {d : Addr} {ks : List Key} {vs : List Val} (D : DicOk X.K X.w d ks vs) : IxR X (fun x y H Q => x = .ref d ∧ ∃ k c, y = kV k ∧ dLook ks vs k = some c ∧ ∀ u, (∀ M H, Rl X.K M H c u) → Q u H) := by
  intro value slice pins s σ H x y v u Q I rx ry h hs
  obtain ⟨rfl, k, c, rfl, hl, q⟩ := h
  obtain rfl : v = Value.ref d := rx
  obtain ⟨es, n, us', uv, lk, low, kp, nd, hlen, hz, rv, rl⟩ := D
  have hk := kp X.prog
  have ho := I.kIn _ _ lk
  have dd : s.heap.DictOf (mixKind X.prog X.w) d (ks.zip uv) := ⟨_, es, n, ho, ⟨rfl, rfl, rfl⟩, rfl, hk.1, hk.2, by rw [List.map_fst_zip]; exact nd; rw [← rv.length, ← hlen]; exact Nat.le_refl _⟩
  have key : ∃ u, valV (ks.zip us') k = some u ∧ ∀ M H, Rl X.K M H c u := by
    have z := look_rl (ks := ks) (rl ⟨[], fun _ => none, fun _ => False⟩ fun _ => none) k
    rw [hl] at z
    obtain ⟨u, e, _⟩ := z
    refine ⟨u, e, fun M H => ?_⟩
    have z := look_rl (ks := ks) (rl M H) k
    rw [hl] at z
    obtain ⟨u2, e2, r⟩ := z
    rw [e] at e2
    cases e2
    exact r
  obtain ⟨w, e, r⟩ := key
  obtain ⟨w', hw, rw'⟩ := RelO.some_of (v := w) (o := valueAt (ks.zip uv) k) (by rw [← e]; exact (kv_zip hlen rv).val k)
  have ty : s.TypeIs (.ref d) "dict" := ⟨_, ho, rfl⟩
  exact tail_any ty slot_dict_getitem.lookup (wpAny_getItem_of (kV_is ry) dd.mapOf hw ⟨w, H, I.tok _, rw', q w r⟩) hs
theorem pe_dsubK {x : Str} {d : Addr} {ks : List Key} {vs : List Val} {b : Expr} {j : E} {p2 pos : Pos} (hgx : Gl X x) (hmx : X.mg x = some (.ref d)) (hdx : (x == ("__debug__" : Str)) = false) (D : DicOk X.K X.w d ks vs) (hb : PE X b (tE X.K W (evE Γ j))) (hs : PlainIx b) :
    PE X (.Subscript (.Name x p2) b pos) (tE X.K W (evE Γ (.dsub ks vs j))) :=
  peImp (pe_ix (pos := pos) (ix_dcon D) (show PE X (.Name x p2) (L2.tC (.ref d)) from pe_glob hgx hmx rfl hdx) hb hs) fun σ H Q ⟨M, G, s, hh, hst, hm⟩ => by
    rw [evE, R.wp_bind] at hm
    refine ⟨M, G, s, hh, hst, R.wp_mono hm (fun y G1 hm M1 u1 H1 l1 hh1 r1 => ?_) fun _ _ x => x⟩
    obtain ⟨c, hc, k⟩ := R.wp_opt hm
    cases qk : keyOf y with
    | none => rw [qk] at hc; cases hc
    | some kk =>
      rw [qk] at hc
      exact ⟨rfl, kk, c, key_rl (.inl r1) qk, hc, fun u r => k M1 u H1 l1 hh1 (r _ _)⟩
theorem pe_tupS {a b : Expr} {i j : E} {x1 : Nat} {pos p : Pos} (ha : PE X a (tE X.K W (evE Γ i))) (hb : PE X b (tE X.K W (evE Γ j))) (hs : starEach (a :: [.Starred b p]) X.env = (false, eval a X.env) :: starEach [.Starred b p] X.env) :
    PE X (.Tuple [a, .Starred b p] x1 pos) (tE X.K W (evE Γ (.tupS (.cons i .nil) j))) :=
  peImp (pe_tup (pa_cons ha (StX.pa_star hb pa_nil) hs)) fun σ H Q ⟨M, G, s, hh, hst, hm⟩ => by
    rw [evE, R.wp_bind, evEs, R.wp_bind] at hm
    refine ⟨M, G, s, hh, hst, R.wp_mono hm (fun x G1 hm M1 u1 H1 l1 hh1 r1 => ?_) fun _ _ x => x⟩
    have hst1 := hst.later hh.ok l1
    rw [R.wp_bind, evEs] at hm
    have hm : (R.bind (evE Γ j s G1) fun y G2 => R.opt (starV [x] y) G2).wp _ _ := hm
    rw [R.wp_bind] at hm
    refine ⟨M1, G1, s, hh1, hst1, R.wp_mono hm (fun y G2 hm M2 u2 H2 l2 hh2 r2 => ?_) fun _ _ x => x.later l1⟩
    obtain ⟨c, hc, k⟩ := R.wp_opt hm
    cases y with
    | tup ys =>
      have hc : (if 1 + ys.length ≤ lineN then some (Val.tup ([x] ++ ys)) else none) = some c := hc
      split at hc
      · rename_i hz
        cases hc
        obtain ⟨a2, ws, rfl, h2, t⟩ := r2.tup
        have rr : Rls X.K M2 H2 (x :: ys) (u1 :: ws) := .cons (r1.later l2) t
        refine ⟨a2, ws, rfl, .inl h2, ?_, fun q hq => ?_⟩
        · rw [lineN_eq, t.length] at hz
          simp only [List.append_nil, List.length_cons]; omega
        · rw [List.append_nil]
          exact k M2 _ _ ((l1.trans l2).trans (Later.new M2 hq)) (hh2.new hq) (Rl.newTup hh2 hq rr)
      · cases hc
    | lst ys =>
      have hc : (if 1 + ys.length ≤ lineN then some (Val.tup ([x] ++ ys)) else none) = some c := hc
      split at hc
      · rename_i hz
        cases hc
        obtain ⟨a2, ws, rfl, h2, t⟩ := (show RlD X.K M2 H2 (.lst ys) u2 from .inl r2).lst
        have rr : Rls X.K M2 H2 (x :: ys) (u1 :: ws) := .cons (r1.later l2) t
        refine ⟨a2, ws, rfl, .inr (.of h2), ?_, fun q hq => ?_⟩
        · rw [lineN_eq, t.length] at hz
          simp only [List.append_nil, List.length_cons]; omega
        · rw [List.append_nil]
          exact k M2 _ _ ((l1.trans l2).trans (Later.new M2 hq)) (hh2.new hq) (Rl.newTup hh2 hq rr)
      · cases hc
    | _ => cases hc
theorem pe_tupS2 {a b c : Expr} {i j l : E} {x1 : Nat} {pos p : Pos} (ha : PE X a (tE X.K W (evE Γ i))) (hb : PE X b (tE X.K W (evE Γ j))) (hc : PE X c (tE X.K W (evE Γ l))) (hs : starEach (a :: b :: [.Starred c p]) X.env = (false, eval a X.env) :: starEach (b :: [.Starred c p]) X.env) (hs2 : starEach (b :: [.Starred c p]) X.env = (false, eval b X.env) :: starEach [.Starred c p] X.env) :
    PE X (.Tuple [a, b, .Starred c p] x1 pos) (tE X.K W (evE Γ (.tupS (.cons i (.cons j .nil)) l))) :=
  peImp (pe_tup (pa_cons ha (pa_cons hb (StX.pa_star hc pa_nil) hs2) hs)) fun σ H Q ⟨M, G, s, hh, hst, hm⟩ => by
    rw [evE, R.wp_bind, evEs, R.wp_bind] at hm
    refine ⟨M, G, s, hh, hst, R.wp_mono hm (fun x G1 hm M1 u1 H1 l1 hh1 r1 => ?_) fun _ _ x => x⟩
    have hst1 := hst.later hh.ok l1
    rw [R.wp_bind, evEs, R.wp_bind] at hm
    refine ⟨M1, G1, s, hh1, hst1, R.wp_mono hm (fun x' G1' hm M1' u1' H1' l1' hh1' r1' => ?_) fun _ _ x => x.later l1⟩
    have hst1' := hst1.later hh1.ok l1'
    rw [R.wp_bind, evEs] at hm
    have hm : (R.bind (evE Γ l s G1') fun y G2 => R.opt (starV [x, x'] y) G2).wp _ _ := hm
    rw [R.wp_bind] at hm
    refine ⟨M1', G1', s, hh1', hst1', R.wp_mono hm (fun y G2 hm M2 u2 H2 l2 hh2 r2 => ?_) fun _ _ x => (x.later l1).later l1'⟩
    obtain ⟨c, hc, k⟩ := R.wp_opt hm
    cases y with
    | tup ys =>
      have hc : (if 2 + ys.length ≤ lineN then some (Val.tup ([x, x'] ++ ys)) else none) = some c := hc
      split at hc
      · rename_i hz
        cases hc
        obtain ⟨a2, ws, rfl, h2, t⟩ := r2.tup
        have rr : Rls X.K M2 H2 (x :: x' :: ys) (u1 :: u1' :: ws) := .cons ((r1.later l1').later l2) (.cons (r1'.later l2) t)
        refine ⟨a2, ws, rfl, .inl h2, ?_, fun q hq => ?_⟩
        · rw [lineN_eq, t.length] at hz
          simp only [List.append_nil, List.length_cons]; omega
        · rw [List.append_nil]
          exact k M2 _ _ (((l1.trans l1').trans l2).trans (Later.new M2 hq)) (hh2.new hq) (Rl.newTup hh2 hq rr)
      · cases hc
    | lst ys =>
      have hc : (if 2 + ys.length ≤ lineN then some (Val.tup ([x, x'] ++ ys)) else none) = some c := hc
      split at hc
      · rename_i hz
        cases hc
        obtain ⟨a2, ws, rfl, h2, t⟩ := (show RlD X.K M2 H2 (.lst ys) u2 from .inl r2).lst
        have rr : Rls X.K M2 H2 (x :: x' :: ys) (u1 :: u1' :: ws) := .cons ((r1.later l1').later l2) (.cons (r1'.later l2) t)
        refine ⟨a2, ws, rfl, .inr (.of h2), ?_, fun q hq => ?_⟩
        · rw [lineN_eq, t.length] at hz
          simp only [List.append_nil, List.length_cons]; omega
        · rw [List.append_nil]
          exact k M2 _ _ (((l1.trans l1').trans l2).trans (Later.new M2 hq)) (hh2.new hq) (Rl.newTup hh2 hq rr)
      · cases hc
    | _ => cases hc
theorem inV_find {K : PySem.W.Frag} {M : Mp} {H : Hp} {y : Val} {w : V} (q : Rl K M H y w) (h1 : isFlat y = true) : ∀ {xs : List Val} {us : List V} {j : Nat}, Rls K M H xs us → xs.all isFlat = true → (xs.findIdx? fun z => eqF z y) = some j →
    (∃ z, us[j]? = some z ∧ eqV z w = true) ∧ ∀ (m : Nat) (z' : V), m < j → us[m]? = some z' → eqV z' w = false
  | _, _, _, .nil, _, e => by cases e
  | _, _, j, .cons (x := x) (v := v) (xs := xs) (vs := vs) r t, h, e => by
    rw [List.all_cons, Bool.and_eq_true] at h
    have eq := eqF_of r q h.1 h1
    rw [List.findIdx?_cons] at e
    by_cases hx : eqF x y = true
    · rw [if_pos hx] at e
      cases e
      exact ⟨⟨v, rfl, by rw [eq]; exact hx⟩, fun m z' hm => absurd hm (Nat.not_lt_zero _)⟩
    · rw [if_neg hx] at e
      cases e2 : xs.findIdx? fun z => eqF z y with
      | none => rw [e2] at e; cases e
      | some j2 =>
        rw [e2] at e
        cases e
        obtain ⟨⟨z, hz, hz2⟩, h2⟩ := inV_find q h1 t h.2 e2
        refine ⟨⟨z, by simpa using hz, hz2⟩, fun m z' hm hm2 => ?_⟩
        cases m with
        | zero =>
          cases hm2
          rw [eq]; simpa using hx
        | succ m =>
          have hm : m + 1 < j2 + 1 := hm
          exact h2 m z' (by omega) (by simpa using hm2)
theorem pe_indexK {o e : Expr} {i j : E} {apos cpos : Pos} (ho : PE X o (tE X.K W (evE Γ i))) (he : PE X e (tE X.K W (evE Γ j))) (hbase : attributeBase o ("index" : Str) X.env (eval o X.env) = eval o X.env)
    (hfew : ((backTo cpos (starEach [e] X.env)).all (fun x => !x.1) && (backToKw cpos (keywordEach [] X.env)).all (fun x => x.1.isSome)
      && decide ([e].length + ([] : List Keyword).length + (if ([] : List Keyword).isEmpty then 0 else 1) < 30)) = true)
    (hline : (apos.endLine == cpos.line) = true) (hs : starEach [e] X.env = (false, eval e X.env) :: starEach [] X.env) (hplain : (backTo cpos (starEach [] X.env)).any (·.1) = false) :
    PE X (.Call (.Attribute o ("index" : Str) apos) [e] [] cpos) (tE X.K W (evE Γ (.lindex i j))) :=
  peImp (pe_bm PySem.F.plainAttrs_list PySem.F.slot_list_index PySem.F.type_list_index mt_index ho (pa_cons he pa_nil hs) hbase hfew hline hs hplain) fun σ H Q ⟨M, G, s, hh, hst, hm⟩ => by
    rw [evE, R.wp_bind] at hm
    refine ⟨M, G, s, hh, hst, R.wp_mono hm (fun x G1 hm M1 u1 H1 l1 hh1 r1 => ?_) fun _ _ x => x⟩
    have hst1 := hst.later hh.ok l1
    rw [R.wp_bind] at hm
    obtain ⟨_, hl, hm⟩ := R.wp_opt hm
    cases q1 : rd G1 x with
    | lst zs =>
      obtain ⟨a, vs, rfl, ha, t⟩ := (show RlD X.K M1 H1 (.lst zs) u1 by rw [← q1]; exact RlD.rd (.inl r1) hh1).lst
      rw [R.wp_bind] at hm
      refine ⟨.inl ⟨rfl, vs, .of ha⟩, M1, G1, s, hh1, hst1, R.wp_mono hm (fun y G2 hm M2 u2 H2 l2 hh2 r2 => ?_) fun _ _ x => x.later l1⟩
      obtain ⟨c, hc, k⟩ := R.wp_opt hm
      have rx := RlD.rd (.inl (r1.later l2)) hh2
      generalize rd G2 x = xv at hc rx
      cases xv with
      | lst ys =>
        have hc : (if isFlat y && ys.all isFlat then (ys.findIdx? fun z => eqF z y).map fun j => Val.int j else none) = some c := hc
        split at hc
        · rename_i hf
          rw [Bool.and_eq_true] at hf
          cases q2 : ys.findIdx? fun z => eqF z y with
          | none => rw [q2] at hc; cases hc
          | some jj =>
            rw [q2] at hc
            cases hc
            obtain ⟨b, ws, e, hb, tb⟩ := rx.lst
            cases e
            obtain ⟨⟨z, hz, hz2⟩, h2⟩ := inV_find r2 hf.1 tb hf.2 q2
            exact ⟨a, ws, u2, jj, z, rfl, rfl, .of hb, flat_of r2 hf.1, flats_of tb hf.2, hz, hz2, h2, k M2 _ H2 (l1.trans l2) hh2 (.int _)⟩
        · cases hc
      | _ => cases hc
    | _ => rw [q1] at hl; cases hl
theorem strsOf_eq : ∀ {xs : List Val} {ys : List String}, strsOf xs = some ys → xs = ys.map .str
  | [], ys, h => by cases h; rfl
  | x :: r, ys, h => by
    cases x with
    | str s =>
      have h : (strsOf r).map (s :: ·) = some ys := h
      cases q : strsOf r with
      | none => rw [q] at h; cases h
      | some zs => rw [q] at h; cases h; rw [strsOf_eq q]; rfl
    | _ => cases h
theorem rls_strs {K : PySem.W.Frag} {M : Mp} {H : Hp} : ∀ {ys : List String} {us : List V}, Rls K M H (ys.map .str) us → us = (ys.map Str.ofString).map V.str
  | [], us, h => by cases h; rfl
  | y :: ys, us, h => by
    cases h with
    | cons r t => cases r; rw [rls_strs t]; rfl
theorem find_strs {t : String} : ∀ {ys : List String} {j : Nat}, (ys.findIdx? fun z => z == t) = some j →
    (ys.map Str.ofString)[j]? = some (Str.ofString t) ∧ ∀ m, m < j → (ys.map Str.ofString)[m]? ≠ some (Str.ofString t)
  | [], j, e => by cases e
  | y :: ys, j, e => by
    rw [List.findIdx?_cons] at e
    by_cases hy : (y == t) = true
    · rw [if_pos hy] at e
      cases e
      exact ⟨by rw [eq_of_beq hy]; rfl, fun m hm => absurd hm (Nat.not_lt_zero _)⟩
    · rw [if_neg hy] at e
      cases e2 : ys.findIdx? fun z => z == t with
      | none => rw [e2] at e; cases e
      | some j2 =>
        rw [e2] at e
        cases e
        obtain ⟨h1, h2⟩ := find_strs e2
        refine ⟨by simpa using h1, fun m hm hm2 => ?_⟩
        cases m with
        | zero =>
          have hm2 : some (Str.ofString y) = some (Str.ofString t) := hm2
          exact hy (beq_iff_eq.mpr (ofString_inj (Option.some.inj hm2)))
        | succ m =>
          have hm : m + 1 < j2 + 1 := hm
          exact h2 m (by omega) (by simpa using hm2)
theorem tup_tyK {K : PySem.W.Frag} {zs : List Val} {v : V} (M : Mp) (h : ∀ M H, Rl K M H (.tup zs) v) : ∃ a vs o, v = .ref a ∧ TupK K a vs ∧ K.lookup a = some o ∧ o.cls = .type "tuple" ∧ o.dict = none := by
  cases h M (fun _ => none) with
  | tupT _ r _ => rcases r with r | ⟨_, r⟩ <;> cases r
  | tupK q _ => obtain ⟨o, its, n, h1, h2, h3, h4⟩ := id q; exact ⟨_, _, o, rfl, q, h1, h2, h3⟩
theorem pe_tindexK {o e : Expr} {c : Val} {v : V} {j : E} {apos cpos : Pos} (ho : PE X o (L2.tC v)) (hv : ∀ M H, Rl X.K M H c v) (he : PE X e (tE X.K W (evE Γ j))) (hbase : attributeBase o ("index" : Str) X.env (eval o X.env) = eval o X.env)
    (hfew : ((backTo cpos (starEach [e] X.env)).all (fun x => !x.1) && (backToKw cpos (keywordEach [] X.env)).all (fun x => x.1.isSome)
      && decide ([e].length + ([] : List Keyword).length + (if ([] : List Keyword).isEmpty then 0 else 1) < 30)) = true)
    (hline : (apos.endLine == cpos.line) = true) (hs : starEach [e] X.env = (false, eval e X.env) :: starEach [] X.env) (hplain : (backTo cpos (starEach [] X.env)).any (·.1) = false) :
    PE X (.Call (.Attribute o ("index" : Str) apos) [e] [] cpos) (tE X.K W (evE Γ (.tindex (.con c) j))) :=
  peImp (pe_bm PySem.F.plainAttrs_tuple PySem.F.slot_tuple_index PySem.F.type_tuple_index mt_tup_index ho (pa_cons he pa_nil hs) hbase hfew hline hs hplain) fun σ H Q ⟨M, G, s, hh, hst, hm⟩ => by
    rw [evE, evE, R.bind_ok, R.wp_bind] at hm
    obtain ⟨_, hl, hm⟩ := R.wp_opt hm
    cases c with
    | tup zs =>
      obtain ⟨a, vs, o, rfl, hk, q1, q2, q3⟩ := tup_tyK M hv
      rw [R.wp_bind] at hm
      refine ⟨.inr (.inl ⟨rfl, o, q1, q2, q3⟩), M, G, s, hh, hst, R.wp_mono hm (fun y G2 hm M2 u2 H2 l2 hh2 r2 => ?_) fun _ _ x => x⟩
      obtain ⟨c, hc, k⟩ := R.wp_opt hm
      cases y with
      | str z =>
        have hc : ((strsOf zs).bind fun ys => (ys.findIdx? fun w => w == z).map fun j => Val.int j) = some c := hc
        cases q : strsOf zs with
        | none => rw [q] at hc; cases hc
        | some ys =>
          rw [q] at hc
          have hc : ((ys.findIdx? fun w => w == z).map fun j => Val.int j) = some c := hc
          cases q2 : ys.findIdx? fun w => w == z with
          | none => rw [q2] at hc; cases hc
          | some jj =>
            rw [q2] at hc
            cases hc
            obtain ⟨a', ws, e1, hb, tb⟩ := (hv M2 H2).tup
            cases e1
            rw [strsOf_eq q] at tb
            rw [rls_strs tb] at hb
            obtain ⟨h1, h2⟩ := find_strs q2
            cases r2
            exact ⟨a, ys.map Str.ofString, Str.ofString z, jj, rfl, rfl, hb, h1, h2, k M2 _ H2 l2 hh2 (.int _)⟩
      | _ => cases hc
    | _ => cases hl
theorem ref_later {M : Mp} {H : Hp} {a : Addr} {o : HO} (ma : a ∈ M.φ) (th : ∃ ob, H a = some ob) : Later M H M (upd H a o) where
  pre := ⟨[], by simp, fun _ h => nomatch h⟩
  ow := rfl
  xo := fun _ h => h
  xo' := fun _ h => .inl h
  keep := fun b ob h q => by rw [upd_ne (fun z => h (by rw [z]; exact ma))]; exact q
  there := fun b ob q => by
    by_cases z : b = a
    · exact ⟨_, by rw [z]; exact upd_same⟩
    · exact ⟨ob, by rw [upd_ne z]; exact q⟩
theorem erase_rls {K : PySem.W.Frag} {M : Mp} {H : Hp} {xs : List Val} {vs : List V} (t : Rls K M H xs vs) (k : Nat) : Rls K M H (xs.eraseIdx k) (vs.eraseIdx k) := by
  rw [List.eraseIdx_eq_take_drop_succ, List.eraseIdx_eq_take_drop_succ]
  exact (t.take k).append (t.drop (k + 1))
theorem popAt_some {x y v : Val} {G G3 : Heap} (h : popAt x y G = some (v, G3)) : ∃ n k xs j, x = .ref n ∧ y = .int k ∧ G[n]? = some (.lst xs) ∧ ixN xs.length k = some j ∧ xs[j]? = some v ∧ G3 = G.set n (.lst (xs.eraseIdx j)) ∧ xs.length ≤ lineN := by
  unfold popAt at h
  split at h
  · rename_i n k
    split at h
    · rename_i xs hx
      split at h
      · rename_i hz
        cases q : ixN xs.length k with
        | none => rw [q] at h; cases h
        | some j =>
          rw [q] at h
          cases q2 : xs[j]? with
          | none => simp only [Option.bind_some, q2, Option.map_none] at h; cases h
          | some w =>
            simp only [Option.bind_some, q2, Option.map_some] at h
            cases h
            exact ⟨n, k, xs, j, rfl, rfl, hx, q, q2, rfl, hz⟩
      · cases h
    · cases h
  · cases h
theorem pe_popR {o e : Expr} {i j : E} {apos cpos : Pos} (ho : PE X o (tE X.K W (evE Γ i))) (he : PE X e (tE X.K W (evE Γ j))) (hbase : attributeBase o ("pop" : Str) X.env (eval o X.env) = eval o X.env)
    (hfew : ((backTo cpos (starEach [e] X.env)).all (fun x => !x.1) && (backToKw cpos (keywordEach [] X.env)).all (fun x => x.1.isSome)
      && decide ([e].length + ([] : List Keyword).length + (if ([] : List Keyword).isEmpty then 0 else 1) < 30)) = true)
    (hline : (apos.endLine == cpos.line) = true) (hs : starEach [e] X.env = (false, eval e X.env) :: starEach [] X.env) (hplain : (backTo cpos (starEach [] X.env)).any (·.1) = false) :
    PE X (.Call (.Attribute o ("pop" : Str) apos) [e] [] cpos) (tE X.K W (evE Γ (.popR i j))) :=
  peImp (pe_bm PySem.F.plainAttrs_list PySem.F.slot_list_pop PySem.F.type_list_pop mt_popAt ho (pa_cons he pa_nil hs) hbase hfew hline hs hplain) fun σ H Q ⟨M, G, s, hh, hst, hm⟩ => by
    rw [evE, R.wp_bind] at hm
    refine ⟨M, G, s, hh, hst, R.wp_mono hm (fun x G1 hm M1 u1 H1 l1 hh1 r1 => ?_) fun _ _ x => x⟩
    have hst1 := hst.later hh.ok l1
    rw [R.wp_bind] at hm
    obtain ⟨_, hl, hm⟩ := R.wp_opt hm
    cases q1 : rd G1 x with
    | lst zs =>
      obtain ⟨a, vs, rfl, ha, t⟩ := (show RlD X.K M1 H1 (.lst zs) u1 by rw [← q1]; exact RlD.rd (.inl r1) hh1).lst
      rw [R.wp_bind] at hm
      refine ⟨.inl ⟨rfl, vs, .of ha⟩, M1, G1, s, hh1, hst1, R.wp_mono hm (fun y G2 hm M2 u2 H2 l2 hh2 r2 => ?_) fun _ _ x => x.later l1⟩
      rw [R.wp_bind] at hm
      obtain ⟨⟨v, G3⟩, hc, k⟩ := R.wp_opt hm
      obtain ⟨n, kk, xs, jj, rfl, rfl, hG, hix, hv, rfl, hz⟩ := popAt_some hc
      have r1' := r1.later l2
      cases r1' with
      | ref hφ =>
        cases r2
        obtain ⟨ws, hb, tb⟩ := hh2.obj n a _ hφ hG
        obtain ⟨w, hw, rw'⟩ := tb.get hv
        obtain ⟨i1, i2, i3, i4⟩ := ixN_seq hix
        obtain ⟨_, w2, _⟩ := ref_write hh2 (hst1.later hh1.ok l2) hG hφ (erase_rls tb jj)
        have lat := ref_later (o := .lst (ws.eraseIdx jj)) (List.mem_of_getElem? hφ) ⟨_, hb⟩
        have hlen : xs.length ≤ 16777216 := hz
        exact ⟨a, ws, kk, jj, w, rfl, rfl, hb, by omega, by omega, by rw [← tb.length]; exact i1, hw, k M2 w _ ((l1.trans l2).trans lat) w2 (rw'.later lat)⟩
    | _ => rw [q1] at hl; cases hl
end Fx

namespace Fx
open PySem PySem.Spec PyProof.Rows L2
variable {X : Cx} {W : WX} {Γ : Calls}
theorem walk_len {K : PySem.W.Frag} {a : Addr} {n : Nat} : L2.Walk (Itl K a) n (fun H => ∃ vs, SqL K H a vs ∧ vs.length = n) (fun i H x H' => H' = H ∧ ∀ vs, SqL K H a vs → vs[i]? = some x) where
  goes := fun i H hi ⟨vs, h, e⟩ => ⟨vs, vs[i]'(by omega), h, List.getElem?_eq_getElem (by omega)⟩
  yields := fun i H x H' hi _ y => y
  stops := fun H ⟨vs, h, e⟩ => ⟨vs, h, by omega⟩
theorem compW_same {n : Nat} {ys : List Val} {tg : Val → Store → Option Store} {c e : Store → Heap → R Val} {l : List Val} {s : Store} {G : Heap} {k : List Val → Heap → Prop} {x : Exc → Heap → Prop} (h : (compW n ys tg c e l s G).wp k x) : G[n]? = some (.lst ys) := by
  cases l with
  | nil =>
    unfold compW at h
    split at h
    · assumption
    · exact h.elim
  | cons y l =>
    unfold compW at h
    split at h
    · assumption
    · exact h.elim
theorem compW_cons {n : Nat} {ys : List Val} (tg : Val → Store → Option Store) (c e : Store → Heap → R Val) (x : Val) (xs : List Val) (s : Store) {G : Heap} (h : G[n]? = some (.lst ys)) :
    compW n ys tg c e (x :: xs) s G = (R.opt (tg x s) G).bind fun s1 G1 => (c s1 G1).bind fun cv G2 => (R.opt (truthV (rd G2 cv)) G2).bind fun b G3 =>
      if b then (e s1 G3).bind fun v G4 => (compW n ys tg c e xs s G4).bind fun vs G5 => .ok (v :: vs) G5 else compW n ys tg c e xs s G3 := by
  rw [compW, if_pos h]
theorem compW_nil {n : Nat} {ys : List Val} (tg : Val → Store → Option Store) (c e : Store → Heap → R Val) (s : Store) {G : Heap} (h : G[n]? = some (.lst ys)) : compW n ys tg c e [] s G = .ok [] G := by
  rw [compW, if_pos h]
theorem refAt_some {s : Store} {j : Nat} {G : Heap} {n : Nat} {xs : List Val} (h : refAt s j G = some (n, xs)) : s.getD j .no = .val (.ref n) ∧ G[n]? = some (.lst xs) := by
  unfold refAt at h
  split at h
  · rename_i m hm
    split at h
    · rename_i ys hy
      cases h
      exact ⟨hm, hy⟩
    · cases h
  · cases h
theorem list_at {K : PySem.W.Frag} {M : Mp} {G : Heap} {H : Hp} {n : Nat} {a : Addr} {xs : List Val} (hh : HeapR K M G H) (hφ : M.φ[n]? = some a) (h : G[n]? = some (.lst xs)) : ∃ vs, H a = some (.lst vs) ∧ Rls K M H xs vs := hh.obj n a _ hφ h
theorem pre_at {M M' : Mp} {H H' : Hp} (l : Later M H M' H') {n : Nat} {a : Addr} (h : M.φ[n]? = some a) : M'.φ[n]? = some a := by
  obtain ⟨k, e, _⟩ := l.pre
  rw [e, List.getElem?_append_left (List.getElem?_eq_some_iff.mp h).1]; exact h
theorem pre_atS {M M' : Mp} {H H' : Hp} (l : Since M H M' H') {n : Nat} {a : Addr} (h : M.φ[n]? = some a) : M'.φ[n]? = some a := by
  obtain ⟨k, e, _⟩ := l.pre
  rw [e, List.getElem?_append_left (List.getElem?_eq_some_iff.mp h).1]; exact h
theorem pe_compLF {elt tg iter : Expr} {ifs : List Expr} {scope : Scope} {own : List (Str × Nat)} {pos : Pos} {t : Tg} {j : Nat} {c e : E} (hts : ∀ i ∈ tgS t, i ∈ own.map (·.2)) (σ : L2.St) (H : Hp) (Q : L2.VK)
    (h : ∃ M G s, HeapR X.K M G H ∧ StoreR X.K M H s σ ∧ (evE Γ (.compL (own.map (·.2)) t j c e) s G).wp (fun v G' => ∃ xs, v = .lst xs ∧ ∀ M' a vs H', Later M H M' H' → H a = Option.none → NewL X.K M' G' H' a xs vs → Q (.ref a) H') (XW X.K W M H σ)) :
    tLc (iSeq X.K (tE X.K W (evE Γ (.var j)))) (gT X.K t) (tT X.K WF (evE Γ c)) (tE X.K WF (evE Γ e)) (own.map (·.2)) σ H Q := by
  obtain ⟨M, G, s, hh, hst, hm⟩ := h
  rw [evE] at hm
  cases hra : refAt s j G with
  | none => rw [hra] at hm; exact hm.elim
  | some p =>
  obtain ⟨n, xs⟩ := p
  rw [hra] at hm
  obtain ⟨hsj, hG⟩ := refAt_some hra
  have hm' : ¬ lineN < xs.length ∧ (compW n xs (setT t) (evE Γ c) (evE Γ e) xs (wipeS s (own.map (·.2))) G).wp (fun vs G2 => ∀ M' a us H', Later M H M' H' → H a = Option.none → NewL X.K M' G2 H' a vs us → Q (.ref a) H') fun _ _ => False := by
    have hm : (if lineN < xs.length then R.no else ((compW n xs (setT t) (evE Γ c) (evE Γ e) xs (wipeS s (own.map (·.2))) G).bind fun vs G2 => R.ok (Val.lst vs) G2).calm).wp _ _ := hm
    split at hm
    · exact hm.elim
    · rename_i hz
      refine ⟨hz, ?_⟩
      have h2 := R.wp_calm hm
      rw [R.wp_bind] at h2
      exact R.wp_mono h2 (fun vs G2 ⟨ys, e, k⟩ => by cases e; exact k) fun _ _ x => x
  obtain ⟨hz, hm⟩ := hm'
  refine ⟨M, G, s, hh, hst, ?_⟩
  rw [evE, hsj]
  refine fun M1 u H1 l1 hh1 r1 => ?_
  cases r1 with
  | ref hφ =>
  rename_i a
  obtain ⟨vs0, hva, tva⟩ := list_at hh1 hφ hG
  refine .inl ⟨a, vs0, rfl, .of hva, fun D hD => ?_⟩
  have hst1 := hst.later hh.ok l1
  generalize hws : own.map (·.2) = ws at *
  let Pv : Nat → Hp → Prop := fun i Hc => ∃ M2 G2 acc accV, CompAt X.K M1 H1 D M2 G2 Hc acc accV ∧ acc.length ≤ i ∧
    (compW n xs (setT t) (evE Γ c) (evE Γ e) (xs.drop i) (wipeS s ws) G2).wp (fun vs G2 => ∀ M' a us H', Later M H M' H' → H a = Option.none → NewL X.K M' G2 H' a (acc ++ vs) us → Q (.ref a) H') fun _ _ => False
  have hHD : H D = none := l1.since.gone hD
  refine lc_it (walk_len (K := X.K) (a := a) (n := xs.length)) Pv ?_ ?_ ?_ ?_
  · exact ⟨M1.add D, G, [], [], ⟨later_add hh1.ok hD, .inr rfl, hh1.add hD _, upd_same, .nil⟩, Nat.zero_le _, by rw [List.drop_zero]; exact hm⟩
  · rintro i Hc _ ⟨M2, G2, acc, accV, ca, _, hr⟩
    obtain ⟨vs2, h2, t2⟩ := list_at ca.hh (pre_at ca.l hφ) (compW_same hr)
    exact ⟨vs2, .of h2, t2.length.symm⟩
  · rintro i x Hc' Hc hi ⟨M2, G2, acc, accV, ca, hl, hr⟩ ⟨e0, y⟩
    subst e0
    have hsame := compW_same hr
    obtain ⟨vs2, h2, t2⟩ := list_at ca.hh (pre_at ca.l hφ) hsame
    have hd : xs.drop i = xs[i] :: xs.drop (i + 1) := List.drop_eq_getElem_cons hi
    obtain ⟨w, hw, rv⟩ := t2.get (List.getElem?_eq_getElem hi)
    have := y vs2 (.of h2)
    rw [hw] at this
    cases this
    rw [hd, compW_cons _ _ _ _ _ _ hsame, R.wp_bind] at hr
    obtain ⟨s1, e1, hr⟩ := R.wp_opt hr
    have hst2 : StoreR X.K M2 Hc (wipeS s ws) (L2.wipe σ ws) := (hst1.later hh1.ok ca.l).wipe ws
    refine ⟨M2, G2, wipeS s ws, xs[i], s1, ca.hh, hst2, rv, e1, fun σ2 hst3 on => ⟨?_, M2, G2, s1, ca.hh, hst3, ?_⟩⟩
    · rw [on ws hts]
      exact wipe_wipe ws ws fun _ h => h
    · rw [R.wp_bind] at hr
      refine R.wp_mono hr (fun cv G3 hr => ?_) fun _ _ x => x.elim
      rw [R.wp_bind] at hr
      obtain ⟨b, hb, hr⟩ := R.wp_opt hr
      refine ⟨b, hb, fun M3 H3 l3 hh3 => ?_⟩
      have ca3 := ca.more l3 hh3
      show if b = true then tE X.K WF (evE Γ e) σ2 H3 (fun y H4 => ∃ acc, H4 D = some (HO.lst acc) ∧ acc.length < sizeLine ∧ Pv (i + 1) (upd H4 D (HO.lst (acc ++ [y])))) else Pv (i + 1) H3
      cases b with
      | false =>
        rw [if_neg Bool.false_ne_true] at hr ⊢
        exact ⟨M3, G3, acc, accV, ca3, Nat.le_succ_of_le hl, hr⟩
      | true =>
        rw [if_pos rfl] at hr ⊢
        rw [R.wp_bind] at hr
        refine ⟨M3, G3, s1, hh3, hst3.later ca.hh.ok l3, R.wp_mono hr (fun yv G4 hr M4 u H4 l4 hh4 r4 => ?_) fun _ _ x => x.elim⟩
        have ca4 := ca3.more l4 hh4
        refine ⟨accV, ca4.at_, ?_, M4, G4, acc ++ [yv], accV ++ [u], ca4.app hD r4, by rw [List.length_append]; simp; omega, ?_⟩
        · rw [← ca4.rs.length]
          have : xs.length ≤ lineN := Nat.le_of_not_lt hz
          rw [lineN_eq] at this
          omega
        · rw [R.wp_bind] at hr
          exact R.wp_mono hr (fun vs G5 k => by
            have k : ∀ M' a us H', Later M H M' H' → H a = Option.none → NewL X.K M' G5 H' a (acc ++ (yv :: vs)) us → Q (.ref a) H' := k
            rw [show acc ++ [yv] ++ vs = acc ++ (yv :: vs) by simp]; exact k) fun _ _ x => x
  · rintro Hc ⟨M2, G2, acc, accV, ca, _, hr⟩
    have hsame := compW_same hr
    rw [List.drop_length, compW_nil _ _ _ _ hsame] at hr
    have hr : ∀ M' a us H', Later M H M' H' → H a = Option.none → NewL X.K M' G2 H' a (acc ++ []) us → Q (.ref a) H' := hr
    rw [List.append_nil] at hr
    obtain ⟨M', l', n⟩ := ca.new hh1.ok hD
    exact hr M' D accV Hc (l1.trans l') hHD n
theorem forW_same {K : PySem.W.Frag} {M : Mp} {H : Hp} {D : Ends} {n : Nat} {ys : List Val} {tg : Val → Store → Option Store} {b : Store → Heap → RS} {l : List Val} {s : Store} {G : Heap} (h : Post K W M H D (forW n ys tg b l s G)) : G[n]? = some (.lst ys) := by
  cases l with
  | nil =>
    unfold forW at h
    split at h
    · assumption
    · exact h.elim
  | cons y l =>
    unfold forW at h
    split at h
    · assumption
    · exact h.elim
theorem forW_cons {n : Nat} {ys : List Val} (tg : Val → Store → Option Store) (b : Store → Heap → RS) (x : Val) (xs : List Val) (s : Store) {G : Heap} (h : G[n]? = some (.lst ys)) : forW n ys tg b (x :: xs) s G = (R.opt (tg x s) G).thenS s fun s1 G1 => (b s1 G1).turn (forW n ys tg b xs) := by
  rw [forW, if_pos h]
theorem forW_nil {n : Nat} {ys : List Val} (tg : Val → Store → Option Store) (b : Store → Heap → RS) (s : Store) {G : Heap} (h : G[n]? = some (.lst ys)) : forW n ys tg b [] s G = .next s G := by
  rw [forW, if_pos h]
theorem forW_go {K : PySem.W.Frag} {n : Nat} {a : Addr} {t : Tg} {b : Ss} {M1 : Mp} {H1 : Hp} {xs : List Val} {G1 : Heap} {s : Store} {σ : L2.St} {D : Ends} (hφ : M1.φ[n]? = some a) (hh1 : HeapR K M1 G1 H1) (hst1 : StoreR K M1 H1 s σ) (h : Post K W M1 H1 D (forW n xs (setT t) (evSs Γ b) xs s G1)) :
    ∃ Wm : Nat → Nat → L2.St → Hp → Prop, (∃ m, Wm 0 m σ H1) ∧ ∀ i m σ H, Wm i m σ H →
      ((Itl K a).stop i H ∧ D.nx σ H) ∨ ((Itl K a).go i H ∧ ∃ N : L2.St → Hp → Prop, (∀ σ' H', N σ' H' → ∃ m', m' < m ∧ Wm (i + 1) m' σ' H') ∧ ∀ x H', (Itl K a).yld i H x H' → gT K t x σ H' fun σ2 H2 => tS K W (evSs Γ b) { D with nx := N, ct := N, bk := D.nx } σ2 H2) := by
  let Pv : Nat → L2.St → Hp → Prop := fun i σ Hc => ∃ M2 G2 s2, Since M1 H1 M2 Hc ∧ HeapR K M2 G2 Hc ∧ StoreR K M2 Hc s2 σ ∧ Post K W M2 Hc D (forW n xs (setT t) (evSs Γ b) (xs.drop i) s2 G2)
  refine for_it (walk_len (K := K) (a := a) (n := xs.length)) Pv ?_ ?_ ?_ ?_
  · exact ⟨M1, G1, s, Since.refl _ _, hh1, hst1, by rw [List.drop_zero]; exact h⟩
  · rintro i σ Hc _ ⟨M2, G2, s2, l2, hh2, _, hr⟩
    obtain ⟨vs2, h2, t2⟩ := list_at hh2 (pre_atS l2 hφ) (forW_same hr)
    exact ⟨vs2, .of h2, t2.length.symm⟩
  · rintro i x σ Hc' Hc hi ⟨M2, G2, s2, l2, hh2, hst2, hr⟩ ⟨e0, y⟩
    subst e0
    have hsame := forW_same hr
    obtain ⟨vs2, h2, t2⟩ := list_at hh2 (pre_atS l2 hφ) hsame
    have hd : xs.drop i = xs[i] :: xs.drop (i + 1) := List.drop_eq_getElem_cons hi
    obtain ⟨w, hw, rv⟩ := t2.get (List.getElem?_eq_getElem hi)
    have := y vs2 (.of h2)
    rw [hw] at this
    cases this
    rw [hd, forW_cons _ _ _ _ _ hsame] at hr
    obtain ⟨s3, e3, hr⟩ := Post.opt hr
    refine ⟨M2, G2, s2, xs[i], s3, hh2, hst2, rv, e3, fun σ3 hst4 _ => ⟨M2, G2, s3, hh2, hst4, ?_⟩⟩
    cases hq : evSs Γ b s3 G2 with
    | no => rw [hq] at hr; exact hr.elim
    | next s G => rw [hq] at hr; exact fun M' H'' st' l hh hst => ⟨M', G, s, l2.trans l, hh, hst, Post.mono (r := forW _ _ _ _ _ s G) hr l⟩
    | ret v G => rw [hq] at hr; exact hr
    | brk s G => rw [hq] at hr; exact hr
    | cont s G => rw [hq] at hr; exact fun M' H'' st' l hh hst => ⟨M', G, s, l2.trans l, hh, hst, Post.mono (r := forW _ _ _ _ _ s G) hr l⟩
    | exc e s G => rw [hq] at hr; exact hr
  · rintro σ Hc ⟨M2, G2, s2, l2, hh2, hst2, hr⟩
    have hsame := forW_same hr
    rw [List.drop_length, forW_nil _ _ _ hsame] at hr
    exact hr M2 Hc σ (Since.refl _ _) hh2 hst2
theorem ps_forL {tg iter : Expr} {body : List Stmt} {t : Tg} {j : Nat} {b : Ss} {pos : Pos} (hp : PassesOwn (model X.prog X.w) X.A X.env X.xe) (hc : X.calm = true) (hi : PE X iter (tE X.K W (evE Γ (.var j)))) (hg : PG X tg (gT X.K t)) (hb : PSs X body (tS X.K W (evSs Γ b))) (hs : ∀ x, foldedSetIterable iter X.env x = pure x) :
    PS X (.For tg iter body [] pos) (tS X.K W (evS Γ (.forL t j b))) := psImp (ps_for hp hc (pi_seq hi) hg hb hs) fun D σ H ⟨M, G, s, hh, hst, h⟩ => by
  rw [evS] at h
  cases hra : refAt s j G with
  | none => rw [hra] at h; exact h.elim
  | some p =>
  obtain ⟨n, xs⟩ := p
  rw [hra] at h
  obtain ⟨hsj, hG⟩ := refAt_some hra
  have h : Post X.K W M H D (forW n xs (setT t) (evSs Γ b) xs s G) := h
  refine ⟨M, G, s, hh, hst, ?_⟩
  rw [evE, hsj]
  refine fun M1 u H1 l1 hh1 r1 => ?_
  cases r1 with
  | ref hφ =>
  rename_i a
  obtain ⟨vs0, hva, tva⟩ := list_at hh1 hφ hG
  exact .inl ⟨a, vs0, rfl, .of hva, forW_go hφ hh1 (hst.later hh.ok l1) (h.mono l1.since)⟩
theorem rls_rg {K : PySem.W.Frag} {M : Mp} {H : Hp} : ∀ (n : Nat) (lo : Int) (f : Nat → V), (∀ i, f i = .int (lo + (i : Nat))) → Rls K M H (rangeV lo n) ((List.range n).map f)
  | 0, _, _, _ => .nil
  | n + 1, lo, f, h => by
    rw [rangeV, List.range_succ_eq_map, List.map_cons, List.map_map]
    refine .cons ?_ (rls_rg n (lo + 1) (f ∘ Nat.succ) fun i => ?_)
    · rw [h 0, show lo + ((0 : Nat) : Int) = lo by omega]; exact .int lo
    · show f (i + 1) = _
      rw [h (i + 1)]
      congr 1
      omega
theorem pe_rngL {a : Expr} {i : E} {p p2 pos pos2 : Pos} (hc : X.calm = true) (hg : Gl X "list") (hm : X.mg "list" = none) (hg2 : Gl X "range") (hm2 : X.mg "range" = none) (ha : PE X a (tE X.K W (evE Γ i))) (hs : starEach [a] X.env = [(false, eval a X.env)]) :
    PE X (.Call (.Name "list" p) [.Call (.Name "range" p2) [a] [] pos2] [] pos) (tF X.K W (evE Γ (.rngL i))) :=
  peImp (pe_listRg hc hg hm (prg_1 hg2 hm2 ha hs)) fun σ H Q ⟨M, G, s, hh, hst, hm⟩ => by
    rw [evE, R.wp_bind] at hm
    refine ⟨M, G, s, hh, hst, R.wp_mono hm (fun x G1 hm M1 u1 H1 l1 hh1 r1 => ?_) fun _ _ x => x⟩
    obtain ⟨c, hc, k⟩ := R.wp_opt hm
    cases x with
    | int n =>
      have hc : ((rngK 0 n).bind fun xs => if xs.length ≤ lineN then some (Val.lst xs) else none) = some c := hc
      cases q : rngK 0 n with
      | none => rw [q] at hc; cases hc
      | some xs =>
        rw [q, Option.bind_some] at hc
        split at hc
        · rename_i hz
          cases hc
          obtain ⟨⟨b1, b2, b3, b4⟩, rfl⟩ := rngK_some q
          cases r1
          rw [rangeV_length] at hz
          have hz : (n - 0).toNat ≤ 16777216 := hz
          unfold p62 at b3 b4
          refine ⟨n, rfl, ⟨by omega, by omega, by omega, by omega, by omega⟩, fun q hq => ?_⟩
          obtain ⟨xs, e, k⟩ := k
          cases e
          refine k M1 q _ _ (l1.trans (Later.new M1 hq)) (l1.since.gone hq) (NewL.mk_ hh1 hq ?_)
          exact rls_rg _ 0 _ fun i => by congr 1
        · cases hc
    | _ => cases hc
theorem pe_rngT {a : Expr} {i : E} {p p2 pos pos2 : Pos} (hc : X.calm = true) (hg : Gl X "tuple") (hm : X.mg "tuple" = none) (hg2 : Gl X "range") (hm2 : X.mg "range" = none) (ha : PE X a (tE X.K W (evE Γ i))) (hs : starEach [a] X.env = [(false, eval a X.env)]) :
    PE X (.Call (.Name "tuple" p) [.Call (.Name "range" p2) [a] [] pos2] [] pos) (tE X.K W (evE Γ (.rngT i))) :=
  peImp (pe_tupRg hc hg hm (prg_1 hg2 hm2 ha hs)) fun σ H Q ⟨M, G, s, hh, hst, hm⟩ => by
    rw [evE, R.wp_bind] at hm
    refine ⟨M, G, s, hh, hst, R.wp_mono hm (fun x G1 hm M1 u1 H1 l1 hh1 r1 => ?_) fun _ _ x => x⟩
    obtain ⟨c, hc, k⟩ := R.wp_opt hm
    cases x with
    | int n =>
      have hc : ((rngK 0 n).bind fun xs => if xs.length ≤ lineN then some (Val.tup xs) else none) = some c := hc
      cases q : rngK 0 n with
      | none => rw [q] at hc; cases hc
      | some xs =>
        rw [q, Option.bind_some] at hc
        split at hc
        · rename_i hz
          cases hc
          obtain ⟨⟨b1, b2, b3, b4⟩, rfl⟩ := rngK_some q
          cases r1
          rw [rangeV_length] at hz
          have hz : (n - 0).toNat ≤ 16777216 := hz
          unfold p62 at b3 b4
          refine ⟨n, rfl, ⟨by omega, by omega, by omega, by omega, by omega⟩, fun q hq => ?_⟩
          refine k M1 _ _ (l1.trans (Later.new M1 hq)) (hh1.new hq) (Rl.newTup hh1 hq ?_)
          exact rls_rg _ 0 _ fun i => by congr 1
        · cases hc
    | _ => cases hc
theorem compL_lst {ws : List Nat} {t : Tg} {j : Nat} {c e : E} {s : Store} {G G1 : Heap} {v : Val} (h : evE Γ (.compL ws t j c e) s G = .ok v G1) : ∃ xs, v = .lst xs := by
  rw [evE] at h
  split at h
  · rename_i n xs _
    split at h
    · cases h
    · cases q : (compW n xs (setT t) (evE Γ c) (evE Γ e) xs (wipeS s ws) G) with
      | ok vs G3 => rw [q] at h; cases h; exact ⟨vs, rfl⟩
      | no => rw [q] at h; cases h
      | exc _ _ => rw [q] at h; cases h
  · cases h
theorem R.wp_compL_lst {ws : List Nat} {t : Tg} {j : Nat} {c e : E} {s : Store} {G : Heap} {k : Val → Heap → Prop} {x : Exc → Heap → Prop} (h : (evE Γ (.compL ws t j c e) s G).wp k x) : (evE Γ (.compL ws t j c e) s G).wp (fun v G1 => (∃ xs, v = .lst xs) ∧ k v G1) x := by
  cases q : evE Γ (.compL ws t j c e) s G with
  | ok v G1 => rw [q] at h; exact ⟨compL_lst q, h⟩
  | no => rw [q] at h; exact h
  | exc _ _ => rw [q] at h; exact h
section
variable {elt tg iter : Expr} {ifs : List Expr} {scope : Scope} {own : List (Str × Nat)} {pos : Pos} {t : Tg} {j : Nat} {c e : E}
/-- what a comprehension's rule asks -/
structure CompOkL (X : Cx) (Γ : Calls) (W : WX) (elt tg iter : Expr) (ifs : List Expr) (scope : Scope) (own : List (Str × Nat)) (t : Tg) (j : Nat) (c e : E) : Prop where
  hj : PE X iter (tE X.K W (evE Γ (.var j)))
  ok : BlkOk X.N X.env.scope scope own
  hts : ∀ i ∈ tgS t, i ∈ own.map (·.2)
  hg : ∀ (s : Shared) (H : Hp) (C : Addr) (cl : List (Str × Addr)) (fp : List Addr), PG (X.blk s H scope (compEnvC scope cl C X.env) fp) tg (gT X.K t)
  ht : ∀ (s : Shared) (H : Hp) (C : Addr) (cl : List (Str × Addr)) (fp : List Addr), PTs (X.blk s H scope (compEnvC scope cl C X.env) fp) ifs (tT X.K WF (evE Γ c))
  he : ∀ (s : Shared) (H : Hp) (C : Addr) (cl : List (Str × Addr)) (fp : List Addr), PE (X.blk s H scope (compEnvC scope cl C X.env) fp) elt (tE X.K WF (evE Γ e))
  hs : ∀ x, foldedSetIterable iter X.env x = pure x
theorem pe_compLV (hc : X.calm = true) (hN : X.N.Nodup) (q : CompOkL X Γ W elt tg iter ifs scope own t j c e) :
    PE X (.ListComp elt [⟨tg, iter, ifs, 0⟩] scope pos) (tF X.K W (evE Γ (.compL (own.map (·.2)) t j c e))) :=
  peImp (pe_lc hc hN (pi_seq q.hj) q.ok q.hg q.ht q.he q.hs) fun σ H Q h => pe_compLF (elt := elt) (tg := tg) (iter := iter) (ifs := ifs) (scope := scope) (pos := pos) q.hts σ H Q h
/-- x = [..], x a list of one's own -/
theorem ps_compLO {i : Nat} {y : Str} {py spos : Pos} (hc : X.calm = true) (hN : X.N.Nodup) (hy : X.N[i]? = some y) (hyl : X.env.scope.names.lookup y = some .local)
    (hsw : swapsWith (.ListComp elt [⟨tg, iter, ifs, 0⟩] scope pos) (some (.Name y py)) spos.line X.env = pure true) (q : CompOkL X Γ W elt tg iter ifs scope own t j c e) :
    PS X (.Assign [.Name y py] (.ListComp elt [⟨tg, iter, ifs, 0⟩] scope pos) spos) (tS X.K W (evS Γ (.asgOwn i (.compL (own.map (·.2)) t j c e)))) :=
  psImp (ps_setLc hc hN hy hyl hsw (pi_seq q.hj) q.ok q.hg q.ht q.he q.hs) fun D σ H ⟨M, G, s, hh, hst, h⟩ => pe_compLF (elt := elt) (tg := tg) (iter := iter) (ifs := ifs) (scope := scope) (pos := pos) q.hts σ H (fun x H1 => gName i x σ H1 D.nx) (by
    rw [evS] at h
    refine ⟨M, G, s, hh, hst, R.wp_mono (Post.wp hh hst h) (fun v G1 k => ?_) fun _ _ x => x⟩
    cases v with
    | lst xs =>
      refine ⟨xs, rfl, fun M1 a vs H1 l1 hn n => ?_⟩
      by_cases hl : i < s.length
      · obtain ⟨M2, q1, q2, q3⟩ := own_new hl hh.ok hst l1 hn n
        exact k M2 H1 _ q1 q2 q3
      · have e1 : s.set i (.own xs) = s := List.set_eq_of_length_le (Nat.le_of_not_lt hl)
        have e2 : σ.set i (some (V.ref a)) = σ := List.set_eq_of_length_le (by rw [← hst.len]; exact Nat.le_of_not_lt hl)
        have k : Post X.K W M H D (.next (s.set i (.own xs)) G1) := k
        rw [e1] at k
        show D.nx (σ.set i (some (V.ref a))) H1
        rw [e2]
        exact k M1 H1 σ l1.since (n.val hh.ok l1 hn).1 (hst.later hh.ok l1)
    | _ => exact k.elim)
theorem ps_compLV {i : Nat} {y : Str} {py spos : Pos} (hc : X.calm = true) (hN : X.N.Nodup) (hy : X.N[i]? = some y) (hyl : X.env.scope.names.lookup y = some .local)
    (hsw : swapsWith (.ListComp elt [⟨tg, iter, ifs, 0⟩] scope pos) (some (.Name y py)) spos.line X.env = pure true) (q : CompOkL X Γ W elt tg iter ifs scope own t j c e) :
    PS X (.Assign [.Name y py] (.ListComp elt [⟨tg, iter, ifs, 0⟩] scope pos) spos) (tS X.K W (evS Γ (.asg (.name i) (.compL (own.map (·.2)) t j c e)))) :=
  psImp (ps_setLc hc hN hy hyl hsw (pi_seq q.hj) q.ok q.hg q.ht q.he q.hs) fun D σ H ⟨M, G, s, hh, hst, h⟩ => pe_compLF (elt := elt) (tg := tg) (iter := iter) (ifs := ifs) (scope := scope) (pos := pos) q.hts σ H (fun x H1 => gName i x σ H1 D.nx) (by
    rw [evS] at h
    refine ⟨M, G, s, hh, hst, R.wp_mono (R.wp_compL_lst (Post.wp hh hst h)) (fun v G1 ⟨⟨xs, e0⟩, k⟩ => ?_) fun _ _ x => x⟩
    subst e0
    refine ⟨xs, rfl, fun M1 a vs H1 l1 hn n => ?_⟩
    have k : Post X.K W M H D (.next (s.set i (.val (.lst xs))) G1) := k
    obtain ⟨q1, q2⟩ := n.val hh.ok l1 hn
    exact k M1 H1 _ l1.since q1 ((hst.later hh.ok l1).setVal i q2))
end
end Fx

namespace Fx
open PySem PySem.Spec PyProof.Rows L2
variable {X : Cx} {W : WX} {Γ : Calls} {K : PySem.W.Frag}
theorem dc_it {J : L2.It} {n : Nat} {Gd : Hp → Prop} {Y : Nat → Hp → V → Hp → Prop} (w : L2.Walk J n Gd Y) {g : TG} {tt : TT} {tk tv : TE} {vs : List Nat} {σ : L2.St} {H1 : Hp} {D : Addr} {Qd : Hp → Prop} (Pv : Nat → Hp → Prop) (h0 : Pv 0 (upd H1 D (.dK []))) (hG : ∀ i H, i ≤ n → Pv i H → Gd H)
    (hs : ∀ i x H H', i < n → Pv i H → Y i H x H' → g x (L2.wipe σ vs) H' fun σ2 H2 => L2.wipe σ2 vs = L2.wipe σ vs ∧ tt σ2 H2 fun b H3 =>
      if b = true then tk σ2 H3 fun y H4 => tv σ2 H4 fun z H5 => ∃ kvs k, y = kV k ∧ H5 D = some (.dK kvs) ∧ kvs.length < sizeLine ∧ Pv (i + 1) (upd H5 D (.dK (putK kvs k z))) else Pv (i + 1) H3) (hd : ∀ H, Pv n H → Qd H) :
    ∃ W : Nat → Nat → Hp → Prop, (∃ m, W 0 m (upd H1 D (.dK []))) ∧ ∀ i m H, W i m H →
      (J.stop i H ∧ Qd H) ∨ (J.go i H ∧ ∃ Nx : Hp → Prop, (∀ H', Nx H' → ∃ m', m' < m ∧ W (i + 1) m' H') ∧ ∀ x H', J.yld i H x H' → g x (L2.wipe σ vs) H' fun σ2 H2 => L2.wipe σ2 vs = L2.wipe σ vs ∧ tt σ2 H2 fun b H3 =>
        if b = true then tk σ2 H3 fun y H4 => tv σ2 H4 fun z H5 => ∃ kvs k, y = kV k ∧ H5 D = some (.dK kvs) ∧ kvs.length < sizeLine ∧ Nx (upd H5 D (.dK (putK kvs k z))) else Nx H3) := by
  refine ⟨fun i m H => m = n - i ∧ i ≤ n ∧ Pv i H, ⟨n, by simp, Nat.zero_le _, h0⟩, ?_⟩
  rintro i m H ⟨rfl, hi, p⟩
  have q := hG i H hi p
  by_cases hlt : i < n
  · refine .inr ⟨w.goes i H hlt q, Pv (i + 1), fun H' p' => ⟨n - (i + 1), by omega, rfl, hlt, p'⟩, fun x H' y => hs i x H H' hlt p (w.yields i H x H' hlt q y)⟩
  · have e : i = n := by omega
    subst e
    exact .inl ⟨w.stops H q, hd H p⟩
theorem ps_setDc {i : Nat} {y : Str} {py : Pos} {kx vx tg iter : Expr} {ifs : List Expr} {scope : Scope} {own : List (Str × Nat)} {pos spos : Pos} {wi : TI} {g : TG} {tt : TT} {tk tv : TE} (hc : X.calm = true) (hN : X.N.Nodup) (hy : X.N[i]? = some y) (hyl : X.env.scope.names.lookup y = some .local)
    (hsw : swapsWith (.DictComp kx vx [⟨tg, iter, ifs, 0⟩] scope pos) (some (.Name y py)) spos.line X.env = pure true) (hi : PI X tg iter wi) (ok : BlkOk X.N X.env.scope scope own)
    (hg : ∀ (s : Shared) (H : Hp) (C : Addr) (cl : List (Str × Addr)) (fp : List Addr), PG (X.blk s H scope (compEnvC scope cl C X.env) fp) tg g) (ht : ∀ (s : Shared) (H : Hp) (C : Addr) (cl : List (Str × Addr)) (fp : List Addr), PTs (X.blk s H scope (compEnvC scope cl C X.env) fp) ifs tt)
    (hk : ∀ (s : Shared) (H : Hp) (C : Addr) (cl : List (Str × Addr)) (fp : List Addr), PE (X.blk s H scope (compEnvC scope cl C X.env) fp) kx tk)
    (he : ∀ (s : Shared) (H : Hp) (C : Addr) (cl : List (Str × Addr)) (fp : List Addr), PE (X.blk s H scope (compEnvC scope cl C X.env) fp) vx tv) (hs : ∀ x, foldedSetIterable iter X.env x = pure x) :
    PS X (.Assign [.Name y py] (.DictComp kx vx [⟨tg, iter, ifs, 0⟩] scope pos) spos) (tAsg (tDc wi g tt tk tv (own.map (·.2))) (gName i)) := by
  refine ⟨fun pins s σ H D I h => ?_⟩
  rw [exec_Assign_Name_used _ _ _ _ hsw]
  refine wpAny_bind (wpAny_standAt (wpAny_bind ?_))
  show wpAny _ X.A (do let _ ← comprehension (.DictComp kx vx [⟨tg, iter, ifs, 0⟩] scope pos) scope X.env (firstIterPos [⟨tg, iter, ifs, 0⟩] pos) newDict false (eval iter X.env) (some (assign (.Name y py) X.env))) _ _ s
  have h : tDc wi g tt tk tv (own.map (·.2)) σ H (fun x H1 => gName i x σ H1 D.nx) := h
  refine wpAny_bind (thn (dc_core (Qf := fun _ s' => SP X pins D .next s') hc hN I hi ok hg ht hk he hs h fun L C s' m H' I' q hn f => ?_) fun _ s' hq => wpAny_pure (wpAny_pure hq))
  show wpAny _ _ (assign (.Name y py) X.env (.ref L)) _ _ _
  refine wpAny_assign_Name (store_ok2 (v := V.ref L) I' hN hy (.inl hyl) rfl (fun s2 I2 ⟨a, sb, ha⟩ => ?_) (.inr hyl))
  obtain ⟨f0, f1, f2, f3, f4, f5⟩ := f
  have haC : C ≠ a := by
    rcases ha with z | z
    · rw [z]; exact f1
    · exact fun e => f4 y a z e.symm
  refine ⟨m, hn.sameBut sb haC, fun h3 sb3 => ?_⟩
  exact ⟨_, H', I2.turned (t' := s2.toks) (fun b o hb e => (sb3.2 b hb).trans e) f0 f1 f3 f4 f5, q⟩
theorem sw_trueD {kx vx : Expr} {gs : List Comprehension} {scope : Scope} {pos py : Pos} {y : Str} {l : Nat} {env : Env} (hk : env.scope.kind = .function) (hy : env.scope.names.lookup y = some .local) (hl : (py.line == pos.line) = true)
    (ha : (scope.names.any fun (n, k) => n == y && (k == .local || k == .cell)) = false) : swapsWith (.DictComp kx vx gs scope pos) (some (.Name y py)) l env = pure true := by
  have ky : env.kindOf y = some .local := hy
  have hb : env.blockKind = .function := by unfold Env.blockKind; rw [hk]; rfl
  unfold swapsWith
  simp only [hb, ky, ha, Expr.pos, hl]
  rfl
/-- what the loop puts -/
theorem dput_hp {M : Mp} {H : Hp} {G G' : Heap} {s : Store} {st : L2.St} {n : Nat} {a : Addr} {i v : Val} {ui u : V} (hh : HeapR K M G H) (hst : StoreR K M H s st) (hφ : M.φ[n]? = some a) (ri : Rl K M H i ui) (r : Rl K M H v u) (h : dputR n i v G = some G') :
    ∃ kvs k, ui = kV k ∧ H a = some (.dK kvs) ∧ kvs.length < sizeLine ∧ Later M H M (upd H a (.dK (putK kvs k u))) ∧ HeapR K M G' (upd H a (.dK (putK kvs k u))) := by
  unfold dputR at h
  split at h
  · rename_i ks vs q
    split at h
    · rename_i hz
      cases qk : keyOf i with
      | none => rw [qk] at h; cases h
      | some k =>
        rw [qk] at h
        cases h
        have hn : n < G.length := (List.getElem?_eq_some_iff.mp q).1
        obtain ⟨us, hb, hl, tb⟩ := hh.obj n _ _ hφ q
        have ek := key_rl (.inl ri) qk
        obtain ⟨us', e1, e2, e3⟩ := dput_rl (k := k) r hl tb
        obtain ⟨w1, w2, w3⟩ := ref_put (o := .dK (putK (ks.zip us) k u)) (ob := .dct (dPut ks vs k v).1 (dPut ks vs k v).2) hh hst hn hφ fun ext => ⟨us', by rw [← e1]; exact upd_same, e2, e3.ext ext⟩
        exact ⟨_, k, ek, hb, by rw [List.length_zip, ← hl, Nat.min_self]; exact sz_line hz, ref_later (List.mem_of_getElem? hφ) ⟨_, hb⟩, w2⟩
    · cases h
  · cases h
theorem dcompR_cons (n : Nat) (tg : Val → Store → Option Store) (k e : Store → Heap → R Val) (x : Val) (xs : List Val) (s : Store) (G : Heap) :
    dcompR n tg k e (x :: xs) s G = (R.opt (tg x s) G).bind fun s1 G1 => (k s1 G1).bind fun kv G2 => (e s1 G2).bind fun v G3 => (R.opt (dputR n kv v G3) G3).bind fun G4 _ => dcompR n tg k e xs s G4 := rfl
theorem pe_dcompF {scope : Scope} {own : List (Str × Nat)} {t : Tg} {it : Itx} {k e : E} (hts : ∀ i ∈ tgS t, i ∈ own.map (·.2)) (σ : L2.St) (H : Hp) (Q : L2.VK)
    (h : ∃ M G s, HeapR X.K M G H ∧ StoreR X.K M H s σ ∧ (evE Γ (.dcomp (own.map (·.2)) t it k e) s G).wp (fun v G' => ∀ M' u H', Later M H M' H' → HeapR X.K M' G' H' → Rl X.K M' H' v u → Q u H') (XW X.K W M H σ)) :
    tDc (tI Later X.K W (evI Γ it)) (gT X.K t) (tT X.K WF (evE Γ (.con (.bool true)))) (tE X.K WF (evE Γ k)) (tE X.K WF (evE Γ e)) (own.map (·.2)) σ H Q := by
  obtain ⟨M, G, s, hh, hst, hm⟩ := h
  rw [evE, R.wp_bind] at hm
  refine ⟨M, G, s, hh, hst, R.wp_mono hm (fun xs G1 hm M1 H1 J l1 hh1 itr D hD => ?_) fun _ _ x => x⟩
  have hst1 := hst.later hh.ok l1
  have hm' : (dcompR G1.length (setT t) (evE Γ k) (evE Γ e) xs (wipeS s (own.map (·.2))) (G1 ++ [.dct [] []])).wp (fun _ G2 => ∀ M' u H', Later M H M' H' → HeapR X.K M' G2 H' → Rl X.K M' H' (.ref G1.length) u → Q u H') fun _ _ => False := by
    split at hm
    · exact hm.elim
    · have h2 := R.wp_calm hm
      rw [R.wp_bind] at h2
      exact h2
  obtain ⟨Gd, Y, wk, hY⟩ := itr
  generalize hws : own.map (·.2) = ws at *
  obtain ⟨k1, k2, k3⟩ := heap_push (o := .dK []) (ob := .dct [] []) hh1 hD ⟨[], upd_same, rfl, .nil⟩
  generalize hMp : ({ M1 with φ := M1.φ ++ [D] } : Mp) = Mp0 at k1 k2 k3
  have hφ0 : Mp0.φ[G1.length]? = some D := by
    rw [← hMp, ← hh1.len]
    show (M1.φ ++ [D])[M1.φ.length]? = _
    rw [List.getElem?_append_right (Nat.le_refl _), Nat.sub_self]; rfl
  let Pv : Nat → Hp → Prop := fun i Hc => ∃ M2 G2, Later Mp0 (upd H1 D (.dK [])) M2 Hc ∧ HeapR X.K M2 G2 Hc ∧
    (dcompR G1.length (setT t) (evE Γ k) (evE Γ e) (xs.drop i) (wipeS s ws) G2).wp (fun _ G2 => ∀ M' u H', Later M H M' H' → HeapR X.K M' G2 H' → Rl X.K M' H' (.ref G1.length) u → Q u H') fun _ _ => False
  have φ_of : ∀ {M2 : Mp} {Hc : Hp}, Later Mp0 (upd H1 D (.dK [])) M2 Hc → M2.φ[G1.length]? = some D := fun {M2 Hc} l => by
    obtain ⟨ls, e', _⟩ := l.pre
    rw [e', List.getElem?_append_left (List.getElem?_eq_some_iff.mp hφ0).1]
    exact hφ0
  refine dc_it wk Pv ?_ ?_ ?_ ?_
  · exact ⟨Mp0, _, Later.refl _ _, k2, by rw [List.drop_zero]; exact hm'⟩
  · rintro i Hc _ ⟨M2, G2, l2, _, _⟩
    exact (hY M2 Hc (k1.trans l2)).1
  · rintro i x Hc H' hi ⟨M2, G2, l2, hh2, hr⟩ y
    obtain ⟨v, hv, hk⟩ := (hY M2 Hc (k1.trans l2)).2 i x H' hi y
    obtain ⟨hh3, l3, rv⟩ := hk G2 hh2
    have hd : xs.drop i = v :: xs.drop (i + 1) := by
      obtain ⟨h1, h2⟩ := List.getElem?_eq_some_iff.mp hv
      rw [List.drop_eq_getElem_cons h1, h2]
    rw [hd, dcompR_cons, R.wp_bind] at hr
    obtain ⟨s1, e1, hr⟩ := R.wp_opt hr
    have l23 := l2.trans l3
    have hst2 : StoreR X.K M2 H' (wipeS s ws) (L2.wipe σ ws) := (hst1.later hh1.ok (k1.trans l23)).wipe ws
    refine ⟨M2, G2, wipeS s ws, v, s1, hh3, hst2, rv, e1, fun σ2 hst3 on => ⟨?_, M2, G2, s1, hh3, hst3, ?_⟩⟩
    · rw [on ws hts]
      exact wipe_wipe ws ws fun _ h => h
    · rw [evE]
      refine ⟨true, rfl, fun M3 H3 l4 hh4 => ?_⟩
      have hst4 := hst3.later hh3.ok l4
      show if true = true then tE X.K WF (evE Γ k) σ2 H3 (fun y H4 => tE X.K WF (evE Γ e) σ2 H4 fun z H5 => ∃ kvs kk, y = kV kk ∧ H5 D = some (HO.dK kvs) ∧ kvs.length < sizeLine ∧ Pv (i + 1) (upd H5 D (HO.dK (putK kvs kk z)))) else Pv (i + 1) H3
      rw [if_pos rfl]
      rw [R.wp_bind] at hr
      refine ⟨M3, G2, s1, hh4, hst4, R.wp_mono hr (fun kv G3 hr M4 uk H4 l5 hh5 rk => ?_) fun _ _ x => x.elim⟩
      rw [R.wp_bind] at hr
      refine ⟨M4, G3, s1, hh5, hst4.later hh4.ok l5, R.wp_mono hr (fun yv G4 hr M5 u H5 l6 hh6 ry => ?_) fun _ _ x => x.elim⟩
      rw [R.wp_bind] at hr
      obtain ⟨G5, e5, hr⟩ := R.wp_opt hr
      have lall := (l23.trans l4).trans (l5.trans l6)
      obtain ⟨kvs, kk, q1, q2, q3, q4, q5⟩ := dput_hp hh6 ((hst4.later hh4.ok l5).later hh5.ok l6) (φ_of lall) (rk.later l6) ry e5
      exact ⟨kvs, kk, q1, q2, q3, M5, G5, lall.trans q4, q5, hr⟩
  · rintro Hc ⟨M2, G2, l2, hh2, hr⟩
    rw [List.drop_length] at hr
    exact hr M2 _ Hc (l1.trans (k1.trans l2)) hh2 (.ref (φ_of l2))
section
variable {kx vx tg iter : Expr} {scope : Scope} {own : List (Str × Nat)} {pos : Pos} {t : Tg} {it : Itx} {k e : E}
theorem ps_dcompV {i : Nat} {y : Str} {py spos : Pos} (hc : X.calm = true) (hN : X.N.Nodup) (hy : X.N[i]? = some y) (hyl : X.env.scope.names.lookup y = some .local)
    (hsw : swapsWith (.DictComp kx vx [⟨tg, iter, [], 0⟩] scope pos) (some (.Name y py)) spos.line X.env = pure true) (hi : PI X tg iter (tI Later X.K W (evI Γ it))) (ok : BlkOk X.N X.env.scope scope own) (hts : ∀ i ∈ tgS t, i ∈ own.map (·.2))
    (hg : ∀ (s : Shared) (H : Hp) (C : Addr) (cl : List (Str × Addr)) (fp : List Addr), PG (X.blk s H scope (compEnvC scope cl C X.env) fp) tg (gT X.K t))
    (hk : ∀ (s : Shared) (H : Hp) (C : Addr) (cl : List (Str × Addr)) (fp : List Addr), PE (X.blk s H scope (compEnvC scope cl C X.env) fp) kx (tE X.K WF (evE Γ k)))
    (he : ∀ (s : Shared) (H : Hp) (C : Addr) (cl : List (Str × Addr)) (fp : List Addr), PE (X.blk s H scope (compEnvC scope cl C X.env) fp) vx (tE X.K WF (evE Γ e))) (hs : ∀ x, foldedSetIterable iter X.env x = pure x) :
    PS X (.Assign [.Name y py] (.DictComp kx vx [⟨tg, iter, [], 0⟩] scope pos) spos) (tS X.K W (evS Γ (.asg (.name i) (.dcomp (own.map (·.2)) t it k e)))) :=
  psImp (ps_setDc hc hN hy hyl hsw hi ok hg (fun _ _ _ _ _ => pts_noneK) hk he hs) fun D σ H ⟨M, G, s, hh, hst, h⟩ => pe_dcompF (scope := scope) hts σ H (fun x H1 => gName i x σ H1 D.nx) (by
    rw [evS] at h
    refine ⟨M, G, s, hh, hst, R.wp_mono (Post.wp hh hst h) (fun v G1 k M1 u H1 l1 hh1 r1 => ?_) fun _ _ x => x⟩
    have k : Post X.K W M H D (.next (s.set i (.val v)) G1) := k
    exact k M1 H1 _ l1.since hh1 ((hst.later hh.ok l1).setVal i r1))
theorem pe_dcompV (hc : X.calm = true) (hN : X.N.Nodup) (hi : PI X tg iter (tI Later X.K W (evI Γ it))) (ok : BlkOk X.N X.env.scope scope own) (hts : ∀ i ∈ tgS t, i ∈ own.map (·.2))
    (hg : ∀ (s : Shared) (H : Hp) (C : Addr) (cl : List (Str × Addr)) (fp : List Addr), PG (X.blk s H scope (compEnvC scope cl C X.env) fp) tg (gT X.K t))
    (hk : ∀ (s : Shared) (H : Hp) (C : Addr) (cl : List (Str × Addr)) (fp : List Addr), PE (X.blk s H scope (compEnvC scope cl C X.env) fp) kx (tE X.K WF (evE Γ k)))
    (he : ∀ (s : Shared) (H : Hp) (C : Addr) (cl : List (Str × Addr)) (fp : List Addr), PE (X.blk s H scope (compEnvC scope cl C X.env) fp) vx (tE X.K WF (evE Γ e))) (hs : ∀ x, foldedSetIterable iter X.env x = pure x) :
    PE X (.DictComp kx vx [⟨tg, iter, [], 0⟩] scope pos) (tE X.K W (evE Γ (.dcomp (own.map (·.2)) t it k e))) :=
  peImp (pe_dc hc hN hi ok hg (fun _ _ _ _ _ => pts_noneK) hk he hs) fun σ H Q h => pe_dcompF (scope := scope) hts σ H Q h
theorem sw_falseD {gs : List Comprehension} {py : Pos} {y : Str} {l : Nat} {env : Env} (hy : env.scope.names.lookup y = some .cell) : swapsWith (.DictComp kx vx gs scope pos) (some (.Name y py)) l env = pure false := by
  have ky : env.kindOf y = some .cell := hy
  unfold swapsWith
  simp only [ky]
  have : (some NameKind.cell == some NameKind.local) = false := rfl
  simp only [this, Bool.and_false, Bool.false_and]
end
def dvV : Option Int → Val
  | some i => .int i
  | none => .none
def dvH : Option Int → V
  | some i => .int i
  | none => .non
def dflEs : List (Option Int) → Es
  | [] => .nil
  | d :: ds => .cons (.con (dvV d)) (dflEs ds)
def appEs : Es → List (Option Int) → Es
  | .nil, ds => dflEs ds
  | .cons e es, ds => .cons e (appEs es ds)
termination_by structural x => x
theorem ev_app0 (ds : List (Option Int)) (s : Store) (G : Heap) : evEs Γ (dflEs ds) s G = .ok (ds.map dvV) G := by
  induction ds with
  | nil => rw [dflEs, evEs]; rfl
  | cons d ds ih => rw [dflEs, evEs, evE, R.bind, ih]; rfl
theorem ev_app (ds : List (Option Int)) (s : Store) : ∀ (es : Es) (G : Heap), evEs Γ (appEs es ds) s G = (evEs Γ es s G).bind fun vs G1 => .ok (vs ++ ds.map dvV) G1
  | .nil, G => by rw [appEs, ev_app0, evEs]; rfl
  | .cons e es, G => by
    rw [appEs, evEs, evEs]
    cases evE Γ e s G with
    | no => rfl
    | exc _ _ => rfl
    | ok v G1 =>
      show (evEs Γ (appEs es ds) s G1).bind _ = ((evEs Γ es s G1).bind _).bind _
      rw [ev_app ds s es G1]
      cases evEs Γ es s G1 <;> rfl
theorem dv_rl {M : Mp} {H : Hp} : ∀ ds : List (Option Int), Rls K M H (ds.map dvV) (ds.map dvH)
  | [] => .nil
  | none :: ds => .cons .nn (dv_rl ds)
  | some i :: ds => .cons (.int i) (dv_rl ds)
theorem pe_callKD {k n : Nat} {f : String} {a : Addr} {fd : FuncData} {ps : List Str} {is : Es} {p pos : Pos} {e : Expr} {es : List Expr} {ds : List (Option Int)} {us0 : List Value} (D : DefOk X.prog X.w X.K X.mg X.base k f n (Γ f) a fd ps) (hr : RoomG k X.A) (tk : Takes X W) (hg : Gl X (Str.ofString f)) (hl : is.len + ds.length = n)
    (hb : Binds X.K fd ps us0) (hd : Vals (ds.map dvH) us0)
    (ha : PA X (e :: es) (tAs X.K W (evEs Γ is))) (hdb : (Str.ofString f == ("__debug__" : Str)) = false) (he : starEach (e :: es) X.env = (false, eval e X.env) :: starEach es X.env) (hpl : (backTo pos (starEach es X.env)).any (·.1) = false) :
    PE X (.Call (.Name (Str.ofString f) p) (e :: es) [] pos) (tE X.K W (evE Γ (.call f (appEs is ds)))) :=
  peImp (pe_callG (E := fun σ => WE W σ) D.ok hr hg D.glob D.keep hb hd (fun σ => passAt tk σ) ha hdb he hpl) fun σ H Q ⟨M, G, s, hh, hst, hm⟩ => by
    rw [evE, R.wp_bind, ev_app, R.wp_bind] at hm
    refine ⟨M, G, s, hh, hst, R.wp_mono (evEs_len is s G hm) (fun vs G1 ⟨hlen, hm⟩ M1 us H1 l1 hh1 r1 => ?_) fun _ _ x => x⟩
    show spF X.K n (Γ f) (us ++ ds.map dvH) H1 Q (WE W σ)
    have hm : (Γ f (vs ++ ds.map dvV) G1).wp _ _ := hm
    have r2 : Rls X.K M1 H1 (vs ++ ds.map dvV) (us ++ ds.map dvH) := r1.append (dv_rl ds)
    refine ⟨by rw [← r2.length, List.length_append, List.length_map, hlen, hl], M1.callee, G1, _, rfl, hh1.callee, r2.ext callee_ext, R.wp_mono hm (fun v G' k M' u H' l hh' r => ?_) fun e G' x M' cls d H' l hh' r => ?_⟩
    · exact k _ u H' (l1.trans (back_later l)) (back_heap hh1 l hh') (r.ext (back_ext l.xo))
    · exact x _ cls d H' (l1.trans (back_later l)) (back_heap hh1 l hh') (r.ext (back_ext l.xo))
end Fx

namespace Fx
open PySem PySem.Spec PyProof.Rows L2
variable {X : Cx} {W : WX} {Γ : Calls}
/-- the keywords bind the last parameters -/
def KwOk (K : PySem.W.Frag) (fd : FuncData) (ps : List Str) (n : Nat) : Prop :=
  ∀ (s : Shared) (us ws : List Value), K.In s.heap → us.length = n → ws.length = (ps.drop n).length → BindsTo s fd ⟨us, (ps.drop n).zip ws⟩ (ps.zip (us ++ ws))
def catEs : Es → Es → Es
  | .nil, b => b
  | .cons e a, b => .cons e (catEs a b)
theorem ev_cat (b : Es) (s : Store) : ∀ (a : Es) (G : Heap), evEs Γ (catEs a b) s G = (evEs Γ a s G).bind fun xs G1 => (evEs Γ b s G1).bind fun ys G2 => .ok (xs ++ ys) G2
  | .nil, G => by
    rw [catEs, evEs, R.bind]
    show _ = (evEs Γ b s G).bind fun ys G2 => .ok ([] ++ ys) G2
    cases evEs Γ b s G <;> rfl
  | .cons e a, G => by
    rw [catEs, evEs, evEs]
    cases evE Γ e s G with
    | no => rfl
    | exc e G1 => rfl
    | ok v G1 =>
      show (evEs Γ (catEs a b) s G1).bind _ = ((evEs Γ a s G1).bind _).bind _
      rw [ev_cat b s a G1]
      cases evEs Γ a s G1 with
      | no => rfl
      | exc e G2 => rfl
      | ok xs G2 =>
        show ((evEs Γ b s G2).bind _).bind _ = (evEs Γ b s G2).bind _
        cases evEs Γ b s G2 <;> rfl
theorem pkImp {kws : List Keyword} {t t' : L2.TA} (h : PK X kws t) (i : ∀ σ H Q, t' σ H Q → t σ H Q) : PK X kws t' := ⟨fun pos pins s σ H Q I q => h.run pos pins s σ H Q I (i σ H Q q)⟩
theorem pk_nilK : PK X [] (tAs X.K W (evEs Γ .nil)) :=
  pkImp pk_nil fun σ H Q ⟨M, G, s, hh, hs, hm⟩ => by
    rw [evEs] at hm
    exact hm M [] H (Later.refl M H) hh .nil
theorem pk_consK {e : Expr} {kws : List Keyword} {nm : Option Str} {kpos : Pos} {i : E} {is : Es} (ha : PE X e (tE X.K W (evE Γ i))) (hr : PK X kws (tAs X.K W (evEs Γ is))) : PK X (⟨nm, e, kpos⟩ :: kws) (tAs X.K W (evEs Γ (.cons i is))) :=
  pkImp (pk_cons ha hr) fun σ H Q ⟨M, G, s, hh, hs, hm⟩ => by
    rw [evEs, R.wp_bind] at hm
    refine ⟨M, G, s, hh, hs, R.wp_mono hm (fun x G1 hm M1 u1 H1 l1 hh1 r1 => ⟨M1, G1, s, hh1, hs.later hh.ok l1, ?_⟩) fun _ _ x => x⟩
    rw [R.wp_bind] at hm
    exact R.wp_mono hm (fun ys G2 k M2 us H2 l2 hh2 r2 => k M2 _ H2 (l1.trans l2) hh2 (.cons (r1.later l2) r2)) fun _ _ x => x.later l1
/-- f(e, .., k = v, ..) -/
theorem pe_callKS {CX : CXT} {k n : Nat} {f : Addr} {fd : FuncData} {ps ks : List Str} {sp : Sp} {E : L2.St → XK} {x : Str} {p pos : Pos} {e : Expr} {es : List Expr} {kws : List Keyword} {t tk : L2.TA}
    (F : FnG X.prog X.w X.K X.mg X.base CX k f fd ps sp) (hr : RoomG k X.A) (hg : Gl X x) (hm : X.mg x = some (.ref f)) (hk : PySem.W.keepIn X.K (.ref f) = true) (hb : KwOk X.K fd ps n) (hks0 : ks = ps.drop n) (hx : ∀ σ, PassesAt CX X σ (E σ))
    (ha : PA X (e :: es) t) (hkw : PK X kws tk) (hall : (backToKw pos (keywordEach kws X.env)).all (·.1.isSome) = true) (hks : (backToKw pos (keywordEach kws X.env)).filterMap (·.1) = ks)
    (hdb : (x == ("__debug__" : Str)) = false) (he : starEach (e :: es) X.env = (false, eval e X.env) :: starEach es X.env)
    (hpl : ((backTo pos (starEach (e :: es) X.env)).any (·.1) || (backToKw pos (keywordEach kws X.env)).any (·.1.isNone)) = false) :
    PE X (.Call (.Name x p) (e :: es) kws pos) (fun σ H Q => t σ H fun vs H1 => tk σ H1 fun zs H2 => vs.length = n ∧ zs.length = ks.length ∧ sp (vs ++ zs) H2 Q (E σ)) := by
  refine ⟨fun pins s σ H Q I h => wpAny_Call_Name_kw (ld_glob I hg hm ?_ hdb)⟩
  refine PySem.W.callWith_KW (h₀ := X.base) I.ok.mod.kin hk hall (thn (ha.run pos pins s σ H _ I h) ?_) hpl he
  rintro us s1 ⟨vs, H1, I1, r, q⟩
  refine thn (hkw.run pos pins s1 σ H1 _ I1 q) ?_
  rintro ws s2 ⟨zs, H2, I2, rz, l1, l2, q2⟩
  refine ⟨I2.kIn, ?_⟩
  rw [hks]
  subst hks0
  refine wpAny_call (codeAny_mono (F.run X.A X.stack s2 H2 ⟨us, (ps.drop n).zip ws⟩ (us ++ ws) (vs ++ zs) Q (E σ) hr I2.env0 (hb s2 us ws I2.kIn (r.length.symm.trans l1) (rz.length.symm.trans l2)) (r.append rz) q2) ?_)
  intro fl s3 hq
  cases fl with
  | error er => exact hx σ pins H2 s2 er s3 I2 hq
  | ok fl => cases fl with
    | ret u => exact I2.after hq
    | next => exact False.elim hq
    | brk => exact False.elim hq
    | cont => exact False.elim hq
theorem pe_callKw {k n m : Nat} {f : String} {a : Addr} {fd : FuncData} {ps ks : List Str} {is js : Es} {p pos : Pos} {e : Expr} {es : List Expr} {kws : List Keyword} (D : DefOk X.prog X.w X.K X.mg X.base k f n (Γ f) a fd ps) (hr : RoomG k X.A) (tk : Takes X W) (hg : Gl X (Str.ofString f))
    (hb : KwOk X.K fd ps m) (hks0 : ks = ps.drop m) (hl : is.len = m) (hj : js.len = ks.length) (hn : m + ks.length = n)
    (ha : PA X (e :: es) (tAs X.K W (evEs Γ is))) (hkw : PK X kws (tAs X.K W (evEs Γ js))) (hall : (backToKw pos (keywordEach kws X.env)).all (·.1.isSome) = true) (hks : (backToKw pos (keywordEach kws X.env)).filterMap (·.1) = ks)
    (hdb : (Str.ofString f == ("__debug__" : Str)) = false) (he : starEach (e :: es) X.env = (false, eval e X.env) :: starEach es X.env)
    (hpl : ((backTo pos (starEach (e :: es) X.env)).any (·.1) || (backToKw pos (keywordEach kws X.env)).any (·.1.isNone)) = false) :
    PE X (.Call (.Name (Str.ofString f) p) (e :: es) kws pos) (tE X.K W (evE Γ (.call f (catEs is js)))) :=
  peImp (pe_callKS (E := fun σ => WE W σ) D.ok hr hg D.glob D.keep hb hks0 (fun σ => passAt tk σ) ha hkw hall hks hdb he hpl) fun σ H Q ⟨M, G, s, hh, hst, hm⟩ => by
    rw [evE, R.wp_bind, ev_cat, R.wp_bind] at hm
    refine ⟨M, G, s, hh, hst, R.wp_mono (evEs_len is s G hm) (fun vs G1 ⟨hlen, hm⟩ M1 us H1 l1 hh1 r1 => ?_) fun _ _ x => x⟩
    refine ⟨M1, G1, s, hh1, hst.later hh.ok l1, ?_⟩
    rw [R.wp_bind] at hm
    refine R.wp_mono (evEs_len js s G1 hm) (fun zs G2 ⟨hlen2, hm⟩ M2 ws H2 l2 hh2 r2 => ?_) fun _ _ x => x.later l1
    have r3 : Rls X.K M2 H2 (vs ++ zs) (us ++ ws) := (r1.later l2).append r2
    have hm : (Γ f (vs ++ zs) G2).wp _ _ := hm
    refine ⟨by rw [← r1.length, hlen, hl], by rw [← r2.length, hlen2, hj], ?_⟩
    refine ⟨by rw [← r3.length, List.length_append, hlen, hlen2, hl, hj, hn], M2.callee, G2, _, rfl, hh2.callee, r3.ext callee_ext, R.wp_mono hm (fun v G' k M' u H' l hh' r => ?_) fun e G' x M' cls d H' l hh' r => ?_⟩
    · exact k _ u H' ((l1.trans l2).trans (back_later l)) (back_heap hh2 l hh') (r.ext (back_ext l.xo))
    · exact x _ cls d H' ((l1.trans l2).trans (back_later l)) (back_heap hh2 l hh') (r.ext (back_ext l.xo))
end Fx

namespace Fx
open PySem PySem.Spec PyProof.Rows L2
variable {X : Cx} {W : WX} {Γ : Calls}
theorem dcon_at {w : World} {P : Program} {K : PySem.W.Frag} {d : Addr} {ks : List Key} {vs : List Val} (D : DicOk K w d ks vs) {s : Shared} (hk : K.In s.heap) : (d == sysModules) = false ∧ ∃ uv, s.heap.DictOf (mixKind P w) d (ks.zip uv) ∧ ∀ k, (valueAt (ks.zip uv) k).isSome = (dLook ks vs k).isSome := by
  obtain ⟨es, n, us', uv, lk, low, kp, nd, hlen, hz, rv, rl⟩ := D
  have hkk := kp P
  have ho := hk _ _ lk
  refine ⟨low, uv, ⟨_, es, n, ho, ⟨rfl, rfl, rfl⟩, rfl, hkk.1, hkk.2, by rw [List.map_fst_zip]; exact nd; rw [← rv.length, ← hlen]; exact Nat.le_refl _⟩, fun k => ?_⟩
  have z := look_rl (ks := ks) (rl ⟨[], fun _ => none, fun _ => False⟩ fun _ => none) k
  rw [← ((kv_zip hlen rv).val k).isSome_eq]
  revert z
  cases dLook ks vs k with
  | none => intro z; rw [z hlen]; rfl
  | some v => intro ⟨u, e, _⟩; rw [e]; rfl
theorem op_inDc {d : Addr} {ks : List Key} {vs : List Val} (D : DicOk X.K X.w d ks vs) : OpR X (compareOp .In) (fun x y H Q => y = .ref d ∧ ∃ k, x = kV k ∧ Q (.bl (dLook ks vs k).isSome) H) := by
  intro pins s σ H x y v u Q I rx ry h
  obtain ⟨rfl, k, rfl, q⟩ := h
  obtain rfl : u = Value.ref d := ry
  obtain ⟨low, uv, dd, e⟩ := dcon_at (P := X.prog) D I.kIn
  refine wpAny_in_of (kV_is rx) low dd.mapOf ?_
  rw [e k]
  exact ⟨.bl _, H, I.tok _, rfl, q⟩
theorem op_notInDc {d : Addr} {ks : List Key} {vs : List Val} (D : DicOk X.K X.w d ks vs) : OpR X (compareOp .NotIn) (fun x y H Q => y = .ref d ∧ ∃ k, x = kV k ∧ Q (.bl (!(dLook ks vs k).isSome)) H) := by
  intro pins s σ H x y v u Q I rx ry h
  obtain ⟨rfl, k, rfl, q⟩ := h
  obtain rfl : u = Value.ref d := ry
  obtain ⟨low, uv, dd, e⟩ := dcon_at (P := X.prog) D I.kIn
  refine wpAny_notIn_of (kV_is rx) low dd.mapOf ?_
  rw [e k]
  exact ⟨.bl _, H, I.tok _, rfl, q⟩
/-- the operator of a look into a dict of the top -/
def dinO (neg : Bool) : CmpOp := if neg then .NotIn else .In
theorem op_dinDc {d : Addr} {ks : List Key} {vs : List Val} (neg : Bool) (D : DicOk X.K X.w d ks vs) : OpR X (compareOp (dinO neg)) (fun x y H Q => y = .ref d ∧ ∃ k, x = kV k ∧ Q (.bl (if neg then !(dLook ks vs k).isSome else (dLook ks vs k).isSome)) H) := by
  cases neg with
  | false => exact op_inDc D
  | true => exact op_notInDc D
theorem din_core {x : Str} {d : Addr} {ks : List Key} {vs : List Val} {neg : Bool} {i : E} {σ : L2.St} {H : Hp} {M : Mp} {G : Heap} {s : Store} {kk : Val → Heap → Prop} {Q : VK} (hh : HeapR X.K M G H) (hst : StoreR X.K M H s σ) (hm : (evE Γ (.din ks vs neg i) s G).wp kk (XW X.K W M H σ))
    (fin : ∀ b G1, kk (.bool b) G1 → ∀ M1 H1, Later M H M1 H1 → HeapR X.K M1 G1 H1 → Q (.bl b) H1) :
    tOp (fun x y H Q => y = .ref d ∧ ∃ k, x = kV k ∧ Q (.bl (if neg then !(dLook ks vs k).isSome else (dLook ks vs k).isSome)) H) (tE X.K W (evE Γ i)) (L2.tC (.ref d)) σ H Q := by
  rw [evE, R.wp_bind] at hm
  refine ⟨M, G, s, hh, hst, R.wp_mono hm (fun y G1 hm M1 u1 H1 l1 hh1 r1 => ?_) fun _ _ x => x⟩
  obtain ⟨c, hc, k⟩ := R.wp_opt hm
  cases qk : keyOf y with
  | none => rw [qk] at hc; cases hc
  | some kk =>
    rw [qk] at hc
    cases hc
    exact ⟨rfl, kk, key_rl (.inl r1) qk, fin _ _ k M1 H1 l1 hh1⟩
theorem pe_dinK {x : Str} {d : Addr} {ks : List Key} {vs : List Val} {neg : Bool} {a : Expr} {i : E} {p2 pos : Pos} (hgx : Gl X x) (hmx : X.mg x = some (.ref d)) (hdx : (x == ("__debug__" : Str)) = false) (D : DicOk X.K X.w d ks vs) (ha : PE X a (tE X.K W (evE Γ i))) :
    PE X (.Compare a [dinO neg] [.Name x p2] pos) (tE X.K W (evE Γ (.din ks vs neg i))) :=
  peImp (pe_cmpR (pos := pos) (op_dinDc neg D) ha (show PE X (.Name x p2) (L2.tC (.ref d)) from pe_glob hgx hmx rfl hdx) (by cases neg <;> rfl)) fun σ H Q ⟨M, G, s, hh, hst, hm⟩ =>
    din_core (x := x) hh hst hm fun b G1 k M1 H1 l1 hh1 => k M1 _ H1 l1 hh1 (.bool b)
theorem pt_dinK {x : Str} {d : Addr} {ks : List Key} {vs : List Val} {neg : Bool} {a : Expr} {i : E} {p2 pos : Pos} (hgx : Gl X x) (hmx : X.mg x = some (.ref d)) (hdx : (x == ("__debug__" : Str)) = false) (D : DicOk X.K X.w d ks vs) (ha : PE X a (tE X.K W (evE Γ i))) :
    PT X (.Compare a [dinO neg] [.Name x p2] pos) (tT X.K W (evE Γ (.din ks vs neg i))) :=
  ptImp (pt_cmpR (pos := pos) (op_dinDc neg D) ha (show PE X (.Name x p2) (L2.tC (.ref d)) from pe_glob hgx hmx rfl hdx) (by cases neg <;> rfl)) fun σ H Q ⟨M, G, s, hh, hst, hm⟩ =>
    din_core (x := x) (Q := fun x H' => ∃ k, x = .bl k ∧ Q k H') hh hst hm fun b G1 ⟨b', e, k⟩ M1 H1 l1 hh1 => by
      have e : b = b' := Option.some.inj e
      subst e
      exact ⟨b, rfl, k M1 H1 l1 hh1⟩
theorem distinct_len : ∀ (ns l : List Int), l.Nodup → (∀ k, k ∈ l ↔ k ∈ ns) → l.length = distinct ns
  | [], l, _, h => by
    cases l with
    | nil => rfl
    | cons x xs => exact absurd ((h x).mp List.mem_cons_self) List.not_mem_nil
  | x :: r, l, hn, h => by
    rw [distinct]
    split
    · rename_i hx
      rw [Nat.zero_add]
      refine distinct_len r l hn fun k => (h k).trans ⟨fun z => ?_, List.mem_cons_of_mem _⟩
      rcases List.mem_cons.mp z with rfl | z
      · exact hx
      · exact z
    · rename_i hx
      have hl : x ∈ l := (h x).mpr List.mem_cons_self
      have := distinct_len r (l.erase x) (hn.erase x) fun k => by
        rw [hn.mem_erase_iff, h k, List.mem_cons]
        constructor
        · rintro ⟨h1, h2 | h2⟩
          · exact absurd h2 h1
          · exact h2
        · intro h2
          exact ⟨fun e => hx (e ▸ h2), .inr h2⟩
      rw [List.length_erase_of_mem hl] at this
      have := List.length_pos_of_mem hl
      omega
def tLenSetT (K : PySem.W.Frag) (ta : L2.TE) : L2.TE := fun σ H Q => ta σ H fun x H1 => ∃ (l : Addr) (ns : List Int), x = V.ref l ∧ SqT K H1 l (ns.map V.int) ∧ ns.length < 64 ∧ Q (.int (distinct ns)) H1
theorem pe_lenSetT {a : Expr} {ta : L2.TE} {p p2 q pos : Pos} (hc : X.calm = true) (hg : Gl X "len") (hm : X.mg "len" = none) (hg2 : Gl X "set") (hm2 : X.mg "set" = none) (ha : PE X a ta)
    (na : starEach [a] X.env = (false, eval a X.env) :: starEach [] X.env) : PE X (.Call (.Name "len" p) [.Call (.Name "set" p2) [a] [] q] [] pos) (tLenSetT X.K ta) := by
  refine ⟨fun pins s σ H Q I h => ?_⟩
  refine Call_ (ld_blt I hg hm PySem.boot_len ?_)
  refine PyProof.Rows.callWith_builtin1 (PyProof.Rows.args_cons ?_ rfl) rfl rfl
  refine Call_ (ld_blt I hg2 hm2 PyProof.Rows.boot_set ?_)
  refine PyProof.Rows.callWith_type1 (PyProof.Rows.args_cons (thn (ha.run pins s σ H _ I h) fun v s1 ⟨x, H1, I1, r1, q1⟩ => PyProof.Rows.args_nil ?_) na) na rfl
  obtain ⟨l, ns, rfl, hq, h1, q1⟩ := q1
  cases r1
  obtain ⟨its, r, pl, hz⟩ := I1.tuple hq
  refine call_set_tupI (ns := ns) (I1.ok.hd hc) pl (by simpa using r.ints) (by unfold scanBound; omega) fun h' tk c hS hcl hk => ?_
  refine PyProof.Rows.args_nil ?_
  obtain ⟨o, es, ep, t, ho, hex, hd, _, hnd, hmem, _, hf, hn, _⟩ := hS
  have hcn : c = distinct ns := by
    have := distinct_len ns (es.toList.map L2.keyOf) hnd fun k => by
      rw [← hmem k, decide_eq_true_eq]
    rw [List.length_map, Array.length_toList, hn] at this
    exact this
  have I2 : Inv X pins σ H1 { s1 with heap := h', toks := tk } := I1.kept fun b o e => hk b o e
  refine call_len_set ho hex hd hf (by rw [hn]; omega) ⟨.int (distinct ns), H1, I2.tok _, ⟨_, by rw [hn, hcn]⟩, q1⟩
theorem pe_lenSetK {a : Expr} {i : E} {p p2 q pos : Pos} (hc : X.calm = true) (hg : Gl X "len") (hm : X.mg "len" = none) (hg2 : Gl X "set") (hm2 : X.mg "set" = none) (ha : PE X a (tE X.K W (evE Γ i)))
    (na : starEach [a] X.env = [(false, eval a X.env)]) : PE X (.Call (.Name "len" p) [.Call (.Name "set" p2) [a] [] q] [] pos) (tE X.K W (evE Γ (.lenSet i))) :=
  peImp (pe_lenSetT (p := p) (p2 := p2) (q := q) (pos := pos) hc hg hm hg2 hm2 ha na) fun σ H Q ⟨M, G, s, hh, hst, hm⟩ => by
    rw [evE, R.wp_bind] at hm
    refine ⟨M, G, s, hh, hst, R.wp_mono hm (fun x G1 hm M1 u1 H1 l1 hh1 r1 => ?_) fun _ _ x => x⟩
    obtain ⟨c, hc, k⟩ := R.wp_opt hm
    cases x with
    | tup xs =>
      have hc : ((ints? xs).bind fun ns => if ns.length < 64 then some (Val.int (distinct ns)) else none) = some c := hc
      cases hi : ints? xs with
      | none => rw [hi] at hc; cases hc
      | some ns =>
        rw [hi] at hc
        have hc : (if ns.length < 64 then some (Val.int (distinct ns)) else none) = some c := hc
        split at hc
        · rename_i hl
          cases hc
          obtain ⟨p, vs, rfl, h2, t⟩ := r1.tup
          rw [ints_of t hi] at h2
          exact ⟨p, ns, rfl, h2, hl, k M1 _ H1 l1 hh1 (.int _)⟩
        · cases hc
    | _ => cases hc
theorem pe_callK0S {CX : CXT} {k : Nat} {f : Addr} {fd : FuncData} {ps : List Str} {sp : Sp} {E : L2.St → XK} {x : Str} {p pos : Pos} {kws : List Keyword} {tk : L2.TA}
    (F : FnG X.prog X.w X.K X.mg X.base CX k f fd ps sp) (hr : RoomG k X.A) (hg : Gl X x) (hm : X.mg x = some (.ref f)) (hk : PySem.W.keepIn X.K (.ref f) = true) (hb : KwOk X.K fd ps 0) (hx : ∀ σ, PassesAt CX X σ (E σ))
    (hkw : PK X kws tk) (hall : (backToKw pos (keywordEach kws X.env)).all (·.1.isSome) = true) (hks : (backToKw pos (keywordEach kws X.env)).filterMap (·.1) = ps)
    (hdb : (x == ("__debug__" : Str)) = false) (hpl : (backToKw pos (keywordEach kws X.env)).any (·.1.isNone) = false) :
    PE X (.Call (.Name x p) [] kws pos) (fun σ H Q => tk σ H fun zs H2 => zs.length = ps.length ∧ sp zs H2 Q (E σ)) := by
  refine ⟨fun pins s σ H Q I h => wpAny_Call_Name_kw (ld_glob I hg hm ?_ hdb)⟩
  refine PySem.W.callWith_KW0 (h₀ := X.base) I.ok.mod.kin hk hall ?_ (by
    show (([] : List (Bool × Sem Value)).any (·.1) || _) = false
    rw [hpl]; rfl)
  refine thn (hkw.run pos pins s σ H _ I h) ?_
  rintro ws s2 ⟨zs, H2, I2, rz, l2, q2⟩
  refine ⟨I2.kIn, ?_⟩
  rw [hks]
  have hb := hb s2 [] ws I2.kIn rfl (by rw [List.drop_zero]; exact rz.length.symm.trans l2)
  rw [List.drop_zero] at hb
  refine wpAny_call (codeAny_mono (F.run X.A X.stack s2 H2 ⟨[], ps.zip ws⟩ ws zs Q (E σ) hr I2.env0 hb rz q2) ?_)
  intro fl s3 hq
  cases fl with
  | error er => exact hx σ pins H2 s2 er s3 I2 hq
  | ok fl => cases fl with
    | ret u => exact I2.after hq
    | next => exact False.elim hq
    | brk => exact False.elim hq
    | cont => exact False.elim hq
theorem pe_callKw0 {k n : Nat} {f : String} {a : Addr} {fd : FuncData} {ps : List Str} {js : Es} {p pos : Pos} {kws : List Keyword} (D : DefOk X.prog X.w X.K X.mg X.base k f n (Γ f) a fd ps) (hr : RoomG k X.A) (tk : Takes X W) (hg : Gl X (Str.ofString f))
    (hb : KwOk X.K fd ps 0) (hj : js.len = ps.length) (hn : ps.length = n) (hkw : PK X kws (tAs X.K W (evEs Γ js))) (hall : (backToKw pos (keywordEach kws X.env)).all (·.1.isSome) = true) (hks : (backToKw pos (keywordEach kws X.env)).filterMap (·.1) = ps)
    (hdb : (Str.ofString f == ("__debug__" : Str)) = false) (hpl : (backToKw pos (keywordEach kws X.env)).any (·.1.isNone) = false) :
    PE X (.Call (.Name (Str.ofString f) p) [] kws pos) (tE X.K W (evE Γ (.call f js))) :=
  peImp (pe_callK0S (E := fun σ => WE W σ) D.ok hr hg D.glob D.keep hb (fun σ => passAt tk σ) hkw hall hks hdb hpl) fun σ H Q ⟨M, G, s, hh, hst, hm⟩ => by
    rw [evE, R.wp_bind] at hm
    refine ⟨M, G, s, hh, hst, R.wp_mono (evEs_len js s G hm) (fun zs G1 ⟨hlen, hm⟩ M1 us H1 l1 hh1 r1 => ?_) fun _ _ x => x⟩
    refine ⟨by rw [← r1.length, hlen, hj], by rw [← r1.length, hlen, hj, hn], M1.callee, G1, _, rfl, hh1.callee, r1.ext callee_ext, R.wp_mono hm (fun v G' k M' u H' l hh' r => ?_) fun e G' x M' cls d H' l hh' r => ?_⟩
    · exact k _ u H' (l1.trans (back_later l)) (back_heap hh1 l hh') (r.ext (back_ext l.xo))
    · exact x _ cls d H' (l1.trans (back_later l)) (back_heap hh1 l hh') (r.ext (back_ext l.xo))
end Fx

namespace Fx
open PySem PySem.Spec PyProof.Rows L2
variable {X : Cx} {W : WX} {Γ : Calls} {Ev : Mp → Hp → Mp → Hp → Prop}
/-- how many items are left away -/
def dropN : Option Int → Nat
  | none => 0
  | some j => j.toNat + 1
def stopR (n : Nat) : Option Int → Int
  | none => -1
  | some j => min j ((n : Int) - 1)
theorem adjust_rev (hi : Option Int) (h0 : ∀ j, hi = some j → 0 ≤ j) (n : Nat) : Builtin.Slice.sliceAdjust none hi (-1) (n : Int) = ((n : Int) - 1, stopR n hi) := by
  have h1 : ((-1 : Int) < 0) := by omega
  unfold Builtin.Slice.sliceAdjust
  simp only [h1, if_true]
  refine Prod.ext rfl ?_
  cases hi with
  | none => rfl
  | some j =>
    have := h0 j rfl
    show (if j < 0 then _ else _) = _
    rw [if_neg (by omega)]; rfl
theorem places_z (n k : Nat) (z : Int) (h : (z = -1 ∧ k = 0) ∨ ∃ j : Int, 0 ≤ j ∧ z = min j ((n : Int) - 1) ∧ k = j.toNat + 1) : Builtin.Slice.slicePlaces ((n : Int) - 1) z (-1) = n - k := by
  unfold Builtin.Slice.slicePlaces
  have h1 : ¬ ((-1 : Int) > 0) := by omega
  simp only [h1, if_false, Int.neg_neg, Int.ediv_one]
  rcases h with ⟨rfl, rfl⟩ | ⟨j, j0, hz, rfl⟩
  · split <;> omega
  · split <;> omega
theorem places_rev (hi : Option Int) (h0 : ∀ j, hi = some j → 0 ≤ j) (n : Nat) : Builtin.Slice.slicePlaces ((n : Int) - 1) (stopR n hi) (-1) = n - dropN hi := by
  refine places_z n _ _ ?_
  cases hi with
  | none => exact .inl ⟨rfl, rfl⟩
  | some j => exact .inr ⟨j, h0 j rfl, rfl, rfl⟩
theorem fm_map {α β : Type} {f : α → Option β} {g : α → β} : ∀ {l : List α}, (∀ m ∈ l, f m = some (g m)) → l.filterMap f = l.map g
  | [], _ => rfl
  | m :: l, h => by
    rw [List.filterMap_cons, h m List.mem_cons_self, fm_map fun z hz => h z (List.mem_cons_of_mem _ hz)]; rfl
theorem pick_rev (xs : Array Value) (k : Nat) : ((List.range (xs.size - k)).filterMap fun (m : Nat) => xs[(((xs.size : Int) - 1) + (m : Int) * (-1)).toNat]?).toArray = ((xs.toList.drop k).reverse).toArray := by
  congr 1
  have e : ∀ m ∈ List.range (xs.size - k), xs[(((xs.size : Int) - 1) + (m : Int) * (-1)).toNat]? = some ((xs.toList.drop k).reverse.getD m .none) := fun m hm => by
    have hm := List.mem_range.mp hm
    have h1 : (((xs.size : Int) - 1) + (m : Int) * (-1)).toNat = xs.size - 1 - m := by omega
    have hl : (xs.toList.drop k).length = xs.size - k := by rw [List.length_drop, Array.length_toList]
    rw [h1, ← Array.getElem?_toList, List.getD_eq_getElem?_getD, List.getElem?_reverse (by omega), hl, List.getElem?_drop, show k + (xs.size - k - 1 - m) = xs.size - 1 - m by omega, List.getElem?_eq_getElem (by rw [Array.length_toList]; omega)]
    rfl
  rw [fm_map (g := fun m => (xs.toList.drop k).reverse.getD m .none) e]
  refine List.ext_getElem? fun i => ?_
  rw [List.getElem?_map]
  have hl : (xs.toList.drop k).reverse.length = xs.size - k := by rw [List.length_reverse, List.length_drop, Array.length_toList]
  by_cases hi : i < xs.size - k
  · rw [List.getElem?_range hi, List.getElem?_eq_getElem (by omega)]
    show some ((xs.toList.drop k).reverse.getD i .none) = _
    rw [List.getD_eq_getElem?_getD, List.getElem?_eq_getElem (by omega)]; rfl
  · rw [List.getElem?_eq_none (by rw [List.length_range]; omega), List.getElem?_eq_none (by omega)]; rfl
section
variable {prog : Program} {w : World} {A : Around} {E : Value → Shared → Prop} {s : Shared}
theorem sliceApplied_rev {sl : Addr} {vu vt : Value} {hi : Option Int} {n : Nat} {Q : Int × Int × Nat → Shared → Prop} (hs : s.heap.IsSliceOf sl .none vu vt) (pu : IsPart vu hi) (pt : IsPart vt (some (-1))) (h0 : ∀ j, hi = some j → 0 ≤ j)
    (h : Q ((n : Int) - 1, -1, n - dropN hi) s) : wpAny (model prog w) A (Builtin.Slice.sliceApplied (.ref sl) (pure (n : Int))) Q E s := by
  obtain ⟨os, hos, hcs, hds⟩ := id hs
  unfold Builtin.Slice.sliceApplied Builtin.Slice.sliceFields
  refine wpAny_bind (wpAny_bind (wpAny_field hos hds (x := .none) rfl (wpAny_bind (wpAny_field hos hds (x := vu) rfl (wpAny_bind (wpAny_field hos hds (x := vt) rfl (wpAny_pure ?_)))))))
  refine wpAny_bind (HT.slicePart_ pt ?_)
  show wpAny _ _ (if (((-1 : Int)) == 0) = true then _ else _) _ _ s
  rw [if_neg (by decide)]
  refine wpAny_bind (slicePart_none (wpAny_bind (HT.slicePart_ pu (wpAny_bind (wpAny_pure ?_)))))
  show wpAny _ _ (match Builtin.Slice.sliceAdjust none hi (-1) (n : Int) with | (lo, hi) => pure (lo, (-1 : Int), Builtin.Slice.slicePlaces lo hi (-1))) _ _ s
  rw [adjust_rev hi h0 n]
  show wpAny _ _ (pure ((n : Int) - 1, (-1 : Int), Builtin.Slice.slicePlaces ((n : Int) - 1) (stopR n hi) (-1))) _ _ s
  rw [places_rev hi h0 n]
  exact wpAny_pure h
theorem getItem_tuple_rev {t sl : Addr} {items : Array Value} {vu vt : Value} {hi : Option Int} {Q : Value → Shared → Prop} (ht : IsTup s.heap t items) (hs : s.heap.IsSliceOf sl .none vu vt) (pu : IsPart vu hi) (pt : IsPart vt (some (-1))) (h0 : ∀ j, hi = some j → 0 ≤ j)
    (h : Q (.ref s.heap.objs.size) { s with heap := s.heap.push { cls := .type "tuple", data := .seq ((items.toList.drop (dropN hi)).reverse).toArray } })
    (hsz : items.size ≤ sizeLine) : wpAny (model prog w) A (getItem (.ref t) (.ref sl)) Q E s := by
  have htake : sizeOk (.seq ((items.toList.drop (dropN hi)).reverse).toArray) := by
    show ((items.toList.drop (dropN hi)).reverse).toArray.size ≤ sizeLine
    rw [List.size_toArray, List.length_reverse, List.length_drop, Array.length_toList]
    omega
  obtain ⟨os, hos, hcs, hds⟩ := id hs
  have hTs : s.TypeIs (.ref sl) "slice" := ⟨os, hos, hcs⟩
  unfold getItem
  try with_reducible refine wpAny_holding ?_
  first | refine wpAny_bind (wpAny_pure ?_) | skip
  refine wpAny_bind (wpAny_sequenceKey ht.typeIs (by decide) ?_)
  refine wpAny_bind (wpAny_callSpecial?_slot (name := Str.ofString "__getitem__") ht.typeIs PyProof.Rows.slot_tuple_getitem
    (wpAny_call_entry PyProof.Rows.slot_tuple_getitem ht.typeIs entry_tuple_getitem ?_ (args_tuple_getitem _ _)))
  show wpAny _ _ (Builtin.Tuple.tupleItemsOf (.ref t) >>= _) _ _ s
  refine wpAny_bind (tupleItemsOf_ ht ?_)
  refine wpAny_bind (wpAny_typeOf hTs ?_)
  rw [if_pos (by decide)]
  refine wpAny_bind (sliceApplied_rev hs pu pt h0 ?_)
  have hno : ¬ ((((items.size : Int) - 1) == 0 && (-1 : Int) == 1 && (items.size - dropN hi) == items.size) = true) := by
    intro q
    rw [Bool.and_eq_true, Bool.and_eq_true] at q
    exact absurd q.1.2 (by decide)
  show wpAny _ _ (if (((items.size : Int) - 1) == 0 && (-1 : Int) == 1 && (items.size - dropN hi) == items.size) = true then _ else _) _ _ s
  rw [if_neg hno, pick_rev]
  first
    | exact wpAny_bind (m := Builtin.Tuple.tupleExact _) (wpAny_newObj_type (wpAny_pure ⟨_, rfl, wpAny_pure h⟩) htake)
    | exact wpAny_bind (m := Builtin.Tuple.tupleExact _) (wpAny_newObj_type (wpAny_bind (wpAny_pure (wpAny_pure ⟨_, rfl, wpAny_pure h⟩))) htake)
    | exact wpAny_bind (wpAny_bind (m := Builtin.Tuple.tupleExact _) (wpAny_newObj_type (wpAny_pure (wpAny_pure ⟨_, rfl, wpAny_pure h⟩)) htake))
    | exact wpAny_bind (wpAny_bind (m := Builtin.Tuple.tupleExact _) (wpAny_newObj_type (wpAny_pure ⟨_, rfl, wpAny_pure h⟩) htake))
end
/-- t[:hi:-1] -/
def tSlR (K : PySem.W.Frag) (te : L2.TE) (th tt : TO) : L2.TE := fun σ H Q => te σ H fun x H1 => th σ H1 fun u H2 => tt σ H2 fun t H3 => t = some (-1) ∧ (∀ j, u = some j → 0 ≤ j) ∧ ∃ a xs, x = .ref a ∧ SqT K H3 a xs ∧ ∀ p, H3 p = Option.none → Q (.ref p) (upd H3 p (.tup (xs.drop (dropN u)).reverse))
theorem pe_sliceR {e : Expr} {te : L2.TE} {hi : Option Expr} {st : Expr} {th tt : TO} {pos p2 : Pos} (he : PE X e te) (hu : PO X hi th) (ht : PO X (some st) tt) : PE X (.Subscript e (.Slice none hi (some st) p2) pos) (tSlR X.K te th tt) := by
  refine ⟨fun pins s σ H Q I h => ?_⟩
  refine Subscript_ (thn (he.run pins s σ H _ I h) fun v s1 ⟨x, H1, I1, r1, q1⟩ => ?_)
  refine wpAny_Slice ?_
  rw [evalPart_none]
  refine wpAny_pure (thn (hu.run pins s1 σ H1 _ I1 q1) fun vu s3 ⟨u, H3, I3, pu, q3⟩ => thn (ht.run pins s3 σ H3 _ I3 q3) fun vt s4 ⟨t, H4, I4, pt, q4⟩ => ?_)
  obtain ⟨rfl, h0, a, xs, rfl, hx, q⟩ := q4
  have I5 : Inv X pins σ H4 { s4 with heap := s4.heap.push { cls := .type "slice", data := .fields #[.none, vu, vt] } } := I4.kept (t' := s4.toks) fun b ob q => Heap.get?_push_of_some _ q
  obtain rfl : v = Value.ref a := r1
  obtain ⟨its, r, htp, hz⟩ := I5.tuple hx
  show wpAny (model X.prog X.w) X.A (subscriptTail e (.Slice none hi (some st) p2) (.ref a) (.ref s4.heap.objs.size)) (EP X pins σ Q) X.xe { s4 with heap := s4.heap.push { cls := .type "slice", data := .fields #[.none, vu, vt] } }
  refine tail_any (ops := [.ref a, .ref s4.heap.objs.size]) htp.typeIs PyProof.Rows.slot_tuple_getitem.lookup ?_ (by with_unfolding_all rfl)
  refine getItem_tuple_rev htp (Heap.IsSliceOf.new ..) pu pt h0 ?_ (by rw [List.size_toArray, ← r.length]; exact hz)
  refine ⟨.ref _, _, I5.laid (t' := s4.toks) (o := .tup (xs.drop (dropN u)).reverse) (fun b ob q => Heap.get?_push_of_some _ q) (Nat.le_refl _) ?_, rfl, q _ (I5.hok.fresh (Nat.le_refl _))⟩
  refine ⟨by rw [List.length_reverse, List.length_drop]; omega, _, (r.drop (dropN u)).reverse, ?_⟩
  exact IsTup.new _ _
theorem pe_sliceRK {a : Expr} {hi : Option Expr} {st : Expr} {i l t : E} {bh : Bool} {pos p2 : Pos} (ha : PE X a (tO X.K W (evE Γ i))) (hu : PO X hi (tP X.K W (partE Γ bh l))) (ht : PO X (some st) (tP X.K W (partE Γ true t))) :
    PE X (.Subscript a (.Slice none hi (some st) p2) pos) (tE X.K W (evE Γ (.sliceR i bh l t))) :=
  peImp (pe_sliceR (pos := pos) (p2 := p2) ha hu ht) fun σ H Q ⟨M, G, s, hh, hst, hm⟩ => by
    rw [evE, R.wp_bind] at hm
    refine ⟨M, G, s, hh, hst, R.wp_mono hm (fun x G1 hm M1 u1 H1 l1 hh1 r1 => ?_) fun _ _ x => x⟩
    rw [R.wp_bind] at hm
    refine ⟨M1, G1, s, hh1, hst.later hh.ok l1, R.wp_mono hm (fun hi G2 hm M2 H2 l2 hh2 => ?_) fun _ _ x => x.later l1⟩
    rw [R.wp_bind] at hm
    have l12 := l1.trans l2
    refine ⟨M2, G2, s, hh2, hst.later hh.ok l12, R.wp_mono hm (fun tt G3 hm M3 H3 l3 hh3 => ?_) fun _ _ x => x.later l12⟩
    obtain ⟨c, hc, k⟩ := R.wp_opt hm
    have r3 := ((r1.later (l2.trans l3)).d.rd hh3)
    cases e : rd G3 x with
    | tup xs =>
      rw [e] at r3 hc
      obtain ⟨p, vs, rfl, h2, t⟩ := r3.tup
      have hc : (if tt = some (-1) then (match hi with
        | none => some (Val.tup xs.reverse)
        | some j => if 0 ≤ j then some (Val.tup (xs.drop (j.toNat + 1)).reverse) else none) else none) = some c := hc
      split at hc
      · rename_i ht
        refine ⟨ht, ?_⟩
        cases hi with
        | none =>
          cases hc
          refine ⟨(fun j e => nomatch e), p, vs, rfl, h2, fun q hq => ?_⟩
          exact k M3 _ _ ((l12.trans l3).trans (Later.new M3 hq)) (hh3.new hq) (Rl.newTup hh3 hq (t.drop 0).reverse)
        | some j =>
          have hc : (if 0 ≤ j then some (Val.tup (xs.drop (j.toNat + 1)).reverse) else none) = some c := hc
          split at hc
          · rename_i hj
            cases hc
            refine ⟨(fun j' e => by cases e; exact hj), p, vs, rfl, h2, fun q hq => ?_⟩
            exact k M3 _ _ ((l12.trans l3).trans (Later.new M3 hq)) (hh3.new hq) (Rl.newTup hh3 hq (t.drop (j.toNat + 1)).reverse)
          · cases hc
      · cases hc
    | _ => rw [e] at hc; cases hc
theorem walk_revT {K : PySem.W.Frag} {a : Addr} {xs : List V} : L2.Walk (RT.ItvT K a xs.length) xs.length (fun H => SqT K H a xs) (fun i H u H' => H' = H ∧ xs[xs.length - 1 - i]? = some u) := by
  refine ⟨fun i _ hi q => ⟨hi, xs, xs[xs.length - 1 - i], q, by simp⟩, fun _ q => Nat.le_refl _, fun i H v H' _ q y => ⟨y.1, y.2 xs q⟩⟩
theorem pi_revK {e : Expr} {tg : Expr} {i : E} {p pos : Pos} (hev : ∀ M H M2 H2, Ev M H M2 H2 → Since M H M2 H2) (hg : Gl X "reversed") (hm : X.mg "reversed" = none) (ha : PE X e (tE X.K W (evE Γ i))) (hs : starEach [e] X.env = [(false, eval e X.env)]) :
    PI X tg (.Call (.Name "reversed" p) [e] [] pos) (tI Ev X.K W (evI Γ (.rev i))) :=
  piImp (RT.pi_revA hg hm ha hs) fun σ H RR ⟨M, G, s, hh, hst, hm⟩ => by
    rw [evI, R.wp_bind] at hm
    refine ⟨M, G, s, hh, hst, R.wp_mono hm (fun v G1 hm M1 u H1 l1 hh1 r1 => ?_) fun _ _ x => x⟩
    cases v with
    | tup xs =>
      obtain ⟨a, vs, rfl, t1, k1⟩ := seq_tup r1
      refine ⟨a, vs, rfl, .inr ⟨(k1 M1 H1 (Since.refl _ _)).1, hm M1 H1 _ l1 hh1 ?_⟩⟩
      refine ⟨_, _, by rw [List.length_reverse, t1.length]; exact walk_revT, fun M2 H2 e => ?_⟩
      have q1 := k1 M2 H2 (hev _ _ _ _ e)
      refine ⟨q1.1, fun j u H' hj y => ?_⟩
      obtain ⟨rfl, hu⟩ := y
      rw [List.length_reverse] at hj
      have hlt : xs.length - 1 - j < xs.length := by omega
      have hl := t1.length
      have hx : xs[xs.length - 1 - j]? = some xs[xs.length - 1 - j] := List.getElem?_eq_getElem hlt
      rw [← hl] at hu
      exact ⟨_, by rw [List.getElem?_reverse hj]; exact hx, fun G2 hh2 => ⟨hh2, Later.refl _ _, rls_at q1.2 hu hx⟩⟩
    | _ => exact hm.elim
end Fx

namespace Fx
open PySem PySem.Spec PyProof.Rows L2
variable {X : Cx} {W : WX} {Γ : Calls}
section
variable {pins : List (Addr × PySem.Obj)} {σ : L2.St} {H : Hp} {s : Shared}
/-- what the table's growth leaves -/
def TabG (H : Hp) (P : Addr) (q : Str) (ps : Array Value) (c' : Addr) (H1 : Hp) : Prop :=
  H1 = H ∨ ∃ more : Array Value, H c' = Option.none ∧ H1 = upd (upd H P (.tbl (ps ++ more))) c' (LamX.CodeO c' q) ∧ TriplesOk (ps ++ more).toList ∧
    ∀ (pos : Pos) (cv : Value), codeAmong pos (ps ++ more).toList = some cv → codeAmong pos ps.toList = some cv ∨ cv = .ref c'
theorem lam_mk {q : Str} {c P : Addr} {params : Arguments} {body : Expr} {scope : Scope} {pos : Pos} {E Q : Value → Shared → Prop} {ps : Array Value} (I : Inv X pins σ H s) (TB : LamX.TabB X.base X.mg c P) (hcode : X.env.code = .ref c)
    (hq : X.env.qual ++ "<lambda>" = q) (hP : H P = some (.tbl ps)) (ht : TriplesOk ps.toList) (ha : ∀ (pos : Pos) (cv : Value), codeAmong pos ps.toList = some cv → ∃ c, cv = .ref c ∧ H c = some (LamX.CodeO c q))
    (hdef : defaultsOf params X.env = ([], [])) (hfree : ∀ y ∈ scope.names, y.2 = .free → ∃ c, X.env.cells.lookup y.1 = some c)
    (k : ∀ (f c' : Addr) (pm ctv : Value) (H1 : Hp) (s' : Shared), Inv X pins σ H1 s' → TabG H P q ps c' H1 →
      s'.heap.get? f = some (PySem.W.kla_obj "<lambda>" (X.env.qual ++ "<lambda>") params body scope (cloFrom X.env.cells scope.names []) pm c' ctv) → H1 f = Option.none → f ∉ frs X.stack → H1 c' = some (LamX.CodeO c' q) → Q (.ref f) s') :
    wpAny (model X.prog X.w) X.A (eval (.Lambda params body scope pos) X.env) Q E s := by
  subst hq
  have bAt : s.heap.BuiltinsAt X.mg P := TB.bm.keeps I.bk
  have tAt : s.heap.get? P = some { cls := .none, data := .fields ps } := I.hok P _ hP
  have nf : ∀ f, s.heap.objs.size ≤ f → f ∉ frs X.stack := fun f hf z => (List.mem_cons.mp (I.stkSub _ z)).elim
    (fun e => by
      have lt := I.lt
      rw [← e] at lt
      exact absurd (Nat.lt_of_lt_of_le lt hf) (Nat.lt_irrefl _)) fun e => I.nofs hf e
  refine PySem.W.kla_eval hdef ?_
  cases known : codeAmong pos ps.toList with
  | some cv =>
    obtain ⟨c', rfl, co⟩ := ha pos cv known
    refine PySem.W.kla_makeFunctionHit (mg := X.mg) (c := c) (P := P) (ps := ps) (closure_ok hfree) I.ok.glob (I.mod.glob.keeps I.bk) hcode (TB.code.keeps I.bk) tAt ht known bAt ?_
    intro ctv h' tk hx hsz
    have J : Inv X pins σ H { s with heap := h'.push (PySem.W.kla_obj "<lambda>" (X.env.qual ++ "<lambda>") params body scope (cloFrom X.env.cells scope.names []) ((X.mg "__name__").getD .none) c' ctv), toks := tk } :=
      I.kept fun b o e => Heap.get?_push_of_some _ (hx b o e)
    exact k h'.objs.size c' _ ctv H _ J (.inl rfl) (Heap.get?_push_size _ rfl) (I.hok.fresh hsz) (nf _ hsz) co
  | none =>
    refine PySem.W.kla_makeFunction (mg := X.mg) (c := c) (P := P) (ps := ps) (closure_ok hfree) I.ok.glob (I.mod.glob.keeps I.bk) hcode (TB.code.keeps I.bk) tAt ht known TB.gP bAt ?_
    intro c' ctv h' tk hx hge hlt hrec htb
    obtain ⟨c2, oc, vs, t, e2, hoc, hd, hv⟩ := hrec
    cases e2
    have size : s.heap.objs.size ≤ h'.objs.size := Nat.le_trans hge (Nat.le_of_lt hlt)
    have fresh : H c' = Option.none := I.hok.fresh hge
    have J := LamX.inv_table (t' := tk) (more := #[rawInt pos.line, rawInt pos.col, .ref c']) (h' := h'.push (PySem.W.kla_obj "<lambda>" (X.env.qual ++ "<lambda>") params body scope (cloFrom X.env.cells scope.names []) ((X.mg "__name__").getD .none) c' ctv)) I hP
      (fun b o hb e => Heap.get?_push_of_some _ (hx b o hb e)) (Heap.get?_push_of_some _ htb) hge ⟨oc, vs, t, Heap.get?_push_of_some _ hoc, hd, hv⟩
    have lst : (ps ++ #[rawInt pos.line, rawInt pos.col, .ref c']).toList = ps.toList ++ [rawInt pos.line, rawInt pos.col, .ref c'] := by simp
    refine k h'.objs.size c' _ ctv _ _ J (.inr ⟨_, fresh, rfl, by rw [lst]; exact PySem.TriplesOk_snoc _ _ _ _ ht, fun p' cv hcv => ?_⟩) (Heap.get?_push_size _ rfl) ?_ (nf _ size) upd_same
    · rw [lst] at hcv
      exact LamX.among_app _ ht hcv
    · rw [upd_ne (Nat.ne_of_gt hlt), upd_ne (Nat.ne_of_gt (Nat.lt_of_lt_of_le (Heap.lt_size tAt) size))]
      exact I.hok.fresh size
end
abbrev HdT : Type := Value × Option Nat × (Addr → Value → Option Addr → L2.TS)
def DnG (i : Option Nat) (D : Ends) : Ends := match i with
  | none => D
  | some i => { nx := fun σ' H' => D.nx (σ'.set i none) H', rt := D.rt, bk := fun σ' H' => D.bk (σ'.set i none) H', ct := fun σ' H' => D.ct (σ'.set i none) H' }
def σnG (i : Option Nat) (a : Addr) (σ : L2.St) : L2.St := match i with
  | none => σ
  | some i => σ.set i (some (.ref a))
def wG (K : PySem.W.Frag) (Wout : WX) (D : Ends) : List HdT → WX
  | [] => Wout
  | (c, i, ts) :: r => fun cls d σ H => ∃ b, PySem.W.exmOne K cls c = some b ∧ (b = true → ∀ a, H a = none → ts a cls d (DnG i D) (σnG i a σ) H) ∧ (b = false → wG K Wout D r cls d σ H)
inductive HdsG (X : Cx) : List ExceptHandler → List HdT → Prop
  | nil : HdsG X [] []
  | bare {x : Str} {c : Value} {ts : Addr → Value → Option Addr → L2.TS} {b₀ : Stmt} {suite : List Stmt} {np pos' : Pos} {hds : List ExceptHandler} {l : List HdT} (hc : Names X x c)
      (hsu : ∀ (a : Addr) (oe : PySem.Obj) (cls : Value) (d : Option Addr) (pn : List (Addr × PySem.Obj)), Zc cls d oe → (∃ vs, oe.data = .fields vs) → PSs (X.suite a ((a, oe) :: pn)) (b₀ :: suite) (ts a cls d)) (r : HdsG X hds l) :
      HdsG X (.ExceptHandler (some (.Name x np)) none (b₀ :: suite) pos' :: hds) ((c, none, ts) :: l)
  | named {x n : Str} {i : Nat} {c : Value} {ts : Addr → Value → Option Addr → L2.TS} {b₀ : Stmt} {suite : List Stmt} {np pos' : Pos} {hds : List ExceptHandler} {l : List HdT} (hc : Names X x c) (hi : X.N[i]? = some n) (hln : X.env.kindOf n = some .local)
      (hsu : ∀ (a : Addr) (oe : PySem.Obj) (cls : Value) (d : Option Addr) (pn : List (Addr × PySem.Obj)), Zc cls d oe → (∃ vs, oe.data = .fields vs) → PSs (X.suite a ((a, oe) :: pn)) (b₀ :: suite) (ts a cls d)) (r : HdsG X hds l) :
      HdsG X (.ExceptHandler (some (.Name x np)) (some n) (b₀ :: suite) pos' :: hds) ((c, some i, ts) :: l)
section
variable {body : List Stmt} {h₀ : ExceptHandler} {hds : List ExceptHandler} {l : List HdT} {pos : Pos} {tb : WX → L2.TS} {Wout : WX}
theorem ps_tryG (hs : X.stack = X.env :: X.outer) (hf : X.env.frame = some X.env.locals) (hN : X.N.Nodup) (tk : Takes X Wout)
    (hb : ∀ (W : WX) (pn : List (Addr × PySem.Obj)) (xe : Value → Shared → Prop), Takes (X.tr pn xe) W → PassesOwn (model X.prog X.w) X.A X.env xe → PSs (X.tr pn xe) body (tb W))
    (hh : HdsG X (h₀ :: hds) l) : PS X (.Try body (h₀ :: hds) [] [] pos) (fun D σ H => tb (wG X.K Wout D l) D σ H) := by
  refine ⟨fun pins s σ H D I h => ?_⟩
  have ok := I.ok
  have frA : X.A.frames = some (X.env :: X.outer) := by rw [ok.frames, hs]
  refine wpAny_Try_except ?_
  refine wpAny_mono ((hb (wG X.K Wout D l) (X.pn ++ pins) (fun e s₁ => wpAny (model X.prog X.w) X.A (noteFrame e X.env) (fun _ s₂ => wpAny (model X.prog X.w) X.A (setFlight e none) (fun _ s₃ =>
    wpAny (model X.prog X.w) X.A (handleBy e X.env (h₀ :: hds)) (SP X pins D) X.xe s₃) X.xe s₂) X.xe s₁) (fun u s' xx => ?_) PassesOwn.looking).run [] s σ H D (I.toTry _) h) (fun f s1 hsp => ?_) (fun e s1 he => he)
  · obtain ⟨a, B, sI, pins', σ', H', cls, d, rfl, J', nb, up, sky, na, os, ag, w⟩ := xx
    have J : Inv X pins σ' H' sI := J'.ofTry ok
    have skyE : Sky B (X.env :: X.outer) a (Zc cls d) X.env.locals s'.heap := by rw [← hs]; exact sky
    show wpAny (model X.prog X.w) X.A (noteFrame (.ref a) X.env) _ _ _
    refine Sky.land Zc.steady frA hf skyE fun h3 fl3 up3 => ?_
    have J3 : Inv X pins σ' H' { s' with heap := h3 } := J.landed nb fl3.1 (up.trans up3) os ag
    obtain ⟨oe3, vs3, he3, hz3, hd3⟩ := fl3.there
    have nfr : a ∉ frs (X.env :: X.outer) := fun hm => by
      obtain ⟨_, o', e', hnf⟩ := fl3.2.2.1.mem hm
      rw [he3] at e'; cases e'
      exact hnf _ hd3
    have nLoc : a ≠ X.env.locals := fun z => nfr (List.mem_filterMap.mpr ⟨X.env, List.mem_cons_self, by rw [hf, z]⟩)
    have nFs : a ∉ X.fs := fun hm => by
      obtain ⟨e, he, q⟩ := List.mem_filterMap.mp hm
      exact nfr (List.mem_filterMap.mpr ⟨e, List.mem_cons_of_mem _ he, q⟩)
    have S3 := J3.suite he3 hd3 na nLoc nFs
    have test : ∀ {x : Str} {c : Value} {np : Pos} {Q E : Value → Shared → Prop}, Names X x c → Q c { s' with heap := h3 } → wpAny (model X.prog X.w) (X.A.mark (some (.ref a))) (eval (.Name x np) X.env) Q E { s' with heap := h3 } := fun {x c np Q E} hc q => by
      obtain ⟨hg, hdbg, hm | ⟨hm, hv, hnn⟩⟩ := hc
      · exact ld_glob (X := X.suite a ((a, oe3) :: (X.pn ++ pins))) S3 hg hm q hdbg
      · exact ld_blt (X := X.suite a ((a, oe3) :: (X.pn ++ pins))) S3 hg hm hv q hnn hdbg
    have LT : PySem.W.Looks (model X.prog X.w) h3 (typeOf (.ref a)) cls := fun A Q E s k q => wpAny_typeOf_ref (k _ _ he3) (by rw [hz3.1]; exact q)
    have go : ∀ {hds' : List ExceptHandler} {l' : List HdT}, HdsG X hds' l' → wG X.K Wout D l' cls d σ' H' →
        wpAny (model X.prog X.w) X.A (handleBy (.ref a) X.env hds') (SP X pins D) X.xe { s' with heap := h3 } := by
      intro hds' l' hk
      induction hk with
      | nil =>
        intro w
        refine wpAny_handleBy_nil ?_
        obtain ⟨k1, k2, k3, oe, vs, T, oT, ts', he, hz, hd, h1, hr⟩ := id fl3
        unfold PySem.passOn
        refine wpAny_bind (wpAny_field he hd h1 ?_)
        rw [if_neg (show ¬ ((Value.ref T == Value.none) = true) from by simp)]
        have out : wpAny (model X.prog X.w) X.A (setFlight (.ref a) X.env.frame) (fun _ s4 => wpAny (model X.prog X.w) X.A (throw (.ref a) : Sem Flow) (SP X pins D) X.xe s4) X.xe { s' with heap := h3 } := by
          rw [hf]
          refine HandSPX.setFlight_upZ fl3 fun h4 hh4 up4 => wpAny_throw (tk _ _ ?_)
          exact ⟨a, B, sI, pins, σ', H', cls, d, rfl, J, nb, (up.trans up3).trans up4, .inr (.inr (by rw [hs]; exact hh4)), na, os, ag, w⟩
        first
          | exact wpAny_bind (wpAny_pure (wpAny_bind out))
          | exact wpAny_bind out
      | @bare x c ts b₀ suite np pos' hds2 l2 hc hsu r ih =>
        intro w
        obtain ⟨b, hb1, hyes, hno⟩ := w
        refine wpAny_handleBy_cons (codeAny_handlers_test ?_) (by intro q; cases q)
        refine test hc ((PySem.W.exm_one (M := model X.prog X.w) (J3.kIn) LT hb1).here ?_)
        cases b with
        | false => exact ih (hno rfl)
        | true =>
          refine codeAny_handlers_suite ?_
          refine HandSPX.lands_againZ fl3 fun h4 fl4 up4 => ?_
          have J4 : Inv X pins σ' H' { s' with heap := h4 } := J.landed nb fl4.1 ((up.trans up3).trans up4) os ag
          obtain ⟨oe4, vs4, he4, hz4, hd4⟩ := fl4.there
          have S4 := J4.suite he4 hd4 na nLoc nFs
          refine wpAny_mono ((hsu a oe4 cls d (X.pn ++ pins) hz4 ⟨_, hd4⟩).run [] _ _ H' _ S4 (hyes rfl a na)) (fun f s6 hsp => ?_) (fun _ _ z => False.elim z)
          cases f with
          | ret u => obtain ⟨v6, σ6, H6, S6, r6, q6⟩ := hsp; exact ⟨_, _, _, S6.unsuite ok, r6, q6⟩
          | next => obtain ⟨σ6, H6, S6, q6⟩ := hsp; exact ⟨_, _, S6.unsuite ok, q6⟩
          | brk => obtain ⟨σ6, H6, S6, q6⟩ := hsp; exact ⟨_, _, S6.unsuite ok, q6⟩
          | cont => obtain ⟨σ6, H6, S6, q6⟩ := hsp; exact ⟨_, _, S6.unsuite ok, q6⟩
      | @named x n i c ts b₀ suite np pos' hds2 l2 hc hi hln hsu r ih =>
        intro w
        obtain ⟨b, hb1, hyes, hno⟩ := w
        refine wpAny_handleBy_cons (codeAny_handlers_test ?_) (by intro q; cases q)
        refine test hc ((PySem.W.exm_one (M := model X.prog X.w) (J3.kIn) LT hb1).here ?_)
        cases b with
        | false => exact ih (hno rfl)
        | true =>
          refine codeAny_handlers_suite_as ?_
          refine HandSPX.lands_againZ fl3 fun h4 fl4 up4 => ?_
          have J4 : Inv X pins σ' H' { s' with heap := h4 } := J.landed nb fl4.1 ((up.trans up3).trans up4) os ag
          obtain ⟨oe4, vs4, he4, hz4, hd4⟩ := fl4.there
          have S4 := J4.suite he4 hd4 na nLoc nFs
          refine store_ok (X := X.suite a ((a, oe4) :: (X.pn ++ pins))) (v := .ref a) S4 hN hi (.inl hln) rfl (fun s5 S5 => ?_) (.inr hln)
          refine wpAny_mono ((hsu a oe4 cls d (X.pn ++ pins) hz4 ⟨_, hd4⟩).run [] s5 _ H' _ S5 (hyes rfl a na)) (fun f s6 hsp => ?_) (fun _ _ z => False.elim z)
          have gone : ∀ {σ6 : L2.St} {H6 : Hp} {Q : Shared → Prop}, Inv (X.suite a ((a, oe4) :: (X.pn ++ pins))) [] σ6 H6 s6 → (∀ s7, Inv X pins (σ6.set i none) H6 s7 → Q s7) →
              wpAny (model X.prog X.w) X.A (do bindName X.env n .none; unbindBehindTheSuite X.env n pos') (fun _ s7 => Q s7) X.xe s6 := fun S6 hq => gone_ok (S6.unsuite ok) hN hi hln hq
          cases f with
          | ret u => obtain ⟨v6, σ6, H6, S6, r6, q6⟩ := hsp; exact gone S6 fun s7 J7 => ⟨_, _, _, J7, r6, q6⟩
          | next => obtain ⟨σ6, H6, S6, q6⟩ := hsp; exact gone S6 fun s7 J7 => ⟨_, _, J7, q6⟩
          | brk => obtain ⟨σ6, H6, S6, q6⟩ := hsp; exact gone S6 fun s7 J7 => ⟨_, _, J7, q6⟩
          | cont => obtain ⟨σ6, H6, S6, q6⟩ := hsp; exact gone S6 fun s7 J7 => ⟨_, _, J7, q6⟩
    exact go hh w
  · cases f with
    | ret u => obtain ⟨v, σ', H', J', r, q⟩ := hsp; exact ⟨v, σ', H', J'.ofTry ok, r, q⟩
    | next => obtain ⟨σ', H', J', q⟩ := hsp; exact wpAny_execs_nil ⟨σ', H', J'.ofTry ok, q⟩
    | brk => obtain ⟨σ', H', J', q⟩ := hsp; exact ⟨σ', H', J'.ofTry ok, q⟩
    | cont => obtain ⟨σ', H', J', q⟩ := hsp; exact ⟨σ', H', J'.ofTry ok, q⟩
end
end Fx

namespace Fx
open PySem PySem.Spec PyProof.Rows L2
variable {X : Cx} {K : PySem.W.Frag}
/-- the fields of these classes' exceptions may be read -/
def FlOk (K : PySem.W.Frag) (fl : List (String × String)) : Prop := ∀ p ∈ fl, XfC K (He.ga K (Str.ofString p.1)) ∧ PySem.W.findIn K (.ref (He.ga K (Str.ofString p.1))) (Str.ofString p.2) = some Option.none
theorem ExcR.later {M M' : Mp} {H H' : Hp} {G : Heap} {e : Exc} {cls : Value} {d : Option Addr} (x : ExcR K M H e cls d) (hh : HeapR K M G H) (l : Later M H M' H') : ExcR K M' H' e cls d := by
  obtain ⟨cl, ar⟩ := e
  obtain ⟨h1, h2⟩ := x
  refine ⟨h1, ?_⟩
  cases ar with
  | none => exact h2
  | some p =>
    obtain ⟨f, y⟩ := p
    obtain ⟨dd, v, e1, e2, r⟩ := h2
    refine ⟨dd, v, e1, l.keep dd _ (fun z => ?_) e2, r.later l⟩
    obtain ⟨n, o, _, _, ho⟩ := hh.at_ z
    cases o with
    | lst xs => obtain ⟨vs, q, _⟩ := ho; rw [e2] at q; cases q
    | dct ks xs => obtain ⟨vs, q, _⟩ := ho; rw [e2] at q; cases q
    | tab g => obtain ⟨_, ps, q, _⟩ := ho; rw [e2] at q; cases q
/-- the caught exception a, held by slot i -/
def tH (K : PySem.W.Frag) (nmi : Option Nat) (a : Addr) (cls : Value) (d : Option Addr) (fl : List (String × String)) (hx : Hx) : L2.TE := fun σ H Q => ∃ M G e, (∀ i, nmi = some i → ∃ σ0 : L2.St, σ = σ0.set i (some (.ref a))) ∧ HeapR K M G H ∧ ExcR K M H e cls d ∧
  ∃ v, evH fl e hx = some v ∧ ∀ M' u H', Later M H M' H' → HeapR K M' G H' → Rl K M' H' v u → Q u H'
def tHs (K : PySem.W.Frag) (nmi : Option Nat) (a : Addr) (cls : Value) (d : Option Addr) (fl : List (String × String)) (hs : Hxs) : L2.TA := fun σ H Q => ∃ M G e, (∀ i, nmi = some i → ∃ σ0 : L2.St, σ = σ0.set i (some (.ref a))) ∧ HeapR K M G H ∧ ExcR K M H e cls d ∧
  ∃ vs, evHs fl e hs = some vs ∧ ∀ M' us H', Later M H M' H' → HeapR K M' G H' → Rls K M' H' vs us → Q us H'
def noStar' : List Expr → Bool
  | [] => true
  | .Starred _ _ :: _ => false
  | _ :: r => noStar' r
theorem noStar'_cons {e : Expr} {es : List Expr} (h : noStar' (e :: es) = true) (env : Env) : starEach (e :: es) env = (false, eval e env) :: starEach es env ∧ noStar' es = true := by
  cases e <;> first | exact ⟨rfl, h⟩ | cases h
def mkHs (f : Expr → Option Hx) : List Expr → Option Hxs
  | [] => some .nil
  | e :: r => (f e).bind fun h => (mkHs f r).map fun hs => .cons h hs
/-- x: the slot's name; gl: a name of the module; ii: what isinstance answers -/
def compH (co : Const → Option Val) (so : Str → Bool) (sf : Str → String) (gl : Str → Bool) (ii : List (String × String × Bool)) (nm : Option Str) : Nat → Expr → Option Hx
  | 0, _ => none
  | n + 1, e => match e with
    | .Constant c _ _ => (co c).map .con
    | .Attribute (.Name x _) f _ => if nm = some x ∧ so f = true then some (.fld (sf f)) else none
    | .Tuple es _ _ => if noStar' es = true ∧ es.length ≤ 1000 then (mkHs (compH co so sf gl ii nm n) es).map .tup else none
    | .Call (.Name r _) [.Attribute (.Name x _) f _] [] _ => if r = "repr" ∧ gl "repr" = true ∧ nm = some x ∧ so f = true then some (.rep (sf f)) else none
    | .Call (.Name r _) [.Name x _, .Name c _] [] _ => if r = "isinstance" ∧ gl "isinstance" = true ∧ nm = some x ∧ gl c = true ∧ so c = true then
        some (.isc (ii.filterMap fun q => if q.2.1 = sf c ∧ q.2.2 = true then some q.1 else none) (ii.filterMap fun q => if q.2.1 = sf c ∧ q.2.2 = false then some q.1 else none)) else none
    | .UnaryOp .Not a _ => (compH co so sf gl ii nm n a).map .not
    | .BoolOp .And [a, b] _ => (compH co so sf gl ii nm n a).bind fun x => (compH co so sf gl ii nm n b).map fun y => .and x y
    | _ => none
/-- what isinstance answers of an exception of the class q.1, asked by the class q.2.1 -/
structure IsiC (K : PySem.W.Frag) (mg : Str → Option Value) (q : String × String × Bool) : Prop where
  mg : mg (Str.ofString q.2.1) = some (.ref (He.ga K (Str.ofString q.2.1)))
  xf : XfC K (He.ga K (Str.ofString q.1))
  ha : PySem.W.findIn K (.ref (He.ga K (Str.ofString q.1))) "__class__" = some (some (.builtin "object.__class__"))
  hn : PySem.W.specialIn K (.builtin "object.__class__") "__get__" = some (some (.builtin "getset_descriptor.__get__"))
  ht : PySem.W.takesIn K (.builtin "object.__class__") = some true
  hm : PySem.W.mroIn K (He.ga K (Str.ofString q.1)) (.type "object") = some true
  hk : PySem.W.kitOne K (.ref (He.ga K (Str.ofString q.1))) (.ref (He.ga K (Str.ofString q.2.1))) = some q.2.2
structure IiOk (K : PySem.W.Frag) (mg : Str → Option Value) (ii : List (String × String × Bool)) : Prop where
  rp : mg "repr" = none
  is : mg "isinstance" = none
  ii : ∀ q ∈ ii, IsiC K mg q
section
variable {a : Addr} {oe : PySem.Obj} {cls : Value} {d : Option Addr} {pn : List (Addr × PySem.Obj)} {fl : List (String × String)} {nmi : Option Nat}
theorem evHs_len {e : Exc} : ∀ {hs : Hxs} {vs : List Val} {f : Expr → Option Hx} {es : List Expr}, mkHs f es = some hs → evHs fl e hs = some vs → vs.length = es.length
  | .nil, vs, f, es, h, hv => by
    cases es with
    | nil => rw [evHs] at hv; cases hv; rfl
    | cons e r =>
      rw [mkHs] at h
      cases q : f e with
      | none => rw [q] at h; cases h
      | some x =>
        rw [q] at h
        cases q2 : mkHs f r with
        | none => rw [q2] at h; cases h
        | some y => rw [q2] at h; cases h
  | .cons x hs, vs, f, es, h, hv => by
    cases es with
    | nil => cases h
    | cons e r =>
      rw [mkHs] at h
      cases q : f e with
      | none => rw [q] at h; cases h
      | some x' =>
        rw [q] at h
        cases q2 : mkHs f r with
        | none => rw [q2] at h; cases h
        | some y =>
          rw [q2] at h
          cases h
          rw [evHs] at hv
          cases q3 : evH fl _ x with
          | none => rw [q3] at hv; cases hv
          | some v =>
            rw [q3] at hv
            cases q4 : evHs fl _ hs with
            | none => rw [q4] at hv; cases hv
            | some ws =>
              rw [q4] at hv
              cases hv
              rw [List.length_cons, List.length_cons, evHs_len q2 q4]
theorem hs_ok {f : Expr → Option Hx} (hf : ∀ e hx, f e = some hx → PE (X.suite a ((a, oe) :: pn)) e (tH X.K nmi a cls d fl hx)) : ∀ {es : List Expr} {hs : Hxs}, noStar' es = true → mkHs f es = some hs → PA (X.suite a ((a, oe) :: pn)) es (tHs X.K nmi a cls d fl hs)
  | [], hs, _, h => by
    cases h
    exact paImp pa_nil fun σ H Q ⟨M, G, e, _, hh, _, vs, hv, q⟩ => by
      rw [evHs] at hv; cases hv
      exact q M [] H (Later.refl _ _) hh .nil
  | e :: r, hs, hst, h => by
    rw [mkHs] at h
    cases q : f e with
    | none => rw [q] at h; cases h
    | some x =>
      rw [q] at h
      cases q2 : mkHs f r with
      | none => rw [q2] at h; cases h
      | some y =>
        rw [q2] at h
        cases h
        obtain ⟨s1, s2⟩ := noStar'_cons hst (X.suite a ((a, oe) :: pn)).env
        refine paImp (pa_cons (hf e x q) (hs_ok hf s2 q2) s1) fun σ H Q ⟨M, G, ex, hn, hh, hx, vs, hv, k⟩ => ?_
        rw [evHs] at hv
        cases q3 : evH fl ex x with
        | none => rw [q3] at hv; cases hv
        | some v =>
          rw [q3] at hv
          cases q4 : evHs fl ex y with
          | none => rw [q4] at hv; cases hv
          | some ws =>
            rw [q4] at hv
            cases hv
            refine ⟨M, G, ex, hn, hh, hx, v, q3, fun M1 u H1 l1 hh1 r1 => ?_⟩
            exact ⟨M1, G, ex, hn, hh1, hx.later hh l1, ws, q4, fun M2 us H2 l2 hh2 r2 => k M2 _ H2 (l1.trans l2) hh2 (.cons (r1.later l2) r2)⟩
theorem fld_ok {so : Str → Bool} {sf : Str → String} {nm : Option Str} {f x : Str} {px pf : Pos} (hso : ∀ f, so f = true → Str.ofString (sf f) = f) (hfl : FlOk X.K fl) (hz : Zc cls d oe) (hf : ∃ vs, oe.data = .fields vs) (hnm : ∀ x, nm = some x → ∃ i, nmi = some i ∧ X.N[i]? = some x ∧ Vis X.env.scope x ∧ (x == ("__debug__" : Str)) = false ∧ (x == ("__classdict__" : Str)) = false)
    (h1 : nm = some x) (h2 : so f = true) : PE (X.suite a ((a, oe) :: pn)) (.Attribute (.Name x px) f pf) (tH X.K nmi a cls d fl (.fld (sf f))) := by
  obtain ⟨i, e1, e2, e3, e4, e5⟩ := hnm x h1
  refine ⟨fun pins s σ H Q I ⟨M, G, ex, hn, hh, hx, w, hw, k⟩ => ?_⟩
  rw [evH] at hw
  obtain ⟨cl, ar⟩ := ex
  cases ar with
  | none => cases hw
  | some p =>
    obtain ⟨g, y⟩ := p
    replace hw : (if g = sf f ∧ fl.contains (cl, sf f) = true then some y else none) = some w := hw
    by_cases hc2 : g = sf f ∧ fl.contains (cl, sf f) = true
    · rw [if_pos hc2] at hw
      obtain ⟨rfl, hc2⟩ := hc2
      injection hw with ew
      subst ew
      obtain ⟨hcls, dd, v, ed, eh, r⟩ := hx
      obtain ⟨t1, t2⟩ := hfl (cl, sf f) (by simpa using hc2)
      rw [hso f h2] at t2 eh
      obtain ⟨σ0, es⟩ := hn i e1
      have hlt : i < σ.length := by
        have hl := I.len
        have hl2 : σ.length = X.N.length := hl
        rw [hl2]
        exact (List.getElem?_eq_some_iff.mp e2).1
      have hsl : σ[i]? = some (some (V.ref a)) := by
        rw [es, List.getElem?_set_self]
        rw [es, List.length_set] at hlt
        exact hlt
      refine (pe_xf (X := X) (a := a) (C := He.ga X.K (Str.ofString cl)) (n := f) t1 t2 hz hf (pe_var (X := X.suite a ((a, oe) :: pn)) (pos := px) (i := i) e2 e3 e4 e5)).run pins s σ H Q I ?_
      refine ⟨.ref a, hsl, rfl, hcls, dd, _, v, ed, eh, ?_, k M v H (Later.refl _ _) hh r⟩
      simp [List.lookup]
    · rw [if_neg hc2] at hw; cases hw
/-- isinstance(e, C), e the exception that the suite holds, its dict d -/
theorem call_isX {q : String × String × Bool} {g : Str → Option Value} (T : IsiC X.K g q) (hz : Zc (.ref (He.ga X.K (Str.ofString q.1))) d oe) (hf : ∃ vs, oe.data = .fields vs) :
    CallR (X.suite a ((a, oe) :: pn)) (.builtin "isinstance") (fun xs H Q => xs = [.ref a, .ref (He.ga X.K (Str.ofString q.2.1))] ∧ (d = none ∨ ∃ dd fs, d = some dd ∧ H dd = some (.xd fs)) ∧ Q (.bl q.2.2) H) := by
  intro pins s σ H xs us Q I r ⟨e, hd, k⟩
  subst e
  cases r with
  | cons rx rr =>
    cases rr with
    | cons rt rr =>
      cases rr
      cases rx
      cases rt
      obtain ⟨hget, _⟩ := I.pin (a, oe) (List.mem_append.mpr (.inl List.mem_cons_self))
      obtain ⟨vs, hv⟩ := hf
      have J : ∃ od, PySem.W.InstAt s.heap a oe (He.ga X.K (Str.ofString q.1)) od := by
        rcases hd with hd | ⟨dd, fs, hd, hH⟩
        · subst hd
          refine ⟨none, ?_⟩
          obtain ⟨oc, od, oda, osl⟩ := oe
          obtain ⟨h1, h2⟩ := hz
          dsimp only at h1 h2 hv
          subst h1 h2 hv
          exact ⟨hget, rfl, rfl, trivial⟩
        · subst hd
          have hx : ObjOk X.prog X.w H s.heap dd (.xd fs) := I.hok dd _ hH
          obtain ⟨mA, hns, hr⟩ := hx
          obtain ⟨od, ho, hl⟩ := lookIn_ns hns
          exact ⟨some od, hget, hz.1, by unfold PySem.W.notCls; rw [hv] <;> rfl, by rw [hz.2]; exact ho⟩
      obtain ⟨od, J⟩ := J
      have hcl : (PySem.W.clsIn X.K (He.ga X.K (Str.ofString q.1))).isSome = true := by
        obtain ⟨cd, hc, _⟩ := PySem.W.any_some T.xf.hdC
        rw [hc]; rfl
      exact PySem.W.kia_one (PySem.W.kitx_exc hcl T.xf.ga T.xf.gg T.xf.exC T.ha T.hn T.ht T.hm) I.kIn J T.hk (fun z => nomatch z) fun tk => ⟨.bl q.2.2, H, I.kept (t' := tk) fun _ _ z => z, rfl, k⟩
theorem boot_repr : bootBuiltins ("repr" : Str) = some (.builtin "repr") := by kernel_rfl
theorem hx_ok {co : Const → Option Val} {so : Str → Bool} {sf : Str → String} {nm : Option Str} (hco : ∀ {Y : Cx} {c : Const} {v : Val} {j : Nat} {pos : Pos}, co c = some v → PE Y (.Constant c j pos) (fun _ H Q => ∃ M G, HeapR Y.K M G H ∧ ∀ M' u H', Later M H M' H' → HeapR Y.K M' G H' → Rl Y.K M' H' v u → Q u H'))
    (hso : ∀ f, so f = true → Str.ofString (sf f) = f) {gl : Str → Bool} {ii : List (String × String × Bool)} (hgl : ∀ x, gl x = true → Gl X x ∧ (x == ("__debug__" : Str)) = false) (hii : IiOk X.K X.mg ii) (hgd : X.A.guards = some []) (hun : X.A.units + 101 < cLine) (hM : KM X.K)
    (hfl : FlOk X.K fl) (hz : Zc cls d oe) (hf : ∃ vs, oe.data = .fields vs) (hnm : ∀ x, nm = some x → ∃ i, nmi = some i ∧ X.N[i]? = some x ∧ Vis X.env.scope x ∧ (x == ("__debug__" : Str)) = false ∧ (x == ("__classdict__" : Str)) = false) :
    ∀ (n : Nat) (e : Expr) (hx : Hx), compH co so sf gl ii nm n e = some hx → PE (X.suite a ((a, oe) :: pn)) e (tH X.K nmi a cls d fl hx)
  | 0, e, hx, h => by cases h
  | n + 1, e, hx, h => by
    unfold compH at h
    split at h
    · rename_i c j pos
      cases q : co c with
      | none => rw [q] at h; cases h
      | some v =>
        rw [q] at h
        cases h
        exact peImp (hco q) fun σ H Q ⟨M, G, ex, _, hh, _, w, hw, k⟩ => by
          rw [evH] at hw; cases hw
          exact ⟨M, G, hh, k⟩
    · rename_i x px f pf
      split at h
      · rename_i hc
        obtain ⟨h1, h2⟩ := hc
        cases h
        exact fld_ok hso hfl hz hf hnm h1 h2
      · cases h
    · rename_i es x1 pos
      split at h
      · rename_i hc
        cases q : mkHs (compH co so sf gl ii nm n) es with
        | none => rw [q] at h; cases h
        | some hs =>
          rw [q] at h
          cases h
          refine peImp (pe_tup (hs_ok (fun e hx he => hx_ok hco hso hgl hii hgd hun hM hfl hz hf hnm n e hx he) hc.1 q)) fun σ H Q ⟨M, G, ex, hn, hh, hx, w, hw, k⟩ => ?_
          rw [evH] at hw
          cases q2 : evHs fl ex hs with
          | none => rw [q2] at hw; cases hw
          | some vs =>
            rw [q2] at hw
            cases hw
            refine ⟨M, G, ex, hn, hh, hx, vs, q2, fun M1 us H1 l1 hh1 r1 => ⟨?_, fun p hp => ?_⟩⟩
            · rw [← r1.length, evHs_len q q2]
              have := hc.2
              rw [sizeLine_eq]; omega
            · exact k M1 (.ref p) _ (l1.trans (Later.new M1 hp)) (hh1.new hp) (Rl.newTup hh1 hp r1)
      · cases h
    · rename_i r pr x px f pf pc
      split at h
      · rename_i hc
        obtain ⟨rfl, h0, h1, h2⟩ := hc
        cases h
        obtain ⟨g1, g2⟩ := hgl _ h0
        have pf' := fld_ok (X := X) (a := a) (cls := cls) (d := d) (nmi := nmi) (oe := oe) (pn := pn) (px := px) (pf := pf) hso hfl hz hf hnm h1 h2
        refine peImp (pe_callB (X := X.suite a ((a, oe) :: pn)) (pos := pc) (p := pr) (call_reprD hgd hun hM) g1 hii.rp boot_repr (pa_cons pf' pa_nil) (by decide +kernel) g2) fun σ H Q ⟨M, G, ex, hn, hh, hx, w, hw, k⟩ => ?_
        rw [evH] at hw
        obtain ⟨cl, ar⟩ := ex
        cases ar with
        | none => cases hw
        | some p =>
          obtain ⟨g, y⟩ := p
          have hw : (if g = sf f ∧ fl.contains (cl, sf f) = true then reprV y else none) = some w := hw
          by_cases hc2 : g = sf f ∧ fl.contains (cl, sf f) = true
          · rw [if_pos hc2] at hw
            obtain ⟨dd, e1, e2, e3, e4, rfl⟩ := reprV_some hw
            refine ⟨M, G, ⟨cl, some (g, y)⟩, hn, hh, hx, y, ?_, fun M1 u H1 l1 hh1 r1 => ?_⟩
            · rw [evH]
              show (if g = sf f ∧ fl.contains (cl, sf f) = true then some y else none) = some y
              rw [if_pos hc2]
            · exact ⟨u, y, M1, dd, rfl, .inl r1, e1, e2, e3, by rw [sizeLine_eq]; exact e4, k M1 _ H1 l1 hh1 (.txt _)⟩
          · rw [if_neg hc2] at hw; cases hw
      · cases h
    · rename_i r pr x px c pcn pc
      split at h
      · rename_i hc
        obtain ⟨rfl, h0, h1, h2, h3⟩ := hc
        cases h
        obtain ⟨g1, g2⟩ := hgl _ h0
        obtain ⟨c1, c2⟩ := hgl _ h2
        obtain ⟨i, e1, e2, e3, e4, e5⟩ := hnm x h1
        refine ⟨fun pins s σ H Q I ⟨M, G, ex, hn, hh, hx, w, hw, k⟩ => ?_⟩
        have found : ∃ q ∈ ii, q.1 = ex.cls ∧ q.2.1 = sf c ∧ w = .bool q.2.2 := by
          rw [evH] at hw
          split at hw
          · rename_i hy
            cases hw
            obtain ⟨q, q1, q2⟩ := List.mem_filterMap.mp (List.contains_iff_mem.mp hy)
            split at q2
            · rename_i q3; exact ⟨q, q1, Option.some.inj q2, q3.1, by rw [q3.2]⟩
            · cases q2
          · split at hw
            · rename_i hy
              cases hw
              obtain ⟨q, q1, q2⟩ := List.mem_filterMap.mp (List.contains_iff_mem.mp hy)
              split at q2
              · rename_i q3; exact ⟨q, q1, Option.some.inj q2, q3.1, by rw [q3.2]⟩
              · cases q2
            · cases hw
        obtain ⟨q, q1, q2, q3, rfl⟩ := found
        have T := hii.ii q q1
        obtain ⟨σ0, es⟩ := hn i e1
        have hlt : i < σ.length := by
          have hl := I.len
          have hl2 : σ.length = X.N.length := hl
          rw [hl2]
          exact (List.getElem?_eq_some_iff.mp e2).1
        have hsl : σ[i]? = some (some (V.ref a)) := by
          rw [es, List.getElem?_set_self]
          rw [es, List.length_set] at hlt
          exact hlt
        have hz' : Zc (.ref (He.ga X.K (Str.ofString q.1))) d oe := by rw [q2, ← hx.1]; exact hz
        have mgc : X.mg c = some (.ref (He.ga X.K (Str.ofString q.2.1))) := by
          have := T.mg
          rw [q3, hso c h3] at this
          rw [q3, hso c h3]
          exact this
        have hd : d = none ∨ ∃ dd fs, d = some dd ∧ H dd = some (.xd fs) := by
          obtain ⟨_, hx2⟩ := hx
          revert hx2
          cases ex.arg with
          | none => exact fun z => .inl z
          | some p => exact fun ⟨dd, v, z1, z2, _⟩ => .inr ⟨dd, _, z1, z2⟩
        refine (pe_callB (X := X.suite a ((a, oe) :: pn)) (pos := pc) (p := pr) (call_isX T hz' hf) g1 hii.is boot_isi
          (pa_cons (pe_var (X := X.suite a ((a, oe) :: pn)) (pos := px) (i := i) e2 e3 e4 e5) (pa_cons (pe_glob (X := X.suite a ((a, oe) :: pn)) (v := .ref (He.ga X.K (Str.ofString q.2.1))) (pos := pcn) c1 mgc rfl c2) pa_nil)) (by decide +kernel) g2).run pins s σ H Q I ?_
        exact ⟨.ref a, hsl, rfl, hd, k M _ H (Later.refl _ _) hh (.bool _)⟩
      · cases h
    · rename_i b pb
      cases q : compH co so sf gl ii nm n b with
      | none => rw [q] at h; cases h
      | some y =>
        rw [q] at h
        cases h
        refine peImp (pe_notT (hx_ok hco hso hgl hii hgd hun hM hfl hz hf hnm n b y q)) fun σ H Q ⟨M, G, ex, hn, hh, hx, w, hw, k⟩ => ?_
        rw [evH] at hw
        split at hw
        · rename_i c hc
          cases hw
          refine ⟨M, G, ex, hn, hh, hx, _, hc, fun M1 u H1 l1 hh1 r1 => ?_⟩
          cases r1
          exact ⟨c, rfl, k M1 _ H1 l1 hh1 (.bool _)⟩
        · cases hw
    · rename_i b c pb
      cases q : compH co so sf gl ii nm n b with
      | none => rw [q] at h; cases h
      | some y =>
        rw [q] at h
        cases q' : compH co so sf gl ii nm n c with
        | none => rw [q'] at h; cases h
        | some z =>
          rw [q'] at h
          cases h
          refine peImp (pe_and (hx_ok hco hso hgl hii hgd hun hM hfl hz hf hnm n b y q) (pe_one (hx_ok hco hso hgl hii hgd hun hM hfl hz hf hnm n c z q'))) fun σ H Q ⟨M, G, ex, hn, hh, hx, w, hw, k⟩ => ?_
          rw [evH] at hw
          split at hw
          · rename_i hc
            refine ⟨M, G, ex, hn, hh, hx, _, hc, fun M1 u H1 l1 hh1 r1 => ?_⟩
            cases r1
            exact ⟨true, rfl, M1, G, ex, hn, hh1, hx.later hh l1, w, hw, fun M2 u2 H2 l2 hh2 r2 => k M2 u2 H2 (l1.trans l2) hh2 r2⟩
          · rename_i hc
            cases hw
            refine ⟨M, G, ex, hn, hh, hx, _, hc, fun M1 u H1 l1 hh1 r1 => ?_⟩
            cases r1
            exact ⟨false, rfl, k M1 _ H1 l1 hh1 (.bool _)⟩
          · cases hw
    · cases h
end
end Fx

namespace Fx
open PySem PySem.Spec PyProof.Rows L2
inductive GK where
  | fn (f : String) (n : Nat) (ds : List (Option Int)) (kw : List (Nat × List Str)) | free | con (c : Val) | dic (ks : List Key) (vs : List Val)
  | exc (c : String) (fld : Option String) | tri (pre : List Val) (one : Bool) (hs : List Hd)
structure CC where
  N : List Str
  sc : Scope
  os : Scope
  gl : List (Str × GK)
  own : List Str
  hot : List Pos
  lam : Option (List Str × Str) := none
def CC.vis (C : CC) (x : Str) : Bool := (match C.sc.names.lookup x with
  | some .local => true
  | some .cell => true
  | some .free => true
  | _ => false) && !(x == ("__debug__" : Str)) && !(x == ("__classdict__" : Str))
/-- the place of a name that is seen -/
def CC.slotV (C : CC) (x : Str) : Option Nat := if C.vis x then C.N.idxOf? x else none
def CC.loc (C : CC) (x : Str) : Bool := match C.sc.names.lookup x with
  | some .local => true
  | some .cell => decide (C.os.names.lookup x = some .cell)
  | _ => false
def CC.slotL (C : CC) (x : Str) : Option Nat := if C.loc x then C.N.idxOf? x else none
def CC.plain (C : CC) (x : Str) : Bool := decide (C.sc.names.lookup x = some .local)
def CC.isGl (C : CC) (x : Str) : Bool := decide (C.sc.names.lookup x = some .globalImplicit) && !(x == ("__debug__" : Str))
def CC.glob (C : CC) (x : Str) : Option GK := if C.isGl x then C.gl.lookup x else none
def CC.free (C : CC) (x : Str) : Bool := match C.glob x with
  | some .free => true
  | _ => false
def CC.isOwn (C : CC) (x : Str) : Bool := C.own.contains x
def noStar : List Expr → Bool
  | [] => true
  | .Starred _ _ :: _ => false
  | _ :: r => noStar r
def strOf (s : Str) : String := String.ofList (s.cps.toList.map Char.ofNat)
def strOk (s : Str) : Bool := s.cps.toList.all fun n => decide n.isValidChar
def conOf : Const → Option Val
  | .none => some .none
  | .bool b => some (.bool b)
  | .int i => some (.int i)
  | .str s => if strOk s then some (.str (strOf s)) else none
  | _ => none
def bfs : List Bf := [.sorted, .len, .tuple, .list, .int, .abs, .sum, .max, .min, .all, .any, .divmod, .repr, .str]
def bfOf (x : Str) : Option Bf := bfs.find? fun f => bfS f == x
def tys : List Ty := [.int, .bool, .tuple, .list, .str]
def tyOf (x : Str) : Option Ty := tys.find? fun t => tyS t == x
/-- a subscript that is no slice -/
def plainIx : Expr → Bool
  | .Slice .. => false
  | .Tuple .. => false
  | _ => true
def plainT : Expr → Bool
  | .UnaryOp .Not _ _ => false
  | .BoolOp .. => false
  | .IfExp .. => false
  | .Compare .. => false
  | _ => true
def isSet : Expr → Bool
  | .Set .. => true
  | _ => false
def isComp : Expr → Bool
  | .ListComp .. => true
  | .SetComp .. => true
  | .DictComp .. => true
  | _ => false
def isTupE : Expr → Bool
  | .Tuple .. => true
  | _ => false
def mkEs (f : Expr → E) : List Expr → Es
  | [] => .nil
  | e :: r => .cons (f e) (mkEs f r)
def mkTgs (f : Expr → Option Tg) : List Expr → Option Tgs
  | [] => some .nil
  | e :: r => (f e).bind fun t => (mkTgs f r).map fun ts => .cons t ts
inductive Md where
  | v | o | f | t
  deriving DecidableEq
abbrev Rec := CC → Md → Expr → E
def hotAt (C : CC) (e : Expr) : Bool := match e with
  | .Name .. => false
  | .Dict _ _ _ => false
  | _ => C.hot.contains e.pos
def compGStep (f : Expr → Option Tg) (C : CC) (e : Expr) : Option Tg := match e with
  | .Name x _ => (C.slotL x).map .name
  | .Tuple es _ _ => if noStar es = true then (mkTgs f es).map .tup else none
  | _ => none
def compG : Nat → CC → Expr → Option Tg
  | 0, _ => fun _ => none
  | n + 1, C => compGStep (compG n C) C
def compI (r : Rec) (C : CC) (md : Md) (tg : Expr) (e : Expr) : Itx := match e with
  | .Call (.Name f _) [a] [] _ =>
    if f = "range" ∧ C.free "range" = true ∧ noStar [a] = true then .rng1 (r C .v a)
    else if f = "reversed" ∧ C.free "reversed" = true ∧ noStar [a] = true then .rev (r C .v a)
    else if f = "enumerate" ∧ C.free "enumerate" = true ∧ noStar [a] = true ∧ isTupE tg = true then .enum (r C .v a)
    else .of (r C md e)
  | .Call (.Name f _) [a, b] [] _ =>
    if f = "range" ∧ C.free "range" = true ∧ noStar [a, b] = true then .rng2 (r C .v a) (r C .v b)
    else if f = "zip" ∧ C.free "zip" = true ∧ noStar [a, b] = true ∧ isTupE tg = true then .zip (r C .v a) (r C .v b)
    else .of (r C md e)
  | _ => .of (r C md e)
def blkOwn (N : List Str) (sc : Scope) : List (Str × Nat) := sc.names.filterMap fun y => match y.2 with
  | .local => (N.idxOf? y.1).map fun i => (y.1, i)
  | .cell => (N.idxOf? y.1).map fun i => (y.1, i)
  | _ => none
def relS (scope sc : Scope) : Scope :=
  { scope with names := scope.names.map fun (n, k) => if (k == .free && sc.kind == .function && sc.names.lookup n == some .cell) then (n, .cell) else (n, k) }
def CC.blk (C : CC) (scope : Scope) : CC := { C with lam := none, sc := relS scope C.sc, os := scope, own := C.own.filter fun x => !((blkOwn C.N scope).map (·.1)).contains x }
def compIfs (r : Rec) (C : CC) : List Expr → E
  | [] => .con (.bool true)
  | [c] => r C .t c
  | _ => .stop
/-- a name at a place that a hint tells: it holds a list of the heap -/
def hotName (C : CC) (e : Expr) : Option Nat := match e with
  | .Name x p => if C.hot.contains p then C.slotV x else none
  | _ => none
def compC (r : Rec) (C : CC) (elt : Expr) (gs : List Comprehension) (scope : Scope) : E := match gs with
  | [⟨tg, iter, ifs, 0⟩] =>
    if blkC C.N C.sc scope (blkOwn C.N scope) = true ∧ isSet iter = false then
      match compG 8 (C.blk scope) tg with
      | some t => if (tgS t).all (fun i => ((blkOwn C.N scope).map (·.2)).contains i) = true then
          match hotName C iter with
          | some j => .compL ((blkOwn C.N scope).map (·.2)) t j (compIfs r (C.blk scope) ifs) (r (C.blk scope) .v elt)
          | none => .comp ((blkOwn C.N scope).map (·.2)) t (compI r C .o tg iter) (compIfs r (C.blk scope) ifs) (r (C.blk scope) .v elt)
        else .stop
      | none => .stop
    else .stop
  | _ => .stop
def partOf (r : Rec) (C : CC) : Option Expr → Bool × E
  | none => (false, .con .none)
  | some e => (true, r C .v e)
def compCall (r : Rec) (C : CC) (f : Str) (es : List Expr) : E :=
  if noStar es = true then
    match C.glob f with
    | some (.fn g n ds _) => if es.length = n then .call g (mkEs (r C .v) es)
      else if es ≠ [] ∧ es.length < n ∧ n - es.length ≤ ds.length then .call g (appEs (mkEs (r C .v) es) (ds.drop (ds.length - (n - es.length)))) else .stop
    | some .free => if es = [] then .stop else match bfOf f with
      | some b => .bcall b (mkEs (r C .o) es)
      | none => .stop
    | _ => .stop
  else .stop
/-- f(e, .., k = v, ..) -/
def compKw (r : Rec) (C : CC) (f : Str) (es : List Expr) (kws : List Keyword) : E := match C.glob f with
  | some (.fn g n _ kw) => match kw.find? fun q => decide (q.1 = es.length) && decide (kws.map (·.arg) = q.2.map some) with
    | some _ => if noStar es = true ∧ es ≠ [] ∧ es.length + kws.length = n then .call g (catEs (mkEs (r C .v) es) (mkEs (r C .v) (kws.map (·.value)))) else if es = [] ∧ kws.length = n then .call g (mkEs (r C .v) (kws.map (·.value))) else .stop
    | none => .stop
  | _ => .stop
def compIsi (r : Rec) (C : CC) (f : Str) (a : Expr) (t : Str) : E :=
  if C.free f = true ∧ C.free t = true ∧ noStar [a] = true then match tyOf t with
    | some ty => .isi (r C .o a) ty
    | none => .stop
  else .stop
/-- a lambda that takes nothing -/
def noParams : Arguments → Bool
  | ⟨[], [], none, [], [], none, []⟩ => true
  | _ => false
def CC.inL (C : CC) (scope : Scope) : CC := { C with sc := scope, os := scope, lam := none }
def compLam (r : Rec) (C : CC) (f : Str) (params : Arguments) (body : Expr) (scope : Scope) : E := match C.lam, C.glob f with
  | some (ts, q), some (.tri pre one hs) => if ts.contains q = true ∧ LamX.lamSB C.sc scope = true ∧ noParams params = true then .lam ts pre one hs (r (C.inL scope) .v body) else .stop
  | _, _ => .stop
def compDict (r : Rec) (C : CC) (f : Str) (es : List Expr) : E := match es with
  | [.Lambda params body scope _] => compLam r C f params body scope
  | [.Name x _] => if f = "dict" ∧ C.free "dict" = true then match C.glob x with
      | some (.dic ks vs) => .dcon ks vs
      | _ => compCall r C f es
    else compCall r C f es
  | [.Call (.Name z _) [a, b] [] _] => if f = "list" ∧ C.free "list" = true ∧ z = "zip" ∧ C.free "zip" = true ∧ noStar [a, b] = true then .zipL (mkEs (r C .v) [a, b]) else compCall r C f es
  | _ => compCall r C f es
/-- a[i] -/
def compSub (r : Rec) (C : CC) (a i : Expr) : E := match a with
  | .Name x _ => match C.glob x with
    | some (.dic ks vs) => .dsub ks vs (r C .v i)
    | _ => .idx (r C .o a) (r C .v i)
  | _ => .idx (r C .o a) (r C .v i)
/-- (a, *b) -/
def compTupS (r : Rec) (C : CC) (es : List Expr) : E := match es with
  | [a, .Starred b _] => if noStar [a] = true then .tupS (.cons (r C .v a) .nil) (r C .v b) else .stop
  | [a, b, .Starred c _] => if noStar [a, b] = true then .tupS (.cons (r C .v a) (.cons (r C .v b) .nil)) (r C .v c) else .stop
  | _ => .stop
/-- {k: v for ..} -/
def compDCe (r : Rec) (C : CC) (kx vx tg iter : Expr) (scope : Scope) : E :=
  if blkC C.N C.sc scope (blkOwn C.N scope) = true ∧ isSet iter = false then
    match compG 8 (C.blk scope) tg with
    | some t => if (tgS t).all (fun i => ((blkOwn C.N scope).map (·.2)).contains i) = true then
        .dcomp ((blkOwn C.N scope).map (·.2)) t (compI r C .o tg iter) (r (C.blk scope) .v kx) (r (C.blk scope) .v vx)
      else .stop
    | none => .stop
  else .stop
/-- x.m(e) -/
def compMeth (r : Rec) (C : CC) (o : Expr) (m : Str) (apos : Pos) (es : List Expr) (cpos : Pos) : E := match o, es with
  | .Name x _, [a] => match C.slotV x with
    | some j => if (apos.endLine == cpos.line) = true ∧ noStar [a] = true then
        if m = "index" then .lindex (.var j) (r C .v a) else if m = "pop" then .popR (.var j) (r C .v a) else .stop
      else .stop
    | none => match C.glob x with
      | some (.con c) => if (apos.endLine == cpos.line) = true ∧ noStar [a] = true ∧ m = "index" then .tindex (.con c) (r C .v a) else .stop
      | _ => .stop
  | _, _ => .stop
/-- list(range(a)) -/
def compRngT (r : Rec) (C : CC) (f : Str) (es : List Expr) : Option E := match es with
  | [.Call (.Name g _) [a] [] _] => if f = "tuple" ∧ g = "range" ∧ C.free "tuple" = true ∧ C.free "range" = true ∧ noStar [a] = true then some (.rngT (r C .v a))
    else if f = "list" ∧ g = "range" ∧ C.free "list" = true ∧ C.free "range" = true ∧ noStar [a] = true then some (.rngL (r C .v a))
    else if f = "len" ∧ g = "set" ∧ C.free "len" = true ∧ C.free "set" = true ∧ noStar [a] = true then some (.lenSet (r C .v a)) else none
  | _ => none
def compRngL (r : Rec) (C : CC) (f : Str) (es : List Expr) : Option E := match es with
  | [.Call (.Name g _) [a] [] _] => if f = "list" ∧ g = "range" ∧ C.free "list" = true ∧ C.free "range" = true ∧ noStar [a] = true then some (.rngL (r C .v a)) else none
  | _ => none
/-- whether it is a key of a dict of the top -/
def dinOf (C : CC) (op : CmpOp) (b : Expr) : Option (Bool × List Key × List Val) := match b with
  | .Name x _ => if op = .In ∨ op = .NotIn then match C.glob x with
      | some (.dic ks vs) => some (decide (op = .NotIn), ks, vs)
      | _ => none
    else none
  | _ => none
def compCmp (r : Rec) (C : CC) (a : Expr) (op : CmpOp) (b : Expr) : E := match dinOf C op b with
  | some (neg, ks, vs) => .din ks vs neg (r C .v a)
  | none => if behindInMarks op b = false then .cmp op (r C .o a) (r C .o b) else .stop
def isIsi (f : Str) : Bool := f == ("isinstance" : Str)
def compV (r : Rec) (C : CC) (e : Expr) : E := match e with
  | .Name x _ => if C.isOwn x then .stop else match C.slotV x with
    | some i => .var i
    | none => match C.glob x with
      | some (.con c) => .con c
      | _ => .stop
  | .Constant c _ _ => match conOf c with
    | some v => .con v
    | none => .stop
  | .Tuple es _ _ => if noStar es = true ∧ es.length ≤ 1000 then .tup (mkEs (r C .v) es) else compTupS r C es
  | .List es _ => if noStar es = true ∧ es.length ≤ 1000 then .lst (mkEs (r C .v) es) else .stop
  | .BinOp a op b _ => .bin op (r C .o a) (r C .o b)
  | .UnaryOp .USub a _ => .neg (r C .v a)
  | .UnaryOp .Not a _ => .not (r C .o a)
  | .Compare a [op] [b] _ => compCmp r C a op b
  | .Compare a [op, op2] [b, c] _ => if lastMarks [op, op2] [b, c] = false then .cmp2 op op2 (r C .o a) (r C .o b) (r C .o c) else .stop
  | .BoolOp _ [a] _ => r C .v a
  | .BoolOp .And (a :: b :: rest) p => .and (r C .v a) (r C .v (.BoolOp .And (b :: rest) p))
  | .BoolOp .Or (a :: b :: rest) p => .or (r C .v a) (r C .v (.BoolOp .Or (b :: rest) p))
  | .IfExp c a b _ => .ite (r C .t c) (r C .v a) (r C .v b)
  | .Subscript a (.Slice lo hi none _) _ => .slice (r C .o a) (partOf r C lo).1 (partOf r C lo).2 (partOf r C hi).1 (partOf r C hi).2
  | .Subscript a (.Slice none hi (some st) _) _ => .sliceR (r C .o a) (partOf r C hi).1 (partOf r C hi).2 (r C .v st)
  | .Subscript a i _ => if plainIx i then compSub r C a i else .stop
  | .DictComp kx vx [⟨tg, iter, [], 0⟩] scope _ => compDCe r C kx vx tg iter scope
  | .Call (.Attribute o m apos) es [] cpos => compMeth r C o m apos es cpos
  | .Call (.Name f _) es [] _ => match isIsi f, es with
    | true, [a, .Name t _] => compIsi r C f a t
    | _, _ => match compRngT r C f es with
      | some i => i
      | none => compDict r C f es
  | .Call (.Name f _) es (kw :: kws) _ => compKw r C f es (kw :: kws)
  | .ListComp elt gs scope _ => compC r C elt gs scope
  | .Dict [] [] p => if C.hot.contains p = true then .dval else .dnew
  | _ => .stop
def compF (r : Rec) (C : CC) (e : Expr) : E := match e with
  | .List es _ => if noStar es = true ∧ es.length ≤ 1000 then .lst (mkEs (r C .v) es) else .stop
  | .BinOp a op b _ => .bin op (r C .o a) (r C .o b)
  | .Subscript a (.Slice lo hi none _) _ => .slice (r C .o a) (partOf r C lo).1 (partOf r C lo).2 (partOf r C hi).1 (partOf r C hi).2
  | .Call (.Name f _) es [] _ => match compRngL r C f es with
    | some i => i
    | none => if noStar es = true ∧ es ≠ [] ∧ C.free f = true then match bfOf f with
        | some b => .bcall b (mkEs (r C .o) es)
        | none => .stop
      else .stop
  | .ListComp elt gs scope _ => compC r C elt gs scope
  | _ => .stop
def compT (r : Rec) (C : CC) (e : Expr) : E := match e with
  | .Compare a [op] [b] _ => compCmp r C a op b
  | .Compare a [op, op2] [b, c] _ => if lastMarks [op, op2] [b, c] = false then .cmp2 op op2 (r C .o a) (r C .o b) (r C .o c) else .stop
  | .UnaryOp .Not a _ => .not (r C .t a)
  | .BoolOp _ [a] _ => r C .t a
  | .BoolOp .And (a :: b :: rest) p => .and (r C .t a) (r C .t (.BoolOp .And (b :: rest) p))
  | .BoolOp .Or (a :: b :: rest) p => .or (r C .t a) (r C .t (.BoolOp .Or (b :: rest) p))
  | e => if plainT e = true then r C .o e else .stop
def compHot (r : Rec) (C : CC) (e : Expr) : E := if hotAt C e = true then .heap (compF r C e) else compV r C e
def compO (r : Rec) (C : CC) (e : Expr) : E := match e with
  | .Name x _ => if C.isOwn x = true then match C.slotV x with
      | some i => .own i
      | none => .stop
    else compV r C e
  | _ => compHot r C e
def compStep (r : Rec) : Rec := fun C md e => match md with
  | .v => compHot r C e
  | .o => compO r C e
  | .f => compF r C e
  | .t => compT r C e
def comp : Nat → Rec
  | 0 => fun _ _ _ => .stop
  | n + 1 => compStep (comp n)
def mkSs (f : Stmt → S) : List Stmt → Ss
  | [] => .nil
  | e :: r => .cons (f e) (mkSs f r)
def isStarE : Expr → Bool
  | .Starred .. => true
  | _ => false
def nmOf (sc : Scope) (line : Nat) : Expr → Option Str
  | .Name id pos => if (sc.names.lookup id == some .local && pos.line == line) = true then some id else none
  | _ => none
def swNames (ts : List Expr) (sc : Scope) : List Str := ts.filterMap (nmOf sc ((ts.head?.map (·.pos.line)).getD 0))
/-- a tuple of values stored into a tuple of names from the right: none: the model does not say -/
def swC (ts vs : List Expr) (sc : Scope) : Option (Option (List Str)) :=
  if sc.kind ≠ .function then none
  else if (!(ts.length == 2 || ts.length == 3) || vs.length != ts.length) = true then some none
  else if vs.any isStarE = true then some none
  else if ((swNames ts sc).length != ts.length || (swNames ts sc).eraseDups.length != (swNames ts sc).length) = true then some none
  else if vs.all (foldedForSure 8) = true then some none
  else if vs.all (constantsAlone 8) = true then none
  else some (some (swNames ts sc))
def swA (tg e : Expr) (sc : Scope) : Option (Option (List Str)) := match tg, e with
  | .Tuple ts _ _, .Tuple vs _ _ => swC ts vs sc
  | .List _ _, _ => none
  | _, _ => some none
def compPT1 (r : Rec) (C : CC) (ts : PTgs) (e : Expr) : Option PTgs := match e with
  | .Name x _ => (C.slotL x).map fun i => .cons (.name i) ts
  | .Subscript (.Name x _) i _ => if plainIx i = true then
      if C.isOwn x = true then (C.slotV x).map fun k => .cons (.itemO k (r C .v i)) ts
      else (C.slotV x).map fun k => .cons (.item (.var k) (r C .v i)) ts
    else none
  | _ => none
def compPT (r : Rec) (C : CC) : List Expr → Option PTgs
  | [] => some .nil
  | e :: es => (compPT r C es).bind fun ts => compPT1 r C ts e
def compName (r : Rec) (C : CC) (y : Str) (i : Nat) (e : Expr) : S := match e with
  | .ListComp elt gs scope _ => if C.isOwn y = true then .asgOwn i (compC r C elt gs scope) else .asg (.name i) (compC r C elt gs scope)
  | _ => .stop
def isPop : Expr → Bool
  | .Call (.Attribute (.Name _ _) m _) [] [] _ => m == ("pop" : Str)
  | _ => false
/-- x = [..], the list's own frame is made of the name's -/
def swComp (y : Str) (py : Pos) (e : Expr) (sc : Scope) : Bool := match e with
  | .ListComp _ _ scope pos => (py.line == pos.line) && !(scope.names.any fun (n, k) => n == y && (k == .local || k == .cell)) && decide (sc.kind = .function) && decide (sc.names.lookup y = some .local)
  | _ => false
def isDC : Expr → Bool
  | .DictComp .. => true
  | _ => false
def swD (y : Str) (py : Pos) (scope : Scope) (pos : Pos) (sc : Scope) : Bool := (py.line == pos.line) && !(scope.names.any fun (n, k) => n == y && (k == .local || k == .cell)) && decide (sc.kind = .function) && decide (sc.names.lookup y = some .local)
/-- x = {k: v for ..} -/
def compDC (r : Rec) (C : CC) (y : Str) (py : Pos) (i : Nat) (e : Expr) : S := match e with
  | .DictComp kx vx [⟨tg, iter, [], 0⟩] scope pos =>
    if (swD y py scope pos C.sc = true ∨ C.sc.names.lookup y = some .cell) ∧ C.isOwn y = false ∧ blkC C.N C.sc scope (blkOwn C.N scope) = true ∧ isSet iter = false then
      match compG 8 (C.blk scope) tg with
      | some t => if (tgS t).all (fun i => ((blkOwn C.N scope).map (·.2)).contains i) = true then
          .asg (.name i) (.dcomp ((blkOwn C.N scope).map (·.2)) t (compI r C .o tg iter) (r (C.blk scope) .v kx) (r (C.blk scope) .v vx))
        else .stop
      | none => .stop
    else .stop
  | _ => .stop
def compAsg (r : Rec) (C : CC) (tg e : Expr) : S := match tg with
  | .Name y py => match C.slotL y with
    | none => .stop
    | some i =>
      if isComp e = true then
        if isDC e = true then compDC r C y py i e
        else if swComp y py e C.sc = true ∧ hotAt C e = false then compName r C y i e
        else .stop
      else if C.isOwn y then .asgOwn i (r C .f e)
      else .asg (.name i) (r C .v e)
  | .Subscript (.Name x _) i _ => if isComp e = true ∨ plainIx i = false then .stop else
      match C.slotV x with
      | none => .stop
      | some k => if C.isOwn x then .setO k (r C .v i) (r C .v e) else .setR (.var k) (r C .v i) (r C .v e)
  | .Tuple ts _ _ => if isComp e = true then .stop else match swA tg e C.sc with
    | none => .stop
    | some (some [x, y]) => match ts, e with
      | [.Name x' _, .Name y' _], .Tuple [a, b] _ _ => match C.N.idxOf? x, C.N.idxOf? y with
        | some i, some j => if x = x' ∧ y = y' ∧ i ≠ j ∧ C.plain x = true ∧ C.plain y = true ∧ noStar [a, b] = true then
            .asg (.tup (.cons (.name i) (.cons (.name j) .nil))) (.tup (mkEs (r C .v) [a, b])) else .stop
        | _, _ => .stop
      | _, _ => .stop
    | some (some [x, y, z]) => match ts, e with
      | [.Name x' _, .Name y' _, .Name z' _], .Tuple [a, b, c] _ _ => match C.N.idxOf? x, C.N.idxOf? y, C.N.idxOf? z with
        | some i, some j, some l => if x = x' ∧ y = y' ∧ z = z' ∧ i ≠ j ∧ i ≠ l ∧ j ≠ l ∧ C.plain x = true ∧ C.plain y = true ∧ C.plain z = true ∧ noStar [a, b, c] = true then
            .asg (.tup (.cons (.name i) (.cons (.name j) (.cons (.name l) .nil)))) (.tup (mkEs (r C .v) [a, b, c])) else .stop
        | _, _, _ => .stop
      | _, _ => .stop
    | some (some _) => .stop
    | some none => match compG 8 C tg with
      | some t => .asg t (r C .v e)
      | none => if noStar ts = true then match compPT r C ts with
        | some ps => .par ps (r C .v e)
        | none => .stop
      else .stop
  | _ => .stop
def compExp (r : Rec) (C : CC) (e : Expr) : S := match e with
  | .Constant (.str _) _ _ => .pass
  | .Call (.Attribute (.Name x _) m apos) es [] cpos =>
    match C.slotV x with
    | none => .stop
    | some k =>
      if apos.endLine == cpos.line then
        match es with
        | [] => if m = "pop" ∧ C.isOwn x = true then .popO k else .stop
        | [a] => if noStar [a] = true then
            if m = "append" then if C.isOwn x then .app k (r C .v a) else .appR (.var k) (r C .v a)
            else if m = "extend" ∧ C.isOwn x = true then .extO k (r C .v a) else .stop
          else .stop
        | _ => .stop
      else .stop
  | e => if isComp e = true then .stop else .exp (r C .v e)
def compRet (r : Rec) (C : CC) (e : Expr) : S := match e with
  | .Name x _ => if C.isOwn x = true then match C.slotV x with
      | some k => .retO k
      | none => .stop
    else .ret (r C .v e)
  | _ => .ret (r C .v e)
def compSet (r : Rec) (C : CC) (tg e : Expr) : S := match e with
  | .Call (.Attribute (.Name x _) m apos) [] [] cpos => if m = "pop" ∧ C.isOwn x = true ∧ (apos.endLine == cpos.line) = true then
      match C.slotV x, compG 8 C tg with
      | some k, some t => .popT t k
      | _, _ => .stop
    else compAsg r C tg e
  | _ => compAsg r C tg e
/-- raise C() / raise C(e) -/
def compRaise (r : Rec) (C : CC) (e : Expr) : S := match e with
  | .Call (.Name x _) [] [] _ => match C.glob x with
    | some (.exc c none) => .raise0 c
    | _ => .stop
  | .Call (.Name x _) [a] [] _ => match C.glob x with
    | some (.exc c (some fl)) => if noStar [a] = true then .raise1 c fl (r C .v a) else .stop
    | _ => .stop
  | _ => .stop
def compSStep (r : Rec) (C : CC) (f : Stmt → S) (st : Stmt) : S := match st with
  | .Raise (some e) none _ => compRaise r C e
  | .Return none _ => .retN
  | .Return (some e) _ => compRet r C e
  | .Pass _ => .pass
  | .Break _ => .brk
  | .Continue _ => .cont
  | .Expr e _ => compExp r C e
  | .Assign [tg] e _ => compSet r C tg e
  | .AugAssign (.Name x _) op e _ => match C.slotL x with
    | some i => if (op = .Add ∨ op = .Sub) ∧ C.isOwn x = false then .aug i op (r C .v e) else .stop
    | none => .stop
  | .For tg it body [] _ => if isSet it = true then .stop else match compG 8 C tg with
    | some t => match hotName C it with
      | some j => .forL t j (mkSs f body)
      | none => .for_ t (compI r C .v tg it) (mkSs f body)
    | none => .stop
  | .While c body [] _ => .while_ (r C .t c) (mkSs f body)
  | .If c a b _ => .ite (r C .t c) (mkSs f a) (mkSs f b)
  | _ => .stop
def compS : Nat → CC → Stmt → S
  | 0, _ => fun _ => .stop
  | n + 1, C => compSStep (comp 60) C (compS n C)
structure Hint where
  own : List Str := []
  hot : List Pos := []
def scopeN (ps : List Str) (sc : Scope) : List Str := sc.names.filterMap fun y => match y.2 with
  | .local => if ps.contains y.1 then none else some y.1
  | .cell => if ps.contains y.1 then none else some y.1
  | _ => none
end Fx

namespace Fx
open PySem PySem.Spec PyProof.Rows L2
variable {X : Cx} {W : WX} {Γ : Calls} {K : PySem.W.Frag} {M : Mp} {G : Heap} {H : Hp}
theorem tabG_heap {n : Nat} {f : Str} {ps : Array Value} {c' : Addr} {H1 : Hp} (hh : HeapR K M G H) (hn : G[n]? = some (.tab f)) (hφ : M.φ[n]? = some (tabA K f)) (hP : H (tabA K f) = some (.tbl ps)) (t : TabR M H (lamQ f) ps) (g : TabG H (tabA K f) (lamQ f) ps c' H1) :
    HeapR K M G H1 ∧ Later M H M H1 := by
  rcases g with rfl | ⟨more, nC, rfl, tok, ha⟩
  · exact ⟨hh, Later.refl _ _⟩
  · have inφ : tabA K f ∈ M.φ := List.mem_of_getElem? hφ
    have kp : ∀ a o, a ≠ tabA K f → H a = some o → upd (upd H (tabA K f) (.tbl (ps ++ more))) c' (LamX.CodeO c' (lamQ f)) a = some o := fun a o h1 e => by
      rw [upd_ne (ne_of_none e nC), upd_ne h1]; exact e
    have L : Later M H M (upd (upd H (tabA K f) (.tbl (ps ++ more))) c' (LamX.CodeO c' (lamQ f))) := ⟨⟨[], by simp, fun _ h => nomatch h⟩, rfl, fun _ h => h, fun _ h => .inl h, fun a o ha e => kp a o (fun z => ha (z ▸ inφ)) e, fun a o e => by
      by_cases z : a = tabA K f
      · exact ⟨_, by rw [z, upd_ne (ne_of_none hP nC), upd_same]⟩
      · exact ⟨o, kp a o z e⟩⟩
    refine ⟨⟨⟨hh.ok.nodup, hh.ok.d1, hh.ok.d2, hh.ok.d3, hh.ok.oin, fun i a h => let ⟨o, e⟩ := hh.ok.oth i a h; L.there a o e, fun a h => let ⟨o, e⟩ := hh.ok.xth a h; L.there a o e⟩, hh.len, fun m a o h1 h2 => ?_⟩, L⟩
    by_cases z : a = tabA K f
    · subst z
      have em : m = n := by
        obtain ⟨l1, e1⟩ := List.getElem?_eq_some_iff.mp h1
        obtain ⟨l2, e2⟩ := List.getElem?_eq_some_iff.mp hφ
        exact (List.getElem_inj hh.ok.nodup).mp (e1.trans e2.symm)
      subst em
      rw [hn] at h2
      cases h2
      refine ⟨rfl, ps ++ more, by rw [upd_ne (ne_of_none hP nC), upd_same], ⟨tok, fun pos cv hc => ?_⟩⟩
      rcases ha pos cv hc with q | q
      · obtain ⟨c, e1, e2, e3⟩ := t.co pos cv q
        exact ⟨c, e1, e2, L.keep c _ (fun z => e2 (.inl z)) e3⟩
      · exact ⟨c', q, hh.fresh nC, upd_same⟩
    · exact (hh.obj m a o h1 h2).later L fun u q => kp a u z q
section
variable {pins : List (Addr × PySem.Obj)} {σ : L2.St} {s : Shared}
theorem act_pe {Eg : XK} {Ng : List Str} {qg : Str} {sg : Scope} {g f c' : Addr} {cdg pm ctv : Value} {params : Arguments} {body : Expr} {scope : Scope} {i : Nat} {a : Str} {pn : List (Addr × PySem.Obj)} {xe : Value → Shared → Prop} {E : XK} {tb : L2.TE} {p1 p2 : Pos} {CXg : CXT}
    (I : Inv X pins σ H s) (L : LamX.LamS X.env.scope scope) (hf : s.heap.get? f = some (PySem.W.kla_obj "<lambda>" (X.env.qual ++ "<lambda>") params body scope (cloFrom X.env.cells scope.names []) pm c' ctv)) (hfn : H f = Option.none) (hfr : f ∉ frs X.stack)
    (hbind : bindArgs (PySem.W.kla_fn "<lambda>" (X.env.qual ++ "<lambda>") params body scope (cloFrom X.env.cells scope.names []) pm (.ref c') ctv) ⟨[], []⟩ = pure [])
    (tk : Takes ((cxOf CXg X.prog X.w X.K X.mg X.base Ng qg sg g cdg X.A X.stack s H Eg).tr pn xe) W) (hW : ∀ cls d σ' H', E cls d H' → W cls d σ' H') (hd : X.A.handled = Option.none) (hdp : X.A.depth + 1 < recursionLimit)
    (hbody : ∀ (s1 : Shared) (H1 : Hp), PE (LamX.lamCx X (X.A.deeper (envOfC qg sg s.heap.objs.size g cdg)) (envOfC qg sg s.heap.objs.size g cdg :: X.stack) s1 H1 E scope f c') body tb)
    (hN : Ng[i]? = some a) (hv : Vis sg a) (hdb : (a == ("__debug__" : Str)) = false) (hcd : (a == ("__classdict__" : Str)) = false) :
    PE ((cxOf CXg X.prog X.w X.K X.mg X.base Ng qg sg g cdg X.A X.stack s H Eg).tr pn xe) (.Call (.Name a p1) [] [] p2)
      (fun σZ HZ Q => σZ[i]? = some (some (.ref f)) ∧ HZ c' = some (LamX.CodeO c' (X.env.qual ++ "<lambda>")) ∧ tb σ HZ Q) := by
  refine ⟨fun pz sz σz Hz Q IZ ⟨hs, hc, ht⟩ => wpAny_Call_Name_kw (thn ((pe_var (pos := p1) (i := i) hN hv hdb hcd).run pz sz σz Hz (fun v H1 => v = .ref f ∧ H1 = Hz) IZ ⟨.ref f, hs, rfl, rfl⟩) ?_)⟩
  rintro u t1 ⟨v, H1, J, r, rfl, rfl⟩
  obtain rfl : u = Value.ref f := r
  have there : t1.heap.get? f = some _ := J.base.keep f _ hf hfn hfr (fun z => nomatch (show f ∈ ([] : List Addr) from z))
  have un : Un (frs X.stack) [] H H1 s.heap t1.heap := J.base
  obtain ⟨⟨oc, vs, t, hoc, hdc, hvc⟩, _, _⟩ := J.hok c' _ hc
  have rc : codeAny (model X.prog X.w) (X.A.deeper (envOfC qg sg s.heap.objs.size g cdg)) (.call (.ref f) ⟨[], []⟩) (CR (L2.CX X.prog X.w) (envOfC qg sg s.heap.objs.size g cdg :: X.stack) X.prog X.w H1 t1 Q E) t1 := by
    refine PySem.W.kla_callFunE hdp there rfl L.co L.gen rfl ⟨c', oc, vs, t, rfl, hoc, hdc, hvc⟩ ?_
    rw [hbind]
    refine wpAny_pure (wpAny_newFunctionEnv (fun y hy => (L.own y hy).2) (fun y hy => absurd hy (by simp)) (fun h₁ hns hsb => ⟨J.nolimit.fresh _ hsb, ?_⟩) L.kind)
    have N := LamX.lam_start2 (A := X.A.deeper (envOfC qg sg s.heap.objs.size g cdg)) (outer := envOfC qg sg s.heap.objs.size g cdg :: X.stack) (E := E) (f := f) (c' := c') (h₁ := h₁) (tk := t1.toks + ([] : List (Str × Value)).length) I L J.env0 hd un hns
      fun b o e => hsb.extBut b o (Nat.ne_of_lt (Heap.lt_size e)) (Heap.get?_push_of_some _ e)
    show codeAny _ _ (.expr body (LamX.lamEnv X scope t1.heap.objs.size f c')) _ _
    refine PySem.W.kla_codeExpr (wpAny_mono ((hbody t1 H1).run [] _ _ H1 Q N ht) ?_ fun e t3 hq => hq)
    rintro v t3 ⟨w', H', J', rv, q⟩
    exact ⟨w', H', J'.os, J'.bare, J'.base, J'.hok, rv, q⟩
  refine PySem.W.callWith_F0 ⟨_, _, _, _, there⟩ (wpAny_call (codeAny_mono rc fun rr t2 hq => ?_))
  cases rr with
  | error e => exact passes_call tk hW pz σz H1 t1 e t2 J hq
  | ok fl => cases fl with
    | ret u => exact J.after hq
    | next => exact False.elim hq
    | brk => exact False.elim hq
    | cont => exact False.elim hq
end
theorem str_of {s : Str} (h : strOk s = true) : Str.ofString (strOf s) = s := by
  unfold strOk at h
  rw [Str.ofString_eq_toList]
  unfold strOf
  rw [String.toList_ofList, List.map_map]
  have : ∀ l : List Nat, (l.all fun n => decide n.isValidChar) = true → l.map (Char.toNat ∘ Char.ofNat) = l := fun l => by
    induction l with
    | nil => intro _; rfl
    | cons n l ih =>
      intro h
      rw [List.all_cons, Bool.and_eq_true, decide_eq_true_eq] at h
      rw [List.map_cons, ih h.2]
      show (Char.ofNat n).toNat :: l = _
      have : (Char.ofNat n).toNat = n := by
        unfold Char.ofNat
        rw [dif_pos h.1]
        rfl
      rw [this]
  rw [this _ h]
def conV : Const → Option V
  | .none => some .non
  | .bool b => some (.bl b)
  | .int i => some (.int i)
  | .str s => some (.str s)
  | _ => Option.none
theorem conV_of {c : Const} {v : Val} (h : conOf c = some v) : ∃ u, conV c = some u ∧ (∀ {Y : Cx} {j : Nat} {pos : Pos}, PE Y (.Constant c j pos) (fun _ H Q => Q u H)) ∧ ∀ {K : PySem.W.Frag} M H, Rl K M H v u := by
  cases c with
  | none => cases h; exact ⟨_, rfl, pe_non, fun _ _ => .nn⟩
  | bool b => cases h; exact ⟨_, rfl, pe_bl, fun _ _ => .bool b⟩
  | int i => cases h; exact ⟨_, rfl, pe_int, fun _ _ => .int i⟩
  | str s =>
    have h : (if strOk s = true then some (Val.str (strOf s)) else Option.none) = some v := h
    by_cases hs : strOk s = true
    · rw [if_pos hs] at h
      cases h
      exact ⟨_, rfl, pe_str, fun M H => by have := Rl.str (K := ‹_›) (M := M) (H := H) (strOf s); rw [str_of hs] at this; exact this⟩
    · rw [if_neg hs] at h; cases h
  | _ => cases h
def nmOk (N : List Str) (sc : Scope) : Option Str → Bool
  | none => true
  | some y => decide (sc.names.lookup y = some .local) && N.contains y && !(y == ("__debug__" : Str)) && !(y == ("__classdict__" : Str))
def glB (sc : Scope) (x : Str) : Bool := decide (sc.names.lookup x = some .globalImplicit) && !(x == ("__debug__" : Str))
def hdOf (N : List Str) (sc : Scope) (h : ExceptHandler) (c : Clz) : Option Hd := match h with
  | .ExceptHandler (some (.Name x _)) nm [.Return (some he) _] _ =>
    if sc.names.lookup x = some .globalImplicit ∧ (x == ("__debug__" : Str)) = false ∧ nmOk N sc nm = true then (compH conOf strOk strOf (glB sc) c.2.2.2 nm 6 he).map fun hx => ⟨c.1, c.2.1, c.2.2.1, hx⟩ else none
  | _ => none
def hdsOf (N : List Str) (sc : Scope) : List ExceptHandler → List Clz → Option (List Hd)
  | [], [] => some []
  | h :: hs, c :: cs => (hdOf N sc h c).bind fun d => (hdsOf N sc hs cs).map (d :: ·)
  | _, _ => none
structure HdK (K : PySem.W.Frag) (mg : Str → Option Value) (h : ExceptHandler) (d : Hd) : Prop where
  ex : ∃ C, mg (hdName h) = some C ∧ (∀ c ∈ d.yes, PySem.W.exmOne K (.ref (He.ga K (Str.ofString c))) C = some true) ∧ ∀ c ∈ d.no, PySem.W.exmOne K (.ref (He.ga K (Str.ofString c))) C = some false
  fl : FlOk K d.fl
def HdsK (K : PySem.W.Frag) (mg : Str → Option Value) : List ExceptHandler → List Clz → List Hd → Prop
  | [], [], [] => True
  | h :: hs, c :: cs, d :: ds => (HdK K mg h d ∧ IiOk K mg c.2.2.2) ∧ HdsK K mg hs cs ds
  | _, _, _ => False
theorem hds_ok {Z : Cx} (hgd : Z.A.guards = some []) (hun : Z.A.units + 101 < cLine) (hM : KM Z.K) (hNd : Z.N.Nodup) (hs0 : ∀ x, Z.env.kindOf x = Z.env.scope.names.lookup x) : ∀ {hds : List ExceptHandler} {cl : List Clz} {hs : List Hd}, hdsOf Z.N Z.env.scope hds cl = some hs → HdsK Z.K Z.mg hds cl hs →
    ∃ l, HdsG Z hds l ∧ ∀ (Wo : WX) (D : Ends) (σ : L2.St) (H : Hp) (cls : Value) (d : Option Addr) (e : Exc) (G : Heap) (M : Mp), HeapR Z.K M G H → ExcR Z.K M H e cls d →
      (hsR e G hs).wp (fun v G' => ∀ M' u H', Later M H M' H' → HeapR Z.K M' G' H' → Rl Z.K M' H' v u → D.rt u H') (fun _ _ => False) → wG Z.K Wo D l cls d σ H
  | [], [], hs, h, hk => ⟨[], .nil, fun Wo D σ H cls d e G M hh hx w => by
      cases h
      exact w.elim⟩
  | [], _ :: _, hs, h, hk => by cases h
  | _ :: _, [], hs, h, hk => by cases h
  | h1 :: hds, c :: cl, hs, h, hk => by
    rw [hdsOf] at h
    cases q1 : hdOf Z.N Z.env.scope h1 c with
    | none => rw [q1] at h; cases h
    | some d1 =>
      rw [q1] at h
      cases q2 : hdsOf Z.N Z.env.scope hds cl with
      | none => rw [q2] at h; cases h
      | some ds =>
        rw [q2] at h
        cases h
        obtain ⟨⟨⟨⟨C, hC, hy, hno⟩, hfl⟩, hii⟩, hk2⟩ := hk
        obtain ⟨l, hl, hw⟩ := hds_ok hgd hun hM hNd hs0 q2 hk2
        unfold hdOf at q1
        split at q1
        · rename_i x np nm he rp hp
          split at q1
          · rename_i hc
            obtain ⟨hx1, hx2, hx3⟩ := hc
            cases q3 : compH conOf strOk strOf (glB Z.env.scope) c.2.2.2 nm 6 he with
            | none => rw [q3] at q1; cases q1
            | some hx =>
              rw [q3] at q1
              cases q1
              have nms : Names Z x C := ⟨(hs0 x).trans hx1, hx2, .inl hC⟩
              have step : ∀ (nmi : Option Nat) (hnm : ∀ x, nm = some x → ∃ i, nmi = some i ∧ Z.N[i]? = some x ∧ Vis Z.env.scope x ∧ (x == ("__debug__" : Str)) = false ∧ (x == ("__classdict__" : Str)) = false) (a : Addr) (oe : PySem.Obj) (cls : Value) (d : Option Addr) (pn : List (Addr × PySem.Obj)),
                  Zc cls d oe → (∃ vs, oe.data = .fields vs) → PSs (Z.suite a ((a, oe) :: pn)) [.Return (some he) rp] (fun D σ H => tH Z.K nmi a cls d c.2.2.1 hx σ H D.rt) := fun nmi hnm a oe cls d pn hz hf =>
                pss_one (ps_ret (hx_ok (fun {Y cc v j pos} hv => by
                  obtain ⟨u, _, pu, ru⟩ := conV_of hv
                  exact peImp pu fun σ H Q ⟨M, G, hh, k⟩ => k M u H (Later.refl _ _) hh (ru M H)) (fun f => str_of) (fun x h => by
                    unfold glB at h
                    simp only [Bool.and_eq_true, Bool.not_eq_true', decide_eq_true_eq] at h
                    exact h) hii hgd hun hM hfl hz hf hnm 6 he hx q3))
              have fin : ∀ (nmi : Option Nat), ∀ (Wo : WX) (D : Ends) (σ : L2.St) (H : Hp) (cls : Value) (d : Option Addr) (e : Exc) (G : Heap) (M : Mp), HeapR Z.K M G H → ExcR Z.K M H e cls d →
                  (hsR e G (⟨c.1, c.2.1, c.2.2.1, hx⟩ :: ds)).wp (fun v G' => ∀ M' u H', Later M H M' H' → HeapR Z.K M' G' H' → Rl Z.K M' H' v u → D.rt u H') (fun _ _ => False) →
                  wG Z.K Wo D ((C, nmi, fun a cls d D σ H => tH Z.K nmi a cls d c.2.2.1 hx σ H D.rt) :: l) cls d σ H := fun nmi Wo D σ H cls d e G M hh hx2 w => by
                rw [hsR] at w
                have ec : cls = .ref (He.ga Z.K (Str.ofString e.cls)) := hx2.1
                by_cases h1 : c.1.contains e.cls = true
                · rw [if_pos h1] at w
                  refine ⟨true, by rw [ec]; exact hy _ (by simpa using h1), fun _ a na => ?_, fun z => nomatch z⟩
                  obtain ⟨v, ev, k⟩ := R.wp_opt w
                  refine ⟨M, G, e, fun i ei => ⟨σ, by rw [ei]; rfl⟩, hh, hx2, v, ev, fun M' u H' l2 hh2 r2 => ?_⟩
                  have := k M' u H' l2 hh2 r2
                  cases nmi <;> exact this
                · rw [if_neg h1] at w
                  by_cases h2 : c.2.1.contains e.cls = true
                  · rw [if_pos h2] at w
                    exact ⟨false, by rw [ec]; exact hno _ (by simpa using h2), (fun z => nomatch z), fun _ => hw Wo D σ H cls d e G M hh hx2 w⟩
                  · rw [if_neg h2] at w; exact w.elim
              cases nm with
              | none => exact ⟨_, .bare nms (step Option.none (fun x e => nomatch e)) hl, fin Option.none⟩
              | some y =>
                have hx3 : (decide (Z.env.scope.names.lookup y = some .local) && Z.N.contains y && !(y == ("__debug__" : Str)) && !(y == ("__classdict__" : Str))) = true := hx3
                simp only [Bool.and_eq_true, decide_eq_true_eq, Bool.not_eq_true', List.contains_eq_mem] at hx3
                obtain ⟨⟨⟨y1, y2⟩, y3⟩, y4⟩ := hx3
                obtain ⟨i, hi, ei⟩ := List.mem_iff_getElem.mp y2
                have gi : Z.N[i]? = some y := by rw [List.getElem?_eq_getElem hi, ei]
                exact ⟨_, .named (i := i) nms gi ((hs0 y).trans y1) (step (some i) (fun x e => by cases e; exact ⟨i, rfl, gi, .inl y1, y3, y4⟩)) hl, fin (some i)⟩
          · cases q1
        · cases q1
def retOf (a : Str) : Expr → Option (List Val × Bool)
  | .Call (.Name b _) [] [] _ => if b = a then some ([], true) else none
  | .Tuple [.Call (.Name b _) [] [] _] _ _ => if b = a then some ([], false) else none
  | .Tuple [.Constant c _ _, .Call (.Name b _) [] [] _] _ _ => if b = a then (conOf c).map fun v => ([v], false) else none
  | _ => none
def retQ (us : List V) (Q : L2.VK) : Bool → L2.VK
  | true => Q
  | false => fun u H => (us ++ [u]).length ≤ sizeLine ∧ ∀ p, H p = Option.none → Q (.ref p) (upd H p (.tup (us ++ [u])))
def retU : Expr → List V
  | .Tuple [.Constant c _ _, _] _ _ => (conV c).toList
  | _ => []
theorem ret_ok {Z : Cx} {a : Str} {e : Expr} {pre : List Val} {one : Bool} {t : L2.TE} (h : retOf a e = some (pre, one)) (ha : ∀ p1 p2, PE Z (.Call (.Name a p1) [] [] p2) t) :
    (retU e).length ≤ 1 ∧ (∀ {K : PySem.W.Frag} M H, Rls K M H pre (retU e)) ∧ PE Z e (fun σ H Q => t σ H (retQ (retU e) Q one)) := by
  unfold retOf at h
  split at h
  · rename_i b p1 p2
    split at h
    · rename_i e; subst e; cases h
      exact ⟨Nat.zero_le _, fun M H => .nil, ha p1 p2⟩
    · cases h
  · rename_i b p1 p2 x1 p3
    split at h
    · rename_i e; subst e; cases h
      exact ⟨Nat.zero_le _, fun M H => .nil, peImp (pe_tup (pa_cons (ha p1 p2) pa_nil)) fun σ H Q q => q⟩
    · cases h
  · rename_i c j p0 b p1 p2 x1 p3
    split at h
    · rename_i e; subst e
      cases q : conOf c with
      | none => rw [q] at h; cases h
      | some v =>
        rw [q] at h; cases h
        obtain ⟨u, e1, pu, ru⟩ := conV_of q
        have er : retU (.Tuple [.Constant c j p0, .Call (.Name b p1) [] [] p2] x1 p3) = [u] := by
          show (conV c).toList = [u]
          rw [e1]; rfl
        rw [er]
        exact ⟨Nat.le_refl _, fun M H => .cons (ru M H) .nil, peImp (pe_tup (pa_cons pu (pa_cons (ha p1 p2) pa_nil))) fun σ H Q q => q⟩
    · cases h
  · cases h
theorem hsR_wp {e : Exc} {G : Heap} {k k' : Val → Heap → Prop} {x x' : Exc → Heap → Prop} (hk : ∀ v G, k v G → k' v G) : ∀ {hs : List Hd}, (hsR e G hs).wp k x → (hsR e G hs).wp k' x'
  | [], h => h.elim
  | d :: hs, h => by
    rw [hsR] at h ⊢
    split
    · rename_i h1
      rw [if_pos h1] at h
      obtain ⟨v, ev, q⟩ := R.wp_opt h
      rw [ev]; exact hk _ _ q
    · rename_i h1
      rw [if_neg h1] at h
      split
      · rename_i h2
        rw [if_pos h2] at h
        exact hsR_wp hk h
      · rename_i h2
        rw [if_neg h2] at h
        exact h.elim
structure TriF (N : List Str) (sg : Scope) (a : Str) (bg : List Stmt) (cl : List Clz) (pre : List Val) (one : Bool) (hs : List Hd) (hds : List ExceptHandler) : Prop where
  ex : ∃ h hd rp tp ret, hds = h :: hd ∧ bg = [.Try [.Return (some ret) rp] hds [] [] tp] ∧ retOf a ret = some (pre, one)
  hs : hdsOf N sg hds cl = some hs
  n0 : N[0]? = some a
  vis : Vis sg a
  db : (a == ("__debug__" : Str)) = false
  cd : (a == ("__classdict__" : Str)) = false
/-- read from the program's form -/
def triOf (ps N : List Str) (sg : Scope) (bg : List Stmt) (cl : List Clz) : Option (List Val × Bool × List Hd) := match ps, bg with
  | [a], [.Try [.Return (some ret) _] (h :: hd) [] [] _] =>
    if N[0]? = some a ∧ sg.names.lookup a = some .local ∧ (a == ("__debug__" : Str)) = false ∧ (a == ("__classdict__" : Str)) = false then
      (retOf a ret).bind fun p => (hdsOf N sg (h :: hd) cl).map fun hs => (p.1, p.2, hs) else none
  | _, _ => none
theorem triOf_ok {ps N : List Str} {sg : Scope} {bg : List Stmt} {cl : List Clz} {pre : List Val} {one : Bool} {hs : List Hd} (h : triOf ps N sg bg cl = some (pre, one, hs)) : ∃ a, ps = [a] ∧ TriF N sg a bg cl pre one hs (hdsIn bg) := by
  unfold triOf at h
  split at h
  · rename_i a ret rp h1 hd tp
    split at h
    · rename_i hc
      obtain ⟨c1, c2, c3, c4⟩ := hc
      cases q : retOf a ret with
      | none => rw [q] at h; cases h
      | some p =>
        rw [q] at h
        cases q2 : hdsOf N sg (h1 :: hd) cl with
        | none =>
          have h : ((hdsOf N sg (h1 :: hd) cl).map fun hs => (p.1, p.2, hs)) = _ := h
          rw [q2] at h; cases h
        | some hs2 =>
          have h : ((hdsOf N sg (h1 :: hd) cl).map fun hs => (p.1, p.2, hs)) = _ := h
          rw [q2] at h
          cases h
          exact ⟨a, rfl, ⟨h1, hd, rp, tp, ret, rfl, rfl, q⟩, q2, c1, .inl c2, c3, c4⟩
    · cases h
  · cases h
structure TriOk (K : PySem.W.Frag) (mg : Str → Option Value) (x : Str) (pre : List Val) (one : Bool) (hs : List Hd) : Prop where
  ex : ∃ g fd qual pg bg sg N a cl, mg x = some (.ref g) ∧ FunD K x qual pg bg sg [] [] g fd ∧ Binds K fd [a] [] ∧ FnScope N [a] sg ∧ TriF N sg a bg cl pre one hs (hdsIn bg) ∧ HdsK K mg (hdsIn bg) cl hs
theorem pe_tri {x : Str} {pre : List Val} {one : Bool} {hs : List Hd} {c : Addr} {params : Arguments} {body : Expr} {scope : Scope} {lpos p pos : Pos} {ts : List Str} {q : Str} {cB : E}
    (hg : Gl X x) (hdb : (x == ("__debug__" : Str)) = false) (T : TriOk X.K X.mg x pre one hs) (hr : RoomG 1 X.A) (hM : KM X.K)
    (TB : LamX.TabB X.base X.mg c (tabA X.K q)) (hcode : X.env.code = .ref c) (hq : X.env.qual ++ "<lambda>" = lamQ q) (htab : ∀ G : Heap, tabsAt ts G = true → ∃ n : Nat, G[n]? = some (Obj.tab q))
    (L : LamX.LamS X.env.scope scope) (hdef : defaultsOf params X.env = ([], []))
    (hbind : ∀ (q : Str) (cl : List (Str × Addr)) (pm cv ctv : Value), bindArgs (PySem.W.kla_fn "<lambda>" q params body scope cl pm cv ctv) ⟨[], []⟩ = pure [])
    (hbody : ∀ (env : Env) (outer : List Env) (s : Shared) (H : Hp) (E : XK) (f c' : Addr), PE (LamX.lamCx X (X.A.deeper env) outer s H E scope f c') body (tE X.K (fun cls d _ H => E cls d H) (evE Γ cB))) :
    PE X (.Call (.Name x p) [.Lambda params body scope lpos] [] pos) (tE X.K W (evE Γ (.lam ts pre one hs cB))) := by
  refine ⟨fun pins s σ H Q I ⟨M, G, st, hh, hst, hm⟩ => ?_⟩
  rw [evE] at hm
  by_cases ht : tabsAt ts G = true
  · rw [if_pos ht] at hm
    obtain ⟨n, hn⟩ := htab G ht
    have hlt : n < M.φ.length := by rw [hh.len]; exact (List.getElem?_eq_some_iff.mp hn).1
    have hφ : M.φ[n]? = some M.φ[n] := List.getElem?_eq_getElem hlt
    obtain ⟨ea, ps, hP, tr⟩ : M.φ[n] = tabA X.K q ∧ ∃ ps, H M.φ[n] = some (.tbl ps) ∧ TabR M H (lamQ q) ps := hh.obj n _ _ hφ hn
    rw [ea] at hφ hP
    obtain ⟨g, fd, qual, pg, bg, sg, N, a, cl, hmx, F, hb, Sg, TF, hK⟩ := T.ex
    have hkp := F.kp
    obtain ⟨oc, od, dV, kV, doc, pm0, an, cdv, ct, osl, rfl, lk, hcg, _, _⟩ := F.ex
    obtain ⟨h0, hd0, rp, tp, ret, ehds, ebg, eret⟩ := TF.ex
    refine wpAny_Call_Name_kw (ld_glob I hg hmx ?_ hdb)
    refine PySem.W.callWith_K (h₀ := X.base) I.ok.mod.kin hkp ?_ (by rfl) (by rfl)
    show wpAny _ _ (spliced ((false, eval (.Lambda params body scope lpos) X.env) :: backTo pos (starEach [] X.env))) _ _ s
    refine Calls.spliced_cons (lam_mk I TB hcode hq hP tr.ok (fun pos cv h => let ⟨c, e1, _, e3⟩ := tr.co pos cv h; ⟨c, e1, e3⟩) hdef (L.has I.ok) fun f c' pm ctv H1 s' I1 gT hf hfn hfr hco => ?_)
    refine Calls.spliced_nil ⟨I1.kIn, ?_⟩
    obtain ⟨hh1, l1⟩ := tabG_heap hh hn hφ hP tr gT
    have rc : codeAny (model X.prog X.w) X.A (.call (.ref g) ⟨[.ref f], []⟩) (CR C8.CX0 X.stack X.prog X.w H1 s' Q C8.E0) s' := by
      refine LamX.run_ofS (k := 0) (N := N) (ps := [a]) (us := [.ref f]) (vs := [.ref f]) lk hcg Sg hr.r I1.env0 (hb s' [.ref f] I1.kIn rfl) (.cons rfl .nil) rfl fun _ => ?_
      obtain ⟨l, hl, hw⟩ := hds_ok (Z := (cxOf C8.CX0 X.prog X.w X.K X.mg X.base N qual sg g cdv X.A X.stack s' H1 C8.E0).nox) hr.g (by have := hr.r.un; show X.A.units + 3 + 101 < _; omega) hM Sg.nd (fun _ => rfl) TF.hs hK
      rw [ebg, ehds]
      rw [ehds] at hl
      have act : ∀ (W : WX) (pn : List (Addr × PySem.Obj)) (xe : Value → Shared → Prop) (E : XK) (p1 p2 : Pos), Takes ((cxOf C8.CX0 X.prog X.w X.K X.mg X.base N qual sg g cdv X.A X.stack s' H1 C8.E0).tr pn xe) W → (∀ cls d σ' H', E cls d H' → W cls d σ' H') →
          PE ((cxOf C8.CX0 X.prog X.w X.K X.mg X.base N qual sg g cdv X.A X.stack s' H1 C8.E0).tr pn xe) (.Call (.Name a p1) [] [] p2) (fun σZ HZ Q => σZ[0]? = some (some (.ref f)) ∧ HZ c' = some (LamX.CodeO c' (X.env.qual ++ "<lambda>")) ∧ tE X.K (fun cls d _ H => E cls d H) (evE Γ cB) σ HZ Q) :=
        fun W pn xe E p1 p2 tk hW => act_pe I1 L hf hfn hfr (hbind _ _ _ _ _) tk hW hr.r.hd (by have := hr.r.dp; omega) (fun s1 H1 => hbody _ _ s1 H1 E f c') TF.n0 TF.vis TF.db TF.cd
      obtain ⟨hus, rus, _⟩ := ret_ok (Z := X) (t := fun _ _ _ => False) eret fun p1 p2 => ⟨fun _ _ _ _ _ _ h => h.elim⟩
      have TR := pss_one (ps_tryG (body := [.Return (some ret) rp]) (pos := tp) (X := (cxOf C8.CX0 X.prog X.w X.K X.mg X.base N qual sg g cdv X.A X.stack s' H1 C8.E0).nox) (Wout := fun _ _ _ _ => False)
        (tb := fun W D σZ HZ => ∃ Ech : XK, (∀ cls d σ' H', Ech cls d H' → W cls d σ' H') ∧ σZ[0]? = some (some (V.ref f)) ∧ HZ c' = some (LamX.CodeO c' (X.env.qual ++ "<lambda>")) ∧ tE X.K (fun cls d _ H => Ech cls d H) (evE Γ cB) σ HZ (retQ (retU ret) D.rt one))
        rfl rfl Sg.nd LamX.takes0 (fun W pn xe tk _ => ⟨fun pins s2 σ2 H2 D I2 ⟨Ech, hW, z1, z2, z3⟩ => by
          obtain ⟨_, _, pr⟩ := ret_ok eret fun p1 p2 => act W pn xe Ech p1 p2 tk hW
          exact (pss_one (ps_ret (pos := rp) pr)).run pins s2 σ2 H2 D I2 ⟨z1, z2, z3⟩⟩) hl)
      refine ⟨_, TR.nox, ?_⟩
      · refine ⟨fun cls d H' => ∃ M' e G', HeapR X.K M' G' H' ∧ ExcR X.K M' H' e cls d ∧ Later M H M' H' ∧ evE Γ cB st G = .exc e G', fun cls d σ' H' ⟨M', e, G', z1, z2, z3, z4⟩ => ?_, ?_, by rw [hq]; exact hco, M, G, st, hh1, hst.later hh.ok l1, ?_⟩
        · have hm2 : (hsR e G' hs).wp (fun v G' => ∀ M' u H', Later M H M' H' → HeapR X.K M' G' H' → Rl X.K M' H' v u → Q u H') (XW X.K W M H σ) := by
            rw [z4] at hm; exact hm
          exact hw _ _ σ' H' cls d e G' M' z1 z2 (hsR_wp (fun v G2 k M2 u H2 l2 hh2 r2 => k M2 u H2 (z3.trans l2) hh2 r2) hm2)
        · show (L2.start N [.ref f])[0]? = _
          unfold L2.start
          rfl
        · revert hm
          cases evE Γ cB st G with
          | no => exact fun hm => hm.elim
          | exc e G' => exact fun hm M' cls d H' l2 hh2 hx => ⟨M', e, G', hh2, hx, l1.trans l2, rfl⟩
          | ok v G' =>
            intro hm M' u H' l2 hh2 r2
            cases one with
            | true => exact hm M' u H' (l1.trans l2) hh2 r2
            | false =>
              refine ⟨?_, fun p hp => hm M' _ _ (l1.trans (l2.trans (Later.new M' hp))) (hh2.new hp) (Rl.newTup hh2 hp ((rus M' H').append (.cons r2 .nil)))⟩
              rw [List.length_append, sizeLine_eq]
              show _ + 1 ≤ _
              omega
    refine wpAny_call (codeAny_mono rc fun r s2 hq => ?_)
    cases r with
    | error e => exact (show False from hq).elim
    | ok fl =>
      cases fl with
      | ret u => exact I1.after hq
      | next => exact False.elim hq
      | brk => exact False.elim hq
      | cont => exact False.elim hq
  · rw [if_neg ht] at hm; exact hm.elim
end Fx

namespace Fx
open PySem PySem.Spec PyProof.Rows L2
variable {X : Cx} {W : WX} {Γ : Calls}
/-- a class of exceptions without own __init__ -/
structure XcOk (K : PySem.W.Frag) (mg : Str → Option Value) (x : Str) (c : String) : Prop where
  nm : Str.ofString c = x
  mg : mg x = some (.ref (He.ga K x))
  exc : PySem.W.excIn K (He.ga K x) He.veBase "ValueError.__new__" = true
  kp : PySem.W.keepIn K (.ref (He.ga K x)) = true
  sub : PySem.W.subIn K (.ref (He.ga K x)) (.type "BaseException") = some true
  ty : PySem.W.typeIn K (.ref (He.ga K x)) = some (.type "type")
theorem pmk_0 {x : Str} {c : String} {p pos : Pos} (E : XcOk X.K X.mg x c) (hg : Gl X x) (hdb : (x == ("__debug__" : Str)) = false) :
    PMk X (.Call (.Name x p) [] [] pos) (fun σ H Q => Q (.ref (He.ga X.K x)) none H) := by
  intro pins s σ H Q I h
  refine wpAny_Call_Name_kw (ld_glob I hg E.mg ?_ hdb)
  refine PySem.W.callWith_K0 I.kIn E.kp ?_
  show wpAny _ _ (call (.ref (He.ga X.K x)) []) _ _ _
  obtain ⟨bm, N, nm, qn, bs, hdct, sn, sub, ab, col, dd, k0, k1, k2, k3, k5, mN, hC, hN, hni, T⟩ := L2.exc_obj I.kIn E.exc
  exact wpAny_call_exc_subT F.excBase_ValueError T hC hN hni (fun h' e hm => mk_of I hm (raises_own E.sub E.ty) h (I.hok.gone hm.new)) (Nat.zero_le _)
theorem ps_raise0 {x : Str} {c : String} {p pos pos' : Pos} (hc : X.calm = true) (tk : Takes X W) (E : XcOk X.K X.mg x c) (hg : Gl X x) (hdb : (x == ("__debug__" : Str)) = false) :
    PS X (.Raise (some (.Call (.Name x p) [] [] pos)) none pos') (tS X.K W (evS Γ (.raise0 c))) :=
  psImp (ps_raise hc tk (pmk_0 E hg hdb)) fun D σ H ⟨M, G, s, hh, hst, h⟩ => by
    rw [evS] at h
    refine h M H σ _ none (Since.refl _ _) hh hst ⟨?_, rfl⟩
    show _ = Value.ref (He.ga X.K (Str.ofString c))
    rw [E.nm]
end Fx

namespace Fx
open PySem PySem.Spec PyProof.Rows L2
variable {X : Cx} {W : WX} {Γ : Calls}
/-- def __init__(self, y): self.fl = y -/
structure IniF (se y fl : Str) (N : List Str) (scope : Scope) (body : List Stmt) : Prop where
  form : ∃ p1 p2 p3 pos, body = [.Assign [.Attribute (.Name se p1) fl p2] (.Name y p3) pos]
  n0 : N[0]? = some se
  n1 : N[1]? = some y
  v0 : Vis scope se
  v1 : Vis scope y
  d0 : (se == ("__debug__" : Str)) = false ∧ (se == ("__classdict__" : Str)) = false
  d1 : (y == ("__debug__" : Str)) = false ∧ (y == ("__classdict__" : Str)) = false
/-- a class of exceptions with such an __init__ -/
structure XiOk (K : PySem.W.Frag) (mg : Str → Option Value) (x : Str) (c fl : String) : Prop where
  nm : Str.ofString c = x
  mg : mg x = some (.ref (He.ga K x))
  oex : OexC K (He.ga K x)
  no : PySem.W.findIn K (.ref (He.ga K x)) (Str.ofString fl) = some none
  ini : ∃ fI fd params body scope qual N se y, PySem.W.findIn K (.ref (He.ga K x)) "__init__" = some (some (.ref fI)) ∧ PySem.W.typeIn K (.ref fI) = some (.type "function") ∧
    FunD K "__init__" qual params body scope [] [] fI fd ∧ Binds K fd [se, y] [] ∧ FnScope N [se, y] scope ∧ IniF se y (Str.ofString fl) N scope body
/-- what such an __init__ promises -/
def spI (K : PySem.W.Frag) (C : Addr) (fl : Str) : Sp := fun vs H Q _ => ∃ a z, vs = [.ref a, z] ∧ OexC K C ∧ PySem.W.findIn K (.ref C) fl = some none ∧ H a = some (exo a C none) ∧
  ∀ dx, H dx = none → dx ≠ a → Q .non (upd (upd H dx (exd dx [(fl, z)])) a (exo a C (some dx)))
theorem ini_ok {P : Program} {w : World} {K : PySem.W.Frag} {mg : Str → Option Value} {base : PySem.Heap} {qual se y fl : Str} {params : Arguments} {body : List Stmt} {scope : Scope} {N : List Str} {fI C : Addr} {fd : FuncData}
    (F : FunD K "__init__" qual params body scope [] [] fI fd) (S : FnScope N [se, y] scope) (I : IniF se y fl N scope body) : FnOk P w K mg base C8.CX0 1 fI fd [se, y] (spI K C fl) := by
  refine F.ok (k := 0) S (fun vs H Q E ⟨a, z, e, _⟩ => by rw [e]; rfl) fun cdv A outer s H vs Q E hr hsp => ?_
  obtain ⟨p1, p2, p3, pos, rfl⟩ := I.form
  obtain ⟨a, z, rfl, T, hno, ea, q⟩ := hsp
  have st : L2.start N [V.ref a, z] = some (V.ref a) :: some z :: List.replicate (N.length - 2) none := rfl
  refine ⟨_, pss_one (ps_ost (f := fl) (p' := p2) (pos := pos) (pe_var (i := 0) (x := se) (pos := p1) I.n0 I.v0 I.d0.1 I.d0.2) (pe_var (i := 1) (x := y) (pos := p3) I.n1 I.v1 I.d1.1 I.d1.2) (by rfl)), ?_⟩
  exact ⟨z, by rw [st]; rfl, V.ref a, by rw [st]; rfl, a, C, rfl, T, hno, .inl ⟨ea, q⟩⟩
theorem ps_raise1 {x : Str} {c fl : String} {e : Expr} {i : E} {p pos pos' : Pos} (hc : X.calm = true) (tk : Takes X W) (E : XiOk X.K X.mg x c fl) (hg : Gl X x) (hdb : (x == ("__debug__" : Str)) = false) (hr : Room 2 X.A)
    (ha : PE X e (tE X.K W (evE Γ i))) (hs : starEach [e] X.env = [(false, eval e X.env)]) :
    PS X (.Raise (some (.Call (.Name x p) [e] [] pos)) none pos') (tS X.K W (evS Γ (.raise1 c fl i))) := by
  obtain ⟨fI, fd, params, body, scope, qual, N, se, y, iC, tI, F, hb, S, IF⟩ := E.ini
  refine psImp (ps_raise hc tk (pmk_oex (k := 1) (sp := spI X.K (He.ga X.K x) (Str.ofString fl)) (dvs := []) (ds := []) E.oex iC tI (ini_ok (C := He.ga X.K x) F S IF) hr hb .nil (fun _ _ _ _ _ _ _ h => h.elim) hg E.mg (pa_cons ha pa_nil hs) hdb hs rfl)) fun D σ H ⟨M, G, s, hh, hst, h⟩ => ?_
  rw [evS] at h
  refine ⟨M, G, s, hh, hst, R.wp_mono (Post.wp hh hst h) (fun v G1 h M1 u H1 l1 hh1 r1 => ⟨by simp, fun a na => ?_⟩) fun _ _ x => x⟩
  refine ⟨a, u, rfl, E.oex, E.no, upd_same, fun dx nd ne => ⟨rfl, dx, [(Str.ofString fl, u)], upd_same, ?_, ?_, ?_⟩⟩
  · rw [upd_ne ne, upd_same]
  · rw [upd_ne ne] at nd; exact nd
  · have nd1 : H1 dx = none := by rw [upd_ne ne] at nd; exact nd
    have eH : upd (del (upd (upd (upd H1 a (exo a (He.ga X.K x) none)) dx (exd dx [(Str.ofString fl, u)])) a (exo a (He.ga X.K x) (some dx))) a) dx (.xd [(Str.ofString fl, u)]) = upd H1 dx (.xd [(Str.ofString fl, u)]) := by
      funext b
      by_cases hb1 : b = dx
      · rw [hb1, upd_same, upd_same]
      · rw [upd_ne hb1, upd_ne hb1]
        by_cases hb2 : b = a
        · rw [hb2, del_same, na]
        · rw [del_ne hb2, upd_ne hb2, upd_ne hb1, upd_ne hb2]
    rw [eH]
    refine h M1 (upd H1 dx (.xd [(Str.ofString fl, u)])) σ _ _ (l1.trans (Later.new M1 nd1)).since (hh1.new nd1) (hst.later hh.ok (l1.trans (Later.new M1 nd1))) ⟨?_, ?_⟩
    · show _ = Value.ref (He.ga X.K (Str.ofString c))
      rw [E.nm]
    · exact ⟨dx, u, rfl, upd_same, r1.later (Later.new M1 nd1)⟩
end Fx

namespace Fx
open PySem PySem.Spec PyProof.Rows L2
variable {X : Cx} {W : WX} {Γ : Calls} {C : CC} {k : Nat}
def GkOk (k : Nat) (X : Cx) (Γ : Calls) (x : Str) : GK → Prop
  | .fn f n ds kw => Str.ofString f = x ∧ ∃ a fd ps, DefOk X.prog X.w X.K X.mg X.base k f n (Γ f) a fd ps ∧ (∀ j, j < ds.length → ∃ us, Vals ((ds.drop j).map dvH) us ∧ Binds X.K fd ps us) ∧ ∀ q ∈ kw, q.2 = ps.drop q.1 ∧ KwOk X.K fd ps q.1
  | .free => X.mg x = none
  | .con c => ∃ u v, X.mg x = some u ∧ RelV v u ∧ ∀ M H, Rl X.K M H c v
  | .dic ks vs => ∃ d, X.mg x = some (.ref d) ∧ DicOk X.K X.w d ks vs
  | .exc c none => XcOk X.K X.mg x c
  | .exc c (some fl) => XiOk X.K X.mg x c fl
  | .tri pre one hs => TriOk X.K X.mg x pre one hs
/-- what lambdas ask of the def that makes them -/
structure LamOk (k : Nat) (X : Cx) (q : Str) : Prop where
  tab : ∃ c, X.env.code = .ref c ∧ LamX.TabB X.base X.mg c (tabA X.K q)
  qual : X.env.qual ++ "<lambda>" = lamQ q
  one : 1 ≤ k
  dp : X.A.depth + 3 * k + 7 < recursionLimit
  un : X.A.units + 16 * k + 210 < cLine
structure CxOk (k : Nat) (X : Cx) (C : CC) (Γ : Calls) (W : WX) : Prop where
  N : X.N = C.N
  nd : X.N.Nodup
  sc : X.env.scope = C.sc
  calm : X.calm = true
  fn : ∀ x, C.os.names.lookup x = some .cell → X.fn x = true
  tk : Takes X W
  un : X.A.units + 65 < cLine
  room : RoomG k X.A
  km : KM X.K
  gl : ∀ p ∈ C.gl, GkOk k X Γ p.1 p.2
  lam : ∀ ts q, C.lam = some (ts, q) → LamOk k X q
theorem idx_of {N : List Str} {x : Str} {i : Nat} (h : N.idxOf? x = some i) : N[i]? = some x := by
  unfold List.idxOf? at h
  rw [List.findIdx?_eq_some_iff_getElem] at h
  obtain ⟨h1, h2, _⟩ := h
  rw [List.getElem?_eq_getElem h1, eq_of_beq h2]
theorem vis_of (h : C.vis x = true) (ok : X.env.scope = C.sc) : Vis X.env.scope x ∧ (x == ("__debug__" : Str)) = false ∧ (x == ("__classdict__" : Str)) = false := by
  unfold CC.vis at h
  simp only [Bool.and_eq_true, Bool.not_eq_true'] at h
  obtain ⟨⟨h1, h2⟩, h3⟩ := h
  refine ⟨?_, h2, h3⟩
  rw [ok]
  unfold Vis
  split at h1
  · exact .inl (by assumption)
  · exact .inr (.inl (by assumption))
  · exact .inr (.inr (by assumption))
  · cases h1
theorem CxOk.slotV (o : CxOk k X C Γ W) {x : Str} {i : Nat} (h : C.slotV x = some i) : X.N[i]? = some x ∧ Vis X.env.scope x ∧ (x == ("__debug__" : Str)) = false ∧ (x == ("__classdict__" : Str)) = false := by
  unfold CC.slotV at h
  split at h
  · rename_i hv
    exact ⟨by rw [o.N]; exact idx_of h, vis_of hv o.sc⟩
  · cases h
theorem CxOk.slotL (o : CxOk k X C Γ W) {x : Str} {i : Nat} (h : C.slotL x = some i) : X.N[i]? = some x ∧ L2.Loc X.env.scope x ∧ (X.fn x = true ∨ X.env.scope.names.lookup x = some .local) := by
  unfold CC.slotL at h
  split at h
  · rename_i hv
    unfold CC.loc at hv
    refine ⟨by rw [o.N]; exact idx_of h, ?_⟩
    rw [o.sc]
    unfold L2.Loc
    split at hv
    · exact ⟨.inl (by assumption), .inr (by assumption)⟩
    · exact ⟨.inr (by assumption), .inl (o.fn x (of_decide_eq_true hv))⟩
    · cases hv
  · cases h
theorem CxOk.isGl (o : CxOk k X C Γ W) {x : Str} (h : C.isGl x = true) : Gl X x ∧ (x == ("__debug__" : Str)) = false := by
  unfold CC.isGl at h
  simp only [Bool.and_eq_true, Bool.not_eq_true', decide_eq_true_eq] at h
  exact ⟨by show X.env.scope.names.lookup x = _; rw [o.sc]; exact h.1, h.2⟩
theorem mem_of_lookupB {α : Type} {l : List (Str × α)} {x : Str} {a : α} (h : l.lookup x = some a) : (x, a) ∈ l := PySem.mem_of_lookup h
theorem CxOk.glob (o : CxOk k X C Γ W) {x : Str} {g : GK} (h : C.glob x = some g) : Gl X x ∧ (x == ("__debug__" : Str)) = false ∧ GkOk k X Γ x g := by
  unfold CC.glob at h
  split at h
  · rename_i hg
    exact ⟨(o.isGl hg).1, (o.isGl hg).2, o.gl _ (mem_of_lookupB h)⟩
  · cases h
theorem CxOk.free (o : CxOk k X C Γ W) {x : Str} (h : C.free x = true) : Gl X x ∧ X.mg x = none := by
  unfold CC.free at h
  split at h
  · rename_i hg
    exact ⟨(o.glob hg).1, (o.glob hg).2.2⟩
  · cases h
theorem noStar_cons {e : Expr} {es : List Expr} (h : noStar (e :: es) = true) (env : Env) : starEach (e :: es) env = (false, eval e env) :: starEach es env ∧ noStar es = true := by
  cases e <;> first | exact ⟨rfl, h⟩ | cases h
theorem noStar_any {pos : Pos} {env : Env} : ∀ {es : List Expr}, noStar es = true → (backTo pos (starEach es env)).any (·.1) = false
  | [], _ => rfl
  | e :: es, h => by
    rw [(noStar_cons h env).1]
    show (false || (backTo pos (starEach es env)).any (·.1)) = false
    rw [noStar_any (noStar_cons h env).2]; rfl
theorem noStar_assign {e : Expr} {es : List Expr} (h : noStar (e :: es) = true) (env : Env) : assignEach (e :: es) env = (false, assign e env) :: assignEach es env ∧ noStar es = true := by
  cases e <;> first | exact ⟨rfl, h⟩ | cases h
theorem noStar_find {env : Env} : ∀ {es : List Expr}, noStar es = true → (assignEach es env).findIdx? (·.1) = none
  | [], _ => rfl
  | e :: es, h => by
    rw [(noStar_assign h env).1, List.findIdx?_cons]
    simp only [Bool.false_eq_true, if_false]
    rw [noStar_find (noStar_assign h env).2]; rfl
theorem noStar_len {env : Env} : ∀ {es : List Expr}, noStar es = true → (assignEach es env).length = es.length
  | [], _ => rfl
  | e :: es, h => by
    rw [(noStar_assign h env).1, List.length_cons, List.length_cons, noStar_len (noStar_assign h env).2]
theorem plainT_of {e : Expr} (h : plainT e = true) (env : Env) (whole : Sem Value) : isTrue e env whole = (do let v ← whole; standAt e.pos; holding [v] (truthy v)) := by
  cases e with
  | UnaryOp op x p => cases op <;> first | rfl | cases h
  | _ => first | rfl | cases h
theorem plainIx_of {e : Expr} (h : plainIx e = true) : PlainIx e := by
  intro o i
  cases e <;> first | rfl | cases h
theorem isSet_of {e : Expr} (h : isSet e = false) (env : Env) (x : Value) : foldedSetIterable e env x = pure x := by
  cases e <;> first | rfl | cases h
theorem pe_conOf {c : Const} {v : Val} {j : Nat} {pos : Pos} (h : conOf c = some v) : PE X (.Constant c j pos) (tE X.K W (evE Γ (.con v))) := by
  cases c with
  | none => cases h; exact pe_conK pe_non fun _ _ => .nn
  | bool b => cases h; exact pe_conK pe_bl fun _ _ => .bool b
  | int i => cases h; exact pe_conK pe_int fun _ _ => .int i
  | str s =>
    have h : (if strOk s = true then some (Val.str (strOf s)) else none) = some v := h
    split at h
    · rename_i hs
      cases h
      exact pe_conK pe_str fun _ _ => by have := Rl.str (K := X.K) (M := ‹_›) (H := ‹_›) (strOf s); rw [str_of hs] at this; exact this
    · cases h
  | _ => cases h
theorem bfOf_of {x : Str} {b : Bf} (h : bfOf x = some b) : bfS b = x := by
  have := List.find?_some (p := fun f => bfS f == x) h
  exact eq_of_beq this
theorem tyOf_of {x : Str} {t : Ty} (h : tyOf x = some t) : tyS t = x ∧ t ≠ .none_ := ⟨by
  have := List.find?_some (p := fun t => tyS t == x) h
  exact eq_of_beq this, fun z => by
  have := List.mem_of_find?_eq_some h
  rw [z] at this
  revert this
  decide⟩
structure ExOk (X : Cx) (Γ : Calls) (W : WX) (r : Md → Expr → E) (e : Expr) : Prop where
  v : PE X e (tE X.K W (evE Γ (r .v e)))
  o : PE X e (tO X.K W (evE Γ (r .o e)))
  f : PE X e (tF X.K W (evE Γ (r .f e)))
  t : PT X e (tT X.K W (evE Γ (r .t e)))
def RecOk (r : Rec) : Prop := ∀ (k : Nat) (X : Cx) (C : CC) (Γ : Calls) (W : WX), CxOk k X C Γ W → ∀ e, ExOk X Γ W (r C) e
theorem pf_stopK {e : Expr} : PE X e (tF X.K W (evE Γ .stop)) := ⟨fun pins s σ H Q I ⟨M, G, st, hh, hst, hm⟩ => by rw [evE] at hm; exact hm.elim⟩
theorem po_stopK {e : Expr} : PE X e (tO X.K W (evE Γ .stop)) := peO pe_stopK
theorem mkEs_len (f : Expr → E) : ∀ es : List Expr, (mkEs f es).len = es.length
  | [] => rfl
  | e :: es => by rw [mkEs, Es.len, List.length_cons, mkEs_len f es]
theorem pa_mkV {f : Expr → E} (h : ∀ e, PE X e (tE X.K W (evE Γ (f e)))) : ∀ {es : List Expr}, noStar es = true → PA X es (tAs X.K W (evEs Γ (mkEs f es)))
  | [], _ => pa_nilK
  | e :: es, hs => pa_consK (h e) (pa_mkV h (noStar_cons hs X.env).2) (noStar_cons hs X.env).1
theorem pa_mkO {f : Expr → E} (h : ∀ e, PE X e (tO X.K W (evE Γ (f e)))) : ∀ {es : List Expr}, noStar es = true → PA X es (tAO X.K W (evEs Γ (mkEs f es)))
  | [], _ => pa_nilO
  | e :: es, hs => pa_consO (h e) (pa_mkO h (noStar_cons hs X.env).2) (noStar_cons hs X.env).1
theorem pgs_mk {n : Nat} (h : ∀ e t, compG n C e = some t → PG X e (gT X.K t)) : ∀ {es : List Expr} {ts : Tgs}, noStar es = true → mkTgs (compG n C) es = some ts → PGs X es (gTs X.K ts)
  | [], ts, _, e => by cases e; exact pgs_nilK
  | e :: es, ts, hs, q => by
    rw [mkTgs] at q
    cases q1 : compG n C e with
    | none => rw [q1] at q; cases q
    | some t =>
      rw [q1] at q
      cases q2 : mkTgs (compG n C) es with
      | none => rw [q2] at q; cases q
      | some ts2 =>
        rw [q2] at q
        cases q
        obtain ⟨h1, h2⟩ := noStar_assign hs X.env
        exact pgs_consK (h e t q1) (pgs_mk h h2 q2) (by rw [h1]; rfl)
theorem mkTgs_len {f : Expr → Option Tg} : ∀ {es : List Expr} {ts : Tgs}, mkTgs f es = some ts → es.length = ts.len
  | [], _, e => by cases e; rfl
  | e :: es, ts, q => by
    rw [mkTgs] at q
    cases q1 : f e with
    | none => rw [q1] at q; cases q
    | some t =>
      rw [q1] at q
      cases q2 : mkTgs f es with
      | none => rw [q2] at q; cases q
      | some ts2 =>
        rw [q2] at q
        cases q
        rw [List.length_cons, mkTgs_len q2]; rfl
theorem compG_ok (o : CxOk k X C Γ W) : ∀ (n : Nat) (e : Expr) (t : Tg), compG n C e = some t → PG X e (gT X.K t)
  | 0, _, _, h => by cases h
  | n + 1, e, t, h => by
    have h : compGStep (compG n C) C e = some t := h
    unfold compGStep at h
    split at h
    · rename_i x p _
      cases q : C.slotL x with
      | none => rw [q] at h; cases h
      | some i =>
        rw [q] at h
        cases h
        obtain ⟨h1, h2, h3⟩ := o.slotL q
        exact pg_nameK o.nd h1 h2 h3
    · rename_i es kk p _
      split at h
      · rename_i hs
        cases q : mkTgs (compG n C) es with
        | none => rw [q] at h; cases h
        | some ts =>
          rw [q] at h
          cases h
          exact pg_tupK o.calm (pgs_mk (fun e t h => compG_ok o n e t h) hs q) (by rw [noStar_len hs, mkTgs_len q]) (noStar_find hs)
      · cases h
    · cases h
theorem compG_star {n : Nat} {e : Expr} {t : Tg} (h : compG n C e = some t) (env : Env) : (assignEach [e] env).map (·.2) = [assign e env] := by
  cases n with
  | zero => cases h
  | succ n =>
    have h : compGStep (compG n C) C e = some t := h
    unfold compGStep at h
    split at h
    · rfl
    · rfl
    · cases h
theorem tup_of {e : Expr} (h : isTupE e = true) : ∃ es n p, e = .Tuple es n p := by
  cases e <;> first | exact ⟨_, _, _, rfl⟩ | cases h
theorem star1 {a : Expr} (h : noStar [a] = true) (env : Env) : starEach [a] env = [(false, eval a env)] := (noStar_cons h env).1
theorem star2 {a b : Expr} (h : noStar [a, b] = true) (env : Env) : starEach [a, b] env = [(false, eval a env), (false, eval b env)] ∧ starEach [b] env = [(false, eval b env)] := by
  obtain ⟨h1, h2⟩ := noStar_cons h env
  have := star1 h2 env
  exact ⟨by rw [h1, this], this⟩
theorem compI_ok {Ev : Mp → Hp → Mp → Hp → Prop} {md : Md} {r : Rec} (hev : ∀ M H M2 H2, Ev M H M2 H2 → Since M H M2 H2) (evr : ∀ M H, Ev M H M H) (o : CxOk k X C Γ W) (hr : ∀ e, ExOk X Γ W (r C) e) (tg e : Expr) (hof : PI X tg e (tI Ev X.K W (evI Γ (.of (r C md e))))) : PI X tg e (tI Ev X.K W (evI Γ (compI r C md tg e))) := by
  unfold compI
  split
  · rename_i f p a pos
    split
    · rename_i h
      obtain ⟨rfl, h1, h2⟩ := h
      exact pi_rng1 (o.free h1).1 (o.free h1).2 (hr a).v (star1 h2 X.env)
    · split
      · rename_i h
        obtain ⟨rfl, h1, h2⟩ := h
        exact pi_revK hev (o.free h1).1 (o.free h1).2 (hr a).v (star1 h2 X.env)
      · split
        · rename_i h
          obtain ⟨rfl, h1, h2, h3⟩ := h
          obtain ⟨es, n, p2, rfl⟩ := tup_of h3
          exact pi_enumK hev (o.free h1).1 (o.free h1).2 (hr a).v (star1 h2 X.env)
        · exact hof
  · rename_i f p a b pos
    split
    · rename_i h
      obtain ⟨rfl, h1, h2⟩ := h
      exact pi_rng2 (o.free h1).1 (o.free h1).2 (hr a).v (hr b).v (star2 h2 X.env).1 (star2 h2 X.env).2
    · split
      · rename_i h
        obtain ⟨rfl, h1, h2, h3⟩ := h
        obtain ⟨es, n, p2, rfl⟩ := tup_of h3
        exact pi_zipK hev evr (o.free h1).1 (o.free h1).2 (hr a).v (hr b).v (noStar_cons h2 X.env).1 (noStar_cons (noStar_cons h2 X.env).2 X.env).1 (noStar_any (noStar_cons h2 X.env).2)
      · exact hof
  · exact hof
theorem CxOk.blk (o : CxOk k X C Γ W) {scope : Scope} {s : Shared} {H : Hp} {C0 : Addr} {cl : List (Str × Addr)} {fp : List Addr} : CxOk k (X.blk s H scope (compEnvC scope cl C0 X.env) fp) (C.blk scope) Γ WF where
  N := o.N
  km := o.km
  nd := o.nd
  sc := by
    show relabel scope X.env = relS scope C.sc
    rw [← o.sc]
    rfl
  calm := o.calm
  fn := fun x h => by
    show (scope.names.lookup x == some .cell) = true
    have h : scope.names.lookup x = some .cell := h
    rw [h]; rfl
  tk := fun u s' ⟨_, _, _, _, _, _, _, _, _, _, _, _, _, _, _, _, w⟩ => w.elim
  un := o.un
  room := o.room
  gl := fun p hp => by
    have := o.gl p hp
    obtain ⟨x, g⟩ := p
    cases g with
    | fn f n ds kw => exact this
    | free => exact this
    | con c => exact this
    | dic ks vs => exact this
    | exc c f => cases f <;> exact this
    | tri pre one hs => exact this
  lam := fun _ _ h => nomatch h
theorem tabsAt_mem {q : Str} : ∀ {ts : List Str} {G : Heap}, ts.contains q = true → tabsAt ts G = true → ∃ n : Nat, G[n]? = some (Obj.tab q)
  | [], G, h, _ => by cases h
  | t :: ts, G, h, ht => by
    match G, ht with
    | .tab f :: G, ht =>
      rw [tabsAt, Bool.and_eq_true, decide_eq_true_eq] at ht
      rw [List.contains_cons, Bool.or_eq_true, beq_iff_eq] at h
      rcases h with h | h
      · exact ⟨0, by rw [h, ← ht.1]; rfl⟩
      · obtain ⟨n, e⟩ := tabsAt_mem h ht.2
        exact ⟨n + 1, e⟩
theorem noParams_of {p : Arguments} (h : noParams p = true) : p = ⟨[], [], none, [], [], none, []⟩ := by
  unfold noParams at h
  split at h
  · rfl
  · cases h
theorem CxOk.inL (o : CxOk k X C Γ W) {ts : List Str} {q : Str} (hl : C.lam = some (ts, q)) {scope : Scope} (L : LamX.LamS C.sc scope) {env : Env} {outer : List Env} {s : Shared} {H : Hp} {E : XK} {f c' : Addr} :
    CxOk k (LamX.lamCx X (X.A.deeper env) outer s H E scope f c') (C.inL scope) Γ (fun cls d _ H => E cls d H) where
  N := o.N
  km := o.km
  nd := o.nd
  sc := rfl
  calm := rfl
  fn := fun x h => absurd rfl (L.own _ (PySem.mem_of_lookup (show scope.names.lookup x = some .cell from h))).2
  tk := takes_of rfl rfl rfl rfl
  un := by
    have := (o.lam ts q hl).un
    show X.A.units + 3 + 3 + 65 < cLine
    omega
  room := ⟨⟨o.room.r.hd, by
    have := (o.lam ts q hl).dp
    show X.A.depth + 1 + 1 + 3 * k + 5 < recursionLimit
    omega, by
    have := (o.lam ts q hl).un
    show X.A.units + 3 + 3 + 16 * k + 200 < cLine
    omega⟩, o.room.g⟩
  gl := fun p hp => by
    have := o.gl p hp
    obtain ⟨x, g⟩ := p
    cases g with
    | fn f n ds kw => exact this
    | free => exact this
    | con c => exact this
    | dic ks vs => exact this
    | exc c f => cases f <;> exact this
    | tri pre one hs => exact this
  lam := fun _ _ h => nomatch h
theorem compIfs_ok {r : Rec} (hr : ∀ e, ExOk X Γ W (r C) e) (ifs : List Expr) : PTs X ifs (tT X.K W (evE Γ (compIfs r C ifs))) := by
  match ifs with
  | [] => exact pts_noneK
  | [c] => exact pts_one (hr c).t
  | a :: b :: cs => exact ⟨fun pins s σ H Q I ⟨M, G, st, hh, hst, hm⟩ => by
      have hm : (evE Γ .stop st G).wp _ _ := hm
      rw [evE] at hm; exact hm.elim⟩
/-- what a comprehension's rule asks -/
structure CompOk (X : Cx) (Γ : Calls) (W : WX) (elt tg iter : Expr) (ifs : List Expr) (scope : Scope) (own : List (Str × Nat)) (t : Tg) (it : Itx) (c e : E) : Prop where
  hi : PI X tg iter (tI Later X.K W (evI Γ it))
  ok : BlkOk X.N X.env.scope scope own
  hts : ∀ i ∈ tgS t, i ∈ own.map (·.2)
  hg : ∀ (s : Shared) (H : Hp) (C : Addr) (cl : List (Str × Addr)) (fp : List Addr), PG (X.blk s H scope (compEnvC scope cl C X.env) fp) tg (gT X.K t)
  ht : ∀ (s : Shared) (H : Hp) (C : Addr) (cl : List (Str × Addr)) (fp : List Addr), PTs (X.blk s H scope (compEnvC scope cl C X.env) fp) ifs (tT X.K WF (evE Γ c))
  he : ∀ (s : Shared) (H : Hp) (C : Addr) (cl : List (Str × Addr)) (fp : List Addr), PE (X.blk s H scope (compEnvC scope cl C X.env) fp) elt (tE X.K WF (evE Γ e))
  hs : ∀ x, foldedSetIterable iter X.env x = pure x
theorem hotName_ok (o : CxOk k X C Γ W) {e : Expr} {j : Nat} (h : hotName C e = some j) : PE X e (tE X.K W (evE Γ (.var j))) := by
  unfold hotName at h
  split at h
  · split at h
    · obtain ⟨h1, h2, h3, h4⟩ := o.slotV h
      exact pe_varK h1 h2 h3 h4
    · cases h
  · cases h
theorem compC_ok {r : Rec} (hR : RecOk r) (o : CxOk k X C Γ W) (elt : Expr) (gs : List Comprehension) (scope : Scope) : compC r C elt gs scope = .stop ∨ (∃ tg iter ifs t it c e, gs = [⟨tg, iter, ifs, 0⟩] ∧ compC r C elt gs scope = .comp ((blkOwn C.N scope).map (·.2)) t it c e ∧ CompOk X Γ W elt tg iter ifs scope (blkOwn C.N scope) t it c e) ∨ ∃ tg iter ifs t j c e, gs = [⟨tg, iter, ifs, 0⟩] ∧ compC r C elt gs scope = .compL ((blkOwn C.N scope).map (·.2)) t j c e ∧ CompOkL X Γ W elt tg iter ifs scope (blkOwn C.N scope) t j c e := by
  unfold compC
  split
  · rename_i tg iter ifs
    split
    · rename_i h
      obtain ⟨h1, h2⟩ := h
      split
      · rename_i t ht
        split
        · rename_i hts
          split
          · rename_i jj hjj
            exact .inr (.inr ⟨tg, iter, ifs, t, _, _, _, rfl, rfl, {
              hj := hotName_ok o hjj
              ok := by rw [o.N, o.sc]; exact blkOk_by h1
              hts := fun i hi => by
                have := List.all_eq_true.mp hts i hi
                simpa using this
              hg := fun s H C0 cl fp => compG_ok (o.blk (s := s) (H := H) (C0 := C0) (cl := cl) (fp := fp)) 8 tg t ht
              ht := fun s H C0 cl fp => compIfs_ok (hR k _ _ _ _ o.blk) ifs
              he := fun s H C0 cl fp => (hR k _ _ _ _ o.blk elt).v
              hs := fun x => isSet_of h2 X.env x }⟩)
          · exact .inr (.inl ⟨tg, iter, ifs, t, _, _, _, rfl, rfl, {
              hi := compI_ok (fun _ _ _ _ l => l.since) Later.refl o (hR k X C Γ W o) tg iter (pi_ofL (hR k X C Γ W o iter).o)
              ok := by rw [o.N, o.sc]; exact blkOk_by h1
              hts := fun i hi => by
                have := List.all_eq_true.mp hts i hi
                simpa using this
              hg := fun s H C0 cl fp => compG_ok (o.blk (s := s) (H := H) (C0 := C0) (cl := cl) (fp := fp)) 8 tg t ht
              ht := fun s H C0 cl fp => compIfs_ok (hR k _ _ _ _ o.blk) ifs
              he := fun s H C0 cl fp => (hR k _ _ _ _ o.blk elt).v
              hs := fun x => isSet_of h2 X.env x }⟩)
        · exact .inl rfl
      · exact .inl rfl
    · exact .inl rfl
  · exact .inl rfl
theorem pe_compC {r : Rec} (hR : RecOk r) (o : CxOk k X C Γ W) (elt : Expr) (gs : List Comprehension) (scope : Scope) (pos : Pos) : PE X (.ListComp elt gs scope pos) (tF X.K W (evE Γ (compC r C elt gs scope))) := by
  rcases compC_ok hR o elt gs scope with h | ⟨tg, iter, ifs, t, it, c, e, rfl, h, q⟩ | ⟨tg, iter, ifs, t, j, c, e, rfl, h, q⟩
  · rw [h]; exact pf_stopK
  · rw [h]
    exact pe_compV o.calm o.nd q.hi q.ok q.hts q.hg q.ht q.he q.hs
  · rw [h]
    exact pe_compLV o.calm o.nd q
theorem compC_lst {r : Rec} (hR : RecOk r) (o : CxOk k X C Γ W) (elt : Expr) (gs : List Comprehension) (scope : Scope) : ∀ s G v G', evE Γ (compC r C elt gs scope) s G = .ok v G' → ∃ xs, v = .lst xs := fun s G v G' h => by
  rcases compC_ok hR o elt gs scope with q | ⟨tg, iter, ifs, t, it, c, e, rfl, q, _⟩ | ⟨tg, iter, ifs, t, j, c, e, rfl, q, _⟩
  · rw [q, evE] at h; cases h
  · rw [q] at h; exact comp_lst h
  · rw [q] at h; exact compL_lst h
theorem lst_lst {es : Es} : ∀ s G v G', evE Γ (.lst es) s G = .ok v G' → ∃ xs, v = .lst xs := fun s G v G' h => by
  rw [evE] at h
  obtain ⟨vs, G1, _, h⟩ := R.bind_eq_ok h
  cases h
  exact ⟨vs, rfl⟩
theorem compDCe_ok {r : Rec} (hR : RecOk r) (o : CxOk k X C Γ W) (kx vx tg iter : Expr) (scope : Scope) (pos : Pos) : PE X (.DictComp kx vx [⟨tg, iter, [], 0⟩] scope pos) (tE X.K W (evE Γ (compDCe r C kx vx tg iter scope))) := by
  unfold compDCe
  split
  · rename_i q
    obtain ⟨q3, q4⟩ := q
    split
    · rename_i t ht
      split
      · rename_i hts
        have hi' := compI_ok (fun _ _ _ _ l => l.since) Later.refl o (hR k X C Γ W o) tg iter (pi_ofL (hR k X C Γ W o iter).o)
        have hb : BlkOk X.N X.env.scope scope (blkOwn C.N scope) := by rw [o.N, o.sc]; exact blkOk_by q3
        have ht' : ∀ i ∈ tgS t, i ∈ (blkOwn C.N scope).map (·.2) := fun i hi => by
            have := List.all_eq_true.mp hts i hi
            simpa using this
        exact pe_dcompV o.calm o.nd hi' hb ht'
          (fun s H C0 cl fp => compG_ok (o.blk (s := s) (H := H) (C0 := C0) (cl := cl) (fp := fp)) 8 tg t ht)
          (fun s H C0 cl fp => (hR k _ _ _ _ o.blk kx).v) (fun s H C0 cl fp => (hR k _ _ _ _ o.blk vx).v) (fun x => isSet_of q4 X.env x)
      · exact pe_stopK
    · exact pe_stopK
  · exact pe_stopK
theorem partOf_ok {r : Rec} (hr : ∀ e, ExOk X Γ W (r C) e) (e : Option Expr) : PO X e (tP X.K W (partE Γ (partOf r C e).1 (partOf r C e).2)) := by
  cases e with
  | none => exact po_noneK
  | some e => exact po_someK (hr e).v
theorem compCall_ok {r : Rec} (hr : ∀ e, ExOk X Γ W (r C) e) (o : CxOk k X C Γ W) (f : Str) (es : List Expr) (p pos : Pos) : PE X (.Call (.Name f p) es [] pos) (tE X.K W (evE Γ (compCall r C f es))) := by
  unfold compCall
  split
  · rename_i hs
    split
    · rename_i g n ds kw hg
      obtain ⟨h1, h2, h3, a, fd, ps, D, hD, _⟩ := o.glob hg
      subst h3
      split
      · rename_i hl
        cases es with
        | nil =>
          subst hl
          exact pe_call0K D o.room o.tk h1 h2
        | cons e es => exact pe_callK D o.room o.tk h1 (by rw [mkEs_len]; exact hl) (pa_mkV (fun e => (hr e).v) hs) h2 (noStar_cons hs X.env).1 (noStar_any (noStar_cons hs X.env).2)
      · split
        · rename_i hl
          obtain ⟨q1, q2, q3⟩ := hl
          cases es with
          | nil => exact absurd rfl q1
          | cons e es =>
            obtain ⟨us, u1, u2⟩ := hD (ds.length - (n - (e :: es).length)) (by omega)
            exact pe_callKD D o.room o.tk h1 (by rw [mkEs_len, List.length_drop]; omega) u2 u1 (pa_mkV (fun e => (hr e).v) hs) h2 (noStar_cons hs X.env).1 (noStar_any (noStar_cons hs X.env).2)
        · exact pe_stopK
    · rename_i hg
      obtain ⟨h1, _, h3⟩ := o.glob hg
      cases es with
      | nil => exact pe_stopK
      | cons e es =>
        rw [if_neg (List.cons_ne_nil e es)]
        split
        · rename_i b hb
          have hb := bfOf_of hb
          subst hb
          exact pe_bfK o.calm o.room.g (by have := o.room.r.un; omega) o.km h1 h3 (pa_mkO (fun e => (hr e).o) hs) (noStar_cons hs X.env).1 (noStar_any (noStar_cons hs X.env).2)
        · exact pe_stopK
    · exact pe_stopK
  · exact pe_stopK
theorem kw_names {pos : Pos} {env : Env} : ∀ {kws : List Keyword} {ks : List Str}, kws.map (·.arg) = ks.map some →
    (backToKw pos (keywordEach kws env)).all (·.1.isSome) = true ∧ (backToKw pos (keywordEach kws env)).filterMap (·.1) = ks ∧ (backToKw pos (keywordEach kws env)).any (·.1.isNone) = false
  | [], [], _ => ⟨rfl, rfl, rfl⟩
  | [], _ :: _, h => by cases h
  | _ :: _, [], h => by cases h
  | ⟨nm, e, p⟩ :: kws, k :: ks, h => by
    injection h with h1 h2
    have h1 : nm = some k := h1
    subst h1
    obtain ⟨i1, i2, i3⟩ := kw_names (pos := pos) (env := env) h2
    refine ⟨?_, ?_, ?_⟩
    · show (true && (backToKw pos (keywordEach kws env)).all (·.1.isSome)) = true
      rw [i1]; rfl
    · show k :: (backToKw pos (keywordEach kws env)).filterMap (·.1) = k :: ks
      rw [i2]
    · show (false || (backToKw pos (keywordEach kws env)).any (·.1.isNone)) = false
      rw [i3]; rfl
theorem pk_mkV {f : Expr → E} (h : ∀ e, PE X e (tE X.K W (evE Γ (f e)))) : ∀ kws : List Keyword, PK X kws (tAs X.K W (evEs Γ (mkEs f (kws.map (·.value)))))
  | [] => pk_nilK
  | ⟨nm, e, p⟩ :: kws => pk_consK (h e) (pk_mkV h kws)
theorem compKw_ok {r : Rec} (hr : ∀ e, ExOk X Γ W (r C) e) (o : CxOk k X C Γ W) (f : Str) (es : List Expr) (kws : List Keyword) (p pos : Pos) : PE X (.Call (.Name f p) es kws pos) (tE X.K W (evE Γ (compKw r C f es kws))) := by
  unfold compKw
  split
  · rename_i g n ds kw hg
    obtain ⟨h1, h2, h3, a, fd, ps, D, _, hK⟩ := o.glob hg
    subst h3
    split
    · rename_i q hq
      have hm := List.mem_of_find?_eq_some hq
      have hp := List.find?_some (p := fun q : Nat × List Str => decide (q.1 = es.length) && decide (kws.map (·.arg) = q.2.map some)) hq
      rw [Bool.and_eq_true, decide_eq_true_eq, decide_eq_true_eq] at hp
      obtain ⟨p1, p2⟩ := hp
      obtain ⟨k1, k2⟩ := hK q hm
      have hlen : kws.length = q.2.length := by
        have := congrArg List.length p2
        rwa [List.length_map, List.length_map] at this
      obtain ⟨i1, i2, i3⟩ := kw_names (pos := pos) (env := X.env) p2
      split
      · rename_i h
        obtain ⟨z1, z2, z3⟩ := h
        cases es with
        | nil => exact absurd rfl z2
        | cons e es =>
          refine pe_callKw (m := q.1) (ks := q.2) D o.room o.tk h1 k2 k1 (by rw [mkEs_len, p1]) (by rw [mkEs_len, List.length_map, hlen]) (by rw [p1, ← hlen]; exact z3) (pa_mkV (fun e => (hr e).v) z1) (pk_mkV (fun e => (hr e).v) kws) i1 i2 h2 (noStar_cons z1 X.env).1 ?_
          rw [noStar_any z1, i3]; rfl
      · split
        · rename_i h
          obtain ⟨rfl, z3⟩ := h
          have p1 : q.1 = 0 := p1
          rw [p1, List.drop_zero] at k1
          rw [p1] at k2
          rw [k1] at i2 hlen
          exact pe_callKw0 D o.room o.tk h1 k2 (by rw [mkEs_len, List.length_map, hlen]) (by rw [← hlen]; exact z3) (pk_mkV (fun e => (hr e).v) kws) i1 i2 h2 i3
        · exact pe_stopK
    · exact pe_stopK
  · exact pe_stopK
theorem compLam_ok {r : Rec} (hR : RecOk r) (o : CxOk k X C Γ W) (f : Str) (params : Arguments) (body : Expr) (scope : Scope) (lpos p pos : Pos) : PE X (.Call (.Name f p) [.Lambda params body scope lpos] [] pos) (tE X.K W (evE Γ (compLam r C f params body scope))) := by
  unfold compLam
  split
  · rename_i ts q pre one hs hl hf
    split
    · rename_i h
      obtain ⟨h1, h2, h3⟩ := h
      have h3 := noParams_of h3
      subst h3
      obtain ⟨g1, g2, g3⟩ := o.glob hf
      have LO := o.lam ts q hl
      obtain ⟨c, hc, tb⟩ := LO.tab
      have LS : LamX.LamS C.sc scope := LamX.lamS_by h2
      exact pe_tri g1 g2 g3 (o.room.mono LO.one) o.km tb hc LO.qual (fun G ht => tabsAt_mem h1 ht) (by rw [o.sc]; exact LS) rfl (fun _ _ _ _ _ => rfl) fun env outer s H E f c' => (hR k _ _ _ _ (o.inL hl LS) body).v
    · exact pe_stopK
  · exact pe_stopK
theorem compDict_ok {r : Rec} (hR : RecOk r) (o : CxOk k X C Γ W) (f : Str) (es : List Expr) (p pos : Pos) : PE X (.Call (.Name f p) es [] pos) (tE X.K W (evE Γ (compDict r C f es))) := by
  have hr := hR k X C Γ W o
  unfold compDict
  split
  · exact compLam_ok hR o _ _ _ _ _ _ _
  · split
    · rename_i h
      obtain ⟨rfl, h1⟩ := h
      split
      · rename_i ks vs hx
        obtain ⟨g1, g2, d, g3, g4⟩ := o.glob hx
        exact pe_dcon (o.free h1).1 (o.free h1).2 g1 g3 g2 g4
      · exact compCall_ok hr o _ _ _ _
    · exact compCall_ok hr o _ _ _ _
  · split
    · rename_i h
      obtain ⟨rfl, h1, rfl, h2, hs⟩ := h
      exact pe_zipLK o.calm (o.free h1).1 (o.free h1).2 (o.free h2).1 (o.free h2).2 (pa_mkV (fun e => (hr e).v) hs) (noStar_cons hs X.env).1 (noStar_any (noStar_cons hs X.env).2)
    · exact compCall_ok hr o _ _ _ _
  · exact compCall_ok hr o _ _ _ _
theorem compIsi_ok {r : Rec} (hr : ∀ e, ExOk X Γ W (r C) e) (o : CxOk k X C Γ W) (f : Str) (a : Expr) (t : Str) (p p2 pos : Pos) (hf : isIsi f = true) : PE X (.Call (.Name f p) [a, .Name t p2] [] pos) (tE X.K W (evE Γ (compIsi r C f a t))) := by
  have hf := eq_of_beq hf
  subst hf
  unfold compIsi
  split
  · rename_i h
    obtain ⟨h1, h2, h3⟩ := h
    split
    · rename_i ty ht
      obtain ⟨ht, hn⟩ := tyOf_of ht
      subst ht
      refine pe_isiK (o.free h1).1 (o.free h1).2 hn (o.free h2).1 (o.free h2).2 (hr a).o ?_
      exact (noStar_cons (es := [.Name (tyS ty) p2]) (by revert h3; cases a <;> first | exact fun _ => rfl | exact fun h => h) X.env).1
    · exact pe_stopK
  · exact pe_stopK
theorem compSub_ok {r : Rec} (hr : ∀ e, ExOk X Γ W (r C) e) (o : CxOk k X C Γ W) (a i : Expr) (pos : Pos) (hp : PlainIx i) : PE X (.Subscript a i pos) (tE X.K W (evE Γ (compSub r C a i))) := by
  have gen : PE X (.Subscript a i pos) (tE X.K W (evE Γ (.idx (r C .o a) (r C .v i)))) := pe_idxK (by have := o.un; omega) (hr _).o (hr _).v hp
  unfold compSub
  split
  · split
    · rename_i ks vs hx
      obtain ⟨g1, g2, d, g3, g4⟩ := o.glob hx
      exact pe_dsubK g1 g3 g2 g4 (hr i).v hp
    · exact gen
  · exact gen
theorem noStar_front {e : Expr} {es : List Expr} (h : noStar (e :: es) = true) (env : Env) (r : List Expr) : starEach (e :: r) env = (false, eval e env) :: starEach r env := by
  cases e <;> first | rfl | cases h
theorem compTupS_ok {r : Rec} (hr : ∀ e, ExOk X Γ W (r C) e) (es : List Expr) (x1 : Nat) (pos : Pos) : PE X (.Tuple es x1 pos) (tE X.K W (evE Γ (compTupS r C es))) := by
  unfold compTupS
  split
  · rename_i a b p
    split
    · rename_i h
      exact pe_tupS (hr a).v (hr b).v (by revert h; cases a <;> first | exact fun _ => rfl | exact fun h => nomatch h)
    · exact pe_stopK
  · rename_i a b c p
    split
    · rename_i h
      exact pe_tupS2 (hr a).v (hr b).v (hr c).v (noStar_front h _ _) (noStar_front (noStar_cons h X.env).2 _ _)
    · exact pe_stopK
  · exact pe_stopK
theorem few1' {a : Expr} {cpos : Pos} {env : Env} (h : noStar [a] = true) : ((backTo cpos (starEach [a] env)).all (fun x => !x.1) && (backToKw cpos (keywordEach [] env)).all (fun x => x.1.isSome)
      && decide ([a].length + ([] : List Keyword).length + (if ([] : List Keyword).isEmpty then 0 else 1) < 30)) = true := by
  rw [(noStar_cons h env).1]; rfl
theorem compMeth_ok {r : Rec} (hr : ∀ e, ExOk X Γ W (r C) e) (o : CxOk k X C Γ W) (ob : Expr) (m : Str) (apos : Pos) (es : List Expr) (cpos : Pos) : PE X (.Call (.Attribute ob m apos) es [] cpos) (tE X.K W (evE Γ (compMeth r C ob m apos es cpos))) := by
  unfold compMeth
  split
  · rename_i x p a
    split
    · rename_i j hj
      obtain ⟨z1, z2, z3, z4⟩ := o.slotV hj
      split
      · rename_i h
        obtain ⟨hline, hs⟩ := h
        split
        · rename_i h
          subst h
          exact pe_indexK (pe_varK z1 z2 z3 z4) (hr a).v rfl (few1' hs) hline (noStar_cons hs X.env).1 (noStar_any (noStar_cons hs X.env).2)
        · split
          · rename_i h
            subst h
            exact pe_popR (pe_varK z1 z2 z3 z4) (hr a).v rfl (few1' hs) hline (noStar_cons hs X.env).1 (noStar_any (noStar_cons hs X.env).2)
          · exact pe_stopK
      · exact pe_stopK
    · split
      · rename_i c hc
        obtain ⟨h1, h2, u, v, h3, h4, h5⟩ := o.glob hc
        split
        · rename_i h
          obtain ⟨hline, hs, h⟩ := h
          subst h
          exact pe_tindexK (pe_glob h1 h3 h4 h2) h5 (hr a).v rfl (few1' hs) hline (noStar_cons hs X.env).1 (noStar_any (noStar_cons hs X.env).2)
        · exact pe_stopK
      · exact pe_stopK
  · exact pe_stopK
theorem compRngL_ok {r : Rec} (hr : ∀ e, ExOk X Γ W (r C) e) (o : CxOk k X C Γ W) {f : Str} {es : List Expr} {i : E} {p pos : Pos} (h : compRngL r C f es = some i) : PE X (.Call (.Name f p) es [] pos) (tF X.K W (evE Γ i)) := by
  unfold compRngL at h
  split at h
  · split at h
    · rename_i q
      cases h
      obtain ⟨rfl, rfl, h1, h2, h3⟩ := q
      exact pe_rngL o.calm (o.free h1).1 (o.free h1).2 (o.free h2).1 (o.free h2).2 (hr _).v (star1 h3 X.env)
    · cases h
  · cases h
theorem rngL_lst {i : E} : ∀ s G v G', evE Γ (.rngL i) s G = .ok v G' → ∃ xs, v = .lst xs := fun s G v G' h => by
  rw [evE] at h
  obtain ⟨x, G1, _, h⟩ := R.bind_eq_ok h
  cases x with
  | int n =>
    have h : R.opt ((rngK 0 n).bind fun xs => if xs.length ≤ lineN then some (Val.lst xs) else none) G1 = .ok v G' := h
    cases q : rngK 0 n with
    | none => rw [q] at h; cases h
    | some xs =>
      rw [q] at h
      have h : R.opt (if xs.length ≤ lineN then some (Val.lst xs) else none) G1 = .ok v G' := h
      split at h
      · cases h; exact ⟨xs, rfl⟩
      · cases h
  | _ => cases h
theorem compRngT_ok {r : Rec} (hr : ∀ e, ExOk X Γ W (r C) e) (o : CxOk k X C Γ W) {f : Str} {es : List Expr} {i : E} {p pos : Pos} (h : compRngT r C f es = some i) : PE X (.Call (.Name f p) es [] pos) (tE X.K W (evE Γ i)) := by
  unfold compRngT at h
  split at h
  · split at h
    · rename_i q
      cases h
      obtain ⟨rfl, rfl, h1, h2, h3⟩ := q
      exact pe_rngT o.calm (o.free h1).1 (o.free h1).2 (o.free h2).1 (o.free h2).2 (hr _).v (star1 h3 X.env)
    · split at h
      · rename_i q
        cases h
        obtain ⟨rfl, rfl, h1, h2, h3⟩ := q
        exact peF (pe_rngL o.calm (o.free h1).1 (o.free h1).2 (o.free h2).1 (o.free h2).2 (hr _).v (star1 h3 X.env)) rngL_lst
      · split at h
        · rename_i q
          cases h
          obtain ⟨rfl, rfl, h1, h2, h3⟩ := q
          exact pe_lenSetK o.calm (o.free h1).1 (o.free h1).2 (o.free h2).1 (o.free h2).2 (hr _).v (star1 h3 X.env)
        · cases h
  · cases h
theorem dinOf_some {op : CmpOp} {b : Expr} {neg : Bool} {ks : List Key} {vs : List Val} (h : dinOf C op b = some (neg, ks, vs)) : ∃ x p, b = .Name x p ∧ C.glob x = some (.dic ks vs) ∧ op = dinO neg := by
  unfold dinOf at h
  split at h
  · rename_i x p
    split at h
    · rename_i hop
      split at h
      · rename_i ks' vs' hx
        cases h
        refine ⟨x, p, rfl, hx, ?_⟩
        rcases hop with rfl | rfl <;> rfl
      · cases h
    · cases h
  · cases h
theorem compCmp_ok {r : Rec} (hr : ∀ e, ExOk X Γ W (r C) e) (o : CxOk k X C Γ W) (a b : Expr) (op : CmpOp) (pos : Pos) : PE X (.Compare a [op] [b] pos) (tE X.K W (evE Γ (compCmp r C a op b))) := by
  unfold compCmp
  split
  · rename_i neg ks vs hd
    obtain ⟨x, p, rfl, hx, rfl⟩ := dinOf_some hd
    obtain ⟨g1, g2, d, g3, g4⟩ := o.glob hx
    exact pe_dinK g1 g3 g2 g4 (hr _).v
  · split
    · rename_i h
      exact pe_cmpK o.un (hr _).o (hr _).o h
    · exact pe_stopK
theorem compCmpT_ok {r : Rec} (hr : ∀ e, ExOk X Γ W (r C) e) (o : CxOk k X C Γ W) (a b : Expr) (op : CmpOp) (pos : Pos) : PT X (.Compare a [op] [b] pos) (tT X.K W (evE Γ (compCmp r C a op b))) := by
  unfold compCmp
  split
  · rename_i neg ks vs hd
    obtain ⟨x, p, rfl, hx, rfl⟩ := dinOf_some hd
    obtain ⟨g1, g2, d, g3, g4⟩ := o.glob hx
    exact pt_dinK g1 g3 g2 g4 (hr _).v
  · split
    · rename_i h
      exact pt_cmpK o.un (hr _).o (hr _).o h
    · exact pt_stopK
theorem compV_ok {r : Rec} (hR : RecOk r) (o : CxOk k X C Γ W) (e : Expr) : PE X e (tE X.K W (evE Γ (compV r C e))) := by
  have hr := hR k X C Γ W o
  unfold compV
  split
  · rename_i x p
    split
    · exact pe_stopK
    · split
      · rename_i i hi
        obtain ⟨h1, h2, h3, h4⟩ := o.slotV hi
        exact pe_varK h1 h2 h3 h4
      · split
        · rename_i c hc
          obtain ⟨h1, h2, u, v, h3, h4, h5⟩ := o.glob hc
          exact pe_conK (pe_glob h1 h3 h4 h2) h5
        · exact pe_stopK
  · split
    · rename_i v hv
      exact pe_conOf hv
    · exact pe_stopK
  · split
    · rename_i h
      exact pe_tupK (pa_mkV (fun e => (hr e).v) h.1) (by rw [mkEs_len]; exact h.2)
    · exact compTupS_ok hr _ _ _
  · split
    · rename_i h
      exact peF (pe_lstK (pa_mkV (fun e => (hr e).v) h.1) (by rw [mkEs_len]; exact h.2)) lst_lst
    · exact pe_stopK
  · exact pe_binK (hr _).o (hr _).o
  · exact pe_negK (hr _).v
  · exact pe_notK (hr _).o
  · exact compCmp_ok hr o _ _ _ _
  · split
    · rename_i h
      exact pe_cmp2K o.un (hr _).o (hr _).o (hr _).o h
    · exact pe_stopK
  · exact pe_one (hr _).v
  · exact pe_andK (hr _).v (hr _).v
  · exact pe_orK (hr _).v (hr _).v
  · exact pe_iteK (hr _).t (hr _).v (hr _).v
  · exact pe_sliceK (hr _).o (partOf_ok hr _) (partOf_ok hr _)
  · exact pe_sliceRK (hr _).o (partOf_ok hr _) (po_someK (hr _).v)
  · split
    · rename_i h
      exact compSub_ok hr o _ _ _ (plainIx_of h)
    · exact pe_stopK
  · exact compDCe_ok hR o _ _ _ _ _ _
  · exact compMeth_ok hr o _ _ _ _ _
  · split
    · rename_i hf
      exact compIsi_ok hr o _ _ _ _ _ _ hf
    · split
      · rename_i i hi
        exact compRngT_ok hr o hi
      · exact compDict_ok hR o _ _ _ _
  · exact compKw_ok hr o _ _ _ _ _
  · exact peF (pe_compC hR o _ _ _ _) (compC_lst hR o _ _ _)
  · split
    · exact pe_dval
    · exact pe_dnew
  · exact pe_stopK
theorem compF_ok {r : Rec} (hR : RecOk r) (o : CxOk k X C Γ W) (e : Expr) : PE X e (tF X.K W (evE Γ (compF r C e))) := by
  have hr := hR k X C Γ W o
  unfold compF
  split
  · split
    · rename_i h
      exact pe_lstK (pa_mkV (fun e => (hr e).v) h.1) (by rw [mkEs_len]; exact h.2)
    · exact pf_stopK
  · exact pe_binF (hr _).o (hr _).o
  · exact pe_sliceF (hr _).o (partOf_ok hr _) (partOf_ok hr _)
  · rename_i f p es pos
    split
    · rename_i i hi
      exact compRngL_ok hr o hi
    split
    · rename_i h
      obtain ⟨h1, h2, h3⟩ := h
      split
      · rename_i b hb
        have hb := bfOf_of hb
        subst hb
        cases es with
        | nil => exact absurd rfl h2
        | cons e es => exact pe_bfF o.calm o.room.g (by have := o.room.r.un; omega) o.km (o.free h3).1 (o.free h3).2 (pa_mkO (fun e => (hr e).o) h1) (noStar_cons h1 X.env).1 (noStar_any (noStar_cons h1 X.env).2)
      · exact pf_stopK
    · exact pf_stopK
  · exact pe_compC hR o _ _ _ _
  · exact pf_stopK
theorem pw_of {op : BoolOp} {vs : List Expr} {p : Pos} {t : L2.TT} (h : PT X (.BoolOp op vs p) t) : PW X (.BoolOp op vs p) t := ⟨fun wh pins s σ H Q I q => h.run pins s σ H Q I q⟩
theorem pt_of {e : Expr} {t : L2.TT} (h : PW X e t) : PT X e t := ⟨fun pins s σ H Q I q => h.run _ pins s σ H Q I q⟩
theorem compT_ok {r : Rec} (hR : RecOk r) (o : CxOk k X C Γ W) (e : Expr) : PT X e (tT X.K W (evE Γ (compT r C e))) := by
  have hr := hR k X C Γ W o
  unfold compT
  split
  · exact compCmpT_ok hr o _ _ _ _
  · split
    · rename_i h
      exact pt_cmp2K o.un (hr _).o (hr _).o (hr _).o h
    · exact pt_stopK
  · exact pt_notK (hr _).t
  · rename_i op a p
    cases op with
    | And => exact pt_of (pw_and1 (hr _).t)
    | Or => exact pt_of (pw_or1 (hr _).t)
  · exact pt_of (pw_andK (hr _).t (pw_of (hr _).t))
  · exact pt_of (pw_orK (hr _).t (pw_of (hr _).t))
  · split
    · rename_i h
      exact pt_valK (hr _).o fun whole => plainT_of h X.env whole
    · exact pt_stopK
theorem hot_ok {r : Rec} (hR : RecOk r) (o : CxOk k X C Γ W) (e : Expr) : PE X e (tE X.K W (evE Γ (compHot r C e))) := by
  unfold compHot
  split
  · exact pe_heapK (compF_ok hR o e)
  · exact compV_ok hR o e
theorem compO_ok {r : Rec} (hR : RecOk r) (o : CxOk k X C Γ W) (e : Expr) : PE X e (tO X.K W (evE Γ (compO r C e))) := by
  unfold compO
  split
  · split
    · split
      · rename_i i hi
        obtain ⟨h1, h2, h3, h4⟩ := o.slotV hi
        exact pe_ownK h1 h2 h3 h4
      · exact po_stopK
    · exact peO (compV_ok hR o _)
  · exact peO (hot_ok hR o _)
theorem step_ok {r : Rec} (hR : RecOk r) : RecOk (compStep r) := fun k X C Γ W o e => ⟨hot_ok hR o e, compO_ok hR o e, compF_ok hR o e, compT_ok hR o e⟩
theorem comp_ok : ∀ n : Nat, RecOk (comp n)
  | 0 => fun k X C Γ W o e => ⟨pe_stopK, po_stopK, pf_stopK, pt_stopK⟩
  | n + 1 => step_ok (comp_ok n)
end Fx

namespace Fx
open PySem PySem.Spec PyProof.Rows L2
theorem swC_ok {ts vs : List Expr} {k k2 : Nat} {p p2 : Pos} {env : Env} {r : Option (List Str)} (h : swC ts vs env.scope = some r) : swappedStores [.Tuple ts k p] (.Tuple vs k2 p2) env = pure r := by
  unfold swC at h
  split at h
  · cases h
  · rename_i hk
    have hk : env.scope.kind = .function := Classical.not_not.mp hk
    have hb : env.blockKind = .function := by unfold Env.blockKind; rw [hk]; rfl
    unfold swappedStores
    simp only [hb, bne_self_eq_false, Bool.or_false, pure_bind]
    split at h
    · rename_i h1
      cases h
      rw [if_pos h1]
    · rename_i h1
      rw [if_neg h1]
      have hst : (vs.any fun x => match x with | .Starred .. => true | _ => false) = vs.any isStarE := rfl
      have hnm : (List.filterMap (fun x => match x with
              | Expr.Name id pos => if (env.kindOf id == some NameKind.local && pos.line == (Option.map (fun x => x.pos.line) ts.head?).getD 0) = true then some id else none
              | x => none) ts) = swNames ts env.scope := rfl
      change (if (vs.any isStarE) = true then (pure none : Sem (Option (List Str))) else if ((swNames ts env.scope).length != ts.length || (swNames ts env.scope).eraseDups.length != (swNames ts env.scope).length) = true then pure none else if vs.all (foldedForSure 8) = true then pure none else if vs.all (constantsAlone 8) = true then _ else pure (some (swNames ts env.scope))) = pure r
      split at h
      · rename_i h2
        cases h
        rw [if_pos h2]
      · rename_i h2
        rw [if_neg h2]
        split at h
        · rename_i h3
          cases h
          rw [if_pos h3]
        · rename_i h3
          rw [if_neg h3]
          split at h
          · rename_i h4
            cases h
            rw [if_pos h4]
          · rename_i h4
            rw [if_neg h4]
            split at h
            · cases h
            · rename_i h5
              cases h
              rw [if_neg h5]
theorem swA_ok {tg e : Expr} {env : Env} {r : Option (List Str)} (h : swA tg e env.scope = some r) : swappedStores [tg] e env = pure r := by
  unfold swA at h
  split at h
  · exact swC_ok h
  · cases h
  · rename_i h1 h2
    cases h
    unfold swappedStores
    cases tg with
    | Tuple a b c =>
      cases e with
      | Tuple _ _ _ => exact (h2 _ _ _ _ _ _ rfl rfl).elim
      | _ => rfl
    | List a b => exact (h1 _ _ rfl).elim
    | _ => rfl

variable {X : Cx} {W : WX} {Γ : Calls} {C : CC} {k : Nat}
structure SxOk (k : Nat) (X : Cx) (C : CC) (Γ : Calls) (W : WX) : Prop extends CxOk k X C Γ W where
  own : PassesOwn (model X.prog X.w) X.A X.env X.xe
  two : 2 ≤ k
theorem notComp_sw {e : Expr} (h : isComp e = false) (t : Option Expr) (l : Nat) (env : Env) : swapsWith e t l env = pure false := by
  cases e <;> first | rfl | cases h
theorem notComp_sole {e tg : Expr} (h : isComp e = false) (l : Nat) (env : Env) : swapsWithSole [tg] e l env = pure false := notComp_sw h (some tg) l env
theorem bool_false {b : Bool} (h : ¬ b = true) : b = false := by cases b <;> simp_all
theorem assign1 {tg : Expr} (h : noStar [tg] = true) (env : Env) : (assignEach [tg] env).map (·.2) = [assign tg env] := by rw [(noStar_assign h env).1]; rfl
theorem sub_assign {o i : Expr} {p : Pos} {env : Env} (h : plainIx i = true) (v : Value) : assign (.Subscript o i p) env v = (do
      let ov ← holding [v] (eval o env)
      let iv ← holding [v, ov] (eval i env)
      standAt p
      holding [v, ov, iv] (setItem ov iv v)
      release [v, ov, iv] []) := by
  cases i <;> first | rfl | cases h
theorem few1 {a : Expr} {cpos : Pos} {env : Env} (h : noStar [a] = true) : ((backTo cpos (starEach [a] env)).all (fun x => !x.1) && (backToKw cpos (keywordEach [] env)).all (fun x => x.1.isSome)
      && decide ([a].length + ([] : List Keyword).length + (if ([] : List Keyword).isEmpty then 0 else 1) < 30)) = true := by
  rw [(noStar_cons h env).1]; rfl
theorem noStar_name {x : Str} {p : Pos} : noStar [.Name x p] = true := rfl
theorem compPT_ok {r : Rec} (hr : ∀ e, ExOk X Γ W (r C) e) (o : CxOk k X C Γ W) : ∀ (es : List Expr) (ts : PTgs), noStar es = true → compPT r C es = some ts → PGs X es (gPs X.K Γ ts) ∧ es.length = ts.len
  | [], ts, _, h => by cases h; exact ⟨pgs_nilP, rfl⟩
  | e :: es, ts, hs, h => by
    rw [compPT] at h
    cases q : compPT r C es with
    | none => rw [q] at h; cases h
    | some t2 =>
      rw [q] at h
      obtain ⟨h1, h2⟩ := noStar_assign hs X.env
      obtain ⟨i1, i2⟩ := compPT_ok hr o es t2 h2 q
      have h : compPT1 r C t2 e = some ts := h
      unfold compPT1 at h
      split at h
      · rename_i x p _
        cases q1 : C.slotL x with
        | none => rw [q1] at h; cases h
        | some i =>
          rw [q1] at h
          cases h
          obtain ⟨z1, z2, z3⟩ := o.slotL q1
          exact ⟨pgs_nameP o.nd z1 z2 z3 i1 (by rw [h1]; rfl), by rw [List.length_cons, i2]; rfl⟩
      · rename_i x p i p2 _
        split at h
        · rename_i hp
          split at h
          · cases q1 : C.slotV x with
            | none => rw [q1] at h; cases h
            | some j =>
              rw [q1] at h
              cases h
              obtain ⟨z1, z2, z3, z4⟩ := o.slotV q1
              exact ⟨pgs_itemPO z1 z2 z3 z4 (hr i).v i1 (by rw [h1]; rfl) (sub_assign hp), by rw [List.length_cons, i2]; rfl⟩
          · cases q1 : C.slotV x with
            | none => rw [q1] at h; cases h
            | some j =>
              rw [q1] at h
              cases h
              obtain ⟨z1, z2, z3, z4⟩ := o.slotV q1
              exact ⟨pgs_itemP (by have := o.un; omega) (pe_varK z1 z2 z3 z4) (hr i).v i1 (by rw [h1]; rfl) (sub_assign hp), by rw [List.length_cons, i2]; rfl⟩
        · cases h
      · cases h
theorem comp_name {r : Rec} (hR : RecOk r) (o : CxOk k X C Γ W) {y : Str} {py pos : Pos} {e : Expr} {i : Nat} (hi : C.slotL y = some i) (hsw : swComp y py e C.sc = true) :
    PS X (.Assign [.Name y py] e pos) (tS X.K W (evS Γ (compName r C y i e))) := by
  obtain ⟨h1, h2, h3⟩ := o.slotL hi
  unfold swComp at hsw
  split at hsw
  · rename_i elt gs scope p2
    simp only [Bool.and_eq_true, decide_eq_true_eq, Bool.not_eq_true'] at hsw
    obtain ⟨⟨⟨a1, a2⟩, a3⟩, a4⟩ := hsw
    show PS X (.Assign [.Name y py] (.ListComp elt gs scope p2) pos) (tS X.K W (evS Γ (if C.isOwn y = true then .asgOwn i (compC r C elt gs scope) else .asg (.name i) (compC r C elt gs scope))))
    have st : ∀ (i : Nat), PS X (.Assign [.Name y py] (.ListComp elt gs scope p2) pos) (tS X.K W (evS Γ (.asg (.name i) .stop))) := fun i => ⟨fun pins s σ H Q I ⟨M, G, st, hh, hst, hm⟩ => by rw [evS, evE] at hm; exact hm.elim⟩
    have st2 : ∀ (i : Nat), PS X (.Assign [.Name y py] (.ListComp elt gs scope p2) pos) (tS X.K W (evS Γ (.asgOwn i .stop))) := fun i => ⟨fun pins s σ H Q I ⟨M, G, st, hh, hst, hm⟩ => by rw [evS, evE] at hm; exact hm.elim⟩
    rcases compC_ok hR o elt gs scope with h | ⟨tg, iter, ifs, t, it, c, e, rfl, h, q⟩ | ⟨tg, iter, ifs, t, j, c, e, rfl, h, q⟩
    · rw [h]
      split
      · exact st2 i
      · exact st i
    · rw [h]
      have hk : X.env.scope.kind = .function := by rw [o.sc]; exact a3
      have hl : X.env.scope.names.lookup y = some .local := by rw [o.sc]; exact a4
      have sw : swapsWith (.ListComp elt [⟨tg, iter, ifs, 0⟩] scope p2) (some (.Name y py)) pos.line X.env = pure true := sw_true hk hl a1 a2
      split
      · exact ps_compO o.calm o.nd h1 hl sw q.hi q.ok q.hts q.hg q.ht q.he q.hs
      · exact ps_compV o.calm o.nd h1 hl sw q.hi q.ok q.hts q.hg q.ht q.he q.hs
    · rw [h]
      have hk : X.env.scope.kind = .function := by rw [o.sc]; exact a3
      have hl : X.env.scope.names.lookup y = some .local := by rw [o.sc]; exact a4
      have sw : swapsWith (.ListComp elt [⟨tg, iter, ifs, 0⟩] scope p2) (some (.Name y py)) pos.line X.env = pure true := sw_true hk hl a1 a2
      split
      · exact ps_compLO o.calm o.nd h1 hl sw q
      · exact ps_compLV o.calm o.nd h1 hl sw q
  · cases hsw
theorem compDC_ok {r : Rec} (hR : RecOk r) (o : CxOk k X C Γ W) {y : Str} {py pos : Pos} {e : Expr} {i : Nat} (hi : C.slotL y = some i) :
    PS X (.Assign [.Name y py] e pos) (tS X.K W (evS Γ (compDC r C y py i e))) := by
  obtain ⟨h1, h2, h3⟩ := o.slotL hi
  unfold compDC
  split
  · rename_i kx vx tg iter scope p2
    split
    · rename_i h
      obtain ⟨q1, q2, q3, q4⟩ := h
      split
      · rename_i t ht
        split
        · rename_i hts
          have hi' := compI_ok (fun _ _ _ _ l => l.since) Later.refl o (hR k X C Γ W o) tg iter (pi_ofL (hR k X C Γ W o iter).o)
          have hb : BlkOk X.N X.env.scope scope (blkOwn C.N scope) := by rw [o.N, o.sc]; exact blkOk_by q3
          have ht' : ∀ i ∈ tgS t, i ∈ (blkOwn C.N scope).map (·.2) := fun i hi => by
              have := List.all_eq_true.mp hts i hi
              simpa using this
          rcases q1 with q1 | q1
          · unfold swD at q1
            simp only [Bool.and_eq_true, decide_eq_true_eq, Bool.not_eq_true'] at q1
            obtain ⟨⟨⟨a1, a2⟩, a3⟩, a4⟩ := q1
            have hk : X.env.scope.kind = .function := by rw [o.sc]; exact a3
            have hl : X.env.scope.names.lookup y = some .local := by rw [o.sc]; exact a4
            exact ps_dcompV o.calm o.nd h1 hl (sw_trueD hk hl a1 a2) hi' hb ht'
              (fun s H C0 cl fp => compG_ok (o.blk (s := s) (H := H) (C0 := C0) (cl := cl) (fp := fp)) 8 tg t ht)
              (fun s H C0 cl fp => (hR k _ _ _ _ o.blk kx).v) (fun s H C0 cl fp => (hR k _ _ _ _ o.blk vx).v) (fun x => isSet_of q4 X.env x)
          · exact ps_asgK o.nd h1 h2 (pe_dcompV o.calm o.nd hi' hb ht'
              (fun s H C0 cl fp => compG_ok (o.blk (s := s) (H := H) (C0 := C0) (cl := cl) (fp := fp)) 8 tg t ht)
              (fun s H C0 cl fp => (hR k _ _ _ _ o.blk kx).v) (fun s H C0 cl fp => (hR k _ _ _ _ o.blk vx).v) (fun x => isSet_of q4 X.env x)) (sw_falseD (by rw [o.sc]; exact q1)) h3
        · exact ps_stopK
      · exact ps_stopK
    · exact ps_stopK
  · exact ps_stopK
theorem plain_of (o : CxOk k X C Γ W) {x : Str} (h : C.plain x = true) : X.env.scope.names.lookup x = some .local := by rw [o.sc]; exact of_decide_eq_true h
theorem compAsg_ok {r : Rec} (hR : RecOk r) (o : CxOk k X C Γ W) (tg e : Expr) (pos : Pos) : PS X (.Assign [tg] e pos) (tS X.K W (evS Γ (compAsg r C tg e))) := by
  have hr := hR k X C Γ W o
  unfold compAsg
  split
  · rename_i y py
    split
    · exact ps_stopK
    · rename_i i hi
      obtain ⟨h1, h2, h3⟩ := o.slotL hi
      split
      · split
        · exact compDC_ok hR o hi
        · split
          · rename_i h
            exact comp_name hR o hi h.1
          · exact ps_stopK
      · rename_i hc
        have hc := bool_false hc
        split
        · exact ps_ownK o.nd h1 h2 (hr e).f (notComp_sw hc _ _ _) h3
        · exact ps_asgT (hr e).v (pg_nameK o.nd h1 h2 h3) (notComp_sole hc _ _) (by cases e <;> rfl) rfl
  · rename_i x px i p
    split
    · exact ps_stopK
    · rename_i h
      have hc : isComp e = false := bool_false fun z => h (.inl z)
      have hp : plainIx i = true := by cases q : plainIx i with | true => rfl | false => exact absurd (.inr q) h
      split
      · exact ps_stopK
      · rename_i j hj
        obtain ⟨z1, z2, z3, z4⟩ := o.slotV hj
        split
        · exact ps_setOK z1 z2 z3 z4 (hr e).v (hr i).v (notComp_sole hc _ _) (by cases e <;> rfl) rfl (sub_assign hp)
        · exact ps_setRK (by have := o.un; omega) (hr e).v (pe_varK z1 z2 z3 z4) (hr i).v (notComp_sole hc _ _) (by cases e <;> rfl) rfl (sub_assign hp)
  · rename_i ts kk pt
    split
    · exact ps_stopK
    · rename_i hc
      have hc := bool_false hc
      split
      · exact ps_stopK
      · rename_i x y hsw
        split
        · rename_i x' px y' py a b k2 p2
          split
          · rename_i i j hi hj
            split
            · rename_i h
              obtain ⟨rfl, rfl, hij, hx, hy, hs⟩ := h
              rw [← o.sc] at hsw
              exact ps_asgP2 o.calm o.nd (by rw [o.N]; exact idx_of hi) (by rw [o.N]; exact idx_of hj) hij (plain_of o hx) (plain_of o hy) (pa_mkV (fun e => (hr e).v) hs) (mkEs_len _ _) (swA_ok hsw) (notComp_sole hc _ _)
            · exact ps_stopK
          · exact ps_stopK
        · exact ps_stopK
      · rename_i x y z hsw
        split
        · rename_i x' px y' py z' pz a b c k2 p2
          split
          · rename_i i j l hi hj hl
            split
            · rename_i h
              obtain ⟨rfl, rfl, rfl, hij, hil, hjl, hx, hy, hz, hs⟩ := h
              rw [← o.sc] at hsw
              exact ps_asgP3 o.calm o.nd (by rw [o.N]; exact idx_of hi) (by rw [o.N]; exact idx_of hj) (by rw [o.N]; exact idx_of hl) hij hil hjl (plain_of o hx) (plain_of o hy) (plain_of o hz) (pa_mkV (fun e => (hr e).v) hs) (mkEs_len _ _) (swA_ok hsw) (notComp_sole hc _ _)
            · exact ps_stopK
          · exact ps_stopK
        · exact ps_stopK
      · exact ps_stopK
      · rename_i hsw
        rw [← o.sc] at hsw
        split
        · rename_i t ht
          exact ps_asgT (hr e).v (compG_ok o 8 _ t ht) (notComp_sole hc _ _) (swA_ok hsw) rfl
        · split
          · rename_i hs
            split
            · rename_i ps hps
              obtain ⟨i1, i2⟩ := compPT_ok hr o ts ps hs hps
              exact ps_parK o.calm (hr e).v i1 (by rw [noStar_len hs, i2]) (noStar_find hs) (notComp_sole hc _ _) (swA_ok hsw) rfl
            · exact ps_stopK
          · exact ps_stopK
  · exact ps_stopK
theorem compExp_ok {r : Rec} (hR : RecOk r) (o : CxOk k X C Γ W) (e : Expr) (pos : Pos) : PS X (.Expr e pos) (tS X.K W (evS Γ (compExp r C e))) := by
  have hr := hR k X C Γ W o
  unfold compExp
  split
  · exact ps_docK
  · rename_i x p m apos es cpos
    split
    · exact ps_stopK
    · rename_i j hj
      obtain ⟨z1, z2, z3, z4⟩ := o.slotV hj
      split
      · rename_i hline
        split
        · split
          · rename_i h
            obtain ⟨rfl, _⟩ := h
            exact ps_popK z1 z2 z3 z4 hline
          · exact ps_stopK
        · rename_i a
          split
          · rename_i hs
            split
            · rename_i h
              subst h
              split
              · exact ps_appK z1 z2 z3 z4 (hr a).v (few1 hs) hline (noStar_cons hs X.env).1 (noStar_any (noStar_cons hs X.env).2)
              · exact ps_appRK (pe_varK z1 z2 z3 z4) (hr a).v rfl (few1 hs) hline (noStar_cons hs X.env).1 (noStar_any (noStar_cons hs X.env).2)
            · split
              · rename_i h
                obtain ⟨rfl, _⟩ := h
                exact ps_extK z1 z2 z3 z4 (hr a).v (few1 hs) hline (noStar_cons hs X.env).1 (noStar_any (noStar_cons hs X.env).2)
              · exact ps_stopK
          · exact ps_stopK
        · exact ps_stopK
      · exact ps_stopK
  · split
    · exact ps_stopK
    · rename_i hc
      exact ps_expK (hr e).v (notComp_sw (bool_false hc) _ _ _)
theorem compRet_ok {r : Rec} (hR : RecOk r) (o : CxOk k X C Γ W) (e : Expr) (pos : Pos) : PS X (.Return (some e) pos) (tS X.K W (evS Γ (compRet r C e))) := by
  have hr := hR k X C Γ W o
  unfold compRet
  split
  · split
    · split
      · rename_i j hj
        obtain ⟨z1, z2, z3, z4⟩ := o.slotV hj
        exact ps_retOK z1 z2 z3 z4
      · exact ps_stopK
    · exact ps_retK (hr _).v
  · exact ps_retK (hr _).v
theorem compSet_ok {r : Rec} (hR : RecOk r) (o : CxOk k X C Γ W) (tg e : Expr) (pos : Pos) : PS X (.Assign [tg] e pos) (tS X.K W (evS Γ (compSet r C tg e))) := by
  unfold compSet
  split
  · rename_i x p m apos cpos
    split
    · rename_i h
      obtain ⟨rfl, _, hl⟩ := h
      split
      · rename_i j t hj ht
        obtain ⟨z1, z2, z3, z4⟩ := o.slotV hj
        refine ps_popT z1 z2 z3 z4 hl (compG_ok o 8 tg t ht) rfl ?_ (compG_star ht X.env)
        unfold swappedStores
        cases tg <;> rfl
      · exact ps_stopK
    · exact compAsg_ok hR o tg _ pos
  · exact compAsg_ok hR o tg _ pos
theorem mkSs_ok {f : Stmt → S} (h : ∀ s, PS X s (tS X.K W (evS Γ (f s)))) : ∀ b : List Stmt, PSs X b (tS X.K W (evSs Γ (mkSs f b)))
  | [] => pss_nilK
  | s :: b => pss_consK (h s) (mkSs_ok h b)
theorem compRaise_ok {r : Rec} (hr : ∀ e, ExOk X Γ W (r C) e) (o : CxOk k X C Γ W) (h2 : 2 ≤ k) (e : Expr) (pos : Pos) : PS X (.Raise (some e) none pos) (tS X.K W (evS Γ (compRaise r C e))) := by
  unfold compRaise
  split
  · split
    · rename_i hg
      obtain ⟨g1, g2, g3⟩ := o.glob hg
      exact ps_raise0 o.calm o.tk g3 g1 g2
    · exact ps_stopK
  · split
    · rename_i hg
      obtain ⟨g1, g2, g3⟩ := o.glob hg
      split
      · rename_i hs
        exact ps_raise1 o.calm o.tk g3 g1 g2 (o.room.r.mono h2) (hr _).v (star1 hs X.env)
      · exact ps_stopK
    · exact ps_stopK
  · exact ps_stopK
theorem compSStep_ok {r : Rec} (hR : RecOk r) (o : SxOk k X C Γ W) {f : Stmt → S} (h : ∀ s, PS X s (tS X.K W (evS Γ (f s)))) (st : Stmt) : PS X st (tS X.K W (evS Γ (compSStep r C f st))) := by
  have o' := o.toCxOk
  have hr := hR k X C Γ W o'
  unfold compSStep
  split
  · exact compRaise_ok hr o' o.two _ _
  · exact ps_retNK
  · exact compRet_ok hR o' _ _
  · exact ps_passK
  · exact ps_breakK
  · exact ps_continueK
  · exact compExp_ok hR o' _ _
  · exact compSet_ok hR o' _ _ _
  · rename_i x p op e pos
    split
    · rename_i i hi
      obtain ⟨h1, h2, h3⟩ := o'.slotL hi
      split
      · rename_i hop
        exact ps_augK hop.1 o.nd h1 h2 (hr e).v h3
      · exact ps_stopK
    · exact ps_stopK
  · rename_i tg it body pos
    split
    · exact ps_stopK
    · rename_i hs
      split
      · rename_i t ht
        split
        · rename_i j hj
          exact ps_forL o.own o.calm (hotName_ok o' hj) (compG_ok o' 8 tg t ht) (mkSs_ok h body) (isSet_of (bool_false hs) X.env)
        · exact ps_forK o.own o.calm (compI_ok (fun _ _ _ _ l => l) Since.refl o' hr tg it (pi_ofS (hr it).v)) (compG_ok o' 8 tg t ht) (mkSs_ok h body) (isSet_of (bool_false hs) X.env)
      · exact ps_stopK
  · exact ps_whileK o.own (hr _).t (mkSs_ok h _)
  · exact ps_ifK (hr _).t (mkSs_ok h _) (mkSs_ok h _)
  · exact ps_stopK
theorem compS_ok (o : SxOk k X C Γ W) : ∀ (n : Nat) (st : Stmt), PS X st (tS X.K W (evS Γ (compS n C st)))
  | 0, _ => ps_stopK
  | n + 1, st => compSStep_ok (comp_ok 60) o (compS_ok o n) st
end Fx

namespace Fx
open PySem PySem.Spec PyProof.Rows L2
def DD.C (gl : List (Str × GK)) (d : DD) : CC := ⟨d.N, d.scope, d.scope, gl, d.own, d.hot, d.lam⟩
def DD.fd (gl : List (Str × GK)) (d : DD) : Fd := ⟨d.ps.length, d.N.length, mkSs (compS 12 (d.C gl)) d.body⟩
def findD (D : List DD) (f : String) : Option DD := D.find? fun d => d.name == f
def progOf (gl : List (Str × GK)) (D : List DD) : Prog := fun f => (findD D f).map (DD.fd gl)
structure DOk (K : PySem.W.Frag) (mg : Str → Option Value) (d : DD) (a : Addr) (fd : FuncData) : Prop where
  glob : mg (Str.ofString d.name) = some (.ref a)
  fun_ : FunD K (Str.ofString d.name) d.qual d.params d.body d.scope (d.dfl.map dvH) [] a fd
  sc : FnScope d.N d.ps d.scope
  binds : Binds K fd d.ps []
  bindsD : ∀ j, j < d.dfl.length → ∃ us, Vals ((d.dfl.drop j).map dvH) us ∧ Binds K fd d.ps us
  kws : ∀ m ∈ d.kw, KwOk K fd d.ps m
def GOk (w : World) (K : PySem.W.Frag) (mg : Str → Option Value) (D : List DD) (x : Str) : GK → Prop
  | .fn f n ds kw => Str.ofString f = x ∧ ∃ d, findD D f = some d ∧ n = d.ps.length ∧ ds = d.dfl ∧ kw = d.kwl
  | .free => mg x = none
  | .con c => ∃ u v, mg x = some u ∧ RelV v u ∧ ∀ M H, Rl K M H c v
  | .dic ks vs => ∃ d, mg x = some (.ref d) ∧ DicOk K w d ks vs
  | .exc c none => XcOk K mg x c
  | .exc c (some fl) => XiOk K mg x c fl
  | .tri pre one hs => TriOk K mg x pre one hs
/-- what a def's lambdas ask -/
def LOk (K : PySem.W.Frag) (mg : Str → Option Value) (base : PySem.Heap) (d : DD) (fd : FuncData) : Prop := ∀ ts q, d.lam = some (ts, q) → q = d.qual ∧ ∃ c, fd.code = .ref c ∧ LamX.TabB base mg c (tabA K q)
variable {K : PySem.W.Frag} {M M' : Mp} {H H' : Hp} {G : Heap}
theorem since_noOw (h : M.ow = fun _ => none) (l : Since M H M' H') : Later M H M'.noOw H' :=
  ⟨l.pre, h.symm, l.xo, l.xo', fun a o hn e => l.keep a o (fun z => z.elim hn fun ⟨i, q⟩ => by rw [h] at q; cases q) e, l.there⟩
theorem HeapR.noOw (hh : HeapR K M G H) : HeapR K M.noOw G H :=
  ⟨⟨hh.ok.nodup, fun i a h => (by cases h), hh.ok.d2, fun i a h => (by cases h), fun i j a h => (by cases h), fun i a h => (by cases h), hh.ok.xth⟩, hh.len, fun n a o h1 h2 => by
    have := hh.obj n a o h1 h2
    cases o with
    | dct ks xs => obtain ⟨vs, e, hl, t⟩ := this; exact ⟨vs, e, hl, t.ext noOw_ext⟩
    | tab f => obtain ⟨h0, ps, e, t⟩ := this; exact ⟨h0, ps, e, t.ext noOw_ext⟩
    | lst xs => obtain ⟨vs, e, t⟩ := this; exact ⟨vs, e, t.ext noOw_ext⟩⟩
theorem start_st {vs : List Val} {us : List V} (N : List Str) (r : Rls K M H vs us) : StoreR K M H (startS N.length vs) (L2.start N us) := by
  unfold startS L2.start
  rw [r.length]
  refine ⟨by simp [r.length], fun i => ?_⟩
  by_cases h : i < vs.length
  · obtain ⟨u, hu, ru⟩ := r.get (List.getElem?_eq_getElem h)
    have hi : i < us.length := by rw [← r.length]; exact h
    rw [List.getD_eq_getElem?_getD, List.getElem?_append_left (by simp; omega), List.getElem?_append_left (by simp; omega), List.getElem?_map, List.getElem?_map, hu, List.getElem?_eq_getElem h]
    exact ⟨u, rfl, ru⟩
  · have e : (vs.map Slot.val ++ List.replicate (N.length - us.length) Slot.no).getD i .no = .no := by
      rw [List.getD_eq_getElem?_getD, List.getElem?_append_right (by simpa using h), List.getElem?_replicate]
      split <;> rfl
    rw [e]
    trivial
theorem fn_step {P : Program} {w : World} {mg : Str → Option Value} {base : PySem.Heap} {gl : List (Str × GK)} {d : DD} {a : Addr} {fd : FuncData} {k : Nat} {Γ : Calls} (O : DOk K mg d a fd) (hL : LOk K mg base d fd) (hM : KM K) (hk : 2 ≤ k)
    (hgl : ∀ X : Cx, X.prog = P → X.w = w → X.K = K → X.mg = mg → X.base = base → ∀ p ∈ gl, GkOk k X Γ p.1 p.2) :
    FnG P w K mg base (CX P w) (k + 1) a fd d.ps (spF K d.ps.length (runB Γ (d.fd gl))) := by
  obtain ⟨oc, od, dV, kV, doc, pm, an, cdv, ct, osl, rfl, lk, hcd, _, _⟩ := O.fun_.ex
  refine ⟨fun vs H Q E h => h.1, fun A outer s H args xs us Q E hrA he hb hv hsp => LamX.run_ofS lk hcd O.sc hrA.r he hb hv hsp.1 fun hr => ?_⟩
  obtain ⟨hlen, M, G, vs, how, hh, r, h⟩ := hsp
  let X : Cx := cxOf (CX P w) P w K mg base d.N d.qual d.scope a cdv A outer s H E
  let W : WX := fun cls dd _ H => E cls dd H
  have o : SxOk k X (d.C gl) Γ W := {
    N := rfl
    nd := O.sc.nd
    sc := rfl
    calm := rfl
    fn := fun _ _ => rfl
    tk := takes_of rfl rfl rfl rfl
    un := by have := hr.un; show (A.deeper _).units + 65 < cLine; omega
    room := ⟨hr, hrA.g⟩
    km := hM
    two := hk
    gl := hgl X rfl rfl rfl rfl rfl
    lam := fun ts q hq => by
      obtain ⟨e1, c, e2, tb⟩ := hL ts q hq
      refine ⟨⟨c, e2, tb⟩, by rw [e1]; rfl, by omega, ?_, ?_⟩
      · have := hrA.r.dp
        show A.depth + 1 + 3 * k + 7 < recursionLimit
        omega
      · have := hrA.r.un
        show A.units + 3 + 16 * k + 210 < cLine
        omega
    own := passes_of rfl }
  refine ⟨tS K W (evSs Γ (mkSs (compS 12 (d.C gl)) d.body)), mkSs_ok (compS_ok o 12) d.body, M, G, startS d.N.length vs, hh, start_st d.N r, ?_⟩
  have hl : vs.length = d.ps.length := by rw [r.length, hlen]
  have h : (if vs.length = d.ps.length then match evSs Γ (mkSs (compS 12 (d.C gl)) d.body) (startS d.N.length vs) G with
    | .ret v G1 => R.ok v G1
    | .next _ G1 => .ok .none G1
    | .exc e _ G1 => .exc e G1
    | _ => .no
  else .no).wp _ _ := h
  rw [if_pos hl] at h
  revert h
  cases evSs Γ (mkSs (compS 12 (d.C gl)) d.body) (startS d.N.length vs) G with
  | no => exact fun h => h.elim
  | brk _ _ => exact fun h => h.elim
  | cont _ _ => exact fun h => h.elim
  | next s1 G1 => exact fun h M' H' st' l hh' _ => h M'.noOw .non H' (since_noOw how l) hh'.noOw .nn
  | ret v G1 => exact fun h M' H' u l hh' r' => h M'.noOw u H' (since_noOw how l) hh'.noOw r'
  | exc e s1 G1 => exact fun h M' H' st' cls dd l hh' _ x => h M'.noOw cls dd H' (since_noOw how l) hh'.noOw (x.ext noOw_ext)
theorem findD_name {D : List DD} {f : String} {d : DD} (h : findD D f = some d) : d ∈ D ∧ d.name = f := by
  refine ⟨List.mem_of_find?_eq_some h, ?_⟩
  have := List.find?_some (p := fun d : DD => d.name == f) h
  exact eq_of_beq this
theorem defs_ok {P : Program} {w : World} {mg : Str → Option Value} {base : PySem.Heap} {D : List DD} {gl : List (Str × GK)} (hM : KM K) (hD : ∀ d ∈ D, ∃ a fd, DOk K mg d a fd) (hgl : ∀ p ∈ gl, GOk w K mg D p.1 p.2) (hL : ∀ d ∈ D, ∀ a fd, DOk K mg d a fd → LOk K mg base d fd) :
    ∀ (k : Nat) (f : String) (d : DD), findD D f = some d → ∃ a fd, DOk K mg d a fd ∧ DefOk P w K mg base (k + 2) f d.ps.length (callN (progOf gl D) k f) a fd d.ps
  | 0, f, d, hd => by
    obtain ⟨hm, hn⟩ := findD_name hd
    obtain ⟨a, fd, O⟩ := hD d hm
    refine ⟨a, fd, O, by rw [← hn]; exact O.glob, O.fun_.kp, rfl, O.binds, ⟨fun vs H Q E h => h.1, fun A outer s H args us vs Q E hr he hb hv ⟨_, M, G, ws, _, _, _, h⟩ => ?_⟩⟩
    exact h.elim
  | k + 1, f, d, hd => by
    obtain ⟨hm, hn⟩ := findD_name hd
    obtain ⟨a, fd, O⟩ := hD d hm
    refine ⟨a, fd, O, by rw [← hn]; exact O.glob, O.fun_.kp, rfl, O.binds, ?_⟩
    have e : callN (progOf gl D) (k + 1) f = runB (callN (progOf gl D) k) (d.fd gl) := by
      funext vs G
      show (match (findD D f).map (DD.fd gl) with
        | some d => runB (callN (progOf gl D) k) d vs G
        | none => .no) = _
      rw [hd]; rfl
    rw [e]
    have ih := defs_ok (P := P) (w := w) (base := base) hM hD hgl hL k
    refine fn_step O (hL d hm a fd O) hM (Nat.le_add_left 2 k) fun X h1 h2 h3 h4 h5 p hp => ?_
    have q := hgl p hp
    subst h1 h2 h3 h4 h5
    obtain ⟨x, g⟩ := p
    cases g with
    | fn f n ds kw =>
      obtain ⟨e1, d2, e2, e3, e4, e5⟩ := q
      subst e3 e4 e5
      obtain ⟨a2, fd2, o2, q2⟩ := ih f d2 e2
      refine ⟨e1, a2, fd2, d2.ps, q2, o2.bindsD, fun z hz => ?_⟩
      obtain ⟨m, hm, rfl⟩ := List.mem_map.mp hz
      exact ⟨rfl, o2.kws m hm⟩
    | free => exact q
    | con c => exact q
    | dic ks vs => exact q
    | exc c f => cases f <;> exact q
    | tri pre one hs => exact q
end Fx

namespace Fx
open PySem PySem.Spec PyProof.Rows L2
/-- what is known of the law's promise at the head's heap -/
def LawG (l : PySem.W.OpenLaw) (w : World) (K : PySem.W.Frag) (CX : CXT) (k n : Nat) (x : Str) (mg : Str → Option Value) (fa : Addr) (h : PySem.Heap) : Prop :=
  ∃ (fd : FuncData) (cs : List (Addr × Addr)) (sp : Sp),
    (∀ p ∈ cs, h.get? p.2 = some { cls := .none, data := .fields #[] }) ∧ (∀ p ∈ cs, K.lookup p.2 = Option.none) ∧ (∀ p ∈ cs, PySem.W.CodeHd h p.1 p.2) ∧
    (∀ (s : Shared) (u : Value), BindsTo s fd ⟨[u], []⟩ [(x, u)]) ∧
    (∀ (H : Hp) (a : Addr) (ns : List Int), ns.length ≤ n → (∀ z ∈ ns, Builtin.Int.intBits z ≤ 1048576) →
      (∀ p ∈ cs, H p.2 = some (.tbl #[])) → SqL K H a (ns.map V.int) → sp [.ref a] H (fun v _ => v = .bl true) fun _ _ _ => False) ∧
    ∀ base : PySem.Heap, K.In base → base.Ns mainGlobals mg →
      (∀ p ∈ cs, LamX.TabB base mg p.1 p.2) → FnG l.prog w K mg base CX k fa fd [x] sp
/-- the state in which the law is called -/
structure Gd (K : PySem.W.Frag) (mg mb : Str → Option Value) (cs : List (Addr × Addr)) (s : Shared) (a : Addr) (vs : List Value) (ns : List Int) : Prop where
  kin : K.In s.heap
  main : s.heap.Ns mainGlobals mg
  bu : s.heap.Ns builtinsNs mb
  bb : ∀ x : Str, x ≠ "__name__" → mb x = bootBuiltins x
  lim : s.heap.NoLimit
  gens : s.gens = #[]
  tab : ∀ p ∈ cs, s.heap.get? p.2 = some { cls := .none, data := .fields #[] }
  out : ∀ p ∈ cs, K.lookup p.2 = Option.none
  code : ∀ p ∈ cs, PySem.W.CodeHd s.heap p.1 p.2
  bm : ∃ (bm : Addr) (ob : PySem.Obj), mg "__builtins__" = some (.ref bm) ∧ bm ≠ builtinsNs ∧
    s.heap.get? bm = some ob ∧ ob.cls = .type "module" ∧ ob.dict = some builtinsNs ∧ ob.data = .plain
  scr : s.heap.get? a = some { cls := .type "list", data := .seq vs.toArray }
  nums : IntsAre vs ns
  len : ns.length ≤ sizeLine
/-- nothing but the script and the tables is tracked -/
structure Hd0 (K : PySem.W.Frag) (cs : List (Addr × Addr)) (a : Addr) (H : Hp) : Prop where
  tb : ∀ p ∈ cs, H p.2 = some (.tbl #[])
  only : ∀ b u, H b = some u → (b = a ∧ K.lookup a = Option.none ∧ ∃ o xs, u = .frz o (.lst xs)) ∨ ∃ p ∈ cs, b = p.2
section
variable {P : Program} {w : World} {K : PySem.W.Frag} {mg mb : Str → Option Value} {cs : List (Addr × Addr)} {s : Shared} {a : Addr} {vs : List Value} {ns : List Int} {H : Hp}
/-- what is no list and no empty table stands in the base -/
theorem Gd.alive (g : Gd K mg mb cs s a vs ns) (h : Hd0 K cs a H) {b : Addr} {o : PySem.Obj} (e : s.heap.get? b = some o) (h1 : ∀ xs n, o.data ≠ .seq xs n) (h2 : o.data ≠ .fields #[]) : (hidT s.heap H).get? b = some o := by
  refine hidT_get e ?_
  cases q : H b with
  | none => rfl
  | some u =>
    rcases h.only b u q with ⟨z, _⟩ | ⟨p, hp, z⟩
    · have e2 := g.scr
      rw [← z, e] at e2
      cases e2
      exact absurd rfl (h1 _ _)
    · have e2 := g.tab p hp
      rw [← z, e] at e2
      cases e2
      exact absurd rfl h2
theorem Gd.ns_ (g : Gd K mg mb cs s a vs ns) (h : Hd0 K cs a H) {b : Addr} {m : Str → Option Value} (e : s.heap.Ns b m) : (hidT s.heap H).Ns b m := by
  obtain ⟨o, es, ep, e1, e2, r⟩ := e
  exact ⟨o, es, ep, g.alive h e1 (fun _ _ z => by rw [e2] at z; cases z) (fun z => by rw [e2] at z; cases z), e2, r⟩
theorem Gd.kin_ (g : Gd K mg mb cs s a vs ns) (h : Hd0 K cs a H) : K.In (hidT s.heap H) := by
  intro b o e
  refine hidT_get (g.kin b o e) ?_
  cases q : H b with
  | none => rfl
  | some u =>
    rcases h.only b u q with ⟨z, z2, _⟩ | ⟨p, hp, z⟩
    · rw [z, z2] at e; cases e
    · rw [z, g.out p hp] at e; cases e
theorem Gd.tabs (g : Gd K mg mb cs s a vs ns) (h : Hd0 K cs a H) : ∀ p ∈ cs, LamX.TabB (hidT s.heap H) mg p.1 p.2 := by
  intro p hp
  have tp := g.tab p hp
  have gm : mainGlobals ≠ p.2 := fun z => by
    obtain ⟨o, es, ep, e, hd, _⟩ := g.main
    rw [z, tp] at e
    cases e; cases hd
  refine ⟨?_, ?_, gm⟩
  · have c := g.code p hp
    unfold PySem.W.CodeHd at c ⊢
    obtain ⟨o, us, fi, tf, fl, tg, iF, tx, tt, e1, r1, r2, r3, rs⟩ := c
    refine ⟨o, us, fi, tf, fl, tg, iF, tx, tt, g.alive h e1 (fun _ _ z => by rw [r2] at z; cases z) (fun z => ?_), r1, r2, r3, rs⟩
    rw [r2] at z
    cases z
    simp at r3
  · obtain ⟨bm, ob, b1, b2, b3, b4, b5, b6⟩ := g.bm
    refine ⟨bm, ob, b1, b2, fun z => ?_, fun z => ?_, g.alive h b3 (fun _ _ z => by rw [b6] at z; cases z) (fun z => by rw [b6] at z; cases z), b4, b5, b6⟩
    · obtain ⟨o, es, ep, e, hd, _⟩ := g.main
      rw [← z, b3] at e
      cases e
      rw [b6] at hd; cases hd
    · rw [z, tp] at b3
      cases b3
      cases b6
theorem Gd.env0 (g : Gd K mg mb cs s a vs ns) (h : Hd0 K cs a H) (ok : HOk P w H s.heap) : Env0 P w K mg (hidT s.heap H) callerA [] s H where
  frames := rfl
  mod := by
    obtain ⟨mc, l1, l2⟩ := g.lim
    exact ⟨g.kin_ h, g.ns_ h g.main, ⟨mb, g.ns_ h g.bu, g.bb⟩, ⟨mc, g.ns_ h l1, l2⟩⟩
  bs := fun b o e => of_hidT e
  bsz := Nat.le_of_eq (hidT_size _ _)
  funs := trivial
  frf := fun b hb => nomatch hb
  hok := ok
  bare := .of_eq g.gens
/-- what the call has left of the old things -/
theorem Gd.old (g : Gd K mg mb cs s a vs ns) (h : Hd0 K cs a H) (ok : HOk P w H s.heap) {H' : Hp} {s' : Shared} (un : Un [] [] H H' s.heap s'.heap) (ok' : HOk P w H' s'.heap) : OldK s.heap s'.heap := by
  have grown : ∀ p ∈ cs, ∃ more : Array Value, s'.heap.get? p.2 = some { cls := .none, data := .fields more } := fun p hp => by
    obtain ⟨more, z⟩ := un.tbls p.2 #[] (h.tb p hp)
    exact ⟨_, ok' p.2 _ z⟩
  have same : ∀ b o, s.heap.get? b = some o → (¬ ∃ p ∈ cs, b = p.2) → s'.heap.get? b = some o := fun b o e nb => by
    cases q : H b with
    | none => exact un.keep b o e q (fun z => nomatch z) (fun z => nomatch z)
    | some u =>
      rcases h.only b u q with ⟨_, _, ob, xs, rfl⟩ | z
      · have e1 := (ok b _ q).1
        have e2 := (ok' b _ (un.frzs b ob _ q)).1
        rw [e] at e1; cases e1
        exact e2
      · exact absurd z nb
  refine ⟨fun b o e => ?_, fun b o e => ?_⟩
  · by_cases hb : ∃ p ∈ cs, b = p.2
    · obtain ⟨p, hp, rfl⟩ := hb
      obtain ⟨more, hm⟩ := grown p hp
      rw [g.tab p hp] at e
      cases e
      exact .inr (.inl ⟨((g.code p hp).tab (g.tab p hp)).isCodeTable, rfl, #[], more, rfl, by rw [Array.empty_append]; exact hm⟩)
    · exact .inl (same b o e hb)
  · by_cases hb : ∃ p ∈ cs, b = p.2
    · obtain ⟨p, hp, rfl⟩ := hb
      obtain ⟨more, hm⟩ := grown p hp
      exact ⟨_, hm⟩
    · exact ⟨o, same b o e hb⟩
theorem law_callG {CX : CXT} {k : Nat} {fa : Addr} {fd : FuncData} {x : Str} {sp : Sp} (g : Gd K mg mb cs s a vs ns) (hr : RoomG k callerA)
    (F : ∀ base : PySem.Heap, K.In base → base.Ns mainGlobals mg → (∀ p ∈ cs, LamX.TabB base mg p.1 p.2) → FnG P w K mg base CX k fa fd [x] sp)
    (hb : ∀ (s : Shared) (u : Value), BindsTo s fd ⟨[u], []⟩ [(x, u)])
    (hsp : ∀ H : Hp, (∀ p ∈ cs, H p.2 = some (.tbl #[])) → SqL K H a (ns.map V.int) → sp [.ref a] H (fun v _ => v = .bl true) fun _ _ _ => False)
    (hCX : ∀ H e s', CX [] H s (fun _ _ _ => False) e s' → False) :
    codeAny (model P w) callerA (.call (.ref fa) ⟨[.ref a], []⟩) (fun r s' => r = .ok (.ret (.bool true)) ∧ OldK s.heap s'.heap ∧ s'.os = s.os ∧ AllBare s'.gens) s := by
  have main : ∀ H : Hp, Hd0 K cs a H → HOk P w H s.heap → SqL K H a (ns.map V.int) →
      codeAny (model P w) callerA (.call (.ref fa) ⟨[.ref a], []⟩) (fun r s' => r = .ok (.ret (.bool true)) ∧ OldK s.heap s'.heap ∧ s'.os = s.os ∧ AllBare s'.gens) s := by
    intro H h ok sq
    have f := F _ (g.kin_ h) (g.ns_ h g.main) (g.tabs h)
    have c := f.run callerA [] s H ⟨[.ref a], []⟩ [.ref a] [.ref a] (fun v _ => v = .bl true) (fun _ _ _ => False) hr (g.env0 h ok) (hb s _) (.cons rfl .nil) (hsp H h.tb sq)
    refine codeAny_mono c ?_
    intro r s' q
    match r, q with
    | .error e, q => exact (hCX H e s' q).elim
    | .ok (.ret u), q =>
      obtain ⟨v, H', os, bare, un, ok', r', z⟩ := q
      have z : v = .bl true := z
      subst z
      have r' : u = Value.bool true := r'
      subst r'
      exact ⟨rfl, g.old h ok un ok', os, bare⟩
  have rv := vals_ints g.nums
  have ll := g.nums.length
  have nt : ∀ p ∈ cs, a ≠ p.2 := fun p hp z => by
    have e := g.scr
    rw [z, g.tab p hp] at e
    cases e
  have tsome : ∀ b, (∃ p ∈ cs, b = p.2) → s.heap.get? b = some { cls := .none, data := .fields #[] } := fun b ⟨p, hp, e⟩ => by
    rw [e]; exact g.tab p hp
  open Classical in
  cases hk : K.lookup a with
  | some o =>
    have e := g.kin a o hk
    rw [g.scr] at e
    cases e
    refine main (fun b => if ∃ p ∈ cs, b = p.2 then some (.tbl #[]) else Option.none) ⟨fun p hp => if_pos ⟨p, hp, rfl⟩, fun b u e => ?_⟩ (fun b u e => ?_) (.inr ⟨_, vs.toArray, _, hk, rfl, rfl, rfl, by rw [List.size_toArray, ll]; exact g.len, by simpa using rv⟩)
    · by_cases hb : ∃ p ∈ cs, b = p.2
      · exact .inr hb
      · have e := (if_neg hb).symm.trans e
        cases e
    · by_cases hb : ∃ p ∈ cs, b = p.2
      · have e := (if_pos hb).symm.trans e
        cases e
        exact tsome b hb
      · have e := (if_neg hb).symm.trans e
        cases e
  | none =>
    have ia : ¬ ∃ p ∈ cs, a = p.2 := fun ⟨p, hp, z⟩ => nt p hp z
    refine main (fun b => if b = a then some (.frz { cls := .type "list", data := .seq vs.toArray } (.lst (ns.map V.int))) else if ∃ p ∈ cs, b = p.2 then some (.tbl #[]) else Option.none)
      ⟨fun p hp => (if_neg fun z => nt p hp z.symm).trans (if_pos ⟨p, hp, rfl⟩), fun b u e => ?_⟩ (fun b u e => ?_) (.inl (.inr ⟨_, if_pos rfl⟩))
    · by_cases h1 : b = a
      · have e := (if_pos h1).symm.trans e
        cases e
        exact .inl ⟨h1, hk, _, _, rfl⟩
      · have e := (if_neg h1).symm.trans e
        by_cases hb : ∃ p ∈ cs, b = p.2
        · exact .inr hb
        · have e := (if_neg hb).symm.trans e
          cases e
    · by_cases h1 : b = a
      · have e := (if_pos h1).symm.trans e
        cases e
        rw [h1]
        exact ⟨g.scr, by rw [List.length_map]; exact g.len, vs, _, rv, g.scr⟩
      · have e := (if_neg h1).symm.trans e
        by_cases hb : ∃ p ∈ cs, b = p.2
        · have e := (if_pos hb).symm.trans e
          cases e
          exact tsome b hb
        · have e := (if_neg hb).symm.trans e
          cases e
end
end Fx

namespace Fx
open PySem PySem.Spec PyProof.Rows L2
theorem dvD_v (K : PySem.W.Frag) : ∀ ds : List (Option Int), (ds.map dvD).map (He.Dv.v K) = ds.map dvH
  | [] => rfl
  | none :: ds => by rw [List.map_cons, List.map_cons, List.map_cons, dvD_v K ds]; rfl
  | some i :: ds => by rw [List.map_cons, List.map_cons, List.map_cons, dvD_v K ds]; rfl
/-- a def that tries what it gets -/
def DD.tri (d : DD) : Option (List Val × Bool × List Hd) := match d.cl, d.dfl with
  | c :: cl, [] => triOf d.ps d.N d.scope d.body (c :: cl)
  | _, _ => none
def DD.gk (d : DD) : GK := match d.tri with
  | some (pre, one, hs) => .tri pre one hs
  | none => .fn d.name d.ps.length d.dfl d.kwl
def glOf (D : List DD) (T : Top) : List (Str × GK) := D.map (fun d => (Str.ofString d.name, d.gk)) ++ (T.fr.map (fun x => (x, .free)) ++ (T.cons.map (fun p => (p.1, .con p.2)) ++ (T.dics.map (fun p => (p.1, .dic (p.2.1.map Sum.inr) p.2.2)) ++ (T.xcs.map (fun x => (Str.ofString x, .exc x none)) ++ T.xis.map fun x => (Str.ofString x.name, .exc x.name (some x.fl))))))
/-- the heap at the law's call -/
def heap0 (D : List DD) : Heap := (tabsD D).map Obj.tab
def lamB (D : List DD) : Bool := D.all fun d => match d.lam with
  | none => true
  | some (_, q) => decide (q = d.qual) && decide (q = Str.ofString d.name)
theorem map_eq_mem {α β : Type} {f g : α → β} : ∀ {l : List α}, l.map f = l.map g → ∀ x ∈ l, f x = g x
  | _ :: _, h, x, hx => by
    injection h with h1 h2
    rcases List.mem_cons.mp hx with e | hx
    · rw [e]; exact h1
    · exact map_eq_mem h2 x hx
theorem SaysT.h {fa : List He.Fa} {fn : List He.DefD} {T : Top} {D : List DD} {w : World} {h : PySem.Heap} {K : PySem.W.Frag} (c : SaysT fa fn T D w h K) {p : Str × List Str × List Val} (hp : p ∈ T.dics) : hashesOf K p = p.2.1.map fun x => hashStr w x :=
  map_eq_mem c.hs p hp
theorem keysB_ok {w : World} : ∀ {ks : List Str} {es : List DictEntry}, keysB ks es = true → es.map (·.hash) = ks.map (fun x => hashStr w x) → (∀ (prog : Program), ∀ e ∈ es, ∃ k, (mixKind prog w).is k e.key = true ∧ e.hash = (mixKind prog w).hash k) ∧
    ∀ (prog : Program), PySem.Pairs (mixKind prog w) es ((ks.map Sum.inr).zip (es.map (·.val)))
  | [], es, h, _ => by
    cases es with
    | nil => exact ⟨fun _ _ h => (nomatch h), fun _ => .nil⟩
    | cons _ _ => cases h
  | k :: ks, [], h, _ => by cases h
  | k :: ks, e :: es, h, hh => by
    rw [keysB, Bool.and_eq_true] at h
    injection hh with hh1 hh2
    obtain ⟨i1, i2⟩ := keysB_ok (w := w) h.2 hh2
    obtain ⟨hash, key, val⟩ := e
    cases key with
    | str x t =>
      have ex : x = k := of_decide_eq_true h.1
      subst ex
      have is : ∀ prog : Program, (mixKind prog w).is (Sum.inr x) (.str x t) = true := fun prog => strKind_is prog w x t
      refine ⟨fun prog e he => ?_, fun prog => .cons (is prog) rfl (i2 prog)⟩
      rcases List.mem_cons.mp he with e1 | he
      · subst e1; exact ⟨Sum.inr x, is prog, hh1⟩
      · exact i1 prog e he
    | _ => cases h.1
theorem dicOk_ok {fa : List He.Fa} {fn : List He.DefD} {T : Top} {D : List DD} {w : World} {h : PySem.Heap} {K : PySem.W.Frag} (c : SaysT fa fn T D w h K) {p : Str × List Str × List Val} (hp : p ∈ T.dics) :
    ∃ d, PySem.W.nsIn K mainGlobals p.1 = some (some (.ref d)) ∧ DicOk K w d (p.2.1.map Sum.inr) p.2.2 := by
  have hb := List.all_eq_true.mp c.b.2 p hp
  have hh := c.h hp
  unfold dicOk at hb
  unfold hashesOf at hh
  split at hb
  · rename_i a q
    rw [q] at hh
    dsimp only at hh
    split at hb
    · rename_i cn es n sl q2
      rw [q2] at hh
      have hh : es.toList.map (·.hash) = p.2.1.map fun x => hashStr w x := hh
      simp only [Bool.and_eq_true, decide_eq_true_eq, Bool.not_eq_true', Array.isEmpty_iff] at hb
      obtain ⟨⟨⟨⟨⟨⟨⟨rfl, rfl⟩, h3⟩, h4⟩, h5⟩, h6⟩, h7⟩, h8⟩ := hb
      obtain ⟨k1, k2⟩ := keysB_ok h4 hh
      obtain ⟨us, r, rl⟩ := conBs_ok h5
      have hu : p.2.2.length = us.length := (rl ⟨[], fun _ => none, fun _ => False⟩ fun _ => none).length
      refine ⟨a, q, es, n, us, _, q2, h3, fun prog => ⟨fun e he => k1 prog e (Array.mem_toList_iff.mpr he), k2 prog⟩, ?_, by rw [List.length_map, h6, hu], by rw [List.length_map]; exact h8, r, rl⟩
      exact List.pairwise_map.mpr (h7.imp fun hne e => hne (by injection e))
    · cases hb
  · cases hb
def scB (d : DD) : Bool := decide (d.scope.kind = .function) && decide (d.scope.isCoroutine = false) && decide (d.scope.isGenerator = false) && decide d.N.Nodup && decide (d.N.take d.ps.length = d.ps) &&
  (d.ps.all fun x => decide (d.scope.names.lookup x = some .local) || decide (d.scope.names.lookup x = some .cell)) && (d.scope.names.all fun y => decide (y.2 ≠ .free)) && decide (d.dfl.length ≤ d.ps.length)
theorem scB_ok {d : DD} (h : scB d = true) : FnScope d.N d.ps d.scope := by
  unfold scB at h
  simp only [Bool.and_eq_true, decide_eq_true_eq, List.all_eq_true, Bool.or_eq_true] at h
  obtain ⟨⟨⟨⟨⟨⟨⟨h1, h2⟩, h3⟩, h4⟩, h5⟩, h6⟩, h7⟩, _⟩ := h
  exact ⟨h1, h2, h3, h4, h5, h6, h7⟩
def nameB (D : List DD) (d : DD) : Bool := match findD D d.name with
  | some e => decide (d.ps.length = e.ps.length) && (decide (d.dfl = e.dfl) && decide (d.kwl = e.kwl))
  | none => false
section
variable {K : PySem.W.Frag} {h : PySem.Heap} {mg : Str → Option Value} {D : List DD} {T : Top} {w : World}
theorem fact_mem {fa : List He.Fa} {fn : List He.DefD} (c : He.SaysD fa fn K) {f : He.Fa} (hf : f ∈ fa) : f.ok K = true := by
  have c1 := (He.ba (show ((fa.all fun f => f.ok K) && fn.all fun d => d.ok K) = true from congrArg (fun z : He.AlD => z.1) c)).1
  exact List.all_eq_true.mp c1 f hf
theorem def_mem {fa : List He.Fa} {fn : List He.DefD} (c : He.SaysD fa fn K) {d : He.DefD} (hd : d ∈ fn) : ∃ fd, FunD K d.name d.qual d.params d.body d.scope (d.dvs K) (d.kws K) (He.fAd K d.at_) fd := by
  obtain ⟨i, hi, e⟩ := List.mem_iff_getElem.mp hd
  exact c.def_ i (by rw [List.getElem?_eq_getElem hi, e])
theorem dOk_of (X : K.In h) (G : h.Ns mainGlobals mg) (c : SaysT (faOf D T) (fnsOf D T) T D w h K) (hsc : D.all scB = true) (hb : ∀ d ∈ D, BindOk d) : ∀ d ∈ D, ∃ a fd, DOk K mg d a fd := fun d hd => by
  obtain ⟨fd, F⟩ := def_mem c.d (List.mem_append_left _ (List.mem_map_of_mem (f := DD.toDefD) hd))
  have g := He.glo_ok X G (fact_mem c.d (f := .glo (Str.ofString d.name)) (List.mem_append_left _ (List.mem_map_of_mem (f := fun d : DD => He.Fa.glo (Str.ofString d.name)) hd)))
  have F : FunD K (Str.ofString d.name) d.qual d.params d.body d.scope (d.dfl.map dvH) [] (He.fAd K (Str.ofString d.name, none)) fd := by
    rw [← dvD_v K]; exact F
  have hps : d.ps.length ≥ d.dfl.length ∨ d.dfl = [] := by
    have := List.all_eq_true.mp hsc d hd
    unfold scB at this
    rw [Bool.and_eq_true] at this
    exact .inl (of_decide_eq_true this.2)
  refine ⟨_, fd, g, F, scB_ok (List.all_eq_true.mp hsc d hd), ?_, fun j hj => ?_, fun m hm => ?_⟩
  · by_cases e : d.dfl = []
    · rw [e] at F
      exact FunD.bindsN F ((hb d hd).1 e)
    · obtain ⟨ds, h1, h2⟩ := FunD.binds1 (ps := d.ps) F d.ps.length d.dfl.length (by simpa using e) (by rw [List.length_map]; omega) fun T kV doc pm an cdv ct us its l1 l2 => by
        rw [List.length_map] at l2
        exact (hb d hd).2.1 e d.dfl.length (Nat.le_refl _) T kV doc pm an cdv ct us its (by omega) l2
      rw [List.drop_eq_nil_of_le (by rw [List.length_map]; exact Nat.le_refl _)] at h1
      cases h1
      exact h2
  · have e : d.dfl ≠ [] := fun z => by rw [z] at hj; cases hj
    have hps : d.dfl.length ≤ d.ps.length := hps.elim id fun z => absurd z e
    obtain ⟨ds, h1, h2⟩ := FunD.binds1 (ps := d.ps) F (d.ps.length - (d.dfl.length - j)) j (by simpa using e) (by rw [List.length_map]; omega) fun T kV doc pm an cdv ct us its l1 l2 => by
      rw [List.length_map] at l2
      exact (hb d hd).2.1 e j (by omega) T kV doc pm an cdv ct us its (by omega) l2
    rw [← List.map_drop] at h1
    exact ⟨ds, h1, h2⟩
  · obtain ⟨e, hk⟩ := (hb d hd).2.2 m hm
    rw [e] at F
    obtain ⟨oc, od, dV, kV, doc, pm, an, cdv, ct, osl, rfl, lk, hcd, hD, hK⟩ := F.ex
    rcases hD with ⟨_, rfl⟩ | ⟨z, _⟩
    · exact fun s us ws X l1 l2 => .of_eq (hk kV doc pm an cdv ct us ws l1 (by rw [l2, List.length_drop]))
    · exact absurd rfl z
theorem isiB_ok {q : String × String × Bool} (h : isiB K q = true) (hg : mg (Str.ofString q.2.1) = some (.ref (He.ga K (Str.ofString q.2.1)))) : IsiC K mg q := by
  unfold isiB at h
  obtain ⟨h1, h⟩ := He.ba h
  obtain ⟨h2, h⟩ := He.ba h
  obtain ⟨h3, h⟩ := He.ba h
  obtain ⟨h4, h⟩ := He.ba h
  obtain ⟨h5, h6⟩ := He.ba h
  exact ⟨hg, xfB_ok h1, of_decide_eq_true h2, of_decide_eq_true h3, of_decide_eq_true h4, of_decide_eq_true h5, of_decide_eq_true h6⟩
theorem hdsK_of (X : K.In h) (G : h.Ns mainGlobals mg) : ∀ {N : List Str} {sc : Scope} {hds : List ExceptHandler} {cl : List Clz} {hs : List Hd}, hdsOf N sc hds cl = some hs → (∀ f ∈ hdsFa hds cl, f.ok K = true) →
    (∀ c ∈ cl, clzB K c = true) → HdsK K mg hds cl hs
  | N, sc, [], [], hs, e, _, _ => by cases e; exact True.intro
  | N, sc, [], _ :: _, hs, e, _, _ => by cases e
  | N, sc, _ :: _, [], hs, e, _, _ => by cases e
  | N, sc, h1 :: hds, c :: cl, hs, e, hf, hx => by
    rw [hdsOf] at e
    cases q1 : hdOf N sc h1 c with
    | none => rw [q1] at e; cases e
    | some d1 =>
      rw [q1] at e
      cases q2 : hdsOf N sc hds cl with
      | none => rw [q2] at e; cases e
      | some ds =>
        rw [q2] at e
        cases e
        have hd : d1.yes = c.1 ∧ d1.no = c.2.1 ∧ d1.fl = c.2.2.1 := by
          unfold hdOf at q1
          split at q1
          · split at q1
            · obtain ⟨hx, _, q4⟩ := Option.map_eq_some_iff.mp q1
              rw [← q4]; exact ⟨rfl, rfl, rfl⟩
            · cases q1
          · cases q1
        obtain ⟨y1, y2, y3⟩ := hd
        have f1 : ∀ f ∈ hdFa h1 c, f.ok K = true := fun f h => hf f (List.mem_append_left _ h)
        have cz := hx c List.mem_cons_self
        unfold clzB at cz
        obtain ⟨cz1, cz2⟩ := He.ba cz
        have f2 : ∀ f, f ∈ (.free "repr" :: .free "isinstance" :: c.2.2.2.map fun q => .glo (Str.ofString q.2.1) : List He.Fa) → f.ok K = true := fun f h =>
          f1 _ (List.mem_cons_of_mem _ (List.mem_append_right _ (List.mem_append_right _ h)))
        refine ⟨⟨⟨⟨_, He.glo_ok X G (f1 _ List.mem_cons_self), fun y hy => ?_, fun y hy => ?_⟩, fun p hp => ?_⟩,
          He.free_ok X G (f2 _ List.mem_cons_self), He.free_ok X G (f2 _ (List.mem_cons_of_mem _ List.mem_cons_self)), fun q hq => isiB_ok (List.all_eq_true.mp cz2 q hq) (He.glo_ok X G (f2 _ (List.mem_cons_of_mem _ (List.mem_cons_of_mem _ (List.mem_map.mpr ⟨q, hq, rfl⟩)))))⟩, hdsK_of X G q2 (fun f h => hf f (List.mem_append_right _ h)) fun c' hc' => hx c' (List.mem_cons_of_mem _ hc')⟩
        · rw [y1] at hy
          exact He.exm_ok (f1 _ (List.mem_cons_of_mem _ (List.mem_append_left _ (List.mem_map.mpr ⟨y, hy, rfl⟩))))
        · rw [y2] at hy
          exact He.exm_ok (f1 _ (List.mem_cons_of_mem _ (List.mem_append_right _ (List.mem_append_left _ (List.mem_append_left _ (List.mem_map.mpr ⟨y, hy, rfl⟩))))))
        · rw [y3] at hp
          exact ⟨xfB_ok (List.all_eq_true.mp cz1 p hp), He.noat_ok (f1 _ (List.mem_cons_of_mem _ (List.mem_append_right _ (List.mem_append_left _ (List.mem_append_right _ (List.mem_map.mpr ⟨p, hp, rfl⟩))))))⟩
end
def iniB (x : XD) : Bool := scB x.toDD && ((match x.body with
  | [.Assign [.Attribute (.Name a _) f _] (.Name b _) _] => decide (a = x.se) && (decide (f = Str.ofString x.fl) && decide (b = x.y))
  | _ => false) && (decide (x.scope.names.lookup x.se = some .local) && (decide (x.scope.names.lookup x.y = some .local) &&
  (((x.se == ("__debug__" : Str)) == false) && (((x.se == ("__classdict__" : Str)) == false) && (((x.y == ("__debug__" : Str)) == false) && ((x.y == ("__classdict__" : Str)) == false)))))))
theorem oexB_ok {K : PySem.W.Frag} {x : XD} (h : oexB K x = true) : OexC K (He.ga K (Str.ofString x.name)) := by
  unfold oexB at h
  obtain ⟨h1, h⟩ := He.ba h
  obtain ⟨h2, h⟩ := He.ba h
  obtain ⟨h3, h⟩ := He.ba h
  obtain ⟨h4, h5⟩ := He.ba h
  refine ⟨?_, He.eqO_ok h2, of_decide_eq_true h3, of_decide_eq_true h4, h5⟩
  split at h1
  · rename_i dd cd sl ho
    split at h1
    · rename_i C' bm k0 k1 k2 k3 n k5 hm hs
      simp only [Bool.and_eq_true, beq_iff_eq, Bool.not_eq_true'] at h1
      obtain ⟨rfl, rfl, z3, z4, z5⟩ := h1
      obtain ⟨nm, bs, mro, N, q, hd, sn, sub, ab, col, del⟩ := cd
      dsimp only at hm z3 z4
      subst hm z3 z4
      have es : sl = #[k0, k1, k2, k3, some (.builtin "ValueError.__new__"), k5] := by
        rw [← Array.toArray_toList (xs := sl), hs]
      subst es
      exact ⟨nm, q, N, bs, bm, sn, sub, ab, col, dd, k0, k1, k2, k3, k5, ho, z5⟩
    · cases h1
  · cases h1
theorem iniB_ok {x : XD} (h : iniB x = true) : FnScope [x.se, x.y] [x.se, x.y] x.scope ∧ IniF x.se x.y (Str.ofString x.fl) [x.se, x.y] x.scope x.body := by
  unfold iniB at h
  obtain ⟨h1, h⟩ := He.ba h
  obtain ⟨h2, h⟩ := He.ba h
  obtain ⟨h3, h⟩ := He.ba h
  obtain ⟨h4, h⟩ := He.ba h
  obtain ⟨h5, h⟩ := He.ba h
  obtain ⟨h6, h⟩ := He.ba h
  obtain ⟨h7, h8⟩ := He.ba h
  refine ⟨scB_ok h1, ?_, rfl, rfl, .inl (of_decide_eq_true h3), .inl (of_decide_eq_true h4), ⟨eq_of_beq h5, eq_of_beq h6⟩, ⟨eq_of_beq h7, eq_of_beq h8⟩⟩
  split at h2
  · rename_i a p1 f p2 b p3 pos hb
    obtain ⟨z1, z⟩ := He.ba h2
    obtain ⟨z2, z3⟩ := He.ba z
    have z1 := of_decide_eq_true z1
    have z2 := of_decide_eq_true z2
    have z3 := of_decide_eq_true z3
    subst z1 z3
    rw [hb, z2]
    exact ⟨p1, p2, p3, pos, rfl⟩
  · cases h2
section
variable {K : PySem.W.Frag} {h : PySem.Heap} {mg : Str → Option Value} {D : List DD} {T : Top} {w : World}
theorem xi_of (X : K.In h) (G : h.Ns mainGlobals mg) (c : SaysT (faOf D T) (fnsOf D T) T D w h K) {x : XD} (hx : x ∈ T.xis) (hi : iniB x = true) (hb : BindN x.toDD) : XiOk K mg (Str.ofString x.name) x.name x.fl := by
  have fa : ∀ f : He.Fa, f ∈ [He.Fa.glo (Str.ofString x.name), .noat (Str.ofString x.name) (Str.ofString x.fl), .meth (Str.ofString x.name) "__init__"] → f.ok K = true := fun f hf =>
    fact_mem c.d (List.mem_append_right _ (List.mem_append_right _ (List.mem_append_right _ (List.mem_append_right _ (List.mem_append_right _ (List.mem_flatMap.mpr ⟨x, hx, hf⟩))))))
  have m := He.meth_ok (fa (.meth (Str.ofString x.name) "__init__") (by simp))
  obtain ⟨S, I⟩ := iniB_ok hi
  obtain ⟨fd, F⟩ := def_mem c.d (List.mem_append_right _ (List.mem_map_of_mem (f := XD.toDefD) hx))
  refine ⟨rfl, He.glo_ok X G (fa _ (by simp)), oexB_ok (List.all_eq_true.mp c.xi x hx), He.noat_ok (fa _ (by simp)), ?_⟩
  refine ⟨_, fd, x.params, x.body, x.scope, x.qual, [x.se, x.y], x.se, x.y, m.1, ?_, F, ?_, S, I⟩
  · have := m.2
    unfold PySem.W.isFn at this
    exact eq_of_beq this
  · exact FunD.bindsN F hb
end
section
variable {K : PySem.W.Frag} {h : PySem.Heap} {mg : Str → Option Value} {D : List DD} {T : Top} {w : World}
theorem gOk_of (X : K.In h) (G : h.Ns mainGlobals mg) (c : SaysT (faOf D T) (fnsOf D T) T D w h K) (hn : D.all (nameB D) = true) (hxi : T.xis.all iniB = true) (hxb : ∀ x ∈ T.xis, BindN x.toDD) (hD : ∀ d ∈ D, ∃ a fd, DOk K mg d a fd) : ∀ p ∈ glOf D T, GOk w K mg D p.1 p.2 := fun p hp => by
  rcases List.mem_append.mp hp with hp | hp
  · obtain ⟨d, hd, rfl⟩ := List.mem_map.mp hp
    show GOk w K mg D (Str.ofString d.name) d.gk
    unfold DD.gk
    split
    · rename_i pre one hs ht
      obtain ⟨a, fd, O⟩ := hD d hd
      unfold DD.tri at ht
      split at ht
      · rename_i c1 cl e1 e2
        obtain ⟨x, ex, TF⟩ := triOf_ok ht
        have F := O.fun_
        rw [e2] at F
        have B := O.binds
        have S := O.sc
        rw [ex] at B S
        refine ⟨a, fd, d.qual, d.params, d.body, d.scope, d.N, x, c1 :: cl, O.glob, F, B, S, TF, hdsK_of X G TF.hs (fun f hf => fact_mem c.d ?_) fun c' hc' => ?_⟩
        · refine List.mem_append_right _ (List.mem_append_right _ (List.mem_append_right _ (List.mem_append_right _ (List.mem_append_left _ (List.mem_flatMap.mpr ⟨d, hd, ?_⟩)))))
          unfold DD.fa
          rw [e1]; exact hf
        · have := (He.ba c.ex).1
          have h2 := List.all_eq_true.mp this d hd
          rw [e1] at h2
          exact List.all_eq_true.mp h2 c' hc'
      · cases ht
    · have := List.all_eq_true.mp hn d hd
      unfold nameB at this
      split at this
      · rename_i e he
        rw [Bool.and_eq_true] at this
        obtain ⟨t1, t2⟩ := this
        rw [Bool.and_eq_true] at t2
        exact ⟨rfl, e, he, of_decide_eq_true t1, of_decide_eq_true t2.1, of_decide_eq_true t2.2⟩
      · cases this
  · rcases List.mem_append.mp hp with hp | hp
    · obtain ⟨x, hx, rfl⟩ := List.mem_map.mp hp
      exact He.free_ok X G (fact_mem c.d (f := .free x) (List.mem_append_right _ (List.mem_append_left _ (List.mem_map_of_mem (f := He.Fa.free) hx))))
    · rcases List.mem_append.mp hp with hp | hp
      · obtain ⟨q, hq, rfl⟩ := List.mem_map.mp hp
        have hb := List.all_eq_true.mp c.b.1 q hq
        unfold conOk at hb
        split at hb
        · rename_i u hu
          obtain ⟨v, r, rl⟩ := conB_ok hb
          exact ⟨u, v, PySem.W.mg_of X G hu, r, rl⟩
        · cases hb
      · rcases List.mem_append.mp hp with hp | hp
        · obtain ⟨q, hq, rfl⟩ := List.mem_map.mp hp
          obtain ⟨d, hd, ok⟩ := dicOk_ok c hq
          exact ⟨d, PySem.W.mg_of X G hd, ok⟩
        · rcases List.mem_append.mp hp with hp | hp
          rotate_left
          · obtain ⟨x, hx, rfl⟩ := List.mem_map.mp hp
            exact xi_of X G c hx (List.all_eq_true.mp hxi x hx) (hxb x hx)
          obtain ⟨x, hx, rfl⟩ := List.mem_map.mp hp
          have f1 := fact_mem c.d (f := .glo (Str.ofString x)) (List.mem_append_right _ (List.mem_append_right _ (List.mem_append_left _ (List.mem_map.mpr ⟨x, hx, rfl⟩))))
          have f2 := fact_mem c.d (f := .exc (Str.ofString x)) (List.mem_append_right _ (List.mem_append_right _ (List.mem_append_right _ (List.mem_append_left _ (List.mem_map.mpr ⟨x, hx, rfl⟩)))))
          obtain ⟨g1, g2, g3, g4⟩ := He.exc_ok f2
          exact ⟨rfl, He.glo_ok X G f1, g1, g2, g3, g4⟩
/-- the code objects of the defs that make lambdas -/
theorem lok_of {base : PySem.Heap} (X : K.In h) (G : h.Ns mainGlobals mg) (c : SaysT (faOf D T) (fnsOf D T) T D w h K) (hl : lamB D = true) (TB : ∀ p ∈ (tfOf D).map (He.cT K), LamX.TabB base mg p.1 p.2) : ∀ d ∈ D, ∀ a fd, DOk K mg d a fd → LOk K mg base d fd := fun d hd a fd O ts q e => by
  have h1 := List.all_eq_true.mp hl d hd
  rw [e] at h1
  obtain ⟨h2, h3⟩ := He.ba h1
  have h2 := of_decide_eq_true h2
  have h3 := of_decide_eq_true h3
  have g := He.glo_ok X G (fact_mem c.d (f := .glo (Str.ofString d.name)) (List.mem_append_left _ (List.mem_map_of_mem (f := fun d : DD => He.Fa.glo (Str.ofString d.name)) hd)))
  have ea : a = He.ga K (Str.ofString d.name) := by
    have := O.glob.symm.trans g
    injection this with this
    injection this
  obtain ⟨oc, od, dV, kV, doc, pm, an, cdv, ct, osl, rfl, lk, hcd, _, _⟩ := O.fun_.ex
  obtain ⟨cc, rfl⟩ := He.codeIn_ref hcd
  refine ⟨h2, cc, rfl, ?_⟩
  have lk2 : K.lookup (He.fAd K (q, Option.none)) = K.lookup a := by
    rw [h3, ea]; rfl
  rw [lk] at lk2
  have ec := He.codeOf_eq lk2 rfl
  have m := TB (He.cT K (q, Option.none)) (List.mem_map.mpr ⟨(q, Option.none), List.mem_map.mpr ⟨q, List.mem_filterMap.mpr ⟨d, hd, by rw [e]; rfl⟩, rfl⟩, rfl⟩)
  have e1 : (He.cT K (q, Option.none)).1 = cc := ec
  rw [e1] at m
  exact m
theorem frz_of {H : Hp} {a : Addr} {ns : List Int} (hnd : ((tabsD D).map (tabA K)).Nodup) (hT : ∀ q ∈ tabsD D, H (tabA K q) = some (.tbl #[])) (hS : SqL K H a (ns.map V.int)) :
    HeapR K ⟨(tabsD D).map (tabA K), fun _ => none, fun _ => False⟩ (heap0 D) H ∧ Rl K ⟨(tabsD D).map (tabA K), fun _ => none, fun _ => False⟩ H (.frz (ns.map .int)) (.ref a) := by
  have rs : ∀ ns : List Int, Rls K ⟨(tabsD D).map (tabA K), fun _ => none, fun _ => False⟩ H (ns.map .int) (ns.map V.int) := fun ns => by
    induction ns with
    | nil => exact .nil
    | cons n ns ih => exact .cons (.int n) ih
  have isT : ∀ b, b ∈ (tabsD D).map (tabA K) → H b = some (.tbl #[]) := fun b hb => by
    obtain ⟨q, hq, rfl⟩ := List.mem_map.mp hb
    exact hT q hq
  refine ⟨⟨⟨hnd, fun i a e => (by cases e), fun a e => e.elim, fun i a e => (by cases e), fun i j a e => (by cases e), fun i a e => (by cases e), fun a e => e.elim⟩, by unfold heap0; rw [List.length_map, List.length_map], fun n b o e1 e2 => ?_⟩, ?_⟩
  · have e1 : ((tabsD D).map (tabA K))[n]? = some b := e1
    have e2 : ((tabsD D).map Obj.tab)[n]? = some o := e2
    rw [List.getElem?_map] at e1 e2
    cases q : (tabsD D)[n]? with
    | none => rw [q] at e1; cases e1
    | some f =>
      rw [q] at e1 e2
      cases e1; cases e2
      exact ⟨rfl, #[], hT f (List.mem_of_getElem? q), ⟨True.intro, fun pos cv h => (by cases h)⟩⟩
  · have ex : Rd H a (.lst (ns.map V.int)) → ¬ (Mp.mk ((tabsD D).map (tabA K)) (fun _ => none) (fun _ => False)).ex a := fun r z => by
      rcases z with z | ⟨_, z⟩ | z
      · have t := isT a z
        rcases r with r | ⟨o, r⟩ <;> (rw [t] at r; cases r)
      · cases z
      · exact z
    rcases hS with e | ⟨o, its, n, h1, h2, h3, h4, h5, h6⟩
    · exact .frzT (ex e) e (rs ns)
    · exact .frzK ⟨o, its, n, h1, h2, h3, h4, h5, h6⟩ (rs ns)
theorem law_F {l : PySem.W.OpenLaw} {fa : Addr} {k : Nat} {dl : DD} {x : Str} {n : Nat} (X : K.In h) (G : h.Ns mainGlobals mg) (c : SaysT (faOf D T) (fnsOf D T) T D w h K) (hfa : mg ("law" : Str) = some (.ref fa)) (hsc : D.all scB = true) (hb : ∀ d ∈ D, BindOk d) (hn : D.all (nameB D) = true) (hxi : T.xis.all iniB = true) (hxb : ∀ x ∈ T.xis, BindN x.toDD) (hl : lamB D = true)
    (hlaw : findD D "law" = some dl) (hps : dl.ps = [x]) (hdf : dl.dfl = []) (hpure : ∀ ns : List Int, ns.length ≤ n → ∃ G', callN (progOf (glOf D T) D) k "law" [.frz (ns.map .int)] (heap0 D) = .ok (.bool true) G') :
    LawG l w K (L2.CX l.prog w) (k + 2) n x mg fa h := by
  have hD := dOk_of X G c hsc hb
  have hg := gOk_of X G c hn hxi hxb hD
  obtain ⟨hm, hnm⟩ := findD_name hlaw
  obtain ⟨a, fd, O⟩ := hD dl hm
  have e : a = fa := by
    have := O.glob
    rw [hnm] at this
    have h2 : (some (Value.ref a)) = some (.ref fa) := this.symm.trans hfa
    injection h2 with h2
    injection h2
  subst e
  have tq : ∀ p ∈ (tfOf D).map (He.cT K), ∃ q ∈ tabsD D, p = He.cT K (q, Option.none) := fun p hp => by
    obtain ⟨z, hz, rfl⟩ := List.mem_map.mp hp
    obtain ⟨q, hq, rfl⟩ := List.mem_map.mp hz
    exact ⟨q, hq, rfl⟩
  refine ⟨fd, (tfOf D).map (He.cT K), spF K 1 (callN (progOf (glOf D T) D) k "law"), fun p hp => ?_, fun p hp => ?_, fun p hp => ?_, fun s u => ?_, fun H b ns hl _ hT hS => ?_, fun base h1 h2 hTB => ?_⟩
  · obtain ⟨q, hq, rfl⟩ := tq p hp
    exact c.empty q hq
  · obtain ⟨q, hq, rfl⟩ := tq p hp
    exact c.out q hq
  · obtain ⟨q, hq, rfl⟩ := tq p hp
    exact PySem.W.codeHd_of_K X (c.hd q hq)
  · have F := O.fun_
    rw [hdf] at F
    have := FunD.bindsA F ((hb dl hm).1 hdf) s [u] (by rw [hps]; rfl)
    rw [hps] at this
    exact this
  · obtain ⟨h1, h2⟩ := frz_of (of_decide_eq_true (He.ba c.ex).2) (fun q hq => hT (He.cT K (q, Option.none)) (List.mem_map.mpr ⟨_, List.mem_map.mpr ⟨q, hq, rfl⟩, rfl⟩)) hS
    obtain ⟨G', e⟩ := hpure ns hl
    refine ⟨rfl, _, heap0 D, [.frz (ns.map .int)], rfl, h1, .cons h2 .nil, ?_⟩
    rw [e]
    intro M' u H' _ _ r
    cases r
    rfl
  · obtain ⟨a2, fd2, O2, Dk⟩ := defs_ok (P := l.prog) (w := w) (base := base) (kmB_ok c.md) hD hg (lok_of X G c hl hTB) k "law" dl hlaw
    have e2 : a2 = a := by
      have h1 := O.glob
      have h2 := O2.glob
      rw [h1] at h2
      injection h2 with h2
      injection h2 with h2
      exact h2.symm
    subst e2
    have ok := Dk.ok
    rw [hps] at ok
    have e3 : fd2 = fd := by
      obtain ⟨oc, od, dV, kV, doc, pm, an, cdv, ct, osl, _, lk, _⟩ := O.fun_.ex
      obtain ⟨oc2, od2, dV2, kV2, doc2, pm2, an2, cdv2, ct2, osl2, _, lk2, _⟩ := O2.fun_.ex
      rw [lk] at lk2
      injection lk2 with lk2
      injection lk2 with _ _ lk2 _
      injection lk2 with lk2
      exact lk2.symm
    subst e3
    exact ok
theorem cx_never {P : Program} {w : World} (H : Hp) (s : Shared) (e : Value) (s' : Shared) (h : L2.CX P w [] H s (fun _ _ _ => False) e s') : False := by
  obtain ⟨_, _, _, _, _, _, _, _, _, _, _, _, h⟩ := h
  exact h
end
end Fx

namespace Fx
open PySem PySem.Spec PyProof.Rows L2
theorem walkX {l : PySem.W.OpenLaw} {n k : Nat} {q : Program} {loose : List Str} {XP : (Str → Option Value) → PySem.Heap → Prop} {YP : World → PySem.Heap → Prop} {d : DefRec} {x : Str} (most : l.most = some n) (small : n ≤ sizeLine)
    (nodf : d.params.defaults = []) (room : Room k callerA)
    (law : ∀ (w : World) (mg : Str → Option Value) (fa : Addr) (h : PySem.Heap), YP w h → h.Ns mainGlobals mg → mg d.name = some (.ref fa) → ∃ K : PySem.W.Frag, K.In h ∧ LawG l w K (L2.CX l.prog w) k n x mg fa h) : PySem.W.WalkO q loose XP YP l.row.toRowW d [] (fun f vs => PySem.call f vs) := by
  refine Att.attach_callB most nodf ?_
  intro w s0 s1 mg mb fa o pm cd doc a vs ns G Y _ _ _ hmg hobj hints hlen hbits hg
  obtain ⟨K, KX, fd, cs, sp, hT, nT, C, hb, hsp, hF⟩ := law w mg fa _ Y G.T.g hmg
  have g : Gd K mg mb cs s1 a vs ns := ⟨KX, G.T.g, G.T.b, G.T.builtins, G.T.nolimit, hg, hT, nT, C, G.T.bmain, hobj, hints, Nat.le_trans hlen small⟩
  exact law_callG g ⟨room, rfl⟩ hF hb (fun H hH hS => hsp H a ns hlen hbits hH hS) fun H e s' => cx_never H s1 e s'
end Fx

namespace Fx
open PySem PySem.Spec PyProof.Rows L2
/-- ends well, with Q -/
def R.tot {α : Type} (r : R α) (Q : α → Heap → Prop) : Prop := match r with
  | .ok a G => Q a G
  | _ => False
@[simp] theorem R.tot_ok {α : Type} (a : α) (G : Heap) (Q : α → Heap → Prop) : (R.ok a G).tot Q ↔ Q a G := Iff.rfl
@[simp] theorem R.tot_no {α : Type} (Q : α → Heap → Prop) : (R.no : R α).tot Q ↔ False := Iff.rfl
theorem R.tot_bind {α β : Type} {m : R α} {f : α → Heap → R β} {Q : β → Heap → Prop} : (m.bind f).tot Q ↔ m.tot fun a G => (f a G).tot Q := by
  cases m <;> exact Iff.rfl
theorem R.tot_mono {α : Type} {r : R α} {Q Q' : α → Heap → Prop} (h : r.tot Q) (hq : ∀ a G, Q a G → Q' a G) : r.tot Q' := by
  cases r with
  | ok a G => exact hq a G h
  | no => exact h
  | exc _ _ => exact h
theorem R.tot_eq {α : Type} {r : R α} {Q : α → Heap → Prop} (h : r.tot Q) : ∃ a G, r = .ok a G ∧ Q a G := by
  cases r with
  | ok a G => exact ⟨a, G, rfl, h⟩
  | no => exact h.elim
  | exc _ _ => exact h.elim
theorem R.tot_of {α : Type} {r : R α} {a : α} {G : Heap} {Q : α → Heap → Prop} (e : r = .ok a G) (h : Q a G) : r.tot Q := by rw [e]; exact h
@[simp] theorem R.calm_ok {α : Type} (a : α) (G : Heap) : (R.ok a G).calm = .ok a G := rfl
/-- a call's first step, then -/
theorem tot_step {α β : Type} {m : R α} {f : α → Heap → R β} {P : α → Heap → Prop} {Q : β → Heap → Prop} (h : m.tot P) (k : ∀ a G, P a G → (f a G).tot Q) : (m.bind f).tot Q := R.tot_bind.mpr (R.tot_mono h k)
def RS.fin : RS → R Val
  | .ret v G => .ok v G
  | .next _ G => .ok .none G
  | .exc e _ G => .exc e G
  | _ => .no
@[simp] theorem RS.fin_ret (v : Val) (G : Heap) : (RS.ret v G).fin = .ok v G := rfl
@[simp] theorem RS.fin_next (s : Store) (G : Heap) : (RS.next s G).fin = .ok .none G := rfl
@[simp] theorem RS.fin_no : RS.no.fin = .no := rfl
theorem seq_thenS {α : Type} (m : R α) (s : Store) (f : α → Heap → RS) (g : Store → Heap → RS) : (m.thenS s f).seq g = m.thenS s fun a G => (f a G).seq g := by cases m <;> rfl
theorem turn_thenS {α : Type} (m : R α) (s : Store) (f : α → Heap → RS) (g : Store → Heap → RS) : (m.thenS s f).turn g = m.thenS s fun a G => (f a G).turn g := by cases m <;> rfl
theorem fin_thenS {α : Type} (m : R α) (s : Store) (f : α → Heap → RS) : (m.thenS s f).fin = m.bind fun a G => (f a G).fin := by cases m <;> rfl
theorem seq_seq (m : RS) (f g : Store → Heap → RS) : (m.seq f).seq g = m.seq fun s G => (f s G).seq g := by cases m <;> rfl
theorem seq_ite (c : Prop) [Decidable c] (a b : RS) (g : Store → Heap → RS) : (if c then a else b).seq g = if c then a.seq g else b.seq g := by split <;> rfl
theorem turn_ite (c : Prop) [Decidable c] (a b : RS) (g : Store → Heap → RS) : (if c then a else b).turn g = if c then a.turn g else b.turn g := by split <;> rfl
theorem fin_ite (c : Prop) [Decidable c] (a b : RS) : (if c then a else b).fin = if c then a.fin else b.fin := by split <;> rfl
theorem call_eq {P : Prog} {f : String} {d : Fd} (h : P f = some d) (k : Nat) (vs : List Val) (G : Heap) (hl : vs.length = d.par) : callN P (k + 1) f vs G = (evSs (callN P k) d.body (startS d.slots vs) G).fin := by
  show (match P f with
    | some d => runB (callN P k) d vs G
    | none => .no) = _
  rw [h]
  show (if vs.length = d.par then _ else _) = _
  rw [if_pos hl]
  cases evSs (callN P k) d.body (startS d.slots vs) G <;> rfl
theorem evSs_nil (Γ : Calls) (s : Store) (G : Heap) : evSs Γ .nil s G = .next s G := by rw [evSs]
theorem evSs_cons (Γ : Calls) (x : S) (xs : Ss) (s : Store) (G : Heap) : evSs Γ (.cons x xs) s G = (evS Γ x s G).seq (evSs Γ xs) := by rw [evSs]
/-- goes on with N, or returns with T -/
def RS.sat (r : RS) (N : Store → Heap → Prop) (T : Val → Heap → Prop) : Prop := match r with
  | .next s G => N s G
  | .ret v G => T v G
  | _ => False
/-- .. a turn of a loop: goes on with N, leaves it with B, or returns with T -/
def RS.satT (r : RS) (N B : Store → Heap → Prop) (T : Val → Heap → Prop) : Prop := match r with
  | .next s G => N s G
  | .cont s G => N s G
  | .brk s G => B s G
  | .ret v G => T v G
  | _ => False
theorem sat_thenS {α : Type} {m : R α} {s : Store} {f : α → Heap → RS} {N : Store → Heap → Prop} {T : Val → Heap → Prop} : (m.thenS s f).sat N T ↔ m.tot fun a G => (f a G).sat N T := by cases m <;> exact Iff.rfl
theorem satT_thenS {α : Type} {m : R α} {s : Store} {f : α → Heap → RS} {N B : Store → Heap → Prop} {T : Val → Heap → Prop} : (m.thenS s f).satT N B T ↔ m.tot fun a G => (f a G).satT N B T := by cases m <;> exact Iff.rfl
theorem sat_seq {m : RS} {f : Store → Heap → RS} {N : Store → Heap → Prop} {T : Val → Heap → Prop} : (m.seq f).sat N T ↔ m.sat (fun s G => (f s G).sat N T) T := by cases m <;> exact Iff.rfl
theorem sat_mono {m : RS} {N N' : Store → Heap → Prop} {T T' : Val → Heap → Prop} (h : m.sat N T) (h1 : ∀ s G, N s G → N' s G) (h2 : ∀ v G, T v G → T' v G) : m.sat N' T' := by
  cases m with
  | next s G => exact h1 _ _ h
  | ret v G => exact h2 _ _ h
  | _ => exact h
theorem fin_sat {m : RS} {Q : Val → Heap → Prop} (h : m.sat (fun _ G => Q .none G) Q) : m.fin.tot Q := by cases m <;> exact h
theorem seq_sat {m : RS} {f : Store → Heap → RS} {N : Store → Heap → Prop} {Q : Val → Heap → Prop} (h : m.sat N Q) (k : ∀ s G, N s G → (f s G).fin.tot Q) : (m.seq f).fin.tot Q := by
  cases m with
  | next s G => exact k s G h
  | ret v G => exact h
  | _ => exact h.elim
theorem forR_nil (tg : Val → Store → Option Store) (b : Store → Heap → RS) (s : Store) (G : Heap) : forR tg b [] s G = .next s G := rfl
theorem forR_sat {tg : Val → Store → Option Store} {b : Store → Heap → RS} {T : Val → Heap → Prop} {B : Store → Heap → Prop} {xs : List Val} (I : Nat → Store → Heap → Prop)
    (h : ∀ (i : Nat) (x : Val) (s : Store) (G : Heap), xs[i]? = some x → I i s G → ∃ s1, tg x s = some s1 ∧ (b s1 G).satT (I (i + 1)) B T) (hb : ∀ s G, I xs.length s G → B s G) {s : Store} {G : Heap} (h0 : I 0 s G) : (forR tg b xs s G).sat B T := by
  have main : ∀ (n : Nat) (i : Nat) (s : Store) (G : Heap), n + i = xs.length → I i s G → (forR tg b (xs.drop i) s G).sat B T := fun n => by
    induction n with
    | zero =>
      intro i s G e hi
      have e : i = xs.length := by omega
      subst e
      rw [List.drop_length]
      exact hb s G hi
    | succ n ih =>
      intro i s G e hi
      have hl : i < xs.length := by omega
      rw [List.drop_eq_getElem_cons hl, forR_cons]
      obtain ⟨s1, e1, q⟩ := h i xs[i] s G (List.getElem?_eq_getElem hl) hi
      rw [e1]
      show ((b s1 G).turn (forR tg b (xs.drop (i + 1)))).sat B T
      cases hq : b s1 G with
      | next s2 G2 => rw [hq] at q; exact ih (i + 1) s2 G2 (by omega) q
      | cont s2 G2 => rw [hq] at q; exact ih (i + 1) s2 G2 (by omega) q
      | brk s2 G2 => rw [hq] at q; exact q
      | ret v G2 => rw [hq] at q; exact q
      | no => rw [hq] at q; exact q.elim
      | exc _ _ _ => rw [hq] at q; exact q.elim
  have := main xs.length 0 s G (by omega) h0
  rwa [List.drop_zero] at this
theorem compR_nil (tg : Val → Store → Option Store) (c e : Store → Heap → R Val) (s : Store) (G : Heap) : compR tg c e [] s G = .ok [] G := rfl
/-- that leave the heap as it is -/
theorem compR_map {tg : Val → Store → Option Store} {c e : Store → Heap → R Val} {G : Heap} {s : Store} (p : Val → Bool) (f : Val → Val) : ∀ {xs : List Val},
    (∀ x ∈ xs, ∃ s1 cv, tg x s = some s1 ∧ c s1 G = .ok cv G ∧ truthV (rd G cv) = some (p x) ∧ (p x = true → e s1 G = .ok (f x) G)) → compR tg c e xs s G = .ok ((xs.filter p).map f) G
  | [], _ => rfl
  | x :: xs, h => by
    obtain ⟨s1, cv, e1, e2, e3, e4⟩ := h x List.mem_cons_self
    have ih := compR_map (tg := tg) (c := c) (e := e) (s := s) (G := G) p f (xs := xs) fun y hy => h y (List.mem_cons_of_mem _ hy)
    rw [compR_cons, e1, R.opt_some, R.bind_ok, e2, R.bind_ok, e3, R.opt_some, R.bind_ok, ih, List.filter_cons]
    cases hp : p x with
    | true => rw [if_pos rfl, if_pos rfl, e4 hp, R.bind_ok, ih, R.bind_ok, List.map_cons]
    | false => rw [if_neg Bool.false_ne_true, if_neg Bool.false_ne_true]
/-- without tests, with an invariant of the heap -/
theorem compR_inv {tg : Val → Store → Option Store} {c e : Store → Heap → R Val} {s : Store} (I : Heap → Prop) (V : Val → Prop) : ∀ {xs : List Val} {G : Heap}, I G →
    (∀ x ∈ xs, ∀ G, I G → ∃ s1, tg x s = some s1 ∧ c s1 G = .ok (.bool true) G ∧ (e s1 G).tot fun v G' => I G' ∧ V v) → (compR tg c e xs s G).tot fun vs G' => I G' ∧ vs.length = xs.length ∧ ∀ v ∈ vs, V v
  | [], G, h0, _ => ⟨h0, rfl, fun _ h => nomatch h⟩
  | x :: xs, G, h0, h => by
    obtain ⟨s1, e1, e2, e3⟩ := h x List.mem_cons_self G h0
    rw [compR_cons, e1, R.opt_some, R.bind_ok, e2, R.bind_ok]
    show R.tot ((e s1 G).bind _) _
    refine tot_step e3 fun v G' ⟨hi, hv⟩ => tot_step (compR_inv I V hi fun y hy => h y (List.mem_cons_of_mem _ hy)) fun vs G2 ⟨h1, h2, h3⟩ => ?_
    exact ⟨h1, by rw [List.length_cons, h2, List.length_cons], fun y hy => (List.mem_cons.mp hy).elim (fun e => by rw [e]; exact hv) (h3 y)⟩
abbrev vInts (xs : List Int) : List Val := xs.map .int
theorem ints_vInts : ∀ xs : List Int, ints? (vInts xs) = some xs
  | [] => rfl
  | x :: xs => by
    show (ints? (vInts xs)).map (x :: ·) = _
    rw [ints_vInts xs]; rfl
@[simp] theorem rd_int (G : Heap) (i : Int) : rd G (.int i) = .int i := rfl
@[simp] theorem rd_bool (G : Heap) (i : Bool) : rd G (.bool i) = .bool i := rfl
@[simp] theorem rd_none (G : Heap) : rd G .none = .none := rfl
@[simp] theorem rd_str (G : Heap) (i : String) : rd G (.str i) = .str i := rfl
@[simp] theorem rd_tup (G : Heap) (i : List Val) : rd G (.tup i) = .tup i := rfl
@[simp] theorem rd_lst (G : Heap) (i : List Val) : rd G (.lst i) = .lst i := rfl
@[simp] theorem rd_frz (G : Heap) (i : List Val) : rd G (.frz i) = .frz i := rfl
theorem rd_ref {G : Heap} {n : Nat} {xs : List Val} (h : G[n]? = some (.lst xs)) : rd G (.ref n) = .lst xs := by
  simp only [rd]
  rw [h]
theorem rd_dct {G : Heap} {n : Nat} {ks : List L2.Key} {vs : List Val} (h : G[n]? = some (.dct ks vs)) : rd G (.ref n) = .dct ks vs := by
  simp only [rd]
  rw [h]
@[simp] theorem truthV_bool (b : Bool) : truthV (.bool b) = some b := rfl
@[simp] theorem truthV_int (i : Int) : truthV (.int i) = some (i != 0) := rfl
@[simp] theorem truthV_none : truthV .none = some false := rfl
theorem ixN_nat {n k : Nat} (h : k < n) : ixN n (k : Int) = some k := by
  unfold ixN
  rw [if_pos (by omega), if_pos (by omega), Int.toNat_natCast]
theorem ixN_int {n : Nat} {i : Int} (h0 : 0 ≤ i) (h : i < n) : ixN n i = some i.toNat := by
  unfold ixN
  rw [if_pos h0, if_pos h]
theorem ixN_neg {n : Nat} {i : Int} (h0 : i < 0) (h : -(n : Int) ≤ i) : ixN n i = some (i + n).toNat := by
  unfold ixN
  rw [if_neg (by omega), if_pos h]
theorem atI_int {α : Type} {xs : List α} {i : Int} (h0 : 0 ≤ i) (h : i < xs.length) : atI xs i = xs[i.toNat]? := by
  unfold atI
  rw [ixN_int h0 h]; rfl
theorem atI_neg {α : Type} {xs : List α} {i : Int} (h0 : i < 0) (h : -(xs.length : Int) ≤ i) : atI xs i = xs[(i + xs.length).toNat]? := by
  unfold atI
  rw [ixN_neg h0 h]; rfl
theorem cutL_to {α : Type} (xs : List α) (k : Int) (h : 0 ≤ k) : cutL xs none (some k) = xs.take k.toNat := by
  unfold cutL HT.sIx
  simp only [List.drop_zero, Nat.sub_zero]
  rw [if_neg (by omega)]
  by_cases h2 : k.toNat ≤ xs.length
  · rw [Nat.min_eq_left h2]
  · rw [Nat.min_eq_right (by omega), List.take_length, List.take_of_length_le (by omega)]
theorem cutL_from {α : Type} (xs : List α) (k : Int) (h : 0 ≤ k) : cutL xs (some k) none = xs.drop k.toNat := by
  unfold cutL HT.sIx
  simp only []
  rw [if_neg (by omega)]
  by_cases h2 : k.toNat ≤ xs.length
  · rw [Nat.min_eq_left h2, List.take_of_length_le (by rw [List.length_drop]; exact Nat.le_refl _)]
  · rw [Nat.min_eq_right (by omega), List.drop_of_length_le (Nat.le_refl _), List.drop_of_length_le (by omega), List.take_nil]
theorem cutL_mid {α : Type} (xs : List α) (i j : Int) (h : 0 ≤ i) (h2 : 0 ≤ j) (h3 : j ≤ xs.length) (h4 : i ≤ j) : cutL xs (some i) (some j) = (xs.drop i.toNat).take (j - i).toNat := by
  unfold cutL HT.sIx
  simp only []
  rw [if_neg (by omega), if_neg (by omega), Nat.min_eq_left (by omega), Nat.min_eq_left (by omega)]
  congr 1
  omega
theorem cutL_end {α : Type} (xs : List α) (i j : Int) (h : 0 ≤ i) (h2 : j < 0) (h3 : i ≤ xs.length + j) : cutL xs (some i) (some j) = (xs.drop i.toNat).take (xs.length + j - i).toNat := by
  unfold cutL HT.sIx
  simp only []
  have e1 : (if i < 0 then (i + (xs.length : Int)).toNat else min i.toNat xs.length) = i.toNat := by rw [if_neg (by omega), Nat.min_eq_left (by omega)]
  have e2 : (if j < 0 then (j + (xs.length : Int)).toNat else min j.toNat xs.length) = (j + xs.length).toNat := if_pos h2
  rw [e1, e2]
  congr 1
  omega
theorem cutL_map {α β : Type} (f : α → β) (xs : List α) (i j : Option Int) : cutL (xs.map f) i j = (cutL xs i j).map f := by
  unfold cutL
  rw [List.length_map, List.map_take, List.map_drop]
end Fx

namespace Fx
open PySem PySem.Spec PyProof.Rows L2
theorem add_i (a b : Int) : binK .Add (.int a) (.int b) = some (.int (a + b)) := rfl
theorem sub_i (a b : Int) : binK .Sub (.int a) (.int b) = some (.int (a - b)) := rfl
theorem mul_l (a b : Int) (h : (decide (-p64 < a) && decide (a < p64)) = true) : binK .Mult (.int a) (.int b) = some (.int (a * b)) := by
  show (if (-p64 < a ∧ a < p64) ∨ (-p64 < b ∧ b < p64) then some (Val.int (a * b)) else none) = _
  rw [if_pos (.inl (by simpa using h))]
theorem mul_r (a b : Int) (h : (decide (-p64 < b) && decide (b < p64)) = true) : binK .Mult (.int a) (.int b) = some (.int (a * b)) := by
  show (if (-p64 < a ∧ a < p64) ∨ (-p64 < b ∧ b < p64) then some (Val.int (a * b)) else none) = _
  rw [if_pos (.inr (by simpa using h))]
theorem mul_m (x c b : Int) (h : (decide (0 < c) && decide (c ≤ p64)) = true) : binK .Mult (.int (x % c)) (.int b) = some (.int (x % c * b)) := by
  simp only [Bool.and_eq_true, decide_eq_true_eq] at h
  have h1 := Int.emod_nonneg x (show c ≠ 0 by omega)
  have h2 := Int.emod_lt_of_pos x h.1
  refine mul_l _ _ ?_
  simp only [Bool.and_eq_true, decide_eq_true_eq]
  unfold p64 at *
  omega
theorem mod_i (a b : Int) (h : decide (0 < b) = true) : binK .Mod (.int a) (.int b) = some (.int (a % b)) := by
  show (if 0 < b then some (Val.int (a % b)) else none) = _
  rw [if_pos (of_decide_eq_true h)]
theorem div_i (a b : Int) (h : (decide (0 < b) && decide (b < p64)) = true) : binK .FloorDiv (.int a) (.int b) = some (.int (a / b)) := by
  show (if 0 < b ∧ b < p64 then some (Val.int (a / b)) else none) = _
  rw [if_pos (by simpa using h)]
theorem pow_i (a b : Int) (h : (decide (0 ≤ b) && decide (b ≤ 1000000) && decide (-p64 < a) && decide (a < p64)) = true) : binK .Pow (.int a) (.int b) = some (.int (a ^ b.toNat)) := by
  show (if 0 ≤ b ∧ b ≤ 1000000 ∧ (-p64 < a ∧ a < p64) then some (Val.int (a ^ b.toNat)) else none) = _
  rw [if_pos (by simpa [and_assoc] using h)]
theorem lt_i (a b : Int) : cmpK .Lt (.int a) (.int b) = some (decide (a < b)) := rfl
theorem le_i (a b : Int) : cmpK .LtE (.int a) (.int b) = some (decide (a ≤ b)) := rfl
theorem gt_i (a b : Int) : cmpK .Gt (.int a) (.int b) = some (decide (b < a)) := rfl
theorem ge_i (a b : Int) : cmpK .GtE (.int a) (.int b) = some (decide (b ≤ a)) := rfl
theorem is_n (x : Val) : cmpK .Is x .none = some (isNone x) := by cases x <;> rfl
theorem isnot_n (x : Val) : cmpK .IsNot x .none = some (!isNone x) := by cases x <;> rfl
theorem shaped_int (i : Int) : SeqAt.shaped (.int i) = true := by rfl
theorem eq_i (a b : Int) : cmpK .Eq (.int a) (.int b) = some (decide (a = b)) := by
  show eqK (.int a) (.int b) = _
  unfold eqK
  simp only [toD]
  rfl
theorem ne_i (a b : Int) : cmpK .NotEq (.int a) (.int b) = some (!decide (a = b)) := by
  show (eqK (.int a) (.int b)).map (!·) = _
  rw [show eqK (.int a) (.int b) = some (decide (a = b)) from eq_i a b]; rfl
theorem at_l0 {α : Type} (a : α) (r : List α) : atI (a :: r) 0 = some a := by rw [atI_int (by omega) (by simp <;> omega)]; rfl
theorem at_l1 {α : Type} (a b : α) (r : List α) : atI (a :: b :: r) 1 = some b := by rw [atI_int (by omega) (by simp <;> omega)]; rfl
theorem at_l2 {α : Type} (a b c : α) (r : List α) : atI (a :: b :: c :: r) 2 = some c := by rw [atI_int (by omega) (by simp <;> omega)]; rfl
theorem at_l3 {α : Type} (a b c d : α) (r : List α) : atI (a :: b :: c :: d :: r) 3 = some d := by rw [atI_int (by omega) (by simp <;> omega)]; rfl
theorem ix_l (xs : List Val) (k : Int) : idxK (.lst xs) (.int k) = atI xs k := rfl
theorem ix_t (xs : List Val) (k : Int) : idxK (.tup xs) (.int k) = atI xs k := rfl
theorem ix_f (xs : List Val) (k : Int) : idxK (.frz xs) (.int k) = atI xs k := rfl
theorem len_t (xs : List Val) : bfK .len [.tup xs] = some (.int xs.length) := rfl
theorem len_l (xs : List Val) : bfK .len [.lst xs] = some (.int xs.length) := rfl
theorem len_f (xs : List Val) : bfK .len [.frz xs] = some (.int xs.length) := rfl
theorem tuple_t (xs : List Val) : bfK .tuple [.tup xs] = some (.tup xs) := rfl
theorem tuple_l (xs : List Val) : bfK .tuple [.lst xs] = some (.tup xs) := rfl
theorem tuple_f (xs : List Val) : bfK .tuple [.frz xs] = some (.tup xs) := rfl
theorem list_t (xs : List Val) : bfK .list [.tup xs] = some (.lst xs) := rfl
theorem list_l (xs : List Val) : bfK .list [.lst xs] = some (.lst xs) := rfl
theorem list_f (xs : List Val) : bfK .list [.frz xs] = some (.lst xs) := rfl
theorem int_i (i : Int) : bfK .int [.int i] = some (.int i) := rfl
theorem abs_i (i : Int) : bfK .abs [.int i] = some (.int (if i < 0 then -i else i)) := rfl
theorem max_i (i j : Int) : bfK .max [.int i, .int j] = some (.int (if j > i then j else i)) := rfl
theorem min_i (i j : Int) : bfK .min [.int i, .int j] = some (.int (if j < i then j else i)) := rfl
theorem sum_l (xs : List Int) : bfK .sum [.lst (vInts xs)] = some (.int xs.sum) := by
  show (ints? (vInts xs)).map _ = _
  rw [ints_vInts]; rfl
theorem sum_t (xs : List Int) : bfK .sum [.tup (vInts xs)] = some (.int xs.sum) := by
  show (ints? (vInts xs)).map _ = _
  rw [ints_vInts]; rfl
theorem divmod_i (a b : Int) (h : (decide (0 < b) && decide (b < p64)) = true) : bfK .divmod [.int a, .int b] = some (.tup [.int (a / b), .int (a % b)]) := by
  show (if 0 < b ∧ b < p64 then some (Val.tup [.int (a / b), .int (a % b)]) else none) = _
  rw [if_pos (by simpa using h)]
theorem cat_t (a b : List Val) (h : decide (a.length + b.length ≤ lineN) = true) : binK .Add (.tup a) (.tup b) = some (.tup (a ++ b)) := by
  show (if a.length + b.length ≤ lineN then some (Val.tup (a ++ b)) else none) = _
  rw [if_pos (of_decide_eq_true h)]
theorem cat_l (a b : List Val) (h : decide (a.length + b.length ≤ lineN) = true) : binK .Add (.lst a) (.lst b) = some (.lst (a ++ b)) := by
  show (if a.length + b.length ≤ lineN then some (Val.lst (a ++ b)) else none) = _
  rw [if_pos (of_decide_eq_true h)]
theorem isi_int (i : Int) (t : Ty) : isO t (.int i) = some (.bool (match t with | .int => true | _ => false)) := by cases t <;> rfl
theorem isi_bool (i : Bool) (t : Ty) : isO t (.bool i) = some (.bool (match t with | .int => true | .bool => true | _ => false)) := by cases t <;> rfl
theorem isi_tup (i : List Val) (t : Ty) : isO t (.tup i) = some (.bool (match t with | .tuple => true | _ => false)) := by cases t <;> rfl
theorem isi_lst (i : List Val) (t : Ty) : isO t (.lst i) = some (.bool (match t with | .list => true | _ => false)) := by cases t <;> rfl
theorem isi_str (i : String) (t : Ty) : isO t (.str i) = some (.bool (match t with | .str => true | _ => false)) := by cases t <;> rfl
theorem isi_none (t : Ty) : isO t .none = some (.bool (match t with | .none_ => true | _ => false)) := by cases t <;> rfl
theorem setRef_eq {n : Nat} {xs : List Val} {k : Int} {v : Val} {G : Heap} {j : Nat} (h : G[n]? = some (.lst xs)) (hj : ixN xs.length k = some j) : setRef (.ref n) (.int k) v G = some (G.set n (.lst (xs.set j v))) := by
  simp only [setRef, h, setK, hj, Option.map_some]
theorem get_set {G : Heap} {n : Nat} {o : Obj} (h : n < G.length) : (G.set n o)[n]? = some o := List.getElem?_set_self h
end Fx

namespace Fx
open PySem PySem.Spec PyProof.Rows L2
theorem compR_ints {tg : Val → Store → Option Store} {c e : Store → Heap → R Val} {G : Heap} {s : Store} (f : Int → Val) : ∀ {xs : List Int},
    (∀ x ∈ xs, ∃ s1, tg (.int x) s = some s1 ∧ c s1 G = .ok (.bool true) G ∧ e s1 G = .ok (f x) G) → compR tg c e (vInts xs) s G = .ok (xs.map f) G
  | [], _ => rfl
  | x :: xs, h => by
    obtain ⟨s1, e1, e2, e3⟩ := h x List.mem_cons_self
    have ih := compR_ints (tg := tg) (c := c) (e := e) (s := s) (G := G) f (xs := xs) fun y hy => h y (List.mem_cons_of_mem _ hy)
    show compR tg c e (.int x :: vInts xs) s G = _
    rw [compR_cons, e1, R.opt_some, R.bind_ok, e2, R.bind_ok]
    show ((e s1 G).bind fun v G4 => (compR tg c e (vInts xs) s G4).bind fun vs G5 => R.ok (v :: vs) G5) = _
    rw [e3, R.bind_ok, ih]; rfl
theorem bools_map (q : Int → Bool) : ∀ xs : List Int, bools? (xs.map fun w => Val.bool (q w)) = some (xs.map q)
  | [] => rfl
  | x :: xs => by
    show (bools? (xs.map fun w => Val.bool (q w))).map (q x :: ·) = _
    rw [bools_map q xs]; rfl
theorem any_b (q : Int → Bool) (xs : List Int) : bfK .any [.lst (xs.map fun w => Val.bool (q w))] = some (.bool (xs.any q)) := by
  show (bools? _).map _ = _
  rw [bools_map]
  show some (Val.bool ((xs.map q).any id)) = _
  rw [List.any_map]; rfl
theorem bools_all : ∀ {vs : List Val}, (∀ v ∈ vs, v = .bool true) → ∃ bs, bools? vs = some bs ∧ bs.all id = true
  | [], _ => ⟨[], rfl, rfl⟩
  | v :: vs, h => by
    have e := h v List.mem_cons_self
    subst e
    obtain ⟨bs, h1, h2⟩ := bools_all fun v hv => h v (List.mem_cons_of_mem _ hv)
    exact ⟨true :: bs, by show (bools? vs).map _ = _; rw [h1]; rfl, by rw [List.all_cons, h2]; rfl⟩
theorem all_true {vs : List Val} (h : ∀ v ∈ vs, v = .bool true) : bfK .all [.lst vs] = some (.bool true) := by
  obtain ⟨bs, h1, h2⟩ := bools_all h
  show (bools? vs).map _ = _
  rw [h1]
  show some (Val.bool (bs.all id)) = _
  rw [h2]
def Well (G : Heap) (n : Nat) : Prop := ∃ a b c : Int, G[n]? = some (.lst [.int a, .int b, .int c])
/-- nothing but the well at n has changed -/
structure Keep (n : Nat) (G G' : Heap) : Prop where
  len : G.length ≤ G'.length
  at_ : ∀ m, m ≠ n → m < G.length → G'[m]? = G[m]?
theorem Keep.refl (n : Nat) (G : Heap) : Keep n G G := ⟨Nat.le_refl _, fun _ _ _ => rfl⟩
theorem Keep.trans {n : Nat} {G G1 G2 : Heap} (h : Keep n G G1) (k : Keep n G1 G2) : Keep n G G2 :=
  ⟨Nat.le_trans h.len k.len, fun m hm hl => (k.at_ m hm (Nat.lt_of_lt_of_le hl h.len)).trans (h.at_ m hm hl)⟩
theorem Keep.set (n : Nat) (G : Heap) (o : Obj) : Keep n G (G.set n o) := ⟨by rw [List.length_set]; exact Nat.le_refl _, fun m hm _ => List.getElem?_set_ne (Ne.symm hm)⟩
theorem Keep.new (n : Nat) (G : Heap) (o : Obj) : Keep n G (G ++ [o]) := ⟨by simp, fun m _ hl => List.getElem?_append_left hl⟩
theorem Well.lt {G : Heap} {n : Nat} (h : Well G n) : n < G.length := let ⟨_, _, _, e⟩ := h; (List.getElem?_eq_some_iff.mp e).1
theorem Well.new {G : Heap} {n : Nat} (h : Well G n) (o : Obj) : Well (G ++ [o]) n := let ⟨a, b, c, e⟩ := h; ⟨a, b, c, by rw [List.getElem?_append_left (List.getElem?_eq_some_iff.mp e).1]; exact e⟩
end Fx
namespace Fx
open PySem PySem.Spec PyProof.Rows L2
theorem satT_next (s : Store) (G : Heap) (N B : Store → Heap → Prop) (T : Val → Heap → Prop) : (RS.next s G).satT N B T ↔ N s G := Iff.rfl
theorem satT_ret (v : Val) (G : Heap) (N B : Store → Heap → Prop) (T : Val → Heap → Prop) : (RS.ret v G).satT N B T ↔ T v G := Iff.rfl
theorem sat_next (s : Store) (G : Heap) (N : Store → Heap → Prop) (T : Val → Heap → Prop) : (RS.next s G).sat N T ↔ N s G := Iff.rfl
theorem sat_ret (v : Val) (G : Heap) (N : Store → Heap → Prop) (T : Val → Heap → Prop) : (RS.ret v G).sat N T ↔ T v G := Iff.rfl
theorem satT_ite (c : Prop) [Decidable c] (a b : RS) (N B : Store → Heap → Prop) (T : Val → Heap → Prop) : (if c then a else b).satT N B T ↔ if c then a.satT N B T else b.satT N B T := by split <;> exact Iff.rfl
theorem rngK_ok {lo hi : Int} (h1 : -p62 ≤ lo) (h2 : lo < p62) (h3 : -p62 ≤ hi) (h4 : hi < p62) : rngK lo hi = some (rangeV lo (hi - lo).toNat) := by
  unfold rngK
  rw [if_pos ⟨h1, h2, h3, h4⟩]
theorem rangeV_len : ∀ (n : Nat) (lo : Int), (rangeV lo n).length = n
  | 0, _ => rfl
  | n + 1, lo => by rw [rangeV, List.length_cons, rangeV_len n]
theorem rangeV_mem : ∀ (n : Nat) (lo : Int) (v : Val), v ∈ rangeV lo n → ∃ i : Int, v = .int i ∧ lo ≤ i ∧ i < lo + n
  | 0, _, _, h => nomatch h
  | n + 1, lo, v, h => by
    rw [rangeV] at h
    rcases List.mem_cons.mp h with e | h
    · exact ⟨lo, e, by omega, by omega⟩
    · obtain ⟨i, e, h1, h2⟩ := rangeV_mem n (lo + 1) v h
      exact ⟨i, e, by omega, by omega⟩
theorem vInts_app (a b : List Int) : vInts a ++ vInts b = vInts (a ++ b) := (List.map_append).symm
theorem rep_l (xs : List Val) (k : Int) (h : (decide (-9223372036854775808 ≤ k) && decide (k < 9223372036854775808) && decide (xs.length * k.toNat ≤ lineN)) = true) : binK .Mult (.lst xs) (.int k) = some (.lst (List.replicate k.toNat xs).flatten) := by
  show (if -9223372036854775808 ≤ k ∧ k < 9223372036854775808 ∧ xs.length * k.toNat ≤ lineN then some (Val.lst (List.replicate k.toNat xs).flatten) else none) = _
  rw [if_pos (by simpa [and_assoc] using h)]
theorem rep_t (xs : List Val) (k : Int) (h : (!xs.isEmpty && decide (2 ≤ k) && decide (k ≤ 1000) && decide (xs.length ≤ 1000)) = true) : binK .Mult (.tup xs) (.int k) = some (.tup (List.replicate k.toNat xs).flatten) := by
  simp only [Bool.and_eq_true, decide_eq_true_eq, Bool.not_eq_true'] at h
  obtain ⟨⟨⟨h1, h2⟩, h3⟩, h4⟩ := h
  show (if xs.isEmpty = true then (if -9223372036854775808 ≤ k ∧ k < 9223372036854775808 then some (Val.tup []) else none) else if k = 1 then some (Val.tup xs) else if 2 ≤ k ∧ k ≤ 1000 ∧ xs.length ≤ 1000 then some (Val.tup (List.replicate k.toNat xs).flatten) else none) = _
  rw [if_neg (by rw [h1]; exact Bool.false_ne_true), if_neg (by omega), if_pos ⟨h2, h3, h4⟩]
theorem rep_t0 (k : Int) (h : (decide (-9223372036854775808 ≤ k) && decide (k < 9223372036854775808)) = true) : binK .Mult (.tup []) (.int k) = some (.tup []) := by
  simp only [Bool.and_eq_true, decide_eq_true_eq] at h
  show (if ([] : List Val).isEmpty = true then (if -9223372036854775808 ≤ k ∧ k < 9223372036854775808 then some (Val.tup []) else none) else if k = 1 then some (Val.tup ([] : List Val)) else if 2 ≤ k ∧ k ≤ 1000 ∧ ([] : List Val).length ≤ 1000 then some (Val.tup (List.replicate k.toNat ([] : List Val)).flatten) else none) = _
  rw [if_pos (show ([] : List Val).isEmpty = true from rfl), if_pos h]
theorem flat_ints (k : Nat) (xs : List Int) : (List.replicate k (vInts xs)).flatten = vInts (List.replicate k xs).flatten := by
  rw [vInts, vInts, List.map_flatten, List.map_replicate]
theorem flat_len {α : Type} (k : Nat) (xs : List α) : (List.replicate k xs).flatten.length = k * xs.length := by
  rw [List.length_flatten, List.map_replicate, List.sum_replicate_nat]
theorem slice_l (xs : List Val) (l h : Option Int) : sliceV (.lst xs) l h = some (.lst (cutL xs l h)) := rfl
theorem slice_t (xs : List Val) (l h : Option Int) : sliceV (.tup xs) l h = some (.tup (cutL xs l h)) := rfl
theorem slice_f (xs : List Val) (l h : Option Int) : sliceV (.frz xs) l h = some (.lst (cutL xs l h)) := rfl
theorem ixO_no (v : Val) : ixO false v = some none := rfl
theorem ixO_int (i : Int) : ixO true (.int i) = some (some i) := rfl
end Fx

namespace Fx
open PySem PySem.Spec PyProof.Rows L2
theorem evE_var (Γ : Calls) (i : Nat) (s : Store) (G : Heap) : evE Γ (.var i) s G = (match s.getD i .no with
    | .val v => .ok v G
    | _ => .no) := by first | (rw [evE]; done) | (rw [evE]; rfl)
theorem evE_own (Γ : Calls) (i : Nat) (s : Store) (G : Heap) : evE Γ (.own i) s G = (match s.getD i .no with
    | .own xs => .ok (.lst xs) G
    | .frz xs => .ok (.lst xs) G
    | _ => .no) := by first | (rw [evE]; done) | (rw [evE]; rfl)
theorem evE_con (Γ : Calls) (v : Val) (s : Store) (G : Heap) : evE Γ (.con v) s G = (.ok v G) := by first | (rw [evE]; done) | (rw [evE]; rfl)
theorem evE_tup (Γ : Calls) (es : Es) (s : Store) (G : Heap) : evE Γ (.tup es) s G = ((evEs Γ es s G).bind fun vs G1 => .ok (.tup vs) G1) := by first | (rw [evE]; done) | (rw [evE]; rfl)
theorem evE_lst (Γ : Calls) (es : Es) (s : Store) (G : Heap) : evE Γ (.lst es) s G = ((evEs Γ es s G).bind fun vs G1 => .ok (.lst vs) G1) := by first | (rw [evE]; done) | (rw [evE]; rfl)
theorem evE_bin (Γ : Calls) (op : Operator) (a : E) (b : E) (s : Store) (G : Heap) : evE Γ (.bin op a b) s G = ((evE Γ a s G).bind fun x G1 => (evE Γ b s G1).bind fun y G2 => R.opt (binK op (rd G2 x) (rd G2 y)) G2) := by first | (rw [evE]; done) | (rw [evE]; rfl)
theorem evE_neg (Γ : Calls) (a : E) (s : Store) (G : Heap) : evE Γ (.neg a) s G = ((evE Γ a s G).bind fun x G1 => match x with
    | .int i => .ok (.int (-i)) G1
    | _ => .no) := by first | (rw [evE]; done) | (rw [evE]; rfl)
theorem evE_cmp (Γ : Calls) (op : CmpOp) (a : E) (b : E) (s : Store) (G : Heap) : evE Γ (.cmp op a b) s G = ((evE Γ a s G).bind fun x G1 => (evE Γ b s G1).bind fun y G2 => R.opt ((cmpK op (rd G2 x) (rd G2 y)).map .bool) G2) := by first | (rw [evE]; done) | (rw [evE]; rfl)
theorem evE_cmp2 (Γ : Calls) (op : CmpOp) (op2 : CmpOp) (a : E) (b : E) (c : E) (s : Store) (G : Heap) : evE Γ (.cmp2 op op2 a b c) s G = ((evE Γ a s G).bind fun x G1 => (evE Γ b s G1).bind fun y G2 => (R.opt (cmpK op (rd G2 x) (rd G2 y)) G2).bind fun k G3 =>
    if k then (evE Γ c s G3).bind fun z G4 => R.opt ((cmpK op2 (rd G4 y) (rd G4 z)).map .bool) G4 else .ok (.bool false) G3) := by first | (rw [evE]; done) | (rw [evE]; rfl)
theorem evE_not (Γ : Calls) (a : E) (s : Store) (G : Heap) : evE Γ (.not a) s G = ((evE Γ a s G).bind fun x G1 => R.opt ((truthV (rd G1 x)).map fun b => .bool (!b)) G1) := by first | (rw [evE]; done) | (rw [evE]; rfl)
theorem evE_and (Γ : Calls) (a : E) (b : E) (s : Store) (G : Heap) : evE Γ (.and a b) s G = ((evE Γ a s G).bind fun x G1 => (R.opt (truthV (rd G1 x)) G1).bind fun k G2 => if k then evE Γ b s G2 else .ok x G2) := by first | (rw [evE]; done) | (rw [evE]; rfl)
theorem evE_or (Γ : Calls) (a : E) (b : E) (s : Store) (G : Heap) : evE Γ (.or a b) s G = ((evE Γ a s G).bind fun x G1 => (R.opt (truthV (rd G1 x)) G1).bind fun k G2 => if k then .ok x G2 else evE Γ b s G2) := by first | (rw [evE]; done) | (rw [evE]; rfl)
theorem evE_ite (Γ : Calls) (c : E) (a : E) (b : E) (s : Store) (G : Heap) : evE Γ (.ite c a b) s G = ((evE Γ c s G).bind fun x G1 => (R.opt (truthV (rd G1 x)) G1).bind fun k G2 => if k then evE Γ a s G2 else evE Γ b s G2) := by first | (rw [evE]; done) | (rw [evE]; rfl)
theorem evE_idx (Γ : Calls) (a : E) (i : E) (s : Store) (G : Heap) : evE Γ (.idx a i) s G = ((evE Γ a s G).bind fun x G1 => (evE Γ i s G1).bind fun y G2 => R.opt (idxK (rd G2 x) y) G2) := by first | (rw [evE]; done) | (rw [evE]; rfl)
theorem evE_slice (Γ : Calls) (a : E) (bl : Bool) (lo : E) (bh : Bool) (hi : E) (s : Store) (G : Heap) : evE Γ (.slice a bl lo bh hi) s G = ((evE Γ a s G).bind fun x G1 => ((evE Γ lo s G1).bind fun y G2 => R.opt (ixO bl y) G2).bind fun l G2 => ((evE Γ hi s G2).bind fun z G3 => R.opt (ixO bh z) G3).bind fun h G3 => R.opt (sliceV (rd G3 x) l h) G3) := by first | (rw [evE]; done) | (rw [evE]; rfl)
theorem evE_call (Γ : Calls) (f : String) (es : Es) (s : Store) (G : Heap) : evE Γ (.call f es) s G = ((evEs Γ es s G).bind fun vs G1 => Γ f vs G1) := by first | (rw [evE]; done) | (rw [evE]; rfl)
theorem evE_bcall (Γ : Calls) (f : Bf) (es : Es) (s : Store) (G : Heap) : evE Γ (.bcall f es) s G = ((evEs Γ es s G).bind fun vs G1 => R.opt (bfK f (vs.map (rd G1))) G1) := by first | (rw [evE]; done) | (rw [evE]; rfl)
theorem evE_isi (Γ : Calls) (a : E) (t : Ty) (s : Store) (G : Heap) : evE Γ (.isi a t) s G = ((evE Γ a s G).bind fun x G1 => R.opt (isO t (rd G1 x)) G1) := by first | (rw [evE]; done) | (rw [evE]; rfl)
theorem evE_comp (Γ : Calls) (ws : List Nat) (t : Tg) (it : Itx) (c : E) (e : E) (s : Store) (G : Heap) : evE Γ (.comp ws t it c e) s G = ((evI Γ it s G).bind fun xs G1 => if lineN < xs.length then .no else ((compR (setT t) (evE Γ c) (evE Γ e) xs (wipeS s ws) G1).bind fun vs G2 => .ok (.lst vs) G2).calm) := by first | (rw [evE]; done) | (rw [evE]; rfl)
theorem evE_heap (Γ : Calls) (e : E) (s : Store) (G : Heap) : evE Γ (.heap e) s G = ((evE Γ e s G).bind fun v G1 => match v with
    | .lst xs => .ok (.ref G1.length) (G1 ++ [.lst xs])
    | _ => .no) := by first | (rw [evE]; done) | (rw [evE]; rfl)
theorem evE_dval (Γ : Calls)  (s : Store) (G : Heap) : evE Γ (.dval) s G = (.ok (.dct [] []) G) := by first | (rw [evE]; done) | (rw [evE]; rfl)
theorem evE_dnew (Γ : Calls)  (s : Store) (G : Heap) : evE Γ (.dnew) s G = (.ok (.ref G.length) (G ++ [.dct [] []])) := by first | (rw [evE]; done) | (rw [evE]; rfl)
theorem evE_zipL (Γ : Calls) (es : Es) (s : Store) (G : Heap) : evE Γ (.zipL es) s G = ((evEs Γ es s G).bind fun vs G1 => R.opt (zipLV vs) G1) := by first | (rw [evE]; done) | (rw [evE]; rfl)
theorem evE_dcon (Γ : Calls) (ks : List Key) (vs : List Val) (s : Store) (G : Heap) : evE Γ (.dcon ks vs) s G = (.ok (.ref G.length) (G ++ [.dct ks vs])) := by first | (rw [evE]; done) | (rw [evE]; rfl)
theorem evE_dsub (Γ : Calls) (ks : List Key) (vs : List Val) (i : E) (s : Store) (G : Heap) : evE Γ (.dsub ks vs i) s G = ((evE Γ i s G).bind fun y G1 => R.opt ((keyOf y).bind (dLook ks vs)) G1) := by first | (rw [evE]; done) | (rw [evE]; rfl)
theorem evE_tindex (Γ : Calls) (a b : E) (s : Store) (G : Heap) : evE Γ (.tindex a b) s G = ((evE Γ a s G).bind fun x G1 => (R.opt (isT x) G1).bind fun _ G1 => (evE Γ b s G1).bind fun y G2 => R.opt (tidxV x y) G2) := by first | (rw [evE]; done) | (rw [evE]; rfl)
theorem evE_lindex (Γ : Calls) (a b : E) (s : Store) (G : Heap) : evE Γ (.lindex a b) s G = ((evE Γ a s G).bind fun x G1 => (R.opt (isL (rd G1 x)) G1).bind fun _ G1 => (evE Γ b s G1).bind fun y G2 => R.opt (lidxV (rd G2 x) y) G2) := by first | (rw [evE]; done) | (rw [evE]; rfl)
theorem evE_tupS (Γ : Calls) (es : Es) (e : E) (s : Store) (G : Heap) : evE Γ (.tupS es e) s G = ((evEs Γ es s G).bind fun vs G1 => (evE Γ e s G1).bind fun x G2 => R.opt (starV vs x) G2) := by first | (rw [evE]; done) | (rw [evE]; rfl)
theorem evE_popR (Γ : Calls) (o i : E) (s : Store) (G : Heap) : evE Γ (.popR o i) s G = ((evE Γ o s G).bind fun x G1 => (R.opt (isL (rd G1 x)) G1).bind fun _ G1 => (evE Γ i s G1).bind fun y G2 => (R.opt (popAt x y G2) G2).bind fun p _ => .ok p.1 p.2) := by first | (rw [evE]; done) | (rw [evE]; rfl)
theorem evE_rngL (Γ : Calls) (a : E) (s : Store) (G : Heap) : evE Γ (.rngL a) s G = ((evE Γ a s G).bind fun x G1 => R.opt (rngLV x) G1) := by first | (rw [evE]; done) | (rw [evE]; rfl)
theorem evE_rngT (Γ : Calls) (a : E) (s : Store) (G : Heap) : evE Γ (.rngT a) s G = ((evE Γ a s G).bind fun x G1 => R.opt (rngTV x) G1) := by first | (rw [evE]; done) | (rw [evE]; rfl)
theorem evE_compL (Γ : Calls) (ws : List Nat) (t : Tg) (j : Nat) (c e : E) (s : Store) (G : Heap) : evE Γ (.compL ws t j c e) s G = (match refAt s j G with
    | some (n, xs) => if lineN < xs.length then .no else ((compW n xs (setT t) (evE Γ c) (evE Γ e) xs (wipeS s ws) G).bind fun vs G2 => .ok (.lst vs) G2).calm
    | none => .no) := by first | (rw [evE]; done) | (rw [evE]; rfl)
theorem evE_dcomp (Γ : Calls) (ws : List Nat) (t : Tg) (it : Itx) (k e : E) (s : Store) (G : Heap) : evE Γ (.dcomp ws t it k e) s G = ((evI Γ it s G).bind fun xs G1 => if lineN < xs.length then .no else
      ((dcompR G1.length (setT t) (evE Γ k) (evE Γ e) xs (wipeS s ws) (G1 ++ [.dct [] []])).bind fun _ G2 => .ok (.ref G1.length) G2).calm) := by first | (rw [evE]; done) | (rw [evE]; rfl)
theorem evE_lam (Γ : Calls) (ts : List Str) (pre : List Val) (one : Bool) (hs : List Hd) (c : E) (s : Store) (G : Heap) : evE Γ (.lam ts pre one hs c) s G = (if tabsAt ts G = true then lamR pre one hs (evE Γ c s G) else .no) := by first | (rw [evE]; done) | (rw [evE]; rfl)
theorem evE_stop (Γ : Calls)  (s : Store) (G : Heap) : evE Γ (.stop) s G = (.no) := by first | (rw [evE]; done) | (rw [evE]; rfl)
theorem evEs_nil (Γ : Calls)  (s : Store) (G : Heap) : evEs Γ (.nil) s G = (.ok [] G) := by first | (rw [evEs]; done) | (rw [evEs]; rfl)
theorem evEs_cons (Γ : Calls) (e : E) (es : Es) (s : Store) (G : Heap) : evEs Γ (.cons e es) s G = ((evE Γ e s G).bind fun v G1 => (evEs Γ es s G1).bind fun vs G2 => .ok (v :: vs) G2) := by first | (rw [evEs]; done) | (rw [evEs]; rfl)
theorem evI_of (Γ : Calls) (e : E) (s : Store) (G : Heap) : evI Γ (.of e) s G = ((evE Γ e s G).bind fun v G1 => R.opt (seqI? v) G1) := by first | (rw [evI]; done) | (rw [evI]; rfl)
theorem evI_rng1 (Γ : Calls) (a : E) (s : Store) (G : Heap) : evI Γ (.rng1 a) s G = ((evE Γ a s G).bind fun x G1 => match x with
    | .int n => R.opt (rngK 0 n) G1
    | _ => .no) := by first | (rw [evI]; done) | (rw [evI]; rfl)
theorem evI_rng2 (Γ : Calls) (a : E) (b : E) (s : Store) (G : Heap) : evI Γ (.rng2 a b) s G = ((evE Γ a s G).bind fun x G1 => (evE Γ b s G1).bind fun y G2 => match x, y with
    | .int m, .int n => R.opt (rngK m n) G2
    | _, _ => .no) := by first | (rw [evI]; done) | (rw [evI]; rfl)
theorem evI_zip (Γ : Calls) (a : E) (b : E) (s : Store) (G : Heap) : evI Γ (.zip a b) s G = ((evE Γ a s G).bind fun x G1 => (evE Γ b s G1).bind fun y G2 => match x, y with
    | .tup xs, .tup ys => .ok (zipV xs ys) G2
    | .lst xs, .lst ys => .ok (zipV xs ys) G2
    | .tup xs, .lst ys => .ok (zipV xs ys) G2
    | _, _ => .no) := by first | (rw [evI]; done) | (rw [evI]; rfl)
theorem evI_enum (Γ : Calls) (a : E) (s : Store) (G : Heap) : evI Γ (.enum a) s G = ((evE Γ a s G).bind fun x G1 => R.opt ((seqE? x).map (enumV 0)) G1) := by first | (rw [evI]; done) | (rw [evI]; rfl)
theorem evS_stop (Γ : Calls)  (s : Store) (G : Heap) : evS Γ (.stop) s G = (.no) := by first | (rw [evS]; done) | (rw [evS]; rfl)
theorem evS_raise0 (Γ : Calls) (cls : String) (s : Store) (G : Heap) : evS Γ (.raise0 cls) s G = (.exc ⟨cls, none⟩ s G) := by first | (rw [evS]; done) | (rw [evS]; rfl)
theorem evS_exp (Γ : Calls) (e : E) (s : Store) (G : Heap) : evS Γ (.exp e) s G = ((evE Γ e s G).thenS s fun _ G1 => .next s G1) := by first | (rw [evS]; done) | (rw [evS]; rfl)
theorem evS_ret (Γ : Calls) (e : E) (s : Store) (G : Heap) : evS Γ (.ret e) s G = ((evE Γ e s G).thenS s fun v G1 => .ret v G1) := by first | (rw [evS]; done) | (rw [evS]; rfl)
theorem evS_retO (Γ : Calls) (k : Nat) (s : Store) (G : Heap) : evS Γ (.retO k) s G = (match s.getD k .no with
    | .own xs => .ret (.lst xs) G
    | _ => .no) := by first | (rw [evS]; done) | (rw [evS]; rfl)
theorem evS_retN (Γ : Calls)  (s : Store) (G : Heap) : evS Γ (.retN) s G = (.ret .none G) := by first | (rw [evS]; done) | (rw [evS]; rfl)
theorem evS_pass (Γ : Calls)  (s : Store) (G : Heap) : evS Γ (.pass) s G = (.next s G) := by first | (rw [evS]; done) | (rw [evS]; rfl)
theorem evS_brk (Γ : Calls)  (s : Store) (G : Heap) : evS Γ (.brk) s G = (.brk s G) := by first | (rw [evS]; done) | (rw [evS]; rfl)
theorem evS_cont (Γ : Calls)  (s : Store) (G : Heap) : evS Γ (.cont) s G = (.cont s G) := by first | (rw [evS]; done) | (rw [evS]; rfl)
theorem evS_asg (Γ : Calls) (t : Tg) (e : E) (s : Store) (G : Heap) : evS Γ (.asg t e) s G = ((evE Γ e s G).thenS s fun v G1 => (R.opt (setT t v s) G1).thenS s .next) := by first | (rw [evS]; done) | (rw [evS]; rfl)
theorem evS_asgOwn (Γ : Calls) (i : Nat) (e : E) (s : Store) (G : Heap) : evS Γ (.asgOwn i e) s G = ((evE Γ e s G).thenS s fun v G1 => match v with
    | .lst xs => .next (s.set i (.own xs)) G1
    | _ => .no) := by first | (rw [evS]; done) | (rw [evS]; rfl)
theorem evS_setR (Γ : Calls) (o : E) (i : E) (e : E) (s : Store) (G : Heap) : evS Γ (.setR o i e) s G = ((evE Γ e s G).thenS s fun v G1 => (evE Γ o s G1).thenS s fun ov G2 => (evE Γ i s G2).thenS s fun iv G3 => match setRef ov iv v G3 with
    | some G4 => .next s G4
    | none => .no) := by first | (rw [evS]; done) | (rw [evS]; rfl)
theorem evS_setO (Γ : Calls) (k : Nat) (i : E) (e : E) (s : Store) (G : Heap) : evS Γ (.setO k i e) s G = ((evE Γ e s G).thenS s fun v G1 => match s.getD k .no with
    | .own _ => (evE Γ i s G1).thenS s fun iv G2 => match setOwn k iv v s with
      | some s1 => .next s1 G2
      | none => .no
    | _ => .no) := by first | (rw [evS]; done) | (rw [evS]; rfl)
theorem evS_app (Γ : Calls) (k : Nat) (e : E) (s : Store) (G : Heap) : evS Γ (.app k e) s G = (match s.getD k .no with
    | .own xs => (evE Γ e s G).thenS s fun v G1 => if xs.length < lineN then .next (s.set k (.own (xs ++ [v]))) G1 else .no
    | _ => .no) := by first | (rw [evS]; done) | (rw [evS]; rfl)
theorem evS_appR (Γ : Calls) (o : E) (e : E) (s : Store) (G : Heap) : evS Γ (.appR o e) s G = ((evE Γ o s G).thenS s fun ov G1 => match rd G1 ov with
    | .lst _ => (evE Γ e s G1).thenS s fun v G2 => match ov with
      | .ref n => match G2[n]? with
        | some (.lst xs) => if xs.length < lineN then .next s (G2.set n (.lst (xs ++ [v]))) else .no
        | _ => .no
      | _ => .no
    | _ => .no) := by first | (rw [evS]; done) | (rw [evS]; rfl)
theorem evS_extO (Γ : Calls) (k : Nat) (e : E) (s : Store) (G : Heap) : evS Γ (.extO k e) s G = (match s.getD k .no with
    | .own xs => (evE Γ e s G).thenS s fun v G1 => match v with
      | .lst ys => if xs.length + ys.length ≤ lineN then .next (s.set k (.own (xs ++ ys))) G1 else .no
      | _ => .no
    | _ => .no) := by first | (rw [evS]; done) | (rw [evS]; rfl)
theorem evS_popT (Γ : Calls) (t : Tg) (k : Nat) (s : Store) (G : Heap) : evS Γ (.popT t k) s G = (match s.getD k .no with
    | .own xs => match xs[xs.length - 1]? with
      | some x => (R.opt (setT t x (s.set k (.own xs.dropLast))) G).thenS s .next
      | none => .no
    | _ => .no) := by first | (rw [evS]; done) | (rw [evS]; rfl)
theorem evS_popO (Γ : Calls) (k : Nat) (s : Store) (G : Heap) : evS Γ (.popO k) s G = (match s.getD k .no with
    | .own xs => match xs[xs.length - 1]? with
      | some _ => .next (s.set k (.own xs.dropLast)) G
      | none => .no
    | _ => .no) := by first | (rw [evS]; done) | (rw [evS]; rfl)
theorem evS_aug (Γ : Calls) (i : Nat) (op : Operator) (e : E) (s : Store) (G : Heap) : evS Γ (.aug i op e) s G = (match s.getD i .no with
    | .val (.int a) => (evE Γ e s G).thenS s fun v G1 => match op, v with
      | .Add, .int b => .next (s.set i (.val (.int (a + b)))) G1
      | .Sub, .int b => .next (s.set i (.val (.int (a - b)))) G1
      | _, _ => .no
    | _ => .no) := by first | (rw [evS]; done) | (rw [evS]; rfl)
theorem evS_par (Γ : Calls) (ts : PTgs) (e : E) (s : Store) (G : Heap) : evS Γ (.par ts e) s G = ((evE Γ e s G).thenS s fun v G1 => match v with
    | .tup xs => (evPTgs Γ ts xs s G1).calm.thenS s .next
    | _ => .no) := by first | (rw [evS]; done) | (rw [evS]; rfl)
theorem evS_ite (Γ : Calls) (c : E) (a : Ss) (b : Ss) (s : Store) (G : Heap) : evS Γ (.ite c a b) s G = ((evE Γ c s G).thenS s fun x G1 => (R.opt (truthV (rd G1 x)) G1).thenS s fun k G2 => if k then evSs Γ a s G2 else evSs Γ b s G2) := by first | (rw [evS]; done) | (rw [evS]; rfl)
theorem evS_for_ (Γ : Calls) (t : Tg) (it : Itx) (b : Ss) (s : Store) (G : Heap) : evS Γ (.for_ t it b) s G = ((evI Γ it s G).thenS s fun xs G1 => forR (setT t) (evSs Γ b) xs s G1) := by first | (rw [evS]; done) | (rw [evS]; rfl)
theorem evS_forO (Γ : Calls) (t : Tg) (k : Nat) (b : Ss) (s : Store) (G : Heap) : evS Γ (.forO t k b) s G = (match s.getD k .no with
    | .own xs => (forR (setT t) (evSs Γ b) xs (s.set k (.frz xs)) G).turn fun s1 G1 => match s1.getD k .no with
      | .frz _ => .next (s1.set k (.own xs)) G1
      | _ => .no
    | _ => .no) := by first | (rw [evS]; done) | (rw [evS]; rfl)
theorem evS_forL (Γ : Calls) (t : Tg) (j : Nat) (b : Ss) (s : Store) (G : Heap) : evS Γ (.forL t j b) s G = (match refAt s j G with
    | some (n, xs) => forW n xs (setT t) (evSs Γ b) xs s G
    | none => .no) := by first | (rw [evS]; done) | (rw [evS]; rfl)
theorem evS_while_ (Γ : Calls) (c : E) (b : Ss) (s : Store) (G : Heap) : evS Γ (.while_ c b) s G = (whileR (evE Γ c) (evSs Γ b) fuelW s G) := by first | (rw [evS]; done) | (rw [evS]; rfl)
theorem setT_name (i : Nat) (v : Val) (s : Store) : setT (.name i) v s = some (s.set i (.val v)) := by rw [setT]
theorem setT_tup (ts : Tgs) (xs : List Val) (s : Store) : setT (.tup ts) (.tup xs) s = setTs ts xs s := by rw [setT]
theorem setTs_nil (s : Store) : setTs .nil [] s = some s := by rw [setTs]
theorem setTs_cons (t : Tg) (ts : Tgs) (x : Val) (xs : List Val) (s : Store) : setTs (.cons t ts) (x :: xs) s = (setT t x s).bind fun s' => setTs ts xs s' := by rw [setTs]
theorem evP_nil (Γ : Calls) (s : Store) (G : Heap) : evPTgs Γ .nil [] s G = .ok s G := by rw [evPTgs]
theorem evP_name (Γ : Calls) (i : Nat) (ts : PTgs) (x : Val) (xs : List Val) (s : Store) (G : Heap) : evPTgs Γ (.cons (.name i) ts) (x :: xs) s G = evPTgs Γ ts xs (s.set i (.val x)) G := by rw [evPTgs]
theorem evP_item (Γ : Calls) (o i : E) (ts : PTgs) (x : Val) (xs : List Val) (s : Store) (G : Heap) : evPTgs Γ (.cons (.item o i) ts) (x :: xs) s G = (evE Γ o s G).bind fun ov G1 => (evE Γ i s G1).bind fun iv G2 => (R.opt (setRef ov iv x G2) G2).bind fun G3 _ => evPTgs Γ ts xs s G3 := by rw [evPTgs]
theorem wipe_nil (s : Store) : wipeS s [] = s := rfl
theorem wipe_cons (s : Store) (v : Nat) (vs : List Nat) : wipeS s (v :: vs) = (wipeS s vs).set v .no := rfl
end Fx
namespace Fx
open PySem PySem.Spec PyProof.Rows L2
theorem evE_din (Γ : Calls) (ks : List Key) (vs : List Val) (neg : Bool) (a : E) (s : Store) (G : Heap) : evE Γ (.din ks vs neg a) s G = ((evE Γ a s G).bind fun x G1 => R.opt ((keyOf x).map fun k => .bool (if neg then !(dLook ks vs k).isSome else (dLook ks vs k).isSome)) G1) := by first | (rw [evE]; done) | (rw [evE]; rfl)
theorem evE_sliceR (Γ : Calls) (a : E) (bh : Bool) (hi st : E) (s : Store) (G : Heap) : evE Γ (.sliceR a bh hi st) s G = ((evE Γ a s G).bind fun x G1 => ((evE Γ hi s G1).bind fun z G2 => R.opt (ixO bh z) G2).bind fun h G2 => ((evE Γ st s G2).bind fun z G3 => R.opt (ixO true z) G3).bind fun t G3 => R.opt (revV (rd G3 x) h t) G3) := by first | (rw [evE]; done) | (rw [evE]; rfl)
theorem evI_rev (Γ : Calls) (a : E) (s : Store) (G : Heap) : evI Γ (.rev a) s G = ((evE Γ a s G).bind fun x G1 => match x with
    | .tup xs => .ok xs.reverse G1
    | _ => .no) := by first | (rw [evI]; done) | (rw [evI]; rfl)
theorem evE_lenSet (Γ : Calls) (a : E) (s : Store) (G : Heap) : evE Γ (.lenSet a) s G = ((evE Γ a s G).bind fun x G1 => R.opt (lenSetV x) G1) := by first | (rw [evE]; done) | (rw [evE]; rfl)
theorem seqI_t (xs : List Val) : seqI? (.tup xs) = some xs := rfl
theorem seqI_l (xs : List Val) : seqI? (.lst xs) = some xs := rfl
theorem seqI_f (xs : List Val) : seqI? (.frz xs) = some xs := rfl
theorem seqI_s (s : String) : seqI? (.str s) = some (signs s) := rfl
theorem keyOf_s (s : String) : keyOf (.str s) = some (.inr (Str.ofString s)) := rfl
theorem keyOf_i (i : Int) : keyOf (.int i) = some (.inl i) := rfl
theorem seq_t (xs : List Val) : seq? (.tup xs) = some xs := rfl
theorem seq_l (xs : List Val) : seq? (.lst xs) = some xs := rfl
theorem seq_f (xs : List Val) : seq? (.frz xs) = some xs := rfl
theorem vInts_len (xs : List Int) : (vInts xs).length = xs.length := List.length_map ..
theorem getD_set_eq {s : Store} {i : Nat} {a d : Slot} (h : i < s.length) : (s.set i a).getD i d = a := by rw [getD_set, if_pos ⟨rfl, h⟩]
/-- [x != 0 for x in ..] -/
theorem ne0_comp (Γ : Calls) (i : Nat) {s : Store} (hi : i < s.length) (G : Heap) (l : List Int) : compR (setT (.name i)) (evE Γ (.con (.bool true))) (evE Γ (.cmp .NotEq (.var i) (.con (.int 0)))) (vInts l) s G = .ok (l.map fun w => .bool (!decide (w = 0))) G :=
  compR_ints _ fun x _ => ⟨s.set i (.val (.int x)), setT_name .., evE_con .., by
    rw [evE_cmp, evE_var, getD_set_eq hi]
    show (R.bind _ _) = _
    rw [R.bind_ok, evE_con, R.bind_ok, rd_int, rd_int, ne_i]; rfl⟩
theorem cut_from (xs : List Int) {c : Int} (h : 0 ≤ c) : cutL (vInts xs) (some c) none = vInts (xs.drop c.toNat) := by rw [vInts, cutL_map, cutL_from _ _ h]
theorem cut_to (xs : List Int) {c : Int} (h : 0 ≤ c) : cutL (vInts xs) none (some c) = vInts (xs.take c.toNat) := by rw [vInts, cutL_map, cutL_to _ _ h]
end Fx

namespace Fx
open PySem PySem.Spec PyProof.Rows L2
theorem shaped_str (s : String) : SeqAt.shaped (.str (Str.ofString s)) = true := by
  unfold SeqAt.shaped
  rw [Bool.and_eq_true]
  exact ⟨strOk_of s, by rfl⟩
theorem eq_s (a b : String) : cmpK .Eq (.str a) (.str b) = some (decide (a = b)) := by
  show eqK (.str a) (.str b) = _
  rw [eqK_ne (fun _ z => by cases z)]
  unfold eqK0
  simp only [toD]
  have h : PyData.eqv (.str (Str.ofString a)) (.str (Str.ofString b)) = decide (a = b) := by
    show (Str.ofString a == Str.ofString b) = _
    rw [ofString_beq]; rfl
  rw [h, shaped_str, shaped_str]; rfl
theorem ne_s (a b : String) : cmpK .NotEq (.str a) (.str b) = some (!decide (a = b)) := by
  show (eqK (.str a) (.str b)).map (!·) = _
  rw [show eqK (.str a) (.str b) = some (decide (a = b)) from eq_s a b]; rfl
theorem toDs_ints : ∀ xs : List Int, toDs (vInts xs) = some (xs.map PyData.int)
  | [] => rfl
  | x :: xs => by
    show (toD (.int x)).bind (fun d => (toDs (vInts xs)).map fun ds => d :: ds) = _
    rw [toDs_ints xs]; rfl
theorem ne_nil (xs : List Int) : cmpK .NotEq (.lst (vInts xs)) (.lst []) = some (decide (xs ≠ [])) := by
  show (eqK (.lst (vInts xs)) (.lst [])).map (!·) = _
  rw [eqK_ne (fun _ z => by cases z)]
  unfold eqK0
  simp only [toD, toDs_ints, toDs, Option.map_some]
  rw [PySem.W.ke_shaped_ints, show SeqAt.shaped (.list []) = true from PySem.W.ke_shaped_ints []]
  cases xs <;> rfl
/-- the same as RS.seq_next, but no rfl lemma for simp: the kernel need not unfold the rest of a body -/
theorem seq_nextP (s : Store) (G : Heap) (f : Store → Heap → RS) : (RS.next s G).seq f = f s G := Eq.trans (RS.seq_next s G f) rfl
theorem turn_nextP (s : Store) (G : Heap) (f : Store → Heap → RS) : (RS.next s G).turn f = f s G := Eq.trans (RS.turn_next s G f) rfl
end Fx

namespace Fx.Law
open PySem Fx
abbrev gl := glOf D T
@[irreducible] def P : Prog := progOf gl D
def Bis_within : Ss := (.cons (.ret (.and (.isi (.var 0) .int) (.and (.not (.isi (.var 0) .bool)) (.cmp2 .LtE .LtE (.var 1) (.var 0) (.var 2)))))
  .nil)
theorem pis_within : P "is_within" = some ⟨3, 3, Bis_within⟩ := by kernel_rfl
def Bcheck_within : Ss := (.cons (.ite (.not (.call "is_within" (.cons (.var 0) (.cons (.var 1) (.cons (.var 2) .nil)))))
  (.cons (.raise1 "InvalidNumber" "given" (.var 0))
  .nil)
  .nil)
  .nil)
theorem pcheck_within : P "check_within" = some ⟨3, 3, Bcheck_within⟩ := by kernel_rfl
def Bhas_fields : Ss := (.cons (.ite (.cmp .Eq (.var 0) (.con (.str "closure")))
  (.cons (.ret (.cmp2 .LtE .LtE (.con (.int (1))) (.var 1) (.con (.int (999999999)))))
  .nil)
  .nil)
  (.cons (.ret (.cmp .Eq (.var 1) (.ite (.cmp .Eq (.var 0) (.con (.str "pair"))) (.con (.int (2))) (.con (.int (1))))))
  .nil))
theorem phas_fields : P "has_fields" = some ⟨2, 2, Bhas_fields⟩ := by kernel_rfl
def Bread : Ss := (.cons (.ite (.or (.not (.isi (.var 0) .int)) (.isi (.var 0) .bool))
  (.cons (.ret (.con .none))
  .nil)
  .nil)
  (.cons (.asg (.tup (.cons (.name 1) (.cons (.name 2) .nil))) (.tup (.cons (.bin .Mod (.var 0) (.con (.int (4)))) (.cons (.bin .FloorDiv (.var 0) (.con (.int (4)))) .nil))))
  (.cons (.ite (.cmp .Eq (.var 1) (.con (.int (0))))
  (.cons (.ret (.ite (.cmp2 .LtE .LtE (.neg (.con (.int (999999999)))) (.var 2) (.con (.int (999999999)))) (.tup (.cons (.con (.str "number")) (.cons (.var 2) .nil))) (.con .none)))
  .nil)
  .nil)
  (.cons (.ite (.cmp .Lt (.var 1) (.con (.int (3))))
  (.cons (.ret (.ite (.cmp2 .LtE .LtE (.con (.int (0))) (.var 2) (.con (.int (999999999)))) (.tup (.cons (.ite (.cmp .Eq (.var 1) (.con (.int (1)))) (.con (.str "address")) (.con (.str "mark"))) (.cons (.var 2) .nil))) (.con .none)))
  .nil)
  .nil)
  (.cons (.ite (.or (.cmp .Lt (.var 2) (.con (.int (0)))) (.or (.cmp .GtE (.bin .Mod (.var 2) (.con (.int (8)))) (.bcall .len (.cons (.con (.tup [(.str "closure"), (.str "pair"), (.str "box")])) .nil))) (.not (.call "has_fields" (.cons (.idx (.con (.tup [(.str "closure"), (.str "pair"), (.str "box")])) (.bin .Mod (.var 2) (.con (.int (8))))) (.cons (.bin .FloorDiv (.var 2) (.con (.int (8)))) .nil))))))
  (.cons (.ret (.con .none))
  .nil)
  .nil)
  (.cons (.ret (.tup (.cons (.con (.str "header")) (.cons (.idx (.con (.tup [(.str "closure"), (.str "pair"), (.str "box")])) (.bin .Mod (.var 2) (.con (.int (8))))) (.cons (.bin .FloorDiv (.var 2) (.con (.int (8)))) .nil)))))
  .nil))))))
theorem pread : P "read" = some ⟨1, 3, Bread⟩ := by kernel_rfl
def Bread_word : Ss := (.cons (.ret (.call "read" (.cons (.var 0) .nil)))
  .nil)
theorem pread_word : P "read_word" = some ⟨1, 1, Bread_word⟩ := by kernel_rfl
def Bnumber_word : Ss := (.cons (.exp (.call "check_within" (.cons (.var 0) (.cons (.neg (.con (.int (999999999)))) (.cons (.con (.int (999999999))) .nil)))))
  (.cons (.ret (.bin .Mult (.con (.int (4))) (.var 0)))
  .nil))
theorem pnumber_word : P "number_word" = some ⟨1, 1, Bnumber_word⟩ := by kernel_rfl
def Baddress_word : Ss := (.cons (.exp (.call "check_within" (.cons (.var 0) (.cons (.con (.int (0))) (.cons (.con (.int (999999999))) .nil)))))
  (.cons (.ret (.bin .Add (.bin .Mult (.con (.int (4))) (.var 0)) (.con (.int (1)))))
  .nil))
theorem paddress_word : P "address_word" = some ⟨1, 1, Baddress_word⟩ := by kernel_rfl
def Bmark_word : Ss := (.cons (.exp (.call "check_within" (.cons (.var 0) (.cons (.con (.int (0))) (.cons (.con (.int (999999999))) .nil)))))
  (.cons (.ret (.bin .Add (.bin .Mult (.con (.int (4))) (.var 0)) (.con (.int (2)))))
  .nil))
theorem pmark_word : P "mark_word" = some ⟨1, 1, Bmark_word⟩ := by kernel_rfl
def Bcheck_name : Ss := (.cons (.ite (.or (.not (.isi (.var 0) .str)) (.cmp .NotIn (.var 0) (.var 1)))
  (.cons (.raise1 "InvalidName" "given" (.var 0))
  .nil)
  .nil)
  .nil)
theorem pcheck_name : P "check_name" = some ⟨2, 2, Bcheck_name⟩ := by kernel_rfl
def Bheader_word : Ss := (.cons (.exp (.call "check_name" (.cons (.var 0) (.cons (.con (.tup [(.str "closure"), (.str "pair"), (.str "box")])) .nil))))
  (.cons (.ite (.or (.not (.call "is_within" (.cons (.var 1) (.cons (.con (.int (1))) (.cons (.con (.int (999999999))) .nil))))) (.not (.call "has_fields" (.cons (.var 0) (.cons (.var 1) .nil)))))
  (.cons (.raise1 "InvalidNumber" "given" (.var 1))
  .nil)
  .nil)
  (.cons (.ret (.bin .Add (.bin .Mult (.con (.int (4))) (.bin .Add (.bin .Mult (.con (.int (8))) (.var 1)) (.tindex (.con (.tup [(.str "closure"), (.str "pair"), (.str "box")])) (.var 0)))) (.con (.int (3)))))
  .nil)))
theorem pheader_word : P "header_word" = some ⟨2, 2, Bheader_word⟩ := by kernel_rfl
def Bw_law_well : Ss := (.cons (.asg (.name 2) (.bin .Add (.con (.int (2718281))) (.bin .Mult (.con (.int (9973))) (.var 1))))
  (.cons (.for_ (.name 3) (.of (.slice (.var 0) false (.con .none) true (.con (.int (7)))))
  (.cons (.asg (.name 2) (.bin .Mod (.bcall .int (.cons (.bin .Add (.bin .Add (.bin .Mult (.var 2) (.con (.int (51787)))) (.bin .Mod (.bcall .int (.cons (.var 3) .nil)) (.con (.int (2147483549))))) (.con (.int (11)))) .nil)) (.con (.int (2147483579)))))
  .nil))
  (.cons (.asg (.name 4) (.ite (.cmp .Lt (.var 1) (.bcall .len (.cons (.var 0) .nil))) (.bcall .int (.cons (.idx (.var 0) (.var 1)) .nil)) (.con (.int (0)))))
  (.cons (.asg (.name 2) (.bin .Mod (.bcall .int (.cons (.bin .Add (.bin .Add (.bin .Mult (.var 2) (.con (.int (39119)))) (.bin .Mult (.bin .Mod (.bcall .int (.cons (.var 4) .nil)) (.con (.int (2147483549)))) (.con (.int (27011))))) (.con (.int (3)))) .nil)) (.con (.int (2147483579)))))
  (.cons (.ret (.heap (.lst (.cons (.ite (.or (.cmp .Lt (.var 4) (.con (.int (0)))) (.cmp .GtE (.var 4) (.bin .Pow (.con (.int (10))) (.con (.int (14)))))) (.bcall .abs (.cons (.var 4) .nil)) (.con (.int (0)))) (.cons (.var 2) (.cons (.con (.int (0))) .nil))))))
  .nil)))))
theorem pw_law_well : P "_law_well" = some ⟨2, 5, Bw_law_well⟩ := by kernel_rfl
def Bw_law_draw : Ss := (.cons (.ite (.cmp .Gt (.idx (.var 0) (.con (.int (0)))) (.con (.int (0))))
  (.cons (.par (.cons (.item (.var 0) (.con (.int (0)))) (.cons (.name 3) .nil)) (.bcall .divmod (.cons (.idx (.var 0) (.con (.int (0)))) (.cons (.var 1) .nil))))
  (.cons (.ret (.var 3))
  .nil))
  .nil)
  (.cons (.setR (.var 0) (.con (.int (2))) (.bin .Add (.idx (.var 0) (.con (.int (2)))) (.con (.int (1)))))
  (.cons (.asg (.name 2) (.bin .Mod (.bcall .int (.cons (.bin .Add (.idx (.var 0) (.con (.int (1)))) (.bin .Mult (.con (.int (77003))) (.idx (.var 0) (.con (.int (2)))))) .nil)) (.con (.int (2147483579)))))
  (.cons (.setR (.var 0) (.con (.int (1))) (.bin .Mod (.bcall .int (.cons (.bin .Add (.bin .Mult (.var 2) (.bin .Add (.bin .Mod (.bcall .int (.cons (.var 2) .nil)) (.con (.int (6007)))) (.con (.int (30011))))) (.bin .Mult (.con (.int (17))) (.idx (.var 0) (.con (.int (2)))))) .nil)) (.con (.int (2147483579)))))
  (.cons (.ret (.bin .Mod (.bcall .int (.cons (.bin .FloorDiv (.idx (.var 0) (.con (.int (1)))) (.con (.int (719)))) .nil)) (.var 1)))
  .nil)))))
theorem pw_law_draw : P "_law_draw" = some ⟨2, 4, Bw_law_draw⟩ := by kernel_rfl
def Bw_law_pick : Ss := (.cons (.ret (.idx (.var 1) (.call "_law_draw" (.cons (.var 0) (.cons (.bcall .len (.cons (.var 1) .nil)) .nil)))))
  .nil)
theorem pw_law_pick : P "_law_pick" = some ⟨2, 2, Bw_law_pick⟩ := by kernel_rfl
def Bw_law_same : Ss := (.cons (.ite (.isi (.var 1) .tuple)
  (.cons (.ret (.and (.isi (.var 0) .tuple) (.and (.cmp .Eq (.bcall .len (.cons (.var 0) .nil)) (.bcall .len (.cons (.var 1) .nil))) (.bcall .all (.cons (.comp [2, 3] (.tup (.cons (.name 2) (.cons (.name 3) .nil))) (.zip (.var 0) (.var 1)) (.con (.bool true)) (.call "_law_same" (.cons (.var 2) (.cons (.var 3) .nil)))) .nil)))))
  .nil)
  .nil)
  (.cons (.ite (.cmp .Is (.var 1) (.con .none))
  (.cons (.ret (.cmp .Is (.var 0) (.con .none)))
  .nil)
  .nil)
  (.cons (.ite (.isi (.var 1) .bool)
  (.cons (.ret (.and (.isi (.var 0) .bool) (.cmp .Eq (.var 0) (.var 1))))
  .nil)
  .nil)
  (.cons (.ite (.isi (.var 1) .str)
  (.cons (.ret (.and (.isi (.var 0) .str) (.cmp .Eq (.var 0) (.var 1))))
  .nil)
  .nil)
  (.cons (.ret (.and (.isi (.var 0) .int) (.and (.not (.isi (.var 0) .bool)) (.cmp .Eq (.var 0) (.var 1)))))
  .nil)))))
theorem pw_law_same : P "_law_same" = some ⟨2, 4, Bw_law_same⟩ := by kernel_rfl
def Bw_law_read : Ss := (.cons (.ite (.or (.not (.isi (.var 0) .int)) (.isi (.var 0) .bool))
  (.cons (.ret (.con .none))
  .nil)
  .nil)
  (.cons (.asg (.tup (.cons (.name 1) (.cons (.name 2) .nil))) (.tup (.cons (.bin .Mod (.bcall .int (.cons (.var 0) .nil)) (.con (.int (4)))) (.cons (.bin .FloorDiv (.var 0) (.con (.int (4)))) .nil))))
  (.cons (.ite (.cmp .Eq (.var 1) (.con (.int (0))))
  (.cons (.ret (.ite (.cmp2 .Lt .Lt (.neg (.bin .Pow (.con (.int (10))) (.con (.int (9))))) (.var 2) (.bin .Pow (.con (.int (10))) (.con (.int (9))))) (.tup (.cons (.con (.str "number")) (.cons (.var 2) .nil))) (.con .none)))
  .nil)
  .nil)
  (.cons (.ite (.cmp .Lt (.var 1) (.con (.int (3))))
  (.cons (.ret (.ite (.cmp2 .LtE .Lt (.con (.int (0))) (.var 2) (.bin .Pow (.con (.int (10))) (.con (.int (9))))) (.tup (.cons (.ite (.cmp .Eq (.var 1) (.con (.int (1)))) (.con (.str "address")) (.con (.str "mark"))) (.cons (.var 2) .nil))) (.con .none)))
  .nil)
  .nil)
  (.cons (.ite (.or (.cmp .Eq (.var 2) (.con (.int (17)))) (.cmp .Eq (.var 2) (.con (.int (10)))))
  (.cons (.ret (.tup (.cons (.con (.str "header")) (.cons (.ite (.cmp .Eq (.var 2) (.con (.int (17)))) (.con (.str "pair")) (.con (.str "box"))) (.cons (.ite (.cmp .Eq (.var 2) (.con (.int (17)))) (.con (.int (2))) (.con (.int (1)))) .nil)))))
  .nil)
  .nil)
  (.cons (.ret (.ite (.and (.cmp .Eq (.bin .Mod (.bcall .int (.cons (.var 2) .nil)) (.con (.int (8)))) (.con (.int (0)))) (.cmp2 .Lt .Lt (.con (.int (0))) (.var 2) (.bin .Mult (.con (.int (8))) (.bin .Pow (.con (.int (10))) (.con (.int (9))))))) (.tup (.cons (.con (.str "header")) (.cons (.con (.str "closure")) (.cons (.bin .FloorDiv (.var 2) (.con (.int (8)))) .nil)))) (.con .none)))
  .nil))))))
theorem pw_law_read : P "_law_read" = some ⟨1, 3, Bw_law_read⟩ := by kernel_rfl
def Bw_law_wide : Ss := (.cons (.asg (.name 1) (.call "_law_draw" (.cons (.var 0) (.cons (.con (.int (6))) .nil))))
  (.cons (.ite (.cmp .Lt (.var 1) (.con (.int (2))))
  (.cons (.ret (.bin .Mult (.var 1) (.con (.int (999999999)))))
  .nil)
  .nil)
  (.cons (.ret (.ite (.cmp .Eq (.var 1) (.con (.int (2)))) (.call "_law_draw" (.cons (.var 0) (.cons (.con (.int (40))) .nil))) (.bin .Add (.bin .Mult (.call "_law_draw" (.cons (.var 0) (.cons (.con (.int (1000))) .nil))) (.con (.int (1000000)))) (.call "_law_draw" (.cons (.var 0) (.cons (.con (.int (1000000))) .nil))))))
  .nil)))
theorem pw_law_wide : P "_law_wide" = some ⟨1, 2, Bw_law_wide⟩ := by kernel_rfl
def Bw_law_odd : Ss := (.cons (.asg (.name 1) (.bin .Add (.con (.int (1000000000))) (.bin .Mult (.call "_law_draw" (.cons (.var 0) (.cons (.con (.int (3))) .nil))) (.call "_law_wide" (.cons (.var 0) .nil)))))
  (.cons (.ret (.call "_law_pick" (.cons (.var 0) (.cons (.tup (.cons (.con .none) (.cons (.con (.bool true)) (.cons (.con (.bool false)) (.cons (.con (.str "1")) (.cons (.tup (.cons (.con (.int (1))) .nil)) (.cons (.lst (.cons (.con (.int (1))) .nil)) (.cons (.var 1) (.cons (.bin .Sub (.con (.int (0))) (.var 1)) (.cons (.tup .nil) (.cons (.con (.str "")) (.cons .dval (.cons (.lst (.cons (.con (.int (0))) (.cons (.tup (.cons (.con (.int (2))) .nil)) .nil))) .nil))))))))))))) .nil))))
  .nil))
theorem pw_law_odd : P "_law_odd" = some ⟨1, 2, Bw_law_odd⟩ := by kernel_rfl
def Bw_law_told : Ss := (.cons .stop
  .nil)
theorem pw_law_told : P "_law_told" = some ⟨1, 2, Bw_law_told⟩ := by kernel_rfl
def Bw_law_any_word : Ss := (.cons (.asg (.name 1) (.call "_law_draw" (.cons (.var 0) (.cons (.con (.int (4))) .nil))))
  (.cons (.ite (.cmp .Eq (.var 1) (.con (.int (0))))
  (.cons (.asg (.name 3) (.call "_law_pick" (.cons (.var 0) (.cons (.tup (.cons (.bin .Mult (.con (.int (4))) (.bin .Pow (.con (.int (10))) (.con (.int (9))))) (.cons (.bin .Sub (.con (.int (0))) (.bin .Mult (.con (.int (4))) (.bin .Pow (.con (.int (10))) (.con (.int (9)))))) (.cons (.bin .Mult (.con (.int (32))) (.bin .Pow (.con (.int (10))) (.con (.int (9))))) (.cons (.con (.int (0))) (.cons (.con (.int (32))) (.cons (.con (.int (64))) (.cons (.bin .Sub (.con (.int (0))) (.bin .Mult (.con (.int (32))) (.bin .Pow (.con (.int (10))) (.con (.int (9)))))) .nil)))))))) .nil))))
  (.cons (.ret (.bin .Sub (.bin .Add (.var 3) (.call "_law_draw" (.cons (.var 0) (.cons (.con (.int (17))) .nil)))) (.con (.int (8)))))
  .nil))
  .nil)
  (.cons (.ite (.cmp .Eq (.var 1) (.con (.int (1))))
  (.cons (.ret (.call "_law_draw" (.cons (.var 0) (.cons (.con (.int (140))) .nil))))
  .nil)
  .nil)
  (.cons (.asg (.name 2) (.bin .Add (.bin .Mult (.call "_law_wide" (.cons (.var 0) .nil)) (.bin .Add (.con (.int (1))) (.call "_law_draw" (.cons (.var 0) (.cons (.con (.int (40))) .nil))))) (.call "_law_draw" (.cons (.var 0) (.cons (.con (.int (32))) .nil)))))
  (.cons (.ret (.ite (.cmp .Eq (.var 1) (.con (.int (2)))) (.var 2) (.bin .Sub (.con (.int (0))) (.var 2))))
  .nil)))))
theorem pw_law_any_word : P "_law_any_word" = some ⟨1, 4, Bw_law_any_word⟩ := by kernel_rfl
def Bw_law_is_right : Ss := (.cons (.asg (.tup (.cons (.name 4) (.cons (.name 5) (.cons (.name 6) (.cons (.name 7) .nil))))) (.tup (.cons (.call "_law_wide" (.cons (.var 0) .nil)) (.cons (.call "_law_wide" (.cons (.var 0) .nil)) (.cons (.call "_law_wide" (.cons (.var 0) .nil)) (.cons (.bcall .max (.cons (.con (.int (1))) (.cons (.call "_law_wide" (.cons (.var 0) .nil)) .nil))) .nil))))))
  (.cons (.ite (.cmp .Eq (.call "_law_draw" (.cons (.var 0) (.cons (.con (.int (2))) .nil))) (.con (.int (0))))
  (.cons (.asg (.name 4) (.bin .Sub (.con (.int (0))) (.var 4)))
  .nil)
  .nil)
  (.cons (.asg (.name 1) (.tup (.cons (.bin .Mult (.con (.int (4))) (.var 4)) (.cons (.bin .Add (.bin .Mult (.con (.int (4))) (.var 5)) (.con (.int (1)))) (.cons (.bin .Add (.bin .Mult (.con (.int (4))) (.var 6)) (.con (.int (2)))) (.cons (.bin .Add (.bin .Mult (.con (.int (32))) (.var 7)) (.con (.int (3)))) .nil))))))
  (.cons (.asg (.name 2) (.tup (.cons (.call "number_word" (.cons (.var 4) .nil)) (.cons (.call "address_word" (.cons (.var 5) .nil)) (.cons (.call "mark_word" (.cons (.var 6) .nil)) (.cons (.call "header_word" (.cons (.con (.str "closure")) (.cons (.var 7) .nil))) .nil))))))
  (.cons (.ite (.or (.not (.call "_law_same" (.cons (.var 2) (.cons (.var 1) .nil)))) (.not (.call "_law_same" (.cons (.tup (.cons (.call "header_word" (.cons (.con (.str "pair")) (.cons (.con (.int (2))) .nil))) (.cons (.call "header_word" (.cons (.con (.str "box")) (.cons (.con (.int (1))) .nil))) .nil))) (.cons (.tup (.cons (.con (.int (71))) (.cons (.con (.int (43))) .nil))) .nil)))))
  (.cons (.ret (.con (.bool false)))
  .nil)
  .nil)
  (.cons (.asg (.name 2) (.bcall .tuple (.cons (.comp [8] (.name 8) (.of (.var 1)) (.con (.bool true)) (.call "read_word" (.cons (.var 8) .nil))) .nil)))
  (.cons (.asg (.name 3) (.tup (.cons (.tup (.cons (.con (.str "number")) (.cons (.var 4) .nil))) (.cons (.tup (.cons (.con (.str "address")) (.cons (.var 5) .nil))) (.cons (.tup (.cons (.con (.str "mark")) (.cons (.var 6) .nil))) (.cons (.tup (.cons (.con (.str "header")) (.cons (.con (.str "closure")) (.cons (.var 7) .nil)))) .nil))))))
  (.cons (.ite (.not (.call "_law_same" (.cons (.var 2) (.cons (.var 3) .nil))))
  (.cons (.ret (.con (.bool false)))
  .nil)
  .nil)
  (.cons (.ite (.not (.call "_law_same" (.cons (.tup (.cons (.call "read_word" (.cons (.con (.int (71))) .nil)) (.cons (.call "read_word" (.cons (.con (.int (43))) .nil)) .nil))) (.cons (.tup (.cons (.tup (.cons (.con (.str "header")) (.cons (.con (.str "pair")) (.cons (.con (.int (2))) .nil)))) (.cons (.tup (.cons (.con (.str "header")) (.cons (.con (.str "box")) (.cons (.con (.int (1))) .nil)))) .nil))) .nil))))
  (.cons (.ret (.con (.bool false)))
  .nil)
  .nil)
  (.cons (.asg (.tup (.cons (.name 8) (.cons (.name 9) .nil))) (.tup (.cons (.call "_law_any_word" (.cons (.var 0) .nil)) (.cons (.call "_law_odd" (.cons (.var 0) .nil)) .nil))))
  (.cons (.ret (.call "_law_same" (.cons (.tup (.cons (.call "read_word" (.cons (.var 8) .nil)) (.cons (.call "read_word" (.cons (.var 9) .nil)) .nil))) (.cons (.tup (.cons (.call "_law_read" (.cons (.var 8) .nil)) (.cons (.call "_law_read" (.cons (.var 9) .nil)) .nil))) .nil))))
  .nil)))))))))))
theorem pw_law_is_right : P "_law_is_right" = some ⟨1, 10, Bw_law_is_right⟩ := by kernel_rfl
def Bw_law_is_refused : Ss := (.cons (.asg (.tup (.cons (.name 7) (.cons (.name 8) .nil))) (.tup (.cons (.call "_law_odd" (.cons (.var 0) .nil)) (.cons (.call "_law_pick" (.cons (.var 0) (.cons (.tup (.cons (.con (.str "closure")) (.cons (.con (.str "pair")) (.cons (.con (.str "box")) .nil)))) .nil))) .nil))))
  (.cons (.asg (.name 1) (.call "_law_pick" (.cons (.var 0) (.cons (.tup (.cons (.var 7) (.cons (.neg (.con (.int (1)))) (.cons (.neg (.con (.int (999999999)))) .nil)))) .nil))))
  (.cons (.asg (.name 2) (.tup (.cons (.con (.str "number")) (.cons (.bcall .repr (.cons (.var 7) .nil)) (.cons (.con (.bool true)) .nil)))))
  (.cons (.ite (.cmp .NotEq (.lam [Str.ofString "_law_is_refused"] [(.str "told")] false [⟨["InvalidNumber"], ["InvalidName"], [("InvalidNumber", "given")], (.tup (.cons (.con (.str "number")) (.cons (.rep "given") (.cons (.and (.isc ["InvalidNumber"] []) (.not (.isc [] ["InvalidNumber"]))) .nil))))⟩, ⟨["InvalidName"], ["InvalidNumber"], [("InvalidName", "given")], (.tup (.cons (.con (.str "name")) (.cons (.rep "given") (.cons (.isc ["InvalidName"] []) .nil))))⟩] (.call "number_word" (.cons (.var 7) .nil))) (.var 2))
  (.cons (.ret (.con (.bool false)))
  .nil)
  .nil)
  (.cons (.asg (.name 2) (.tup (.cons (.con (.str "number")) (.cons (.bcall .repr (.cons (.var 1) .nil)) (.cons (.con (.bool true)) .nil)))))
  (.cons (.ite (.cmp .NotEq (.lam [Str.ofString "_law_is_refused"] [(.str "told")] false [⟨["InvalidNumber"], ["InvalidName"], [("InvalidNumber", "given")], (.tup (.cons (.con (.str "number")) (.cons (.rep "given") (.cons (.and (.isc ["InvalidNumber"] []) (.not (.isc [] ["InvalidNumber"]))) .nil))))⟩, ⟨["InvalidName"], ["InvalidNumber"], [("InvalidName", "given")], (.tup (.cons (.con (.str "name")) (.cons (.rep "given") (.cons (.isc ["InvalidName"] []) .nil))))⟩] (.call "address_word" (.cons (.var 1) .nil))) (.var 2))
  (.cons (.ret (.con (.bool false)))
  .nil)
  .nil)
  (.cons (.ite (.cmp .NotEq (.lam [Str.ofString "_law_is_refused"] [(.str "told")] false [⟨["InvalidNumber"], ["InvalidName"], [("InvalidNumber", "given")], (.tup (.cons (.con (.str "number")) (.cons (.rep "given") (.cons (.and (.isc ["InvalidNumber"] []) (.not (.isc [] ["InvalidNumber"]))) .nil))))⟩, ⟨["InvalidName"], ["InvalidNumber"], [("InvalidName", "given")], (.tup (.cons (.con (.str "name")) (.cons (.rep "given") (.cons (.isc ["InvalidName"] []) .nil))))⟩] (.call "mark_word" (.cons (.var 1) .nil))) (.var 2))
  (.cons (.ret (.con (.bool false)))
  .nil)
  .nil)
  (.cons (.asg (.name 3) (.call "_law_pick" (.cons (.var 0) (.cons (.tup (.cons (.var 7) (.cons (.con (.int (0))) (.cons (.con (.int (1))) (.cons (.con (.int (2))) (.cons (.con (.int (3))) (.cons (.call "_law_wide" (.cons (.var 0) .nil)) (.cons (.neg (.con (.int (1)))) .nil)))))))) .nil))))
  (.cons (.asg (.name 4) (.and (.isi (.var 3) .int) (.and (.not (.isi (.var 3) .bool)) (.cmp2 .Lt .Lt (.con (.int (0))) (.var 3) (.bin .Pow (.con (.int (10))) (.con (.int (9))))))))
  (.cons (.ite (.and (.var 4) (.cmp .NotEq (.var 8) (.con (.str "closure"))))
  (.cons (.asg (.name 4) (.cmp .Eq (.var 3) (.ite (.cmp .Eq (.var 8) (.con (.str "pair"))) (.con (.int (2))) (.con (.int (1))))))
  .nil)
  .nil)
  (.cons (.asg (.name 2) (.tup (.cons (.con (.str "number")) (.cons (.bcall .repr (.cons (.var 3) .nil)) (.cons (.con (.bool true)) .nil)))))
  (.cons (.ite (.var 4)
  (.cons (.asg (.name 2) (.tup (.cons (.con (.str "told")) (.cons (.bin .Add (.bin .Add (.bin .Mult (.con (.int (32))) (.var 3)) (.con (.int (3)))) (.ite (.cmp .Eq (.var 8) (.con (.str "closure"))) (.con (.int (0))) (.ite (.cmp .Eq (.var 8) (.con (.str "pair"))) (.con (.int (4))) (.con (.int (8)))))) .nil))))
  .nil)
  .nil)
  (.cons (.asg (.name 5) (.lam [Str.ofString "_law_is_refused"] [(.str "told")] false [⟨["InvalidNumber"], ["InvalidName"], [("InvalidNumber", "given")], (.tup (.cons (.con (.str "number")) (.cons (.rep "given") (.cons (.and (.isc ["InvalidNumber"] []) (.not (.isc [] ["InvalidNumber"]))) .nil))))⟩, ⟨["InvalidName"], ["InvalidNumber"], [("InvalidName", "given")], (.tup (.cons (.con (.str "name")) (.cons (.rep "given") (.cons (.isc ["InvalidName"] []) .nil))))⟩] (.call "header_word" (.cons (.var 8) (.cons (.var 3) .nil)))))
  (.cons (.ite (.or (.cmp .NotEq (.var 5) (.var 2)) (.and (.var 4) (.isi (.idx (.var 5) (.con (.int (1)))) .bool)))
  (.cons (.ret (.con (.bool false)))
  .nil)
  .nil)
  (.cons (.asg (.name 6) (.call "_law_pick" (.cons (.var 0) (.cons (.tup (.cons (.var 7) (.cons (.con (.str "number")) (.cons (.con (.str "Pair")) (.cons (.con (.str "closures")) (.cons (.con (.str "")) (.cons (.con (.str "mark")) .nil))))))) .nil))))
  (.cons (.ret (.cmp .Eq (.lam [Str.ofString "_law_is_refused"] [(.str "told")] false [⟨["InvalidNumber"], ["InvalidName"], [("InvalidNumber", "given")], (.tup (.cons (.con (.str "number")) (.cons (.rep "given") (.cons (.and (.isc ["InvalidNumber"] []) (.not (.isc [] ["InvalidNumber"]))) .nil))))⟩, ⟨["InvalidName"], ["InvalidNumber"], [("InvalidName", "given")], (.tup (.cons (.con (.str "name")) (.cons (.rep "given") (.cons (.isc ["InvalidName"] []) .nil))))⟩] (.call "header_word" (.cons (.var 6) (.cons (.var 3) .nil)))) (.tup (.cons (.con (.str "name")) (.cons (.bcall .repr (.cons (.var 6) .nil)) (.cons (.con (.bool true)) .nil))))))
  .nil))))))))))))))))
theorem pw_law_is_refused : P "_law_is_refused" = some ⟨1, 9, Bw_law_is_refused⟩ := by kernel_rfl
def Blaw : Ss := (.cons (.for_ (.name 1) (.rng1 (.bcall .max (.cons (.con (.int (1))) (.cons (.bcall .min (.cons (.bcall .len (.cons (.var 0) .nil)) (.cons (.con (.int (5))) .nil))) .nil))))
  (.cons (.asg (.name 2) (.call "_law_well" (.cons (.var 0) (.cons (.var 1) .nil))))
  (.cons (.for_ (.name 3) (.rng1 (.con (.int (2))))
  (.cons (.ite (.or (.not (.call "_law_is_right" (.cons (.var 2) .nil))) (.not (.call "_law_is_refused" (.cons (.var 2) .nil))))
  (.cons (.ret (.con (.bool false)))
  .nil)
  .nil)
  .nil))
  .nil)))
  (.cons (.ret (.con (.bool true)))
  .nil))
theorem plaw : P "law" = some ⟨1, 4, Blaw⟩ := by kernel_rfl
end Fx.Law

namespace Fx.Law
open PySem PySem.Spec PyProof.Rows L2 Fx
local macro_rules
  | `(tactic| simp_arith only [$xs,*] $[$l:location]?) => `(tactic| simp only [evSs_cons, evSs_nil, evE_var, evE_own, evE_con, evE_tup, evE_lst, evE_bin, evE_neg, evE_cmp, evE_cmp2, evE_not, evE_and, evE_or, evE_ite, evE_idx, evE_slice, evE_call, evE_bcall, evE_isi, evE_comp, evE_heap, evE_dnew, evE_dval, evE_dcon, evE_zipL, evE_dsub, evE_lindex, evE_tindex, evE_tupS, evE_popR, evE_rngL, evE_rngT, evE_compL, evE_dcomp, evE_stop, evE_lam, evS_raise0, evEs_nil, evEs_cons, evI_of, evI_rng1, evI_rng2, evI_zip, evI_enum, evS_stop, evS_exp, evS_ret, evS_retO, evS_retN, evS_pass, evS_brk, evS_cont, evS_asg, evS_asgOwn, evS_setR, evS_setO, evS_app, evS_appR, evS_extO, evS_popT, evS_popO, evS_aug, evS_par, evS_ite, evS_for_, evS_forO, evS_forL, evS_while_, startS, List.length_cons, List.length_nil, List.map_cons, List.map_nil, List.replicate, List.cons_append, List.nil_append, List.getD_cons_zero, List.getD_cons_succ, List.set_cons_zero, List.set_cons_succ, R.bind_ok, R.opt_some, R.calm_ok, R.thenS_ok, rd_int, rd_bool, rd_none, rd_str, rd_tup, rd_lst, rd_frz, seq_thenS, fin_thenS, seq_ite, fin_ite, seq_nextP, RS.seq_ret, RS.fin_ret, RS.fin_next, Option.map_some, Option.bind_some, truthV_bool, truthV_int, truthV_none, setT_name, setT_tup, setTs_nil, setTs_cons, wipe_nil, wipe_cons, ix_l, ix_t, ix_f, at_l0, at_l1, at_l2, at_l3, add_i, sub_i, lt_i, le_i, gt_i, ge_i, eq_i, ne_i, is_n, isnot_n, isNone, len_t, len_l, len_f, tuple_t, tuple_l, tuple_f, list_t, list_l, list_f, int_i, abs_i, max_i, min_i, sum_l, sum_t, isi_int, isi_bool, isi_tup, isi_lst, isi_str, isi_none, slice_l, slice_t, slice_f, ixO_no, ixO_int, satT_thenS, satT_next, satT_ret, sat_thenS, sat_next, sat_ret, seq_t, seq_l, seq_f, seqI_t, seqI_l, seqI_f, seqI_s, evE_din, evE_lenSet, evE_sliceR, evI_rev, keyOf_s, keyOf_i, vInts_len, evP_nil, evP_name, evP_item, R.tot_bind, R.tot_ok, Nat.reduceAdd, Nat.reduceSub, Bool.not_true, Bool.not_false, if_true, Bool.false_eq_true, if_false, decide_true, decide_false, eq_self, eq_s, ne_s, Bool.true_and, Bool.false_and, Bool.and_true, Bool.and_false, Bool.true_or, Bool.false_or, Bool.or_true, Bool.or_false, $xs,*] $[$l:location]?)
theorem draw_eq (k : Nat) (G : Heap) (n : Nat) (a b c m : Int) (h : G[n]? = some (.lst [.int a, .int b, .int c])) (hm : 0 < m) (hm2 : m < p64) :
    (callN P (k+1) "_law_draw" [.ref n, .int m] G).tot fun v G' => (∃ i, v = .int i ∧ 0 ≤ i ∧ i < m) ∧ ∃ a' b' c', G' = G.set n (.lst [.int a', .int b', .int c']) := by
  rw [call_eq pw_law_draw k _ _ rfl]
  have hn : n < G.length := (List.getElem?_eq_some_iff.mp h).1
  have i0 : ixN 3 0 = some 0 := by decide
  have i1 : ixN 3 1 = some 1 := by decide
  have i2 : ixN 3 2 = some 2 := by decide
  have e0 : ∀ (x y z v : Val) (H : Heap), H[n]? = some (.lst [x, y, z]) → setRef (.ref n) (.int 0) v H = some (H.set n (.lst [v, y, z])) := fun x y z v H h => setRef_eq h i0
  have e1 : ∀ (x y z v : Val) (H : Heap), H[n]? = some (.lst [x, y, z]) → setRef (.ref n) (.int 1) v H = some (H.set n (.lst [x, v, z])) := fun x y z v H h => setRef_eq h i1
  have e2 : ∀ (x y z v : Val) (H : Heap), H[n]? = some (.lst [x, y, z]) → setRef (.ref n) (.int 2) v H = some (H.set n (.lst [x, y, v])) := fun x y z v H h => setRef_eq h i2
  have dm := divmod_i a m (by simp [hm, hm2])
  have hs : ∀ o : Obj, (G.set n o)[n]? = some o := fun o => get_set hn
  simp_arith only [Bw_law_draw, rd_ref h, dm, e0 _ _ _ _ _ h, e2 _ _ _ _ _ h]
  split
  · simp only [R.tot_ok]
    exact ⟨⟨_, rfl, Int.emod_nonneg _ (by omega), Int.emod_lt_of_pos _ hm⟩, _, _, _, rfl⟩
  · simp_arith only [rd_ref (hs _), mul_l _ _ (show (decide (-p64 < 77003) && decide (77003 < p64)) = true by decide), mul_l _ _ (show (decide (-p64 < 17) && decide (17 < p64)) = true by decide), mod_i _ _ (show decide (0 < 2147483579) = true by decide), mod_i _ _ (show decide (0 < 6007) = true by decide), mul_m _ _ _ (show (decide (0 < 2147483579) && decide (2147483579 ≤ p64)) = true by decide), e1 _ _ _ _ _ (hs _), List.set_set, div_i _ _ (show (decide (0 < 719) && decide (719 < p64)) = true by decide), mod_i _ m (decide_eq_true hm), R.tot_ok]
    exact ⟨⟨_, rfl, Int.emod_nonneg _ (by omega), Int.emod_lt_of_pos _ hm⟩, _, _, _, rfl⟩
/-- what a drawing def leaves -/
def Dr (n : Nat) (G : Heap) (V : Val → Heap → Prop) : Val → Heap → Prop := fun v G' => Well G' n ∧ Keep n G G' ∧ V v G'
theorem draw_ok (k : Nat) {G : Heap} {n : Nat} {m : Int} (h : Well G n) (hm : 0 < m) (hm2 : m < p64) : (callN P (k+1) "_law_draw" [.ref n, .int m] G).tot (Dr n G fun v _ => ∃ i, v = .int i ∧ 0 ≤ i ∧ i < m) := by
  obtain ⟨a, b, c, e⟩ := h
  refine R.tot_mono (draw_eq k G n a b c m e hm hm2) fun v G' ⟨h1, a', b', c', e'⟩ => ?_
  subst e'
  exact ⟨⟨a', b', c', get_set (List.getElem?_eq_some_iff.mp e).1⟩, Keep.set _ _ _, h1⟩
theorem pick_ok (k : Nat) {G : Heap} {n : Nat} {xs : List Val} (h : Well G n) (hx : xs ≠ []) (hl : (xs.length : Int) < p64) : (callN P (k+2) "_law_pick" [.ref n, .tup xs] G).tot (Dr n G fun v _ => v ∈ xs) := by
  rw [call_eq pw_law_pick _ _ _ rfl]
  have h0 : 0 < xs.length := List.length_pos_iff.mpr hx
  simp_arith only [Bw_law_pick]
  refine R.tot_mono (draw_ok k h (by omega) hl) fun v G' ⟨h1, h2, i, e, i0, i1⟩ => ?_
  subst e
  have hi : i.toNat < xs.length := by omega
  try simp_arith only []
  rw [atI_int i0 i1, List.getElem?_eq_getElem hi]
  try simp_arith only []
  exact ⟨h1, h2, List.getElem_mem hi⟩

def w1s : List String := ["first", "second", "box", "look", "say"]
def w2s : List String := ["call", "pair", "plus", "minus", "times", "put"]
def lfs : List String := ["number", "name", "at", "hole"]
/-- since G0 the well alone has changed -/
def St (n : Nat) (G0 G : Heap) : Prop := Well G n ∧ Keep n G0 G
theorem St.refl {n : Nat} {G : Heap} (h : Well G n) : St n G G := ⟨h, Keep.refl _ _⟩
theorem call_t {f : String} {d : Fd} (h : P f = some d) {Γ : Calls} {k : Nat} (hΓ : Γ = callN P (k + 1)) {vs : List Val} {G : Heap} (hl : vs.length = d.par) {Q : Val → Heap → Prop} (hq : ∀ Γ', Γ' = callN P k → (evSs Γ' d.body (startS d.slots vs) G).fin.tot Q) : (Γ f vs G).tot Q := by
  rw [hΓ, call_eq h _ _ _ hl]
  exact hq _ rfl
theorem draw_s {Γ : Calls} (k : Nat) (hΓ : Γ = callN P (k+1)) {G0 G : Heap} {n : Nat} {m : Int} (h : St n G0 G) (hm : 0 < m) (hm2 : m < p64) : (Γ "_law_draw" [.ref n, .int m] G).tot fun v G' => St n G0 G' ∧ ∃ i, v = .int i ∧ 0 ≤ i ∧ i < m :=
  hΓ ▸ R.tot_mono (draw_ok k h.1 hm hm2) fun _ _ ⟨h1, h2, h3⟩ => ⟨⟨h1, h.2.trans h2⟩, h3⟩
theorem pick_s {Γ : Calls} (k : Nat) (hΓ : Γ = callN P (k+2)) {G0 G : Heap} {n : Nat} {xs : List Val} (h : St n G0 G) (hx : xs ≠ []) (hl : (xs.length : Int) < p64) : (Γ "_law_pick" [.ref n, .tup xs] G).tot fun v G' => St n G0 G' ∧ v ∈ xs :=
  hΓ ▸ R.tot_mono (pick_ok k h.1 hx hl) fun _ _ ⟨h1, h2, h3⟩ => ⟨⟨h1, h.2.trans h2⟩, h3⟩
def strIn (ws : List String) : Val → Bool
  | .str w => decide (w ∈ ws)
  | _ => false
theorem pick_w (ws : List String) {Γ : Calls} (k : Nat) (hΓ : Γ = callN P (k+2)) {G0 G : Heap} {n : Nat} {xs : List Val} (h : St n G0 G) (hx : xs ≠ []) (hl : xs.length < 100) (hw : xs.all (strIn ws) = true) : (Γ "_law_pick" [.ref n, .tup xs] G).tot fun v G' => St n G0 G' ∧ ∃ w, v = .str w ∧ w ∈ ws :=
  R.tot_mono (pick_s k hΓ h hx (by unfold p64; omega)) fun v _ ⟨h1, h2⟩ => ⟨h1, by
    have := List.all_eq_true.mp hw v h2
    cases v <;> first | (simp only [strIn] at this; exact ⟨_, rfl, of_decide_eq_true this⟩) | (simp [strIn] at this)⟩
/-- one of some, by its own predicate -/
theorem pick_p (p : Val → Prop) {Γ : Calls} (k : Nat) (hΓ : Γ = callN P (k+2)) {G0 G : Heap} {n : Nat} {xs : List Val} (h : St n G0 G) (hx : xs ≠ []) (hl : xs.length < 10000) (hw : ∀ x ∈ xs, p x) : (Γ "_law_pick" [.ref n, .tup xs] G).tot fun v G' => St n G0 G' ∧ p v :=
  R.tot_mono (pick_s k hΓ h hx (by unfold p64; omega)) fun v _ ⟨h1, h2⟩ => ⟨h1, hw v h2⟩
theorem at_some {xs : List Val} {j : Int} (p : Val → Prop) (h0 : 0 ≤ j) (h1 : j < xs.length) (h : ∀ x ∈ xs, p x) : ∃ v, atI xs j = some v ∧ p v := by
  have hj : j.toNat < xs.length := by omega
  exact ⟨xs[j.toNat], by rw [atI_int h0 h1, List.getElem?_eq_getElem hj], h _ (List.getElem_mem hj)⟩
def toI : Val → Int
  | .int i => i
  | _ => 0
/-- the kinds that stand outward -/
abbrev vS (xs : List String) : List Val := xs.map .str

theorem w2_cases {w : String} (h : w ∈ w2s) : w = "call" ∨ w = "pair" ∨ w = "plus" ∨ w = "minus" ∨ w = "times" ∨ w = "put" := by
  simpa [w2s] using h
theorem w1_cases {w : String} (h : w ∈ w1s) : w = "first" ∨ w = "second" ∨ w = "box" ∨ w = "look" ∨ w = "say" := by
  simpa [w1s] using h
def wno (w : String) : Option (List Int) := if w ∈ w2s then some [0, 0] else if w ∈ w1s then some [0] else if w = "fn" then some [1] else if w = "again" then some [2] else if w = "test" then some [0, 0, 0] else none
theorem inF_s (w : String) : ∀ ws : List String, ((vS ws).any fun y => eqF y (.str w)) = decide (w ∈ ws)
  | [] => rfl
  | u :: ws => by
    rw [vS, List.map_cons, List.any_cons]
    show ((u == w) || _) = _
    rw [show ((vS ws).any fun y => eqF y (.str w)) = decide (w ∈ ws) from inF_s w ws]
    by_cases h : u = w
    · subst h; simp
    · have h' : ¬ w = u := fun z => h z.symm
      simp [h, h', beq_eq_false_iff_ne.mpr h]
theorem flat_s : ∀ ws : List String, (vS ws).all isFlat = true
  | [] => rfl
  | u :: ws => by rw [vS, List.map_cons, List.all_cons, flat_s ws]; rfl
theorem in_ss (w : String) (ws : List String) : cmpK .In (.str w) (.tup (vS ws)) = some (decide (w ∈ ws)) := by
  show inK (.str w) (vS ws) = _
  unfold inK
  rw [flat_s, inF_s]; rfl
theorem notin_ss (w : String) (ws : List String) : cmpK .NotIn (.str w) (.tup (vS ws)) = some (!decide (w ∈ ws)) := by
  show (inK (.str w) (vS ws)).map (!·) = _
  rw [show inK (.str w) (vS ws) = some (decide (w ∈ ws)) from in_ss w ws]; rfl
theorem in_w2 (w : String) : cmpK .In (.str w) (.tup [.str "call", .str "pair", .str "plus", .str "minus", .str "times", .str "put"]) = some (decide (w ∈ w2s)) := in_ss w w2s
theorem in_w1 (w : String) : cmpK .In (.str w) (.tup [.str "first", .str "second", .str "box", .str "look", .str "say"]) = some (decide (w ∈ w1s)) := in_ss w w1s
theorem in_lf (w : String) : cmpK .In (.str w) (.tup [.str "number", .str "name", .str "at", .str "hole"]) = some (decide (w ∈ lfs)) := in_ss w lfs
theorem notin_lf (w : String) : cmpK .NotIn (.str w) (.tup [.str "number", .str "name", .str "at", .str "hole"]) = some (!decide (w ∈ lfs)) := notin_ss w lfs
def wnV (w : String) : Val := match wno w with
  | some ns => .tup (vInts ns)
  | none => .none
theorem call_e {f : String} {d : Fd} (h : P f = some d) {Γ : Calls} {k : Nat} (hΓ : Γ = callN P (k + 1)) {vs : List Val} {G : Heap} (hl : vs.length = d.par) {r : R Val} (hq : ∀ Γ', Γ' = callN P k → (evSs Γ' d.body (startS d.slots vs) G).fin = r) : Γ f vs G = r := by
  rw [hΓ, call_eq h _ _ _ hl]
  exact hq _ rfl
/-- flat things, and {} -/
def isFl : Val → Bool
  | .none | .bool _ | .int _ | .str _ => true
  | .dct [] [] => true
  | _ => false
/-- nested data, at most d deep -/
def Dt : Nat → Val → Prop
  | 0, v => isFl v = true
  | d + 1, .tup xs => xs.length ≤ 1000 ∧ ∀ x ∈ xs, Dt d x
  | d + 1, .lst xs => xs.length ≤ 1000 ∧ ∀ x ∈ xs, Dt d x
  | _ + 1, v => isFl v = true
def isI : Val → Bool
  | .int _ => true
  | _ => false
theorem wno_len {w : String} {ns : List Int} (h : wno w = some ns) : 1 ≤ ns.length ∧ ns.length ≤ 3 := by
  unfold wno at h
  split at h
  · cases h; decide
  split at h
  · cases h; decide
  split at h
  · cases h; decide
  split at h
  · cases h; decide
  split at h
  · cases h; decide
  · cases h
theorem wno_lf {w : String} (h : w ∈ lfs) : wno w = none := by
  have : w = "number" ∨ w = "name" ∨ w = "at" ∨ w = "hole" := by simpa [lfs] using h
  rcases this with rfl | rfl | rfl | rfl <;> decide
theorem bind_ret {α : Type} (m : R α) : (m.bind fun a G => .ok a G) = m := by cases m <;> rfl
theorem compR_f {tg : Val → Store → Option Store} {e : Store → Heap → R Val} {Γ : Calls} {G : Heap} {s : Store} (f : Val → Val) {xs : List Val}
    (h : ∀ x ∈ xs, ∃ s1, tg x s = some s1 ∧ e s1 G = .ok (f x) G) : compR tg (evE Γ (.con (.bool true))) e xs s G = .ok (xs.map f) G := by
  have := compR_map (tg := tg) (c := evE Γ (.con (.bool true))) (e := e) (G := G) (s := s) (fun _ => true) f (xs := xs) fun x hx => ?_
  · rw [this, List.filter_eq_self.mpr (fun _ _ => rfl)]
  · obtain ⟨s1, h1, h2⟩ := h x hx
    exact ⟨s1, .bool true, h1, by rw [evE_con], rfl, fun _ => h2⟩
theorem bools_g (g : Val → Bool) : ∀ xs : List Val, bools? (xs.map fun x => .bool (g x)) = some (xs.map g)
  | [] => rfl
  | x :: xs => by
    show (bools? (xs.map fun x => Val.bool (g x))).map _ = _
    rw [bools_g g xs]; rfl
theorem all_g (g : Val → Bool) (xs : List Val) : bfK .all [.lst (xs.map fun x => .bool (g x))] = some (.bool (xs.all g)) := by
  show (bools? _).map _ = _
  rw [bools_g]
  show some (Val.bool ((xs.map g).all id)) = _
  rw [List.all_map]; rfl
theorem any_g (g : Val → Bool) (xs : List Val) : bfK .any [.lst (xs.map fun x => .bool (g x))] = some (.bool (xs.any g)) := by
  show (bools? _).map _ = _
  rw [bools_g]
  show some (Val.bool ((xs.map g).any id)) = _
  rw [List.any_map]; rfl
theorem ints_g (g : Val → Int) : ∀ xs : List Val, ints? (xs.map fun x => .int (g x)) = some (xs.map g)
  | [] => rfl
  | x :: xs => by
    show (ints? (xs.map fun x => Val.int (g x))).map _ = _
    rw [ints_g g xs]; rfl
theorem sum_g (g : Val → Int) (xs : List Val) : bfK .sum [.lst (xs.map fun x => .int (g x))] = some (.int (xs.map g).sum) := by
  show (ints? _).map _ = _
  rw [ints_g]; rfl
theorem cut1 {α : Type} (x : α) (xs : List α) : cutL (x :: xs) (some 1) none = xs := cutL_from _ _ (by decide)
theorem zipV_len : ∀ xs ys : List Val, (zipV xs ys).length ≤ xs.length
  | [], _ => by simp [zipV]
  | _ :: _, [] => by simp [zipV]
  | x :: xs, y :: ys => by have := zipV_len xs ys; simp [zipV]; omega
theorem zipV_mem : ∀ {xs : List Val} {ns : List Int} {v : Val}, v ∈ zipV xs (vInts ns) → ∃ x n, v = .tup [x, .int n] ∧ x ∈ xs
  | [], _, _, h => by simp [zipV] at h
  | _ :: _, [], _, h => by simp [zipV] at h
  | x :: xs, n :: ns, v, h => by
    rw [vInts, List.map_cons, zipV] at h
    rcases List.mem_cons.mp h with rfl | h
    · exact ⟨x, n, rfl, List.mem_cons_self⟩
    · obtain ⟨y, m, e, hy⟩ := zipV_mem (xs := xs) (ns := ns) h
      exact ⟨y, m, e, List.mem_cons_of_mem _ hy⟩
/-- a judge of pairs -/
def pj (g : Val → Int → Bool) : Val → Bool
  | .tup [x, .int n] => g x n
  | _ => false
theorem zipV_all (g : Val → Int → Bool) : ∀ (xs : List Val) (ns : List Int), (zipV xs (vInts ns)).all (pj g) = (xs.zip ns).all fun p => g p.1 p.2
  | [], _ => by simp [zipV]
  | _ :: _, [] => by simp [zipV]
  | x :: xs, n :: ns => by
    rw [vInts, List.map_cons, zipV, List.all_cons, List.zip_cons_cons, List.all_cons, zipV_all g xs ns]; rfl
theorem Dt.kind {d : Nat} {v : Val} (h : Dt d v) : isFl v = true ∨ ∃ e, d = e + 1 ∧ ((∃ xs, v = .tup xs ∧ xs.length ≤ 1000 ∧ ∀ x ∈ xs, Dt e x) ∨ ∃ xs, v = .lst xs) := by
  cases d with
  | zero => exact .inl h
  | succ d => cases v with
    | tup xs => exact .inr ⟨d, rfl, .inl ⟨xs, rfl, h⟩⟩
    | lst xs => exact .inr ⟨d, rfl, .inr ⟨xs, rfl⟩⟩
    | _ => exact .inl h
theorem isTup_flat {v : Val} (h : isFl v = true) : isO .tuple v = some (.bool false) := by
  cases v <;> first | rfl | cases h
theorem len_lt2 (n : Nat) : decide (((n + 1 + 1 : Nat) : Int) < 2) = false := decide_eq_false (by omega)
theorem isInt_val {d : Nat} {v : Val} (h : Dt d v) : isO .int v = some (.bool (isK .int v)) ∧ isO .bool v = some (.bool (isK .bool v)) ∧ isO .str v = some (.bool (isK .str v)) ∧ isO .tuple v = some (.bool (isK .tuple v)) := by
  have : v.isRef = false := by
    cases v with
    | ref n => cases d <;> cases h
    | _ => rfl
  simp [isO, this]
theorem rd_dt {d : Nat} {v : Val} (h : Dt d v) (G : Heap) : rd G v = v := by
  cases v with
  | ref n => cases d <;> cases h
  | _ => rfl
theorem pow9 : (10 : Int) ^ (9 : Int).toNat = 1000000000 := by decide

theorem Dt.up : ∀ {d : Nat} {v : Val}, Dt d v → Dt (d + 1) v
  | 0, v, h => by cases v <;> first | exact h | cases h
  | d + 1, v, h => by
    cases v with
    | tup xs => exact ⟨h.1, fun x hx => (h.2 x hx).up⟩
    | lst xs => exact ⟨h.1, fun x hx => (h.2 x hx).up⟩
    | _ => exact h
theorem max_g (g : Val → Int) (xs : List Val) (h : xs ≠ []) : bfK .max [.lst (xs.map fun x => .int (g x))] = some (.int (maxL (xs.map g))) := by
  show (if (xs.map fun x => Val.int (g x)).isEmpty then none else (ints? (xs.map fun x => Val.int (g x))).map fun ns => Val.int (maxL ns)) = _
  rw [ints_g]
  cases xs with
  | nil => exact absurd rfl h
  | cons x xs => rfl
theorem wnV_some {w : String} {ns : List Int} (h : wno w = some ns) : wnV w = .tup (vInts ns) := by unfold wnV; rw [h]
theorem Dt.mem {d : Nat} {bs : List Val} (h : Dt d (.tup bs)) : bs.length ≤ 1000 ∧ ∀ b ∈ bs, Dt d b := by
  cases d with
  | zero => cases h
  | succ d => exact ⟨h.1, fun b hb => (h.2 b hb).up⟩
theorem whileR_succ (c : Store → Heap → R Val) (b : Store → Heap → RS) (n : Nat) (s : Store) (G : Heap) : whileR c b (n + 1) s G = (c s G).thenS s fun x G1 => (R.opt (truthV (rd G1 x)) G1).thenS s fun k G2 => if k then (b s G2).turn (whileR c b n) else .next s G2 := rfl
abbrev wOf (p : Val × Int) : Val := .tup [p.1, .int p.2]
theorem wno_sum {w : String} {ns : List Int} (h : wno w = some ns) : 0 ≤ ns.sum := by
  unfold wno at h
  split at h
  · cases h; decide
  split at h
  · cases h; decide
  split at h
  · cases h; decide
  split at h
  · cases h; decide
  split at h
  · cases h; decide
  · cases h
theorem pop_last (ys : List Val) (v : Val) : (ys ++ [v])[(ys ++ [v]).length - 1]? = some v := by simp
theorem satT_turn {m : RS} {f : Store → Heap → RS} {N N' : Store → Heap → Prop} {T : Val → Heap → Prop} (h : m.satT N (fun _ _ => False) T) (k : ∀ s G, N s G → (f s G).sat N' T) : (m.turn f).sat N' T := by
  cases m with
  | next s G => exact k s G h
  | cont s G => exact k s G h
  | ret v G => exact h
  | brk s G => exact h.elim
  | no => exact h.elim
  | exc _ _ _ => exact h.elim
theorem R.satT_mono {m : RS} {N N' B B' : Store → Heap → Prop} {T T' : Val → Heap → Prop} (h : m.satT N B T) (h1 : ∀ s G, N s G → N' s G) (h2 : ∀ v G, T v G → T' v G) (h3 : ∀ s G, B s G → B' s G := by exact fun _ _ h => h) : m.satT N' B' T' := by
  cases m with
  | next s G => exact h1 s G h
  | cont s G => exact h1 s G h
  | ret v G => exact h2 v G h
  | brk s G => exact h3 s G h
  | no => exact h.elim
  | exc _ _ _ => exact h.elim
theorem look_mem (k : Int) : ∀ (ns : List Int) (vs : List Val), vs.length = ns.length → (dLook (ns.map .inl) vs (.inl k)).isSome = decide (k ∈ ns)
  | [], vs, _ => by simp [dLook]
  | n :: ns, [], h => by cases h
  | n :: ns, v :: vs, h => by
    rw [List.map_cons, dLook]
    by_cases e : n = k
    · subst e; simp
    · have e2 : ¬ k = n := fun z => e z.symm
      rw [if_neg (fun z => e (Sum.inl.inj z)), look_mem k ns vs (by simpa using h)]
      simp [e2]
theorem putV_len (y : Val) : ∀ (ks : List Key) (vs : List Val) (j : Key), ks.length = vs.length → (dPutV ks vs j y).length = vs.length
  | [], [], _, _ => by simp [dPutV]
  | [], _ :: _, _, h => by cases h
  | _ :: _, [], _, h => by cases h
  | k :: ks, v :: vs, j, h => by rw [dPutV, List.length_cons, putV_len y ks vs j (by simpa using h), List.length_cons]
theorem zipV_get : ∀ {xs : List Val} {ns : List Int} {i : Nat} {v : Val}, (zipV xs (vInts ns))[i]? = some v → ∃ x n, v = .tup [x, .int n] ∧ (xs.zip ns)[i]? = some (x, n)
  | [], _, _, _, h => by simp [zipV] at h
  | _ :: _, [], _, _, h => by simp [zipV] at h
  | x :: xs, n :: ns, i, v, h => by
    rw [vInts, List.map_cons, zipV] at h
    cases i with
    | zero => exact ⟨x, n, by simpa using h.symm, rfl⟩
    | succ i =>
      obtain ⟨y, m, e, h2⟩ := zipV_get (xs := xs) (ns := ns) (i := i) (v := v) (by simpa using h)
      exact ⟨y, m, e, by simpa using h2⟩
theorem zipV_len2 : ∀ (xs : List Val) (ns : List Int), (zipV xs (vInts ns)).length = (xs.zip ns).length
  | [], _ => by simp [zipV]
  | _ :: _, [] => by simp [zipV]
  | x :: xs, n :: ns => by rw [vInts, List.map_cons, zipV, List.length_cons, zipV_len2 xs ns, List.zip_cons_cons, List.length_cons]
theorem take_mem {α : Type} {l : List α} {i : Nat} {x : α} (h : l[i]? = some x) (q : α) : q ∈ l.take (i + 1) ↔ q ∈ l.take i ∨ q = x := by
  rw [List.take_add_one, h]; simp
theorem seq_nil (Γ : Calls) (m : RS) : m.seq (evSs Γ .nil) = m := by
  cases m <;> first | rfl | (show evSs Γ .nil _ _ = _; rw [evSs_nil])
theorem shaped_tints (ns : List Int) : SeqAt.shaped (.tuple (ns.map PyData.int)) = true := by
  simp [SeqAt.shaped, PyData.canLay0, PyData.depth, PySem.W.ke_canLayAll0, PySem.W.ke_depthAll]
theorem eq_tnil (xs : List Int) : cmpK .Eq (.tup (vInts xs)) (.tup []) = some (decide (xs = [])) := by
  show eqK (.tup (vInts xs)) (.tup []) = _
  rw [eqK_ne (fun _ z => by cases z)]
  unfold eqK0
  simp only [toD, toDs_ints, toDs, Option.map_some]
  rw [shaped_tints, show SeqAt.shaped (.tuple []) = true from shaped_tints []]
  cases xs <;> rfl
theorem intKeys_inl : ∀ ns : List Int, intKeys? (ns.map .inl) = some ns
  | [] => rfl
  | n :: ns => by
    show (intKeys? (ns.map .inl)).map (n :: ·) = _
    rw [intKeys_inl ns]; rfl
theorem sorted_d {ns : List Int} {vs : List Val} (h : ns.length ≤ 1000000) : bfK .sorted [.dct (ns.map .inl) vs] = some (.lst (vInts (sortI ns))) := by
  show (if (ns.map Sum.inl).length ≤ 1000000 then (intKeys? (ns.map .inl)).map fun ns => Val.lst ((sortI ns).map .int) else none) = _
  rw [if_pos (by rw [List.length_map]; exact h), intKeys_inl]; rfl
theorem tuple_d {ns : List Int} {vs : List Val} : bfK .tuple [.dct (ns.map .inl) vs] = some (.tup (vInts ns)) := by
  show ((intKeys? (ns.map .inl)).map fun ns => Val.tup (ns.map .int)) = _
  rw [intKeys_inl]; rfl
theorem sortI_nil (ns : List Int) : sortI ns = [] ↔ ns = [] := by
  unfold sortI
  have := List.length_mergeSort (le := fun a b : Int => decide (a ≤ b)) ns
  constructor
  · intro h; rw [h] at this; exact List.length_eq_zero_iff.mp this.symm
  · rintro rfl; simp
/-- the heap has grown, no more -/
structure Gw (G G' : Heap) : Prop where
  len : G.length ≤ G'.length
  at_ : ∀ j, j < G.length → G'[j]? = G[j]?
theorem Gw.refl (G : Heap) : Gw G G := ⟨Nat.le_refl _, fun _ _ => rfl⟩
theorem Gw.trans {G G1 G2 : Heap} (h : Gw G G1) (k : Gw G1 G2) : Gw G G2 := ⟨Nat.le_trans h.len k.len, fun j hj => by rw [k.at_ j (Nat.lt_of_lt_of_le hj h.len)]; exact h.at_ j hj⟩
theorem Gw.keep {G G' : Heap} {o : Obj} (h : Keep G.length (G ++ [o]) G') : Gw G G' := ⟨by have := h.len; simp at this; omega, fun j hj => by
  rw [h.at_ j (by omega) (by simp; omega)]; exact List.getElem?_append_left hj⟩
theorem Gw.app (G : Heap) (l : Heap) : Gw G (G ++ l) := ⟨by simp, fun j hj => List.getElem?_append_left hj⟩
theorem zip_of_mem {xs : List Val} {ns : List Int} (hl : xs.length = ns.length) {x : Val} (h : x ∈ xs) : ∃ n, (x, n) ∈ xs.zip ns := by
  obtain ⟨j, hj, rfl⟩ := List.getElem_of_mem h
  refine ⟨ns[j]'(by omega), ?_⟩
  rw [List.mem_iff_getElem]
  exact ⟨j, by simp; omega, by simp⟩
theorem getD_get {xs : List Val} {j : Nat} {x : Val} (h : xs[j]? = some x) : xs.getD j .none = x := by rw [List.getD_eq_getElem?_getD, h]; rfl
theorem Dt.le {d e : Nat} {v : Val} (h : Dt d v) (hd : d ≤ e) : Dt e v := by
  obtain ⟨n, rfl⟩ := Nat.le.dest hd
  induction n with
  | zero => exact h
  | succ n ih => exact (ih (by omega)).up

theorem take_snoc {α : Type} {xs : List α} {j : Nat} {y : α} (h : xs[j]? = some y) : xs.take (j + 1) = xs.take j ++ [y] := by
  rw [List.take_add_one, h]; rfl
def ins (ns : List Int) (i : Int) : List Int := if i ∈ ns then ns else ns ++ [i]
theorem ins_mem {ns : List Int} {i x : Int} : x ∈ ins ns i ↔ x ∈ ns ∨ x = i := by
  unfold ins
  split
  · rename_i h
    exact ⟨.inl, fun z => z.elim id fun e => e ▸ h⟩
  · simp
theorem ins_nodup {ns : List Int} (h : ns.Nodup) (i : Int) : (ins ns i).Nodup := by
  unfold ins
  split
  · exact h
  · rename_i q
    refine List.nodup_append.mpr ⟨h, by simp, fun x hx y hy => ?_⟩
    rw [List.mem_singleton.mp hy]
    exact fun e => q (e ▸ hx)
theorem insF_mem {x : Int} : ∀ {l ns : List Int}, x ∈ l.foldl ins ns ↔ x ∈ ns ∨ x ∈ l
  | [], ns => by simp
  | i :: l, ns => by
    rw [List.foldl_cons, insF_mem, ins_mem, List.mem_cons, or_assoc]
theorem insF_nodup : ∀ {l ns : List Int}, ns.Nodup → (l.foldl ins ns).Nodup
  | [], _, h => h
  | i :: l, ns, h => by
    show (List.foldl ins (ins ns i) l).Nodup
    exact insF_nodup (ins_nodup h i)
theorem insF_app (ns l : List Int) : l.foldl ins ns = ns ++ (l.foldl ins []).filter fun i => !decide (i ∈ ns) := by
  have main : ∀ l : List Int, (l.reverse).foldl ins ns = ns ++ (l.reverse.foldl ins []).filter fun i => !decide (i ∈ ns) := fun l => by
    induction l with
    | nil => simp
    | cons i l ih =>
      rw [List.reverse_cons, List.foldl_append, List.foldl_append, ih]
      show ins _ i = ns ++ (ins _ i).filter _
      generalize l.reverse.foldl ins [] = A
      unfold ins
      by_cases h1 : i ∈ ns
      · rw [if_pos (List.mem_append_left _ h1)]
        split
        · rfl
        · rw [List.filter_append, List.filter_cons]; simp [h1]
      · by_cases h2 : i ∈ A
        · rw [if_pos h2, if_pos (List.mem_append_right _ (List.mem_filter.mpr ⟨h2, by simp [h1]⟩))]
        · rw [if_neg h2, if_neg (by simp [h1, h2]), List.filter_append, List.filter_cons]
          simp [h1]
  have := main l.reverse
  rwa [List.reverse_reverse] at this
theorem foldl_flat {α β γ : Type} (f : α → List β) (g : γ → β → γ) : ∀ (xs : List α) (a : γ), (xs.flatMap f).foldl g a = xs.foldl (fun c x => (f x).foldl g c) a
  | [], _ => rfl
  | x :: xs, a => by rw [List.flatMap_cons, List.foldl_append, foldl_flat f g xs]; rfl

def pg (g : Val → Int → Val) : Val → Val
  | .tup [x, .int n] => g x n
  | _ => .none
theorem zipV_map (g : Val → Int → Val) : ∀ (xs : List Val) (ns : List Int), (zipV xs (vInts ns)).map (pg g) = (xs.zip ns).map fun q => g q.1 q.2
  | [], _ => by simp [zipV]
  | _ :: _, [] => by simp [zipV]
  | x :: xs, n :: ns => by
    rw [vInts, List.map_cons, zipV, List.map_cons, List.zip_cons_cons, List.map_cons, zipV_map g xs ns]; rfl
theorem zipV_pair {xs : List Val} {ns : List Int} {v : Val} (h : v ∈ zipV xs (vInts ns)) : ∃ q ∈ xs.zip ns, v = .tup [q.1, .int q.2] := by
  obtain ⟨i, hi, e⟩ := List.getElem_of_mem h
  obtain ⟨x, n, rfl, hz⟩ := zipV_get (List.getElem?_eq_some_iff.mpr ⟨hi, e⟩)
  exact ⟨(x, n), List.mem_of_getElem? hz, rfl⟩
theorem zip_fst {xs : List Val} {ns : List Int} (h : xs.length = ns.length) : (xs.zip ns).map (fun q => q.1) = xs := by
  have := List.map_fst_zip (l₁ := xs) (l₂ := ns) (by omega)
  exact this
theorem cat_w (w : String) (xs : List Val) (h : xs.length ≤ 1000) : binK .Add (.tup [.str w]) (.tup xs) = some (.tup (.str w :: xs)) := by
  rw [cat_t _ _ (decide_eq_true (by unfold lineN; simp only [List.length_cons, List.length_nil]; omega))]; rfl
theorem zip_map_zip {xs : List Val} {ns : List Int} {f : Val × Int → Val} {q : Val × Int} (h : q ∈ ((xs.zip ns).map f).zip ns) : ∃ x, (x, q.2) ∈ xs.zip ns ∧ q.1 = f (x, q.2) := by
  induction xs generalizing ns with
  | nil => simp at h
  | cons x xs ih =>
    cases ns with
    | nil => simp at h
    | cons n ns =>
      rw [List.zip_cons_cons, List.map_cons, List.zip_cons_cons] at h
      rcases List.mem_cons.mp h with rfl | h
      · exact ⟨x, by simp, rfl⟩
      · obtain ⟨y, h1, h2⟩ := ih h
        exact ⟨y, by rw [List.zip_cons_cons]; exact List.mem_cons_of_mem _ h1, h2⟩
theorem at_1 {y : Val} {xs : List Val} {i : Int} {x : Val} (h0 : 0 ≤ i) (h : xs[i.toNat]? = some x) : atI (y :: xs) (i + 1) = some x := by
  have := (List.getElem?_eq_some_iff.mp h).1
  rw [atI_int (by omega) (by simp only [List.length_cons]; omega), show (i + 1).toNat = i.toNat + 1 by omega]
  simpa using h
theorem eq_ii (i : Int) : cmpK .Eq (.int i) (.int i) = some true := by
  rw [eq_i]; simp
theorem zipV_same : ∀ {xs : List Val} {v : Val}, v ∈ zipV xs xs → ∃ x, v = .tup [x, x] ∧ x ∈ xs
  | [], _, h => by simp [zipV] at h
  | x :: xs, v, h => by
    rw [zipV] at h
    rcases List.mem_cons.mp h with rfl | h
    · exact ⟨x, rfl, List.mem_cons_self⟩
    · obtain ⟨y, e, hy⟩ := zipV_same h
      exact ⟨y, e, List.mem_cons_of_mem _ hy⟩
def Sm : Nat → Val → Prop
  | d + 1, .tup xs => xs.length ≤ 1000 ∧ ∀ x ∈ xs, Sm d x
  | _, .int _ => True
  | _, .str _ => True
  | _, .none => True
  | _, _ => False
theorem Sm.int (d : Nat) (i : Int) : Sm d (.int i) := by cases d <;> trivial
theorem Sm.str (d : Nat) (i : String) : Sm d (.str i) := by cases d <;> trivial
theorem Sm.none (d : Nat) : Sm d .none := by cases d <;> trivial
theorem Sm.tup {d : Nat} {xs : List Val} (hl : xs.length ≤ 1000) (h : ∀ x ∈ xs, Sm d x) : Sm (d + 1) (.tup xs) := ⟨hl, h⟩
theorem cons_v (i : Int) (p : List Int) : Val.int i :: vInts p = vInts (i :: p) := rfl
def dropS : Nat → Ss → Ss
  | 0, s => s
  | n + 1, .cons _ s => dropS n s
  | _ + 1, .nil => .nil
def cutS : Nat → Ss → Ss → Ss
  | 0, _, r => r
  | n + 1, .cons s ss, r => .cons s (cutS n ss r)
  | _ + 1, .nil, r => r
theorem cut_drop : ∀ (n : Nat) (b : Ss), b = cutS n b (dropS n b)
  | 0, _ => rfl
  | n + 1, .cons s ss => by rw [cutS, dropS, ← cut_drop n ss]
  | _ + 1, .nil => rfl

theorem atV {cs : List Int} {t : Int} (t0 : 0 ≤ t) (q : t < (cs.length : Int)) : ∃ x, atI (vInts cs) t = some (.int x) := by
  have hj : t.toNat < cs.length := by omega
  refine ⟨cs[t.toNat], ?_⟩
  rw [atI_int t0 (by rw [List.length_map]; exact q), List.getElem?_map, List.getElem?_eq_getElem hj]; rfl
theorem well_s2 {Γ : Calls} (k : Nat) (hΓ : Γ = callN P (k+1)) (G : Heap) (ns : List Int) (t : Int) (t0 : 0 ≤ t) (hl : ns.length ≤ 63) : (Γ "_law_well" [.frz (vInts ns), .int t] G).tot fun v G' => ∃ n, v = .ref n ∧ Well G' n ∧ n = G.length ∧ Gw G G' := by
  refine call_t pw_law_well hΓ rfl fun Γ hΓ => ?_
  have hr := fun x => mul_r x 51787 (show (decide (-p64 < 51787) && decide (51787 < p64)) = true by decide)
  have hr2 := fun x => mul_r x 39119 (show (decide (-p64 < 39119) && decide (39119 < p64)) = true by decide)
  have hr3 := fun x => mul_r x 27011 (show (decide (-p64 < 27011) && decide (27011 < p64)) = true by decide)
  have m1 := fun x => mod_i x 2147483579 (show decide ((0:Int) < 2147483579) = true by decide)
  have m2 := fun x => mod_i x 2147483549 (show decide ((0:Int) < 2147483549) = true by decide)
  have pw := pow_i 10 14 (show (decide ((0:Int) ≤ 14) && decide ((14:Int) ≤ 1000000) && decide (-p64 < 10) && decide (10 < p64)) = true by decide)
  simp_arith only [Bw_law_well, mul_l 9973 _ (show (decide (-p64 < 9973) && decide ((9973:Int) < p64)) = true by decide), cut_to ns (show (0:Int) ≤ 7 by decide)]
  refine seq_sat (N := fun s G' => (∃ (m : Int) (b : Slot), s = [.val (.frz (vInts ns)), .val (.int t), .val (.int m), b, .no]) ∧ G' = G) (forR_sat (fun _ s G' => (∃ (m : Int) (b : Slot), s = [.val (.frz (vInts ns)), .val (.int t), .val (.int m), b, .no]) ∧ G' = G) ?_ (fun s G' q => q) ⟨⟨_, _, rfl⟩, rfl⟩) ?_
  · rintro i x s G' hx ⟨⟨m, b, rfl⟩, rfl⟩
    obtain ⟨c, _, rfl⟩ := List.mem_map.mp (List.mem_of_getElem? hx)
    refine ⟨_, setT_name .., ?_⟩
    simp_arith only [hr, m1, m2]
    exact ⟨⟨_, _, rfl⟩, by first | rfl | trivial⟩
  · rintro s G' ⟨⟨m, b, rfl⟩, rfl⟩
    have own : ∃ o : Int, (if decide (t < (ns.length : Int)) = true then ((R.opt (atI (vInts ns) t) G').bind fun v G1 => R.ok [v] G1).bind fun vs G1 => R.opt (bfK Bf.int (vs.map (rd G1))) G1 else R.ok (Val.int 0) G') = .ok (.int o) G' := by
      by_cases q : t < (ns.length : Int)
      · obtain ⟨x, e⟩ := atV (cs := ns) t0 q
        exact ⟨x, by rw [if_pos (decide_eq_true q), e]; rfl⟩
      · exact ⟨0, by rw [if_neg (by simpa using q)]⟩
    obtain ⟨o, ho⟩ := own
    simp_arith only [hr2, hr3, m1, m2, pw, vInts_len]
    rw [ho]
    simp_arith only [hr2, hr3, m1, m2, pw]
    have fin : ∀ x y : Int, ∃ n, Val.ref G'.length = Val.ref n ∧ Well (G' ++ [Obj.lst [.int x, .int y, .int 0]]) n ∧ n = G'.length ∧ Gw G' (G' ++ [Obj.lst [.int x, .int y, .int 0]]) := fun x y => ⟨_, rfl, ⟨x, y, 0, by rw [List.getElem?_append_right (Nat.le_refl _), Nat.sub_self]; rfl⟩, rfl, Gw.app _ _⟩
    by_cases q : o < 0
    · simp_arith only [decide_eq_true q]
      exact fin _ _
    · simp_arith only [decide_eq_false q]
      split
      · simp_arith only []
        exact fin _ _
      · simp_arith only []
        exact fin _ _
theorem well_s {Γ : Calls} (k : Nat) (hΓ : Γ = callN P (k+1)) (G : Heap) (ns : List Int) (t : Int) (t0 : 0 ≤ t) (hl : ns.length ≤ 63) : (Γ "_law_well" [.frz (vInts ns), .int t] G).tot fun v G' => ∃ n, v = .ref n ∧ Well G' n :=
  R.tot_mono (well_s2 k hΓ G ns t t0 hl) fun _ _ ⟨n, h1, h2, _⟩ => ⟨n, h1, h2⟩
end Fx.Law

namespace Fx.Law
open PySem PySem.Spec PyProof.Rows L2 Fx
local macro_rules
  | `(tactic| simp_arith only [$xs,*] $[$l:location]?) => `(tactic| simp only [evSs_cons, evSs_nil, evE_var, evE_own, evE_con, evE_tup, evE_lst, evE_bin, evE_neg, evE_cmp, evE_cmp2, evE_not, evE_and, evE_or, evE_ite, evE_idx, evE_slice, evE_call, evE_bcall, evE_isi, evE_comp, evE_heap, evE_dnew, evE_dval, evE_dcon, evE_zipL, evE_dsub, evE_lindex, evE_tindex, evE_tupS, evE_popR, evE_rngL, evE_rngT, evE_compL, evE_dcomp, evE_stop, evE_lam, evS_raise0, evEs_nil, evEs_cons, evI_of, evI_rng1, evI_rng2, evI_zip, evI_enum, evS_stop, evS_exp, evS_ret, evS_retO, evS_retN, evS_pass, evS_brk, evS_cont, evS_asg, evS_asgOwn, evS_setR, evS_setO, evS_app, evS_appR, evS_extO, evS_popT, evS_popO, evS_aug, evS_par, evS_ite, evS_for_, evS_forO, evS_forL, evS_while_, startS, List.length_cons, List.length_nil, List.map_cons, List.map_nil, List.replicate, List.cons_append, List.nil_append, List.getD_cons_zero, List.getD_cons_succ, List.set_cons_zero, List.set_cons_succ, R.bind_ok, R.opt_some, R.calm_ok, R.thenS_ok, rd_int, rd_bool, rd_none, rd_str, rd_tup, rd_lst, rd_frz, seq_thenS, fin_thenS, seq_ite, fin_ite, seq_nextP, RS.seq_ret, RS.fin_ret, RS.fin_next, Option.map_some, Option.bind_some, truthV_bool, truthV_int, truthV_none, setT_name, setT_tup, setTs_nil, setTs_cons, wipe_nil, wipe_cons, ix_l, ix_t, ix_f, at_l0, at_l1, at_l2, at_l3, add_i, sub_i, lt_i, le_i, gt_i, ge_i, eq_i, ne_i, is_n, isnot_n, isNone, len_t, len_l, len_f, tuple_t, tuple_l, tuple_f, list_t, list_l, list_f, int_i, abs_i, max_i, min_i, sum_l, sum_t, isi_int, isi_bool, isi_tup, isi_lst, isi_str, isi_none, slice_l, slice_t, slice_f, ixO_no, ixO_int, satT_thenS, satT_next, satT_ret, sat_thenS, sat_next, sat_ret, seq_t, seq_l, seq_f, seqI_t, seqI_l, seqI_f, seqI_s, evE_din, evE_lenSet, evE_sliceR, evI_rev, keyOf_s, keyOf_i, vInts_len, evP_nil, evP_name, evP_item, R.tot_bind, R.tot_ok, Nat.reduceAdd, Nat.reduceSub, Bool.not_true, Bool.not_false, if_true, Bool.false_eq_true, if_false, decide_true, decide_false, eq_self, eq_s, ne_s, Bool.true_and, Bool.false_and, Bool.and_true, Bool.and_false, Bool.true_or, Bool.false_or, Bool.or_true, Bool.or_false, $xs,*] $[$l:location]?)
theorem samei_e {Γ : Calls} (k : Nat) (hΓ : Γ = callN P (k+1)) (i : Int) (G : Heap) : Γ "_law_same" [.int i, .int i] G = .ok (.bool true) G := by
  refine call_e pw_law_same hΓ rfl fun Γ hΓ => ?_
  simp_arith only [Bw_law_same]
theorem sames_e {Γ : Calls} (k : Nat) (hΓ : Γ = callN P (k+1)) (s : String) (G : Heap) : Γ "_law_same" [.str s, .str s] G = .ok (.bool true) G := by
  refine call_e pw_law_same hΓ rfl fun Γ hΓ => ?_
  simp_arith only [Bw_law_same]
theorem samen_e {Γ : Calls} (k : Nat) (hΓ : Γ = callN P (k+1)) (G : Heap) : Γ "_law_same" [.none, .none] G = .ok (.bool true) G := by
  refine call_e pw_law_same hΓ rfl fun Γ hΓ => ?_
  simp_arith only [Bw_law_same]
/-- a tuple whose parts are the same is the same -/
theorem samet_e {Γ : Calls} (k : Nat) (hΓ : Γ = callN P (k+1)) (xs : List Val) (hl : xs.length ≤ 1000) (G : Heap) (h : ∀ Γ, Γ = callN P k → ∀ x ∈ xs, Γ "_law_same" [x, x] G = .ok (.bool true) G) : Γ "_law_same" [.tup xs, .tup xs] G = .ok (.bool true) G := by
  refine call_e pw_law_same hΓ rfl fun Γ hΓ => ?_
  have hz : ¬ lineN < (zipV xs xs).length := by have := zipV_len xs xs; unfold lineN; omega
  simp_arith only [Bw_law_same, if_neg hz]
  rw [compR_f (fun _ => .bool true) ?_]
  · simp_arith only [all_g]
    rw [List.all_eq_true.mpr fun _ _ => rfl]
  · intro x hx
    obtain ⟨y, rfl, hy⟩ := zipV_same hx
    refine ⟨_, rfl, ?_⟩
    simp_arith only []
    exact h Γ hΓ y hy
theorem same_sm : ∀ (d : Nat) {v : Val}, Sm d v → ∀ {Γ : Calls} (k : Nat), Γ = callN P (k + d + 1) → ∀ G, Γ "_law_same" [v, v] G = .ok (.bool true) G := by
  intro d
  induction d with
  | zero =>
    intro v h Γ k hΓ G
    cases v with
    | int i => exact samei_e k hΓ i G
    | str s => exact sames_e k hΓ s G
    | none => exact samen_e k hΓ G
    | _ => exact h.elim
  | succ d ih =>
    intro v h Γ k hΓ G
    cases v with
    | int i => exact samei_e (k + (d + 1)) hΓ i G
    | str s => exact sames_e (k + (d + 1)) hΓ s G
    | none => exact samen_e (k + (d + 1)) hΓ G
    | tup xs => exact samet_e (k + d + 1) hΓ xs h.1 G fun Γ hΓ x hx => ih (h.2 x hx) k hΓ G
    | _ => exact h.elim
end Fx.Law

namespace Fx.Law
open PySem PySem.Spec PyProof.Rows L2 Fx
local macro_rules
  | `(tactic| simp_arith only [$xs,*] $[$l:location]?) => `(tactic| simp only [evSs_cons, evSs_nil, evE_var, evE_own, evE_con, evE_tup, evE_lst, evE_bin, evE_neg, evE_cmp, evE_cmp2, evE_not, evE_and, evE_or, evE_ite, evE_idx, evE_slice, evE_call, evE_bcall, evE_isi, evE_comp, evE_heap, evE_dnew, evE_dval, evE_dcon, evE_zipL, evE_dsub, evE_lindex, evE_tindex, evE_tupS, evE_popR, evE_rngL, evE_rngT, evE_compL, evE_dcomp, evE_stop, evE_lam, evS_raise0, evEs_nil, evEs_cons, evI_of, evI_rng1, evI_rng2, evI_zip, evI_enum, evS_stop, evS_exp, evS_ret, evS_retO, evS_retN, evS_pass, evS_brk, evS_cont, evS_asg, evS_asgOwn, evS_setR, evS_setO, evS_app, evS_appR, evS_extO, evS_popT, evS_popO, evS_aug, evS_par, evS_ite, evS_for_, evS_forO, evS_forL, evS_while_, startS, List.length_cons, List.length_nil, List.map_cons, List.map_nil, List.replicate, List.cons_append, List.nil_append, List.getD_cons_zero, List.getD_cons_succ, List.set_cons_zero, List.set_cons_succ, R.bind_ok, R.opt_some, R.calm_ok, R.thenS_ok, rd_int, rd_bool, rd_none, rd_str, rd_tup, rd_lst, rd_frz, seq_thenS, fin_thenS, seq_ite, fin_ite, seq_nextP, RS.seq_ret, RS.fin_ret, RS.fin_next, Option.map_some, Option.bind_some, truthV_bool, truthV_int, truthV_none, setT_name, setT_tup, setTs_nil, setTs_cons, wipe_nil, wipe_cons, ix_l, ix_t, ix_f, at_l0, at_l1, at_l2, at_l3, add_i, sub_i, lt_i, le_i, gt_i, ge_i, eq_i, ne_i, is_n, isnot_n, isNone, len_t, len_l, len_f, tuple_t, tuple_l, tuple_f, list_t, list_l, list_f, int_i, abs_i, max_i, min_i, sum_l, sum_t, isi_int, isi_bool, isi_tup, isi_lst, isi_str, isi_none, slice_l, slice_t, slice_f, ixO_no, ixO_int, satT_thenS, satT_next, satT_ret, sat_thenS, sat_next, sat_ret, seq_t, seq_l, seq_f, seqI_t, seqI_l, seqI_f, seqI_s, evE_din, evE_lenSet, evE_sliceR, evI_rev, keyOf_s, keyOf_i, vInts_len, evP_nil, evP_name, evP_item, R.tot_bind, R.tot_ok, Nat.reduceAdd, Nat.reduceSub, Bool.not_true, Bool.not_false, if_true, Bool.false_eq_true, if_false, decide_true, decide_false, eq_self, eq_s, ne_s, Bool.true_and, Bool.false_and, Bool.and_true, Bool.and_false, Bool.true_or, Bool.false_or, Bool.or_true, Bool.or_false, $xs,*] $[$l:location]?)
/-- no right int -/
def nz (v : Val) : Prop := isK .int v = false ∨ isK .bool v = true
theorem within_n {Γ : Calls} (k : Nat) (hΓ : Γ = callN P (k+1)) {d : Nat} {v : Val} (h : Dt d v) (hn : nz v) (a b : Val) (G : Heap) : Γ "is_within" [v, a, b] G = .ok (.bool false) G := by
  refine call_e pis_within hΓ rfl fun Γ hΓ => ?_
  simp_arith only [Bis_within, rd_dt h, (isInt_val h).1, (isInt_val h).2.1]
  rcases hn with e | e
  · simp_arith only [e]
  · simp_arith only [e]
    cases isK .int v <;> simp_arith only []
theorem within_i {Γ : Calls} (k : Nat) (hΓ : Γ = callN P (k+1)) (i a b : Int) (G : Heap) : Γ "is_within" [.int i, .int a, .int b] G = .ok (.bool (decide (a ≤ i ∧ i ≤ b))) G := by
  refine call_e pis_within hΓ rfl fun Γ hΓ => ?_
  simp_arith only [Bis_within]
  by_cases h1 : a ≤ i
  · by_cases h2 : i ≤ b
    · simp_arith only [decide_eq_true h1, decide_eq_true h2, decide_eq_true (And.intro h1 h2)]
    · simp_arith only [decide_eq_true h1, decide_eq_false h2, decide_eq_false (fun z : a ≤ i ∧ i ≤ b => h2 z.2)]
  · simp_arith only [decide_eq_false h1, decide_eq_false (fun z : a ≤ i ∧ i ≤ b => h1 z.1)]
def xN (v : Val) : Exc := ⟨"InvalidNumber", some ("given", v)⟩
def xM (v : Val) : Exc := ⟨"InvalidName", some ("given", v)⟩
theorem check_ok {Γ : Calls} (k : Nat) (hΓ : Γ = callN P (k+2)) {i a b : Int} (h : a ≤ i ∧ i ≤ b) (G : Heap) : Γ "check_within" [.int i, .int a, .int b] G = .ok .none G := by
  refine call_e pcheck_within hΓ rfl fun Γ hΓ => ?_
  simp_arith only [Bcheck_within]
  rw [within_i k hΓ, decide_eq_true h]
  try simp_arith only []
theorem check_no {Γ : Calls} (k : Nat) (hΓ : Γ = callN P (k+2)) {d : Nat} {v : Val} (hd : Dt d v) {a b : Int} (h : nz v ∨ ∃ i, v = .int i ∧ ¬ (a ≤ i ∧ i ≤ b)) (G : Heap) : Γ "check_within" [v, .int a, .int b] G = .exc (xN v) G := by
  refine call_e pcheck_within hΓ rfl fun Γ hΓ => ?_
  have e : Γ "is_within" [v, .int a, .int b] G = .ok (.bool false) G := by
    rcases h with h | ⟨i, rfl, h⟩
    · exact within_n k hΓ hd h _ _ G
    · rw [within_i k hΓ, decide_eq_false h]
  simp_arith only [Bcheck_within]
  rw [e]
  simp_arith only [rd_dt hd]
  rfl
/-- the kind of a number -/
def kd (k : Int) : String := if k = 0 then "closure" else if k = 1 then "pair" else "box"
def hf (s : String) (f : Int) : Prop := if s = "closure" then 1 ≤ f ∧ f ≤ 999999999 else f = if s = "pair" then 2 else 1
instance (s : String) (f : Int) : Decidable (hf s f) := by unfold hf; infer_instance
theorem fields_e {Γ : Calls} (k : Nat) (hΓ : Γ = callN P (k+1)) (s : String) (f : Int) (G : Heap) : Γ "has_fields" [.str s, .int f] G = .ok (.bool (decide (hf s f))) G := by
  refine call_e phas_fields hΓ rfl fun Γ hΓ => ?_
  simp_arith only [Bhas_fields]
  unfold hf
  by_cases h1 : s = "closure"
  · simp_arith only [decide_eq_true h1, if_pos h1]
    by_cases h2 : 1 ≤ f
    · by_cases h3 : f ≤ 999999999
      · simp_arith only [decide_eq_true h2, decide_eq_true h3, decide_eq_true (And.intro h2 h3)]
      · simp_arith only [decide_eq_true h2, decide_eq_false h3, decide_eq_false (fun z : 1 ≤ f ∧ f ≤ 999999999 => h3 z.2)]
    · simp_arith only [decide_eq_false h2, decide_eq_false (fun z : 1 ≤ f ∧ f ≤ 999999999 => h2 z.1)]
  · simp_arith only [decide_eq_false h1, if_neg h1]
    by_cases h2 : s = "pair"
    · simp_arith only [decide_eq_true h2, if_pos h2]
    · simp_arith only [decide_eq_false h2, if_neg h2]
/-- what a word says -/
def rdV (w : Int) : Val :=
  if w % 4 = 0 then (if -999999999 ≤ w / 4 ∧ w / 4 ≤ 999999999 then .tup [.str "number", .int (w / 4)] else .none)
  else if w % 4 < 3 then (if 0 ≤ w / 4 ∧ w / 4 ≤ 999999999 then .tup [.str (if w % 4 = 1 then "address" else "mark"), .int (w / 4)] else .none)
  else if w / 4 < 0 ∨ 3 ≤ w / 4 % 8 ∨ ¬ hf (kd (w / 4 % 8)) (w / 4 / 8) then .none else .tup [.str "header", .str (kd (w / 4 % 8)), .int (w / 4 / 8)]
theorem kd_at {j : Int} (h0 : 0 ≤ j) (h1 : j < 3) : L2.atI [Val.str "closure", Val.str "pair", Val.str "box"] j = some (Val.str (kd j)) := by
  have : j = 0 ∨ j = 1 ∨ j = 2 := by omega
  rcases this with rfl | rfl | rfl <;> rfl
theorem read_i {Γ : Calls} (k : Nat) (hΓ : Γ = callN P (k+2)) (w : Int) (G : Heap) : Γ "read" [.int w] G = .ok (rdV w) G := by
  refine call_e pread hΓ rfl fun Γ hΓ => ?_
  have m4 := mod_i w 4 (show decide ((0:Int) < 4) = true by decide)
  have d4 := div_i w 4 (show (decide ((0:Int) < 4) && decide ((4:Int) < p64)) = true by decide)
  have m8 := mod_i (w / 4) 8 (show decide ((0:Int) < 8) = true by decide)
  have d8 := div_i (w / 4) 8 (show (decide ((0:Int) < 8) && decide ((8:Int) < p64)) = true by decide)
  simp_arith only [Bread, m4, d4]
  unfold rdV
  by_cases c0 : w % 4 = 0
  · simp_arith only [decide_eq_true c0, if_pos c0]
    by_cases h1 : -999999999 ≤ w / 4
    · by_cases h2 : w / 4 ≤ 999999999
      · simp_arith only [decide_eq_true h1, decide_eq_true h2, if_pos (And.intro h1 h2)]
      · simp_arith only [decide_eq_true h1, decide_eq_false h2, if_neg (fun z : -999999999 ≤ w / 4 ∧ w / 4 ≤ 999999999 => h2 z.2)]
    · simp_arith only [decide_eq_false h1, if_neg (fun z : -999999999 ≤ w / 4 ∧ w / 4 ≤ 999999999 => h1 z.1)]
  simp_arith only [decide_eq_false c0, if_neg c0]
  by_cases c1 : w % 4 < 3
  · simp_arith only [decide_eq_true c1, if_pos c1]
    by_cases h1 : 0 ≤ w / 4
    · by_cases h2 : w / 4 ≤ 999999999
      · simp_arith only [decide_eq_true h1, decide_eq_true h2, if_pos (And.intro h1 h2)]
        by_cases h3 : w % 4 = 1
        · simp_arith only [decide_eq_true h3, if_pos h3]
        · simp_arith only [decide_eq_false h3, if_neg h3]
      · simp_arith only [decide_eq_true h1, decide_eq_false h2, if_neg (fun z : 0 ≤ w / 4 ∧ w / 4 ≤ 999999999 => h2 z.2)]
    · simp_arith only [decide_eq_false h1, if_neg (fun z : 0 ≤ w / 4 ∧ w / 4 ≤ 999999999 => h1 z.1)]
  have c3 : ((3 : Nat) : Int) = 3 := rfl
  simp_arith only [decide_eq_false c1, if_neg c1, m8, d8]
  by_cases h1 : w / 4 < 0
  · simp_arith only [decide_eq_true h1, if_pos (Or.inl h1 : w / 4 < 0 ∨ 3 ≤ w / 4 % 8 ∨ ¬ hf (kd (w / 4 % 8)) (w / 4 / 8))]
  by_cases h2 : 3 ≤ w / 4 % 8
  · simp_arith only [c3, decide_eq_false h1, decide_eq_true h2, if_pos (Or.inr (Or.inl h2) : w / 4 < 0 ∨ 3 ≤ w / 4 % 8 ∨ ¬ hf (kd (w / 4 % 8)) (w / 4 / 8))]
  have a := kd_at (j := w / 4 % 8) (by omega) (by omega)
  simp_arith only [decide_eq_false h1, c3, decide_eq_false h2, a, fields_e k hΓ]
  by_cases h3 : hf (kd (w / 4 % 8)) (w / 4 / 8)
  · have hn : ¬ (w / 4 < 0 ∨ 3 ≤ w / 4 % 8 ∨ ¬ hf (kd (w / 4 % 8)) (w / 4 / 8)) := fun z => z.elim h1 fun z => z.elim h2 fun z => z h3
    simp_arith only [decide_eq_true h3, if_neg hn, m8, a]
  · simp_arith only [decide_eq_false h3, if_pos (Or.inr (Or.inr h3) : w / 4 < 0 ∨ 3 ≤ w / 4 % 8 ∨ ¬ hf (kd (w / 4 % 8)) (w / 4 / 8))]
theorem read_n {Γ : Calls} (k : Nat) (hΓ : Γ = callN P (k+1)) {d : Nat} {v : Val} (h : Dt d v) (hn : nz v) (G : Heap) : Γ "read" [v] G = .ok .none G := by
  refine call_e pread hΓ rfl fun Γ hΓ => ?_
  simp_arith only [Bread, rd_dt h, (isInt_val h).1, (isInt_val h).2.1]
  rcases hn with e | e
  · simp_arith only [e]
  · simp_arith only [e]
    cases isK .int v <;> simp_arith only []
theorem word_i {Γ : Calls} (k : Nat) (hΓ : Γ = callN P (k+3)) (w : Int) (G : Heap) : Γ "read_word" [.int w] G = .ok (rdV w) G := by
  refine call_e pread_word hΓ rfl fun Γ hΓ => ?_
  simp_arith only [Bread_word, read_i k hΓ]
theorem word_n {Γ : Calls} (k : Nat) (hΓ : Γ = callN P (k+3)) {d : Nat} {v : Val} (h : Dt d v) (hn : nz v) (G : Heap) : Γ "read_word" [v] G = .ok .none G := by
  refine call_e pread_word hΓ rfl fun Γ hΓ => ?_
  simp_arith only [Bread_word, rd_dt h, read_n (k+1) hΓ h hn]
end Fx.Law

namespace Fx.Law
open PySem PySem.Spec PyProof.Rows L2 Fx
local macro_rules
  | `(tactic| simp_arith only [$xs,*] $[$l:location]?) => `(tactic| simp only [evSs_cons, evSs_nil, evE_var, evE_own, evE_con, evE_tup, evE_lst, evE_bin, evE_neg, evE_cmp, evE_cmp2, evE_not, evE_and, evE_or, evE_ite, evE_idx, evE_slice, evE_call, evE_bcall, evE_isi, evE_comp, evE_heap, evE_dnew, evE_dval, evE_dcon, evE_zipL, evE_dsub, evE_lindex, evE_tindex, evE_tupS, evE_popR, evE_rngL, evE_rngT, evE_compL, evE_dcomp, evE_stop, evE_lam, evS_raise0, evEs_nil, evEs_cons, evI_of, evI_rng1, evI_rng2, evI_zip, evI_enum, evS_stop, evS_exp, evS_ret, evS_retO, evS_retN, evS_pass, evS_brk, evS_cont, evS_asg, evS_asgOwn, evS_setR, evS_setO, evS_app, evS_appR, evS_extO, evS_popT, evS_popO, evS_aug, evS_par, evS_ite, evS_for_, evS_forO, evS_forL, evS_while_, startS, List.length_cons, List.length_nil, List.map_cons, List.map_nil, List.replicate, List.cons_append, List.nil_append, List.getD_cons_zero, List.getD_cons_succ, List.set_cons_zero, List.set_cons_succ, R.bind_ok, R.opt_some, R.calm_ok, R.thenS_ok, rd_int, rd_bool, rd_none, rd_str, rd_tup, rd_lst, rd_frz, seq_thenS, fin_thenS, seq_ite, fin_ite, seq_nextP, RS.seq_ret, RS.fin_ret, RS.fin_next, Option.map_some, Option.bind_some, truthV_bool, truthV_int, truthV_none, setT_name, setT_tup, setTs_nil, setTs_cons, wipe_nil, wipe_cons, ix_l, ix_t, ix_f, at_l0, at_l1, at_l2, at_l3, add_i, sub_i, lt_i, le_i, gt_i, ge_i, eq_i, ne_i, is_n, isnot_n, isNone, len_t, len_l, len_f, tuple_t, tuple_l, tuple_f, list_t, list_l, list_f, int_i, abs_i, max_i, min_i, sum_l, sum_t, isi_int, isi_bool, isi_tup, isi_lst, isi_str, isi_none, slice_l, slice_t, slice_f, ixO_no, ixO_int, satT_thenS, satT_next, satT_ret, sat_thenS, sat_next, sat_ret, seq_t, seq_l, seq_f, seqI_t, seqI_l, seqI_f, seqI_s, evE_din, evE_lenSet, evE_sliceR, evI_rev, keyOf_s, keyOf_i, vInts_len, evP_nil, evP_name, evP_item, R.tot_bind, R.tot_ok, Nat.reduceAdd, Nat.reduceSub, Bool.not_true, Bool.not_false, if_true, Bool.false_eq_true, if_false, decide_true, decide_false, eq_self, eq_s, ne_s, Bool.true_and, Bool.false_and, Bool.and_true, Bool.and_false, Bool.true_or, Bool.false_or, Bool.or_true, Bool.or_false, $xs,*] $[$l:location]?)
def kno (s : String) : Int := if s = "closure" then 0 else if s = "pair" then 1 else 2
abbrev ks3 : List String := ["closure", "pair", "box"]
abbrev h42 : List Hd := [⟨["InvalidNumber"], ["InvalidName"], [("InvalidNumber", "given")], (.tup (.cons (.con (.str "number")) (.cons (.rep "given") (.cons (.and (.isc ["InvalidNumber"] []) (.not (.isc [] ["InvalidNumber"]))) .nil))))⟩, ⟨["InvalidName"], ["InvalidNumber"], [("InvalidName", "given")], (.tup (.cons (.con (.str "name")) (.cons (.rep "given") (.cons (.isc ["InvalidName"] []) .nil))))⟩]
theorem lam_n {v : Val} {t : Str} (h : reprV v = some (.txt t)) (G : Heap) : lamR [.str "told"] false h42 (.exc (xN v) G) = .ok (.tup [.str "number", .txt t, .bool true]) G := by
  show hsR ⟨"InvalidNumber", some ("given", v)⟩ _ _ = _
  rw [hsR, if_pos (show ["InvalidNumber"].contains "InvalidNumber" = true by decide)]
  have e : evH [("InvalidNumber", "given")] ⟨"InvalidNumber", some ("given", v)⟩ (.rep "given") = some (.txt t) := by
    rw [evH]
    show (if "given" = "given" ∧ _ then reprV v else none) = _
    rw [if_pos ⟨rfl, by show _ = true; first | rfl | (simp; done)⟩, h]
  simp only [evH, evHs] at e ⊢
  rw [e]
  rfl
theorem lam_m {v : Val} {t : Str} (h : reprV v = some (.txt t)) (G : Heap) : lamR [.str "told"] false h42 (.exc (xM v) G) = .ok (.tup [.str "name", .txt t, .bool true]) G := by
  show hsR ⟨"InvalidName", some ("given", v)⟩ _ _ = _
  rw [hsR, if_neg (show ¬ ["InvalidNumber"].contains "InvalidName" = true by decide), if_pos (show ["InvalidName"].contains "InvalidName" = true by decide), hsR, if_pos (show ["InvalidName"].contains "InvalidName" = true by decide)]
  have e : evH [("InvalidName", "given")] ⟨"InvalidName", some ("given", v)⟩ (.rep "given") = some (.txt t) := by
    rw [evH]
    show (if "given" = "given" ∧ _ then reprV v else none) = _
    rw [if_pos ⟨rfl, by show _ = true; first | rfl | (simp; done)⟩, h]
  simp only [evH, evHs] at e ⊢
  rw [e]
  rfl
theorem ok_str (w : String) : PyData.strOk (Str.ofString w) = true := strOk_of w
theorem eqK_t (w : String) {t : Str} (ht : PyData.strOk t = true) : eqK (.tup [.str w, .txt t, .bool true]) (.tup [.str w, .txt t, .bool true]) = some true := by
  rw [eqK_ne (fun _ z => by cases z)]
  unfold eqK0
  simp only [toD, toDs, Option.map_some, Option.bind_some]
  rw [show SeqAt.shaped (.tuple [.str (Str.ofString w), .str t, .bool true]) = true by simp [SeqAt.shaped, PyData.canLay0, PyData.depth, PyData.canLayAll0, PyData.depthAll, ok_str, ht]]
  simp [PyData.eqv, PyData.eqvAll]
theorem sixt (w : String) {t : Str} (ht : PyData.strOk t = true) : cmpK .Eq (.tup [.str w, .txt t, .bool true]) (.tup [.str w, .txt t, .bool true]) = some true := eqK_t w ht
theorem nixt (w : String) {t : Str} (ht : PyData.strOk t = true) : cmpK .NotEq (.tup [.str w, .txt t, .bool true]) (.tup [.str w, .txt t, .bool true]) = some false := by
  show (eqK (.tup [.str w, .txt t, .bool true]) (.tup [.str w, .txt t, .bool true])).map (!·) = _
  rw [eqK_t w ht]; rfl
theorem eqK_w (w : String) (i : Int) : eqK (.tup [.str w, .int i]) (.tup [.str w, .int i]) = some true := by
  rw [eqK_ne (fun _ z => by cases z)]
  unfold eqK0
  simp only [toD, toDs, Option.map_some, Option.bind_some]
  rw [show SeqAt.shaped (.tuple [.str (Str.ofString w), .int i]) = true by simp [SeqAt.shaped, PyData.canLay0, PyData.depth, PyData.canLayAll0, PyData.depthAll, ok_str]]
  simp [PyData.eqv, PyData.eqvAll]
theorem nixi (w : String) (i : Int) : cmpK .NotEq (.tup [.str w, .int i]) (.tup [.str w, .int i]) = some false := by
  show (eqK (.tup [.str w, .int i]) (.tup [.str w, .int i])).map (!·) = _
  rw [eqK_w]; rfl
theorem number_i {Γ : Calls} (k : Nat) (hΓ : Γ = callN P (k+3)) {i : Int} (h : -999999999 ≤ i ∧ i ≤ 999999999) (G : Heap) : Γ "number_word" [.int i] G = .ok (.int (4 * i)) G := by
  refine call_e pnumber_word hΓ rfl fun Γ hΓ => ?_
  simp_arith only [Bnumber_word, check_ok k hΓ h, mul_l 4 i (show (decide (-p64 < 4) && decide ((4:Int) < p64)) = true by decide)]
theorem number_n {Γ : Calls} (k : Nat) (hΓ : Γ = callN P (k+3)) {d : Nat} {v : Val} (hd : Dt d v) (h : nz v ∨ ∃ i, v = .int i ∧ ¬ (-999999999 ≤ i ∧ i ≤ 999999999)) (G : Heap) : Γ "number_word" [v] G = .exc (xN v) G := by
  refine call_e pnumber_word hΓ rfl fun Γ hΓ => ?_
  simp_arith only [Bnumber_word, rd_dt hd, check_no k hΓ hd h]
  rfl
theorem address_i {Γ : Calls} (k : Nat) (hΓ : Γ = callN P (k+3)) {i : Int} (h : 0 ≤ i ∧ i ≤ 999999999) (G : Heap) : Γ "address_word" [.int i] G = .ok (.int (4 * i + 1)) G := by
  refine call_e paddress_word hΓ rfl fun Γ hΓ => ?_
  simp_arith only [Baddress_word, check_ok k hΓ h, mul_l 4 i (show (decide (-p64 < 4) && decide ((4:Int) < p64)) = true by decide)]
theorem address_n {Γ : Calls} (k : Nat) (hΓ : Γ = callN P (k+3)) {d : Nat} {v : Val} (hd : Dt d v) (h : nz v ∨ ∃ i, v = .int i ∧ ¬ (0 ≤ i ∧ i ≤ 999999999)) (G : Heap) : Γ "address_word" [v] G = .exc (xN v) G := by
  refine call_e paddress_word hΓ rfl fun Γ hΓ => ?_
  simp_arith only [Baddress_word, rd_dt hd, check_no k hΓ hd h]
  rfl
theorem mark_i {Γ : Calls} (k : Nat) (hΓ : Γ = callN P (k+3)) {i : Int} (h : 0 ≤ i ∧ i ≤ 999999999) (G : Heap) : Γ "mark_word" [.int i] G = .ok (.int (4 * i + 2)) G := by
  refine call_e pmark_word hΓ rfl fun Γ hΓ => ?_
  simp_arith only [Bmark_word, check_ok k hΓ h, mul_l 4 i (show (decide (-p64 < 4) && decide ((4:Int) < p64)) = true by decide)]
theorem mark_n {Γ : Calls} (k : Nat) (hΓ : Γ = callN P (k+3)) {d : Nat} {v : Val} (hd : Dt d v) (h : nz v ∨ ∃ i, v = .int i ∧ ¬ (0 ≤ i ∧ i ≤ 999999999)) (G : Heap) : Γ "mark_word" [v] G = .exc (xN v) G := by
  refine call_e pmark_word hΓ rfl fun Γ hΓ => ?_
  simp_arith only [Bmark_word, rd_dt hd, check_no k hΓ hd h]
  rfl
theorem notin3 (s : String) : cmpK .NotIn (.str s) (.tup [.str "closure", .str "pair", .str "box"]) = some (!decide (s ∈ ks3)) := notin_ss s ks3
theorem name_ok {Γ : Calls} (k : Nat) (hΓ : Γ = callN P (k+1)) {s : String} (h : s ∈ ks3) (G : Heap) : Γ "check_name" [.str s, .tup [.str "closure", .str "pair", .str "box"]] G = .ok .none G := by
  refine call_e pcheck_name hΓ rfl fun Γ hΓ => ?_
  simp_arith only [Bcheck_name, notin3, decide_eq_true h]
theorem name_no {Γ : Calls} (k : Nat) (hΓ : Γ = callN P (k+1)) {d : Nat} {v : Val} (hd : Dt d v) (h : isK .str v = false ∨ ∃ s, v = .str s ∧ ¬ s ∈ ks3) (G : Heap) : Γ "check_name" [v, .tup [.str "closure", .str "pair", .str "box"]] G = .exc (xM v) G := by
  refine call_e pcheck_name hΓ rfl fun Γ hΓ => ?_
  rcases h with h | ⟨s, rfl, h⟩
  · simp_arith only [Bcheck_name, rd_dt hd, (isInt_val hd).2.2.1, h]
    rfl
  · simp_arith only [Bcheck_name, notin3, decide_eq_false h]
    rfl
theorem tidx3 {s : String} (h : s ∈ ks3) : tidxV (.tup [.str "closure", .str "pair", .str "box"]) (.str s) = some (.int (kno s)) := by
  have : s = "closure" ∨ s = "pair" ∨ s = "box" := by simpa using h
  rcases this with rfl | rfl | rfl <;> rfl
theorem isT_t (xs : List Val) : isT (.tup xs) = some true := rfl
theorem header_i {Γ : Calls} (k : Nat) (hΓ : Γ = callN P (k+2)) {s : String} (hs : s ∈ ks3) {f : Int} (h : (1 ≤ f ∧ f ≤ 999999999) ∧ hf s f) (G : Heap) : Γ "header_word" [.str s, .int f] G = .ok (.int (4 * (8 * f + kno s) + 3)) G := by
  refine call_e pheader_word hΓ rfl fun Γ hΓ => ?_
  simp_arith only [Bheader_word, name_ok k hΓ hs, within_i k hΓ, fields_e k hΓ, decide_eq_true h.1, decide_eq_true h.2, isT_t, tidx3 hs, mul_l 8 f (show (decide (-p64 < 8) && decide ((8:Int) < p64)) = true by decide), mul_l 4 _ (show (decide (-p64 < 4) && decide ((4:Int) < p64)) = true by decide)]
theorem header_n {Γ : Calls} (k : Nat) (hΓ : Γ = callN P (k+2)) {s : String} (hs : s ∈ ks3) {d : Nat} {v : Val} (hd : Dt d v) (h : nz v ∨ ∃ i, v = .int i ∧ ¬ ((1 ≤ i ∧ i ≤ 999999999) ∧ hf s i)) (G : Heap) : Γ "header_word" [.str s, v] G = .exc (xN v) G := by
  refine call_e pheader_word hΓ rfl fun Γ hΓ => ?_
  rcases h with h | ⟨i, rfl, h⟩
  · simp_arith only [Bheader_word, name_ok k hΓ hs, rd_dt hd, within_n k hΓ hd h]
    rfl
  · by_cases h1 : 1 ≤ i ∧ i ≤ 999999999
    · have h2 : ¬ hf s i := fun z => h ⟨h1, z⟩
      simp_arith only [Bheader_word, name_ok k hΓ hs, within_i k hΓ, fields_e k hΓ, decide_eq_true h1, decide_eq_false h2]
      rfl
    · simp_arith only [Bheader_word, name_ok k hΓ hs, within_i k hΓ, decide_eq_false h1]
      rfl
theorem header_m {Γ : Calls} (k : Nat) (hΓ : Γ = callN P (k+2)) {d e : Nat} {v u : Val} (hd : Dt d v) (hu : Dt e u) (h : isK .str v = false ∨ ∃ s, v = .str s ∧ ¬ s ∈ ks3) (G : Heap) : Γ "header_word" [v, u] G = .exc (xM v) G := by
  refine call_e pheader_word hΓ rfl fun Γ hΓ => ?_
  simp_arith only [Bheader_word, rd_dt hd, rd_dt hu, name_no k hΓ hd h]
  rfl
/-- repr tells it -/
def Rp (v : Val) : Prop := ∃ t, reprV v = some (.txt t) ∧ PyData.strOk t = true
theorem bf_repr (v : Val) : bfK .repr [v] = reprV v := by cases v <;> rfl
theorem rp_int (i : Int) (h : -10000000000 ≤ i ∧ i ≤ 10000000000) : Rp (.int i) := by
  have hn : i.natAbs ≤ 10000000000 := by omega
  refine ⟨Str.ofString (toString i), ?_, ok_str _⟩
  have h1 : (Str.ofString (toString i)).length ≤ 102 := by
    have := int_text_length_le10 (a := i) (k := 101) (by decide) (Nat.lt_of_le_of_lt hn (by decide))
    rw [ofString_length]; omega
  have h2 : i.natAbs.log2 < 1920 := by
    by_cases h0 : i.natAbs = 0
    · rw [h0]; decide
    · exact (Nat.log2_lt h0).mpr (Nat.lt_of_le_of_lt hn (by decide))
  show (if (PyData.int i).showable = true ∧ (PyData.int i).depth ≤ 100 ∧ (PyData.int i).shown.length ≤ 16777216 then some (Val.txt (PyData.int i).shown) else none) = _
  have e : (PyData.int i).shown = Str.ofString (toString i) := by rw [PyData.shown]
  rw [e, if_pos ⟨by simpa [PyData.showable] using h2, by simp [PyData.depth], by omega⟩]
/-- odd things -/
def odL : List Val := [.none, .bool true, .bool false, .str "1", .tup [.int 1], .lst [.int 1], .tup [], .str "", .dct [] [], .lst [.int 0, .tup [.int 2]]]
theorem rp_od : ∀ v ∈ odL, Rp v := by
  have f : ∀ (d : PyData) (v : Val), toR v = some d → (decide (d.showable = true ∧ d.depth ≤ 100 ∧ d.shown.length ≤ 16777216) && PyData.strOk d.shown) = true → Rp v := fun d v e h => by
    obtain ⟨h1, h2⟩ := Bool.and_eq_true_iff.mp h
    refine ⟨d.shown, ?_, h2⟩
    unfold reprV
    rw [e]
    exact if_pos (of_decide_eq_true h1)
  intro v h
  simp only [odL, List.mem_cons, List.not_mem_nil, or_false] at h
  rcases h with rfl | rfl | rfl | rfl | rfl | rfl | rfl | rfl | rfl | rfl
  all_goals exact f _ _ rfl (by decide +kernel)
theorem rp_nm : ∀ w ∈ ["number", "Pair", "closures", "", "mark"], Rp (.str w) := by
  have f : ∀ (d : PyData) (v : Val), toR v = some d → (decide (d.showable = true ∧ d.depth ≤ 100 ∧ d.shown.length ≤ 16777216) && PyData.strOk d.shown) = true → Rp v := fun d v e h => by
    obtain ⟨h1, h2⟩ := Bool.and_eq_true_iff.mp h
    refine ⟨d.shown, ?_, h2⟩
    unfold reprV
    rw [e]
    exact if_pos (of_decide_eq_true h1)
  intro w h
  simp only [List.mem_cons, List.not_mem_nil, or_false] at h
  rcases h with rfl | rfl | rfl | rfl | rfl
  all_goals exact f _ _ rfl (by decide +kernel)
theorem dt_od : ∀ v ∈ odL, Dt 2 v := by
  intro v h
  simp only [odL, List.mem_cons, List.not_mem_nil, or_false] at h
  rcases h with rfl | rfl | rfl | rfl | rfl | rfl | rfl | rfl | rfl | rfl
  all_goals simp [Dt, isFl]
theorem nz_od : ∀ v ∈ odL, nz v := by
  intro v h
  simp only [odL, List.mem_cons, List.not_mem_nil, or_false] at h
  rcases h with rfl | rfl | rfl | rfl | rfl | rfl | rfl | rfl | rfl | rfl
  all_goals first | exact .inl rfl | exact .inr rfl
theorem nm_od : ∀ v ∈ odL, isK .str v = false ∨ ∃ s, v = .str s ∧ ¬ s ∈ ks3 := by
  intro v h
  simp only [odL, List.mem_cons, List.not_mem_nil, or_false] at h
  rcases h with rfl | rfl | rfl | rfl | rfl | rfl | rfl | rfl | rfl | rfl
  all_goals first | exact .inl rfl | exact .inr ⟨_, rfl, by decide⟩
end Fx.Law

namespace Fx.Law
open PySem PySem.Spec PyProof.Rows L2 Fx
local macro_rules
  | `(tactic| simp_arith only [$xs,*] $[$l:location]?) => `(tactic| simp only [evSs_cons, evSs_nil, evE_var, evE_own, evE_con, evE_tup, evE_lst, evE_bin, evE_neg, evE_cmp, evE_cmp2, evE_not, evE_and, evE_or, evE_ite, evE_idx, evE_slice, evE_call, evE_bcall, evE_isi, evE_comp, evE_heap, evE_dnew, evE_dval, evE_dcon, evE_zipL, evE_dsub, evE_lindex, evE_tindex, evE_tupS, evE_popR, evE_rngL, evE_rngT, evE_compL, evE_dcomp, evE_stop, evE_lam, evS_raise0, evEs_nil, evEs_cons, evI_of, evI_rng1, evI_rng2, evI_zip, evI_enum, evS_stop, evS_exp, evS_ret, evS_retO, evS_retN, evS_pass, evS_brk, evS_cont, evS_asg, evS_asgOwn, evS_setR, evS_setO, evS_app, evS_appR, evS_extO, evS_popT, evS_popO, evS_aug, evS_par, evS_ite, evS_for_, evS_forO, evS_forL, evS_while_, startS, List.length_cons, List.length_nil, List.map_cons, List.map_nil, List.replicate, List.cons_append, List.nil_append, List.getD_cons_zero, List.getD_cons_succ, List.set_cons_zero, List.set_cons_succ, R.bind_ok, R.opt_some, R.calm_ok, R.thenS_ok, rd_int, rd_bool, rd_none, rd_str, rd_tup, rd_lst, rd_frz, seq_thenS, fin_thenS, seq_ite, fin_ite, seq_nextP, RS.seq_ret, RS.fin_ret, RS.fin_next, Option.map_some, Option.bind_some, truthV_bool, truthV_int, truthV_none, setT_name, setT_tup, setTs_nil, setTs_cons, wipe_nil, wipe_cons, ix_l, ix_t, ix_f, at_l0, at_l1, at_l2, at_l3, add_i, sub_i, lt_i, le_i, gt_i, ge_i, eq_i, ne_i, is_n, isnot_n, isNone, len_t, len_l, len_f, tuple_t, tuple_l, tuple_f, list_t, list_l, list_f, int_i, abs_i, max_i, min_i, sum_l, sum_t, isi_int, isi_bool, isi_tup, isi_lst, isi_str, isi_none, slice_l, slice_t, slice_f, ixO_no, ixO_int, satT_thenS, satT_next, satT_ret, sat_thenS, sat_next, sat_ret, seq_t, seq_l, seq_f, seqI_t, seqI_l, seqI_f, seqI_s, evE_din, evE_lenSet, evE_sliceR, evI_rev, keyOf_s, keyOf_i, vInts_len, evP_nil, evP_name, evP_item, R.tot_bind, R.tot_ok, Nat.reduceAdd, Nat.reduceSub, Bool.not_true, Bool.not_false, if_true, Bool.false_eq_true, if_false, decide_true, decide_false, eq_self, eq_s, ne_s, Bool.true_and, Bool.false_and, Bool.and_true, Bool.and_false, Bool.true_or, Bool.false_or, Bool.or_true, Bool.or_false, $xs,*] $[$l:location]?)
theorem wide_s {Γ : Calls} (k : Nat) (hΓ : Γ = callN P (k+2)) {G0 G : Heap} {n : Nat} (h : St n G0 G) : (Γ "_law_wide" [.ref n] G).tot fun v G' => St n G0 G' ∧ ∃ i : Int, v = .int i ∧ 0 ≤ i ∧ i ≤ 999999999 := by
  refine call_t pw_law_wide hΓ rfl fun Γ hΓ => ?_
  simp_arith only [Bw_law_wide]
  refine R.tot_mono (draw_s k hΓ h (by decide) (by decide)) ?_
  rintro _ G1 ⟨s1, b, rfl, b0, b1⟩
  try simp_arith only []
  by_cases c0 : b < 2
  · simp_arith only [decide_eq_true c0, mul_r b 999999999 (show (decide (-p64 < 999999999) && decide ((999999999:Int) < p64)) = true by decide)]
    exact ⟨s1, _, rfl, by omega, by omega⟩
  simp_arith only [decide_eq_false c0]
  by_cases c1 : b = 2
  · simp_arith only [decide_eq_true c1]
    refine R.tot_mono (draw_s k hΓ s1 (by decide) (by decide)) ?_
    rintro _ G2 ⟨s2, i, rfl, i0, i1⟩
    try simp_arith only []
    exact ⟨s2, _, rfl, by omega, by omega⟩
  simp_arith only [decide_eq_false c1]
  refine R.tot_mono (draw_s k hΓ s1 (by decide) (by decide)) ?_
  rintro _ G2 ⟨s2, i, rfl, i0, i1⟩
  try simp_arith only [mul_r i 1000000 (show (decide (-p64 < 1000000) && decide ((1000000:Int) < p64)) = true by decide)]
  refine R.tot_mono (draw_s k hΓ s2 (by decide) (by decide)) ?_
  rintro _ G3 ⟨s3, j, rfl, j0, j1⟩
  try simp_arith only []
  exact ⟨s3, _, rfl, by omega, by omega⟩
/-- an odd thing: no right number -/
def Od (v : Val) : Prop := v ∈ odL ∨ ∃ i : Int, v = .int i ∧ (1000000000 ≤ i ∨ i ≤ -1000000000) ∧ -4000000000 ≤ i ∧ i ≤ 4000000000
theorem odd_s {Γ : Calls} (k : Nat) (hΓ : Γ = callN P (k+3)) {G0 G : Heap} {n : Nat} (h : St n G0 G) : (Γ "_law_odd" [.ref n] G).tot fun v G' => St n G0 G' ∧ Od v := by
  refine call_t pw_law_odd hΓ rfl fun Γ hΓ => ?_
  simp_arith only [Bw_law_odd]
  refine R.tot_mono (draw_s (k+1) hΓ h (by decide) (by decide)) ?_
  rintro _ G1 ⟨s1, b, rfl, b0, b1⟩
  try simp_arith only []
  refine R.tot_mono (wide_s k hΓ s1) ?_
  rintro _ G2 ⟨s2, i, rfl, i0, i1⟩
  have hb : 0 ≤ b * i ∧ b * i ≤ 2000000000 := by
    have : b = 0 ∨ b = 1 ∨ b = 2 := by omega
    rcases this with rfl | rfl | rfl <;> omega
  have m := mul_l b i (by simp only [Bool.and_eq_true, decide_eq_true_eq]; unfold p64; omega)
  generalize hx : b * i = x at hb m
  simp_arith only [m]
  refine R.tot_mono (pick_p Od k hΓ s2 (by simp) (by simp) ?_) ?_
  · intro v hv
    simp only [List.mem_cons, List.not_mem_nil, or_false] at hv
    rcases hv with rfl | rfl | rfl | rfl | rfl | rfl | rfl | rfl | rfl | rfl | rfl | rfl
    all_goals first | (refine .inr ⟨_, rfl, ?_, ?_, ?_⟩ <;> omega) | (refine .inl ?_; simp [odL])
  · rintro v G3 ⟨s3, hv⟩
    try simp_arith only []
    exact ⟨s3, hv⟩
theorem Od.dt {v : Val} (h : Od v) : Dt 2 v := by
  rcases h with h | ⟨i, rfl, _⟩
  · exact dt_od v h
  · simp [Dt, isFl]
theorem Od.rp {v : Val} (h : Od v) : Rp v := by
  rcases h with h | ⟨i, rfl, _, _⟩
  · exact rp_od v h
  · exact rp_int i (by omega)
theorem Od.no {v : Val} (h : Od v) (a b : Int) (ha : -999999999 ≤ a) (hb : b ≤ 999999999) : nz v ∨ ∃ i, v = .int i ∧ ¬ (a ≤ i ∧ i ≤ b) := by
  rcases h with h | ⟨i, rfl, _, _⟩
  · exact .inl (nz_od v h)
  · exact .inr ⟨i, rfl, by omega⟩
theorem Od.nm {v : Val} (h : Od v) : isK .str v = false ∨ ∃ s, v = .str s ∧ ¬ s ∈ ks3 := by
  rcases h with h | ⟨i, rfl, _, _⟩
  · exact nm_od v h
  · exact .inl rfl
theorem word_any {Γ : Calls} (k : Nat) (hΓ : Γ = callN P (k+3)) {G0 G : Heap} {n : Nat} (h : St n G0 G) : (Γ "_law_any_word" [.ref n] G).tot fun v G' => St n G0 G' ∧ ∃ i : Int, v = .int i := by
  refine call_t pw_law_any_word hΓ rfl fun Γ hΓ => ?_
  have pw := pow_i 10 9 (show (decide ((0:Int) ≤ 9) && decide ((9:Int) ≤ 1000000) && decide (-p64 < 10) && decide (10 < p64)) = true by decide)
  rw [pow9] at pw
  simp_arith only [Bw_law_any_word]
  refine R.tot_mono (draw_s (k+1) hΓ h (by decide) (by decide)) ?_
  rintro _ G1 ⟨s1, b, rfl, b0, b1⟩
  try simp_arith only []
  by_cases c0 : b = 0
  · simp_arith only [decide_eq_true c0, pw, mul_l 4 _ (show (decide (-p64 < 4) && decide ((4:Int) < p64)) = true by decide), mul_l 32 _ (show (decide (-p64 < 32) && decide ((32:Int) < p64)) = true by decide)]
    refine R.tot_mono (pick_p (fun v => ∃ i : Int, v = .int i) k hΓ s1 (by simp) (by simp) ?_) ?_
    · intro v hv
      simp only [List.mem_cons, List.not_mem_nil, or_false] at hv
      rcases hv with rfl | rfl | rfl | rfl | rfl | rfl | rfl
      all_goals exact ⟨_, rfl⟩
    · rintro _ G2 ⟨s2, x, rfl⟩
      try simp_arith only []
      refine R.tot_mono (draw_s (k+1) hΓ s2 (by decide) (by decide)) ?_
      rintro _ G3 ⟨s3, y, rfl, _, _⟩
      try simp_arith only []
      exact ⟨s3, _, rfl⟩
  simp_arith only [decide_eq_false c0]
  by_cases c1 : b = 1
  · simp_arith only [decide_eq_true c1]
    refine R.tot_mono (draw_s (k+1) hΓ s1 (by decide) (by decide)) ?_
    rintro _ G2 ⟨s2, i, rfl, i0, i1⟩
    try simp_arith only []
    exact ⟨s2, _, rfl⟩
  simp_arith only [decide_eq_false c1]
  refine R.tot_mono (wide_s k hΓ s1) ?_
  rintro _ G2 ⟨s2, i, rfl, i0, i1⟩
  try simp_arith only []
  refine R.tot_mono (draw_s (k+1) hΓ s2 (by decide) (by decide)) ?_
  rintro _ G3 ⟨s3, y, rfl, _, _⟩
  have m := fun y => mul_l i y (by simp only [Bool.and_eq_true, decide_eq_true_eq]; unfold p64; omega)
  try simp_arith only [m]
  refine R.tot_mono (draw_s (k+1) hΓ s3 (by decide) (by decide)) ?_
  rintro _ G4 ⟨s4, z, rfl, _, _⟩
  try simp_arith only []
  by_cases c2 : b = 2
  · simp_arith only [decide_eq_true c2]
    exact ⟨s4, _, rfl⟩
  · simp_arith only [decide_eq_false c2]
    exact ⟨s4, _, rfl⟩
/-- .. as the law reads a word -/
theorem lread_i {Γ : Calls} (k : Nat) (hΓ : Γ = callN P (k+1)) (w : Int) (G : Heap) : Γ "_law_read" [.int w] G = .ok (rdV w) G := by
  refine call_e pw_law_read hΓ rfl fun Γ hΓ => ?_
  have pw := pow_i 10 9 (show (decide ((0:Int) ≤ 9) && decide ((9:Int) ≤ 1000000) && decide (-p64 < 10) && decide (10 < p64)) = true by decide)
  rw [pow9] at pw
  have m4 := mod_i w 4 (show decide ((0:Int) < 4) = true by decide)
  have d4 := div_i w 4 (show (decide ((0:Int) < 4) && decide ((4:Int) < p64)) = true by decide)
  have m8 := mod_i (w / 4) 8 (show decide ((0:Int) < 8) = true by decide)
  have d8 := div_i (w / 4) 8 (show (decide ((0:Int) < 8) && decide ((8:Int) < p64)) = true by decide)
  have l8 := mul_l 8 1000000000 (show (decide (-p64 < 8) && decide ((8:Int) < p64)) = true by decide)
  simp_arith only [Bw_law_read, m4, d4]
  unfold rdV
  by_cases c0 : w % 4 = 0
  · simp_arith only [decide_eq_true c0, if_pos c0, pw]
    by_cases h1 : -1000000000 < w / 4
    · by_cases h2 : w / 4 < 1000000000
      · simp_arith only [decide_eq_true h1, decide_eq_true h2, if_pos (show -999999999 ≤ w / 4 ∧ w / 4 ≤ 999999999 by omega)]
      · simp_arith only [decide_eq_true h1, decide_eq_false h2, if_neg (show ¬ (-999999999 ≤ w / 4 ∧ w / 4 ≤ 999999999) by omega)]
    · simp_arith only [decide_eq_false h1, if_neg (show ¬ (-999999999 ≤ w / 4 ∧ w / 4 ≤ 999999999) by omega)]
  simp_arith only [decide_eq_false c0, if_neg c0]
  by_cases c1 : w % 4 < 3
  · simp_arith only [decide_eq_true c1, if_pos c1, pw]
    by_cases h1 : 0 ≤ w / 4
    · by_cases h2 : w / 4 < 1000000000
      · simp_arith only [decide_eq_true h1, decide_eq_true h2, if_pos (show 0 ≤ w / 4 ∧ w / 4 ≤ 999999999 by omega)]
        by_cases h3 : w % 4 = 1
        · simp_arith only [decide_eq_true h3, if_pos h3]
        · simp_arith only [decide_eq_false h3, if_neg h3]
      · simp_arith only [decide_eq_true h1, decide_eq_false h2, if_neg (show ¬ (0 ≤ w / 4 ∧ w / 4 ≤ 999999999) by omega)]
    · simp_arith only [decide_eq_false h1, if_neg (show ¬ (0 ≤ w / 4 ∧ w / 4 ≤ 999999999) by omega)]
  simp_arith only [decide_eq_false c1, if_neg c1]
  generalize w / 4 = y at *
  by_cases h17 : y = 17
  · subst h17
    simp_arith only [show decide ((17:Int) = 17) = true from rfl, show decide ((17:Int) = 10) = false from rfl]
    rfl
  by_cases h10 : y = 10
  · subst h10
    simp_arith only [show decide ((10:Int) = 17) = false from rfl, show decide ((10:Int) = 10) = true from rfl]
    rfl
  simp_arith only [decide_eq_false h17, decide_eq_false h10, m8, d8, pw, l8]
  by_cases z0 : y % 8 = 0
  · have ek : kd (y % 8) = "closure" := by rw [z0]; rfl
    have eh : hf (kd (y % 8)) (y / 8) = (1 ≤ y / 8 ∧ y / 8 ≤ 999999999) := by rw [ek]; rfl
    simp_arith only [decide_eq_true z0]
    by_cases h1 : 0 < y
    · by_cases h2 : y < 8000000000
      · rw [if_neg (show ¬ (y < 0 ∨ 3 ≤ y % 8 ∨ ¬ hf (kd (y % 8)) (y / 8)) by rw [eh]; omega), ek]
        simp_arith only [decide_eq_true h1, Int.reduceMul, decide_eq_true h2]
      · rw [if_pos (show (y < 0 ∨ 3 ≤ y % 8 ∨ ¬ hf (kd (y % 8)) (y / 8)) by rw [eh]; omega)]
        simp_arith only [decide_eq_true h1, Int.reduceMul, decide_eq_false h2]
    · rw [if_pos (show (y < 0 ∨ 3 ≤ y % 8 ∨ ¬ hf (kd (y % 8)) (y / 8)) by rw [eh]; omega)]
      simp_arith only [decide_eq_false h1]
  · have hp : y < 0 ∨ 3 ≤ y % 8 ∨ ¬ hf (kd (y % 8)) (y / 8) := by
      by_cases z1 : y % 8 = 1
      · have eh : hf (kd (y % 8)) (y / 8) = (y / 8 = 2) := by rw [z1]; rfl
        rw [eh]; omega
      · by_cases z2 : y % 8 = 2
        · have eh : hf (kd (y % 8)) (y / 8) = (y / 8 = 1) := by rw [z2]; rfl
          rw [eh]; omega
        · omega
    rw [if_pos hp]
    simp_arith only [decide_eq_false z0]
theorem lread_n {Γ : Calls} (k : Nat) (hΓ : Γ = callN P (k+1)) {d : Nat} {v : Val} (h : Dt d v) (hn : nz v) (G : Heap) : Γ "_law_read" [v] G = .ok .none G := by
  refine call_e pw_law_read hΓ rfl fun Γ hΓ => ?_
  simp_arith only [Bw_law_read, rd_dt h, (isInt_val h).1, (isInt_val h).2.1]
  rcases hn with e | e
  · simp_arith only [e]
  · simp_arith only [e]
    cases isK .int v <;> simp_arith only []
end Fx.Law

namespace Fx.Law
open PySem PySem.Spec PyProof.Rows L2 Fx
local macro_rules
  | `(tactic| simp_arith only [$xs,*] $[$l:location]?) => `(tactic| simp only [evSs_cons, evSs_nil, evE_var, evE_own, evE_con, evE_tup, evE_lst, evE_bin, evE_neg, evE_cmp, evE_cmp2, evE_not, evE_and, evE_or, evE_ite, evE_idx, evE_slice, evE_call, evE_bcall, evE_isi, evE_comp, evE_heap, evE_dnew, evE_dval, evE_dcon, evE_zipL, evE_dsub, evE_lindex, evE_tindex, evE_tupS, evE_popR, evE_rngL, evE_rngT, evE_compL, evE_dcomp, evE_stop, evE_lam, evS_raise0, evEs_nil, evEs_cons, evI_of, evI_rng1, evI_rng2, evI_zip, evI_enum, evS_stop, evS_exp, evS_ret, evS_retO, evS_retN, evS_pass, evS_brk, evS_cont, evS_asg, evS_asgOwn, evS_setR, evS_setO, evS_app, evS_appR, evS_extO, evS_popT, evS_popO, evS_aug, evS_par, evS_ite, evS_for_, evS_forO, evS_forL, evS_while_, startS, List.length_cons, List.length_nil, List.map_cons, List.map_nil, List.replicate, List.cons_append, List.nil_append, List.getD_cons_zero, List.getD_cons_succ, List.set_cons_zero, List.set_cons_succ, R.bind_ok, R.opt_some, R.calm_ok, R.thenS_ok, rd_int, rd_bool, rd_none, rd_str, rd_tup, rd_lst, rd_frz, seq_thenS, fin_thenS, seq_ite, fin_ite, seq_nextP, RS.seq_ret, RS.fin_ret, RS.fin_next, Option.map_some, Option.bind_some, truthV_bool, truthV_int, truthV_none, setT_name, setT_tup, setTs_nil, setTs_cons, wipe_nil, wipe_cons, ix_l, ix_t, ix_f, at_l0, at_l1, at_l2, at_l3, add_i, sub_i, lt_i, le_i, gt_i, ge_i, eq_i, ne_i, is_n, isnot_n, isNone, len_t, len_l, len_f, tuple_t, tuple_l, tuple_f, list_t, list_l, list_f, int_i, abs_i, max_i, min_i, sum_l, sum_t, isi_int, isi_bool, isi_tup, isi_lst, isi_str, isi_none, slice_l, slice_t, slice_f, ixO_no, ixO_int, satT_thenS, satT_next, satT_ret, sat_thenS, sat_next, sat_ret, seq_t, seq_l, seq_f, seqI_t, seqI_l, seqI_f, seqI_s, evE_din, evE_lenSet, evE_sliceR, evI_rev, keyOf_s, keyOf_i, vInts_len, evP_nil, evP_name, evP_item, R.tot_bind, R.tot_ok, Nat.reduceAdd, Nat.reduceSub, Bool.not_true, Bool.not_false, if_true, Bool.false_eq_true, if_false, decide_true, decide_false, eq_self, eq_s, ne_s, Bool.true_and, Bool.false_and, Bool.and_true, Bool.and_false, Bool.true_or, Bool.false_or, Bool.or_true, Bool.or_false, $xs,*] $[$l:location]?)
theorem rdV_sm (w : Int) : Sm 1 (rdV w) := by
  unfold rdV
  split
  · split
    · exact Sm.tup (by simp) (by intro x hx; simp only [List.mem_cons, List.not_mem_nil, or_false] at hx; rcases hx with rfl | rfl <;> trivial)
    · trivial
  · split
    · split
      · exact Sm.tup (by simp) (by intro x hx; simp only [List.mem_cons, List.not_mem_nil, or_false] at hx; rcases hx with rfl | rfl <;> trivial)
      · trivial
    · split
      · trivial
      · exact Sm.tup (by simp) (by intro x hx; simp only [List.mem_cons, List.not_mem_nil, or_false] at hx; rcases hx with rfl | rfl | rfl <;> trivial)
theorem rd_num {a : Int} (h : -999999999 ≤ a ∧ a ≤ 999999999) : rdV (4 * a) = .tup [.str "number", .int a] := by
  unfold rdV
  rw [if_pos (by omega), show 4 * a / 4 = a by omega, if_pos h]
theorem rd_adr {a : Int} (h : 0 ≤ a ∧ a ≤ 999999999) : rdV (4 * a + 1) = .tup [.str "address", .int a] := by
  unfold rdV
  rw [if_neg (by omega), if_pos (by omega), show (4 * a + 1) / 4 = a by omega, if_pos h, if_pos (by omega)]
theorem rd_mrk {a : Int} (h : 0 ≤ a ∧ a ≤ 999999999) : rdV (4 * a + 2) = .tup [.str "mark", .int a] := by
  unfold rdV
  rw [if_neg (by omega), if_pos (by omega), show (4 * a + 2) / 4 = a by omega, if_pos h, if_neg (by omega)]
theorem rd_clo {a : Int} (h : 1 ≤ a ∧ a ≤ 999999999) : rdV (32 * a + 3) = .tup [.str "header", .str "closure", .int a] := by
  unfold rdV
  have e : (32 * a + 3) / 4 = 8 * a := by omega
  have ek : kd (8 * a % 8) = "closure" := by rw [show 8 * a % 8 = 0 by omega]; rfl
  have e8 : 8 * a / 8 = a := by omega
  have eh : hf "closure" a := h
  rw [if_neg (by omega), if_neg (by omega), e, ek, e8, if_neg (fun z => z.elim (by omega) fun z => z.elim (by omega) fun z => z eh)]
theorem oread {v : Val} (h : Od v) {Γ : Calls} (k : Nat) (hΓ : Γ = callN P (k+3)) (G : Heap) : ∃ z, Sm 1 z ∧ Γ "read_word" [v] G = .ok z G ∧ Γ "_law_read" [v] G = .ok z G := by
  rcases h with h | ⟨i, rfl, _⟩
  · exact ⟨.none, trivial, word_n k hΓ (dt_od v h) (nz_od v h) G, lread_n (k+2) hΓ (dt_od v h) (nz_od v h) G⟩
  · exact ⟨_, rdV_sm i, word_i k hΓ i G, lread_i (k+2) hΓ i G⟩
@[irreducible] def T2r : Ss := dropS 2 Bw_law_is_right
theorem T2r_eq : Bw_law_is_right = cutS 2 Bw_law_is_right T2r := by unfold T2r; exact cut_drop 2 _
theorem tups_sm {d : Nat} {xs : List Val} (hl : xs.length ≤ 1000) (h : ∀ x ∈ xs, Sm d x) {Γ : Calls} (k : Nat) (hΓ : Γ = callN P (k + d + 2)) (G : Heap) : Γ "_law_same" [.tup xs, .tup xs] G = .ok (.bool true) G :=
  same_sm (d + 1) (Sm.tup hl h) k hΓ G
theorem right_end {Γ : Calls} (k : Nat) (hΓ : Γ = callN P (k+8)) {n : Nat} {G0 G : Heap} (s0 : St n G0 G) {a p m f : Int} (ha : -999999999 ≤ a ∧ a ≤ 999999999) (hp : 0 ≤ p ∧ p ≤ 999999999) (hm : 0 ≤ m ∧ m ≤ 999999999) (hf1 : 1 ≤ f ∧ f ≤ 999999999) {u1 u2 u3 u8 u9 : Slot} :
    (evSs Γ T2r [.val (.ref n), u1, u2, u3, .val (.int a), .val (.int p), .val (.int m), .val (.int f), u8, u9] G).fin.tot fun v G' => St n G0 G' ∧ v = .bool true := by
  have hc : hf "closure" f := hf1
  have e1 : 4 * (8 * f + kno "closure") + 3 = 32 * f + 3 := by
    have : kno "closure" = 0 := rfl
    omega
  have e2 : 4 * (8 * 2 + kno "pair") + 3 = 71 := rfl
  have e3 : 4 * (8 * 1 + kno "box") + 3 = 43 := rfl
  have w1 := fun G => number_i (k+5) hΓ ha G
  have w2 := fun G => address_i (k+5) hΓ hp G
  have w3 := fun G => mark_i (k+5) hΓ hm G
  have w4 := fun G => header_i (k+6) hΓ (s := "closure") (by simp) (f := f) ⟨hf1, hc⟩ G
  have w5 := fun G => header_i (k+6) hΓ (s := "pair") (by simp) (f := 2) ⟨by omega, by decide⟩ G
  have w6 := fun G => header_i (k+6) hΓ (s := "box") (by simp) (f := 1) ⟨by omega, by decide⟩ G
  rw [e1] at w4
  rw [e2] at w5
  rw [e3] at w6
  have q1 := fun G => tups_sm (d := 0) (xs := [.int (4 * a), .int (4 * p + 1), .int (4 * m + 2), .int (32 * f + 3)]) (by simp) (by intro x hx; simp only [List.mem_cons, List.not_mem_nil, or_false] at hx; rcases hx with rfl | rfl | rfl | rfl <;> trivial) (k+6) hΓ G
  have q2 := fun G => tups_sm (d := 0) (xs := [.int 71, .int 43]) (by simp) (by intro x hx; simp only [List.mem_cons, List.not_mem_nil, or_false] at hx; rcases hx with rfl | rfl <;> trivial) (k+6) hΓ G
  rw [T2r]
  simp_arith only [dropS, Bw_law_is_right, mul_l 4 _ (show (decide (-p64 < 4) && decide ((4:Int) < p64)) = true by decide), mul_l 32 _ (show (decide (-p64 < 32) && decide ((32:Int) < p64)) = true by decide), w1, w2, w3, w4, w5, w6, q1, q2]
  rw [if_neg (show ¬ lineN < 4 by unfold lineN; omega), compR_f (fun v => rdV (toI v)) (by
    intro x hx
    simp only [List.mem_cons, List.not_mem_nil, or_false] at hx
    rcases hx with rfl | rfl | rfl | rfl
    all_goals
      refine ⟨_, setT_name .., ?_⟩
      simp_arith only []
      exact word_i (k+5) hΓ _ G)]
  have q3 := fun G => tups_sm (d := 1) (xs := [.tup [.str "number", .int a], .tup [.str "address", .int p], .tup [.str "mark", .int m], .tup [.str "header", .str "closure", .int f]]) (by simp) (by
    intro x hx
    simp only [List.mem_cons, List.not_mem_nil, or_false] at hx
    rcases hx with rfl | rfl | rfl | rfl
    all_goals exact Sm.tup (by simp) (by intro x hx; simp only [List.mem_cons, List.not_mem_nil, or_false] at hx; first | (rcases hx with rfl | rfl <;> trivial) | (rcases hx with rfl | rfl | rfl <;> trivial))) (k+5) hΓ G
  have q4 := fun G => tups_sm (d := 1) (xs := [.tup [.str "header", .str "pair", .int 2], .tup [.str "header", .str "box", .int 1]]) (by simp) (by
    intro x hx
    simp only [List.mem_cons, List.not_mem_nil, or_false] at hx
    rcases hx with rfl | rfl
    all_goals exact Sm.tup (by simp) (by intro x hx; simp only [List.mem_cons, List.not_mem_nil, or_false] at hx; rcases hx with rfl | rfl | rfl <;> trivial)) (k+5) hΓ G
  have r71 := fun G => word_i (k+5) hΓ 71 G
  have r43 := fun G => word_i (k+5) hΓ 43 G
  have z71 : rdV 71 = .tup [.str "header", .str "pair", .int 2] := rfl
  have z43 : rdV 43 = .tup [.str "header", .str "box", .int 1] := rfl
  rw [z71] at r71
  rw [z43] at r43
  simp_arith only [toI, rd_num ha, rd_adr hp, rd_mrk hm, rd_clo hf1, q3, r71, r43, q4]
  refine R.tot_mono (word_any (k+5) hΓ s0) ?_
  rintro _ G1 ⟨s1, w, rfl⟩
  try simp_arith only []
  refine R.tot_mono (odd_s (k+5) hΓ s1) ?_
  rintro v G2 ⟨s2, hv⟩
  have rv := rd_dt hv.dt
  obtain ⟨z, hz, z1, z2⟩ := oread hv (k+5) hΓ G2
  have q5 := fun G => tups_sm (d := 1) (xs := [rdV w, z]) (by simp) (by
    intro x hx
    simp only [List.mem_cons, List.not_mem_nil, or_false] at hx
    rcases hx with rfl | rfl
    · exact rdV_sm w
    · exact hz) (k+5) hΓ G
  simp_arith only [rv, word_i (k+5) hΓ w, lread_i (k+7) hΓ w, z1, z2, q5]
  exact ⟨s2, trivial⟩
theorem right_s {Γ : Calls} (k : Nat) (hΓ : Γ = callN P (k+9)) {n : Nat} {G0 G : Heap} (s0 : St n G0 G) : (Γ "_law_is_right" [.ref n] G).tot fun v G' => St n G0 G' ∧ v = .bool true := by
  refine call_t pw_law_is_right (k := k + 8) hΓ rfl fun Γ hΓ => ?_
  rw [T2r_eq]
  generalize hT : T2r = T
  simp_arith only [cutS, Bw_law_is_right]
  refine R.tot_mono (wide_s (k+6) hΓ s0) ?_
  rintro _ G1 ⟨s1, a, rfl, a0, a1⟩
  try simp_arith only []
  refine R.tot_mono (wide_s (k+6) hΓ s1) ?_
  rintro _ G2 ⟨s2, p, rfl, p0, p1⟩
  try simp_arith only []
  refine R.tot_mono (wide_s (k+6) hΓ s2) ?_
  rintro _ G3 ⟨s3, m, rfl, m0, m1⟩
  try simp_arith only []
  refine R.tot_mono (wide_s (k+6) hΓ s3) ?_
  rintro _ G4 ⟨s4, f, rfl, f0, f1⟩
  have hf1 : 1 ≤ (if f > 1 then f else 1) ∧ (if f > 1 then f else 1) ≤ 999999999 := by split <;> omega
  try simp_arith only []
  generalize (if f > 1 then f else 1) = f' at hf1 ⊢
  refine R.tot_mono (draw_s (k+7) hΓ s4 (by decide) (by decide)) ?_
  rintro _ G5 ⟨s5, b, rfl, b0, b1⟩
  try simp_arith only []
  by_cases c : b = 0
  · simp_arith only [decide_eq_true c]
    subst hT
    exact right_end k hΓ s5 (by omega) ⟨p0, p1⟩ ⟨m0, m1⟩ hf1
  · simp_arith only [decide_eq_false c]
    subst hT
    exact right_end k hΓ s5 (by omega) ⟨p0, p1⟩ ⟨m0, m1⟩ hf1
end Fx.Law

namespace Fx.Law
open PySem PySem.Spec PyProof.Rows L2 Fx
local macro_rules
  | `(tactic| simp_arith only [$xs,*] $[$l:location]?) => `(tactic| simp only [evSs_cons, evSs_nil, evE_var, evE_own, evE_con, evE_tup, evE_lst, evE_bin, evE_neg, evE_cmp, evE_cmp2, evE_not, evE_and, evE_or, evE_ite, evE_idx, evE_slice, evE_call, evE_bcall, evE_isi, evE_comp, evE_heap, evE_dnew, evE_dval, evE_dcon, evE_zipL, evE_dsub, evE_lindex, evE_tindex, evE_tupS, evE_popR, evE_rngL, evE_rngT, evE_compL, evE_dcomp, evE_stop, evE_lam, evS_raise0, evEs_nil, evEs_cons, evI_of, evI_rng1, evI_rng2, evI_zip, evI_enum, evS_stop, evS_exp, evS_ret, evS_retO, evS_retN, evS_pass, evS_brk, evS_cont, evS_asg, evS_asgOwn, evS_setR, evS_setO, evS_app, evS_appR, evS_extO, evS_popT, evS_popO, evS_aug, evS_par, evS_ite, evS_for_, evS_forO, evS_forL, evS_while_, startS, List.length_cons, List.length_nil, List.map_cons, List.map_nil, List.replicate, List.cons_append, List.nil_append, List.getD_cons_zero, List.getD_cons_succ, List.set_cons_zero, List.set_cons_succ, R.bind_ok, R.opt_some, R.calm_ok, R.thenS_ok, rd_int, rd_bool, rd_none, rd_str, rd_tup, rd_lst, rd_frz, seq_thenS, fin_thenS, seq_ite, fin_ite, seq_nextP, RS.seq_ret, RS.fin_ret, RS.fin_next, Option.map_some, Option.bind_some, truthV_bool, truthV_int, truthV_none, setT_name, setT_tup, setTs_nil, setTs_cons, wipe_nil, wipe_cons, ix_l, ix_t, ix_f, at_l0, at_l1, at_l2, at_l3, add_i, sub_i, lt_i, le_i, gt_i, ge_i, eq_i, ne_i, is_n, isnot_n, isNone, len_t, len_l, len_f, tuple_t, tuple_l, tuple_f, list_t, list_l, list_f, int_i, abs_i, max_i, min_i, sum_l, sum_t, isi_int, isi_bool, isi_tup, isi_lst, isi_str, isi_none, slice_l, slice_t, slice_f, ixO_no, ixO_int, satT_thenS, satT_next, satT_ret, sat_thenS, sat_next, sat_ret, seq_t, seq_l, seq_f, seqI_t, seqI_l, seqI_f, seqI_s, evE_din, evE_lenSet, evE_sliceR, evI_rev, keyOf_s, keyOf_i, vInts_len, evP_nil, evP_name, evP_item, R.tot_bind, R.tot_ok, Nat.reduceAdd, Nat.reduceSub, Bool.not_true, Bool.not_false, if_true, Bool.false_eq_true, if_false, decide_true, decide_false, eq_self, eq_s, ne_s, Bool.true_and, Bool.false_and, Bool.and_true, Bool.and_false, Bool.true_or, Bool.false_or, Bool.or_true, Bool.or_false, $xs,*] $[$l:location]?)
def q42 : Str := Str.ofString "_law_is_refused"
/-- the table of the def that makes lambdas -/
def TabG (G : Heap) : Prop := G[0]? = some (.tab q42)
theorem TabG.ts {G : Heap} (h : TabG G) : tabsAt [Str.ofString "_law_is_refused"] G = true := by
  unfold TabG at h
  match G, h with
  | o :: G, ha =>
    have ha2 : o = .tab q42 := by simpa using ha
    rw [ha2]
    show (decide (q42 = q42) && true) = true
    simp
theorem TabG.lt {G : Heap} (h : TabG G) : 0 < G.length := (List.getElem?_eq_some_iff.mp h).1
theorem TabG.gw {G G' : Heap} (h : TabG G) (g : Gw G G') : TabG G' := by
  unfold TabG; rw [g.at_ 0 h.lt]; exact h
theorem TabG.keep {n : Nat} {G G' : Heap} (h : TabG G) (g : Keep n G G') (hn : 1 ≤ n) : TabG G' := by
  unfold TabG; rw [g.at_ 0 (by omega) h.lt]; exact h
@[irreducible] def T7f : Ss := dropS 7 Bw_law_is_refused
theorem T7f_eq : Bw_law_is_refused = cutS 7 Bw_law_is_refused T7f := by unfold T7f; exact cut_drop 7 _
@[irreducible] def T12f : Ss := dropS 12 Bw_law_is_refused
theorem T12f_eq : T7f = cutS 5 (dropS 7 Bw_law_is_refused) T12f := by unfold T7f T12f; exact cut_drop 5 (dropS 7 Bw_law_is_refused)
theorem lam_ok (v : Val) (G : Heap) : lamR [.str "told"] false h42 (.ok v G) = .ok (.tup [.str "told", v]) G := rfl
theorem ks_cases {s : String} (h : s ∈ ks3) : s = "closure" ∨ s = "pair" ∨ s = "box" := by simpa using h
/-- names that no kind has -/
def Nm (v : Val) : Prop := Dt 2 v ∧ Rp v ∧ (isK .str v = false ∨ ∃ s, v = .str s ∧ ¬ s ∈ ks3)
theorem Od.nms {v : Val} (h : Od v) : Nm v := ⟨h.dt, h.rp, h.nm⟩
/-- what is told of a call that ends so -/
def Tld (r : Heap → R Val) (z : Val) : Prop := ∀ G, lamR [.str "told"] false h42 (r G) = .ok z G
theorem tld_n {r : Heap → R Val} {v : Val} {t : Str} (h : ∀ G, r G = .exc (xN v) G) (ht : reprV v = some (.txt t)) : Tld r (.tup [.str "number", .txt t, .bool true]) := fun G => by rw [h, lam_n ht]
theorem tld_m {r : Heap → R Val} {v : Val} {t : Str} (h : ∀ G, r G = .exc (xM v) G) (ht : reprV v = some (.txt t)) : Tld r (.tup [.str "name", .txt t, .bool true]) := fun G => by rw [h, lam_m ht]
theorem ref_nm {Γ : Calls} (k : Nat) (hΓ : Γ = callN P (k+8)) {n : Nat} (hn : 1 ≤ n) {G0 G : Heap} (s0 : St n G0 G) (tg : TabG G0) {o : Val} (ho : Od o) {s : String} {v : Val} (hv : Dt 2 v) {u1 u2 u4 u5 u6 : Slot} :
    (evSs Γ (dropS 14 Bw_law_is_refused) [.val (.ref n), u1, u2, .val v, u4, u5, u6, .val o, .val (.str s)] G).fin.tot fun v G' => St n G0 G' ∧ v = .bool true := by
  have rv := rd_dt hv
  have ro := rd_dt ho.dt
  simp_arith only [dropS, Bw_law_is_refused, ro]
  refine R.tot_mono (pick_p Nm (k+6) hΓ s0 (by simp) (by simp) ?_) ?_
  · intro x hx
    simp only [List.mem_cons, List.not_mem_nil, or_false] at hx
    rcases hx with rfl | hx
    · exact ho.nms
    · rcases hx with rfl | rfl | rfl | rfl | rfl
      all_goals exact ⟨by simp [Dt, isFl], rp_nm _ (by simp), .inr ⟨_, rfl, by decide⟩⟩
  · rintro w G1 ⟨s1, hw, ⟨t, ht, hk⟩, hno⟩
    have rw_ := rd_dt hw
    have t1 := (tg.keep s1.2 hn).ts
    have e := header_m (k+6) hΓ hw hv hno G1
    simp_arith only [t1, rw_, rv, e, lam_m ht, bf_repr, ht, sixt "name" hk]
    exact ⟨s1, trivial⟩
theorem ref_end {Γ : Calls} (k : Nat) (hΓ : Γ = callN P (k+8)) {n : Nat} (hn : 1 ≤ n) {G0 G : Heap} (s0 : St n G0 G) (tg : TabG G0) {o : Val} (ho : Od o) {s : String} (hs : s ∈ ks3) {v due : Val} {c : Bool} (hv : Dt 2 v)
    (h : (c = true ∧ ∃ f : Int, v = .int f ∧ ((1 ≤ f ∧ f ≤ 999999999) ∧ hf s f) ∧ due = .tup [.str "told", .int (4 * (8 * f + kno s) + 3)]) ∨ (c = false ∧ ∃ t, reprV v = some (.txt t) ∧ PyData.strOk t = true ∧ due = .tup [.str "number", .txt t, .bool true] ∧ (nz v ∨ ∃ i, v = .int i ∧ ¬ ((1 ≤ i ∧ i ≤ 999999999) ∧ hf s i)))) {u1 u5 u6 : Slot} :
    (evSs Γ T12f [.val (.ref n), u1, .val due, .val v, .val (.bool c), u5, u6, .val o, .val (.str s)] G).fin.tot fun v G' => St n G0 G' ∧ v = .bool true := by
  have rv := rd_dt hv
  have t0 := (tg.keep s0.2 hn).ts
  have nm := fun u1 u2 u4 u5 u6 => ref_nm (u1 := u1) (u2 := u2) (u4 := u4) (u5 := u5) (u6 := u6) k hΓ hn s0 tg ho (s := s) hv
  rw [T12f, show dropS 12 Bw_law_is_refused = cutS 2 (dropS 12 Bw_law_is_refused) (dropS 14 Bw_law_is_refused) from cut_drop 2 (dropS 12 Bw_law_is_refused)]
  generalize dropS 14 Bw_law_is_refused = T at nm ⊢
  rcases h with ⟨rfl, f, rfl, hc, rfl⟩ | ⟨rfl, t, ht, hk, rfl, hno⟩
  · have e := header_i (k+6) hΓ hs hc G
    have i1 : L2.atI [Val.str "told", Val.int (4 * (8 * f + kno s) + 3)] 1 = some (.int (4 * (8 * f + kno s) + 3)) := rfl
    simp_arith only [cutS, dropS, Bw_law_is_refused, t0, e, lam_ok, nixi, i1]
    exact nm _ _ _ _ _
  · have e := header_n (k+6) hΓ hs hv hno G
    simp_arith only [cutS, dropS, Bw_law_is_refused, t0, rv, e, lam_n ht, nixt "number" hk]
    exact nm _ _ _ _ _
/-- the fields that are asked of a header -/
def Fd (v : Val) : Prop := v ∈ odL ∨ ∃ i : Int, v = .int i ∧ -4000000000 ≤ i ∧ i ≤ 4000000000
theorem Fd.dt {v : Val} (h : Fd v) : Dt 2 v := by
  rcases h with h | ⟨i, rfl, _⟩
  · exact dt_od v h
  · simp [Dt, isFl]
theorem Fd.rp {v : Val} (h : Fd v) : Rp v := by
  rcases h with h | ⟨i, rfl, _, _⟩
  · exact rp_od v h
  · exact rp_int i (by omega)
theorem ref_mid {Γ : Calls} (k : Nat) (hΓ : Γ = callN P (k+8)) {n : Nat} (hn : 1 ≤ n) {G0 G : Heap} (s0 : St n G0 G) (tg : TabG G0) {o : Val} (ho : Od o) {s : String} (hs : s ∈ ks3) {u1 u2 u3 u4 u5 u6 : Slot} :
    (evSs Γ T7f [.val (.ref n), u1, u2, u3, u4, u5, u6, .val o, .val (.str s)] G).fin.tot fun v G' => St n G0 G' ∧ v = .bool true := by
  have ro := rd_dt ho.dt
  have pw := pow_i 10 9 (show (decide ((0:Int) ≤ 9) && decide ((9:Int) ≤ 1000000) && decide (-p64 < 10) && decide (10 < p64)) = true by decide)
  rw [pow9] at pw
  rw [T12f_eq]
  generalize hT : T12f = T
  simp_arith only [cutS, dropS, Bw_law_is_refused, ro]
  refine R.tot_mono (wide_s (k+6) hΓ s0) ?_
  rintro _ G1 ⟨s1, w, rfl, w0, w1⟩
  try simp_arith only []
  refine R.tot_mono (pick_p Fd (k+6) hΓ s1 (by simp) (by simp) ?_) ?_
  · intro x hx
    simp only [List.mem_cons, List.not_mem_nil, or_false] at hx
    rcases hx with rfl | rfl | rfl | rfl | rfl | rfl | rfl
    · exact ho.imp id fun ⟨i, e, _, h⟩ => ⟨i, e, h⟩
    all_goals exact .inr ⟨_, rfl, by omega, by omega⟩
  · rintro v G2 ⟨s2, hv⟩
    have rv := rd_dt hv.dt
    obtain ⟨t, ht, hk⟩ := hv.rp
    have no : (nz v ∨ ∃ i, v = .int i ∧ ¬ ((1 ≤ i ∧ i ≤ 999999999) ∧ hf s i)) → ∀ {u1 u5 u6 : Slot}, (evSs Γ T12f [.val (.ref n), u1, .val (.tup [.str "number", .txt t, .bool true]), .val v, .val (.bool false), u5, u6, .val o, .val (.str s)] G2).fin.tot fun v G' => St n G0 G' ∧ v = .bool true := fun h => ref_end k hΓ hn s2 tg ho hs hv.dt (.inr ⟨rfl, t, ht, hk, rfl, h⟩)
    rcases hv with hv | ⟨i, rfl, i0, i1⟩
    · have hz := nz_od v hv
      rcases hz with e | e
      · simp_arith only [rv, (isInt_val (dt_od v hv)).1, (isInt_val (dt_od v hv)).2.1, e, bf_repr, ht]
        subst hT
        exact no (.inl (.inl e))
      · simp_arith only [rv, (isInt_val (dt_od v hv)).1, (isInt_val (dt_od v hv)).2.1, e]
        cases isK .int v <;> simp_arith only [rv, bf_repr, ht]
        all_goals
          subst hT
          exact no (.inl (.inr e))
    · have m32 := mul_l 32 i (show (decide (-p64 < 32) && decide ((32:Int) < p64)) = true by decide)
      have yes : ((1 ≤ i ∧ i ≤ 999999999) ∧ hf s i) → ∀ {z : Int}, z = 4 * (8 * i + kno s) + 3 → ∀ {u1 u5 u6 : Slot}, (evSs Γ T12f [.val (.ref n), u1, .val (.tup [.str "told", .int z]), .val (.int i), .val (.bool true), u5, u6, .val o, .val (.str s)] G2).fin.tot fun v G' => St n G0 G' ∧ v = .bool true := fun h z e => ref_end k hΓ hn s2 tg ho hs (by simp [Dt, isFl]) (.inl ⟨rfl, i, rfl, h, by rw [e]⟩)
      have no2 : ¬ ((1 ≤ i ∧ i ≤ 999999999) ∧ hf s i) → ∀ {u1 u5 u6 : Slot}, (evSs Γ T12f [.val (.ref n), u1, .val (.tup [.str "number", .txt t, .bool true]), .val (.int i), .val (.bool false), u5, u6, .val o, .val (.str s)] G2).fin.tot fun v G' => St n G0 G' ∧ v = .bool true := fun h => no (.inr ⟨i, rfl, h⟩)
      clear no
      by_cases h1 : 0 < i
      · by_cases h2 : i < 1000000000
        · rcases ks_cases hs with rfl | rfl | rfl
          · simp_arith only [pw, decide_eq_true h1, decide_eq_true h2, bf_repr, ht, m32, String.reduceEq, decide_false]
            subst hT
            exact yes ⟨by omega, (by omega : 1 ≤ i ∧ i ≤ 999999999)⟩ (by have : kno "closure" = 0 := rfl; omega)
          · by_cases h3 : i = 2
            · simp_arith only [pw, decide_eq_true h1, decide_eq_true h2, bf_repr, ht, m32, String.reduceEq, decide_false, decide_eq_true h3]
              subst hT
              exact yes ⟨by omega, h3⟩ (by have : kno "pair" = 1 := rfl; omega)
            · simp_arith only [pw, decide_eq_true h1, decide_eq_true h2, bf_repr, ht, m32, String.reduceEq, decide_false, decide_eq_false h3]
              subst hT
              exact no2 (fun z => h3 z.2)
          · by_cases h3 : i = 1
            · simp_arith only [pw, decide_eq_true h1, decide_eq_true h2, bf_repr, ht, m32, String.reduceEq, decide_false, decide_eq_true h3]
              subst hT
              exact yes ⟨by omega, h3⟩ (by have : kno "box" = 2 := rfl; omega)
            · simp_arith only [pw, decide_eq_true h1, decide_eq_true h2, bf_repr, ht, m32, String.reduceEq, decide_false, decide_eq_false h3]
              subst hT
              exact no2 (fun z => h3 z.2)
        · simp_arith only [pw, decide_eq_true h1, decide_eq_false h2, bf_repr, ht]
          subst hT
          exact no2 (by omega)
      · simp_arith only [pw, decide_eq_false h1, bf_repr, ht]
        subst hT
        exact no2 (by omega)
/-- below the addresses *and* marks -/
def Bl (v : Val) : Prop := (Dt 2 v ∧ Rp v) ∧ (nz v ∨ ∃ i, v = .int i ∧ ¬ (0 ≤ i ∧ i ≤ 999999999))
theorem refused_s {Γ : Calls} (k : Nat) (hΓ : Γ = callN P (k+9)) {n : Nat} (hn : 1 ≤ n) {G0 G : Heap} (s0 : St n G0 G) (tg : TabG G0) : (Γ "_law_is_refused" [.ref n] G).tot fun v G' => St n G0 G' ∧ v = .bool true := by
  refine call_t pw_law_is_refused (k := k + 8) hΓ rfl fun Γ hΓ => ?_
  rw [T7f_eq]
  generalize hT : T7f = T
  simp_arith only [cutS, Bw_law_is_refused]
  refine R.tot_mono (odd_s (k+5) hΓ s0) ?_
  rintro o G1 ⟨s1, ho⟩
  have ro := rd_dt ho.dt
  obtain ⟨t, ht, hk⟩ := ho.rp
  try simp_arith only []
  refine R.tot_mono (pick_w ks3 (k+6) hΓ s1 (by simp) (by simp) (by decide)) ?_
  rintro _ G2 ⟨s2, s, rfl, hs⟩
  try simp_arith only [ro]
  refine R.tot_mono (pick_p Bl (k+6) hΓ s2 (by simp) (by simp) ?_) ?_
  · intro x hx
    simp only [List.mem_cons, List.not_mem_nil, or_false] at hx
    rcases hx with rfl | rfl | rfl
    · exact ⟨⟨ho.dt, ho.rp⟩, ho.no _ _ (by omega) (by omega)⟩
    all_goals exact ⟨⟨by simp [Dt, isFl], rp_int _ (by omega)⟩, .inr ⟨_, rfl, by omega⟩⟩
  · rintro b G3 ⟨s3, ⟨hb, u, hu, hku⟩, hno⟩
    have rb := rd_dt hb
    have t3 := (tg.keep s3.2 hn).ts
    have e1 := number_n (k+5) hΓ ho.dt (ho.no _ _ (by omega) (by omega)) G3
    have e2 := address_n (k+5) hΓ hb hno G3
    have e3 := mark_n (k+5) hΓ hb hno G3
    simp_arith only [ro, rb, t3, bf_repr, ht, hu, e1, e2, e3, lam_n ht, lam_n hu, nixt "number" hk, nixt "number" hku]
    subst hT
    exact ref_mid k hΓ hn s3 tg ho hs
end Fx.Law

namespace Fx.Law
open PySem PySem.Spec PyProof.Rows L2 Fx
local macro_rules
  | `(tactic| simp_arith only [$xs,*] $[$l:location]?) => `(tactic| simp only [evSs_cons, evSs_nil, evE_var, evE_own, evE_con, evE_tup, evE_lst, evE_bin, evE_neg, evE_cmp, evE_cmp2, evE_not, evE_and, evE_or, evE_ite, evE_idx, evE_slice, evE_call, evE_bcall, evE_isi, evE_comp, evE_heap, evE_dnew, evE_dval, evE_dcon, evE_zipL, evE_dsub, evE_lindex, evE_tindex, evE_tupS, evE_popR, evE_rngL, evE_rngT, evE_compL, evE_dcomp, evE_stop, evE_lam, evS_raise0, evEs_nil, evEs_cons, evI_of, evI_rng1, evI_rng2, evI_zip, evI_enum, evS_stop, evS_exp, evS_ret, evS_retO, evS_retN, evS_pass, evS_brk, evS_cont, evS_asg, evS_asgOwn, evS_setR, evS_setO, evS_app, evS_appR, evS_extO, evS_popT, evS_popO, evS_aug, evS_par, evS_ite, evS_for_, evS_forO, evS_forL, evS_while_, startS, List.length_cons, List.length_nil, List.map_cons, List.map_nil, List.replicate, List.cons_append, List.nil_append, List.getD_cons_zero, List.getD_cons_succ, List.set_cons_zero, List.set_cons_succ, R.bind_ok, R.opt_some, R.calm_ok, R.thenS_ok, rd_int, rd_bool, rd_none, rd_str, rd_tup, rd_lst, rd_frz, seq_thenS, fin_thenS, seq_ite, fin_ite, seq_nextP, RS.seq_ret, RS.fin_ret, RS.fin_next, Option.map_some, Option.bind_some, truthV_bool, truthV_int, truthV_none, setT_name, setT_tup, setTs_nil, setTs_cons, wipe_nil, wipe_cons, ix_l, ix_t, ix_f, at_l0, at_l1, at_l2, at_l3, add_i, sub_i, lt_i, le_i, gt_i, ge_i, eq_i, ne_i, is_n, isnot_n, isNone, len_t, len_l, len_f, tuple_t, tuple_l, tuple_f, list_t, list_l, list_f, int_i, abs_i, max_i, min_i, sum_l, sum_t, isi_int, isi_bool, isi_tup, isi_lst, isi_str, isi_none, slice_l, slice_t, slice_f, ixO_no, ixO_int, satT_thenS, satT_next, satT_ret, sat_thenS, sat_next, sat_ret, seq_t, seq_l, seq_f, seqI_t, seqI_l, seqI_f, seqI_s, evE_din, evE_lenSet, evE_sliceR, evI_rev, keyOf_s, keyOf_i, vInts_len, evP_nil, evP_name, evP_item, R.tot_bind, R.tot_ok, Nat.reduceAdd, Nat.reduceSub, Bool.not_true, Bool.not_false, if_true, Bool.false_eq_true, if_false, decide_true, decide_false, eq_self, eq_s, ne_s, Bool.true_and, Bool.false_and, Bool.and_true, Bool.and_false, Bool.true_or, Bool.false_or, Bool.or_true, Bool.or_false, $xs,*] $[$l:location]?)
theorem satT_sat {m : RS} {N B : Store → Heap → Prop} {T : Val → Heap → Prop} (h : m.sat N T) : m.satT N B T := by
  cases m <;> first | exact h | exact h.elim
abbrev heapL : Heap := [.tab q42]
theorem law_ok (ns : List Int) (hl : ns.length ≤ 63) : ∃ G', callN P 229 "law" [.frz (ns.map .int)] heapL = .ok (.bool true) G' := by
  have h : ∀ Γ, Γ = callN P (228 + 1) → (Γ "law" [.frz (vInts ns)] heapL).tot fun v _ => v = .bool true := by
    intro Γ hΓ
    refine call_t plaw hΓ rfl fun Γ hΓ => ?_
    have g2 : rngK 0 2 = some (rangeV 0 2) := by rw [rngK_ok (by decide) (by decide) (by decide) (by decide)]; rfl
    simp_arith only [Blaw, vInts_len]
    have hmin : 0 ≤ (if (5 : Int) < ((ns.length : Nat) : Int) then 5 else ((ns.length : Nat) : Int)) ∧ (if (5 : Int) < ((ns.length : Nat) : Int) then 5 else ((ns.length : Nat) : Int)) ≤ 5 := by split <;> omega
    generalize (if (5 : Int) < ((ns.length : Nat) : Int) then 5 else ((ns.length : Nat) : Int)) = z at hmin ⊢
    have hmax : 1 ≤ (if z > 1 then z else 1) ∧ (if z > 1 then z else 1) ≤ 5 := by split <;> omega
    generalize (if z > 1 then z else 1) = y at hmax ⊢
    have rg : rngK 0 y = some (rangeV 0 y.toNat) := by rw [rngK_ok (by decide) (by decide) (by unfold p62; omega) (by unfold p62; omega), Int.sub_zero]
    simp_arith only [rg, g2]
    refine seq_sat (N := fun _ _ => True) (forR_sat (fun _ s G => (∃ u1 u2 u3, s = [.val (.frz (vInts ns)), u1, u2, u3]) ∧ TabG G) ?_ (fun _ _ _ => trivial) ⟨⟨_, _, _, rfl⟩, rfl⟩) ?_
    · rintro j x s G hx ⟨⟨u1, u2, u3, rfl⟩, tg⟩
      obtain ⟨i, rfl, i0, i1⟩ := rangeV_mem _ _ _ (List.mem_of_getElem? hx)
      refine ⟨_, setT_name .., ?_⟩
      simp_arith only []
      refine R.tot_mono (well_s2 227 hΓ G ns i (by omega) hl) ?_
      rintro _ G1 ⟨n, rfl, hw, hnl, hg⟩
      have t1 := tg.gw hg
      have hn : 1 ≤ n := by have := tg.lt; omega
      simp_arith only [g2]
      rw [seq_nil]
      refine satT_sat (forR_sat (fun _ s G => (∃ u3, s = [.val (.frz (vInts ns)), .val (.int i), .val (.ref n), u3]) ∧ St n G1 G) ?_ ?_ ⟨⟨_, rfl⟩, St.refl hw⟩)
      · rintro c x s G2 hx ⟨⟨u3, rfl⟩, s2⟩
        refine ⟨_, setT_name .., ?_⟩
        simp_arith only []
        refine R.tot_mono (right_s 219 hΓ s2) ?_
        rintro _ G3 ⟨s3, rfl⟩
        try simp_arith only []
        refine R.tot_mono (refused_s 219 hΓ hn s3 t1) ?_
        rintro _ G4 ⟨s4, rfl⟩
        try simp_arith only []
        exact ⟨⟨_, rfl⟩, s4⟩
      · rintro s G2 ⟨⟨u3, rfl⟩, s2⟩
        exact ⟨⟨_, _, _, rfl⟩, t1.keep s2.2 hn⟩
    · rintro s G _
      simp_arith only []
  obtain ⟨u, G', e, rfl⟩ := R.tot_eq (h _ rfl)
  exact ⟨G', e⟩
end Fx.Law

namespace Fx.Law
open PySem PySem.Spec PyProof.Rows L2
theorem law_ok2 (ns : List Int) (hl : ns.length ≤ 63) : ∃ G', callN (progOf (glOf D T) D) 229 "law" [.frz (ns.map .int)] (heap0 D) = .ok (.bool true) G' := by
  have := law_ok ns hl
  unfold P at this
  rw [show heap0 D = heapL from by kernel_rfl]
  exact this
end Fx.Law
open PySem PySem.W PySem.Calls PyProof.Rows
theorem PySem.Challenge.cw_formstead_k42_words_there_and_back_holds : PySem.Challenge.rw_formstead_k42_words_there_and_back.Holds := by
  w_on; o_law
  refine HandSHeadRun.head_any (r := OpenLaw.row PySem.Challenge.rw_formstead_k42_words_there_and_back) (q := view (OpenLaw.row PySem.Challenge.rw_formstead_k42_words_there_and_back).prog [Fx.Law.lawAt]) (H := Fx.Law.hk) (ob := Fx.Law.ob) (M := 4000) (loose := Fx.Law.loose)
    (d := HandSHeadRun.topDef (OpenLaw.row PySem.Challenge.rw_formstead_k42_words_there_and_back).prog Fx.Law.lawAt) (kwd := []) Fx.Law.ob_eq (by kernel_rfl) (fun s => by kernel_rfl) Fx.Law.runs (by kernel_rfl) (by kernel_rfl) (by kernel_rfl) (by rfl) (by first | assumption | decide +kernel) (by decide +kernel)
    ⟨rfl, rfl, rfl, rfl, rfl, by decide +kernel⟩ ?hw ?hc
  case hw => w_witness2
  case hc =>
    refine Fx.walkX (l := PySem.Challenge.rw_formstead_k42_words_there_and_back) (n := 63) (k := 231) (x := "_law_script") rfl (by decide) (by kernel_rfl) ⟨rfl, by decide, by decide⟩ ?F
    intro w mg fa h Y G hmg0
    obtain ⟨K, KX, c⟩ := Y
    have hmg : mg ("law" : PySem.Str) = some (.ref fa) := by
      have e : (HandSHeadRun.topDef (OpenLaw.row PySem.Challenge.rw_formstead_k42_words_there_and_back).prog Fx.Law.lawAt).name = ("law" : PySem.Str) := by kernel_rfl
      rw [← e]
      exact hmg0
    exact ⟨K, KX, Fx.law_F (k := 229) (dl := Fx.Law.d21) (x := "_law_script") (n := 63) KX G c hmg (by kernel_rfl) Fx.Law.bAll (by kernel_rfl) (by kernel_rfl) Fx.Law.bxAll (by kernel_rfl) (by kernel_rfl) (by kernel_rfl) rfl Fx.Law.law_ok2⟩

